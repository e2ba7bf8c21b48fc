import PyProof.Rows.All
import Wide.All
import OpenK.AllK
import Wide.FinOn
import HandS.ForMost
import HandS.Exc
import HandS.TryOnly
import HandS.ExcOwn
import HandS.WordsExc
import HandS.TupAny
import HandS.TupMul
import HandS.Zip
import HandS.IsInst
import HandS.ExcIs
import HandS.Deep
import HandS.Conv
import HandS.TupLe
import HandS.Wide
import PySem.Challenge.RW_tallysets_k02_is_tally
set_option Elab.async false
set_option linter.all false
set_option maxRecDepth 100000
set_option maxHeartbeats 4000000
set_option autoImplicit false
/-! The data layer: each expression and statement of the text computes, by a plain function over data (PyData), what the heap then bears. -/
namespace TD
open PySem PySem.Spec L2

abbrev D := PyData

/-! ### data at values, over the frozen part F of the heap -/
mutual
inductive Rp (F : Hp) : V → D → Prop
  | non : Rp F .non .none
  | bl (b : Bool) : Rp F (.bl b) (.bool b)
  | int (i : Int) : Rp F (.int i) (.int i)
  | str (x : Str) : Rp F (.str x) (.str x)
  | tup {a : Addr} {xs : List V} {ds : List D} : F a = some (.tup xs) → RpA F xs ds → Rp F (.ref a) (.tuple ds)
  | lst {a : Addr} {xs : List V} {ds : List D} : F a = some (.lst xs) → RpA F xs ds → Rp F (.ref a) (.list ds)
  | dct {a : Addr} : F a = some (.dT []) → Rp F (.ref a) (.dict [])
inductive RpA (F : Hp) : List V → List D → Prop
  | nil : RpA F [] []
  | cons {v : V} {vs : List V} {d : D} {ds : List D} : Rp F v d → RpA F vs ds → RpA F (v :: vs) (d :: ds)
end
mutual
theorem Rp.mono {F F' : Hp} (h : ∀ a o, F a = some o → F' a = some o) : ∀ {d : D} {v : V}, Rp F v d → Rp F' v d
  | _, _, .non => .non
  | _, _, .bl b => .bl b
  | _, _, .int i => .int i
  | _, _, .str x => .str x
  | _, _, .tup e r => .tup (h _ _ e) (RpA.mono h r)
  | _, _, .lst e r => .lst (h _ _ e) (RpA.mono h r)
  | _, _, .dct e => .dct (h _ _ e)
theorem RpA.mono {F F' : Hp} (h : ∀ a o, F a = some o → F' a = some o) : ∀ {ds : List D} {vs : List V}, RpA F vs ds → RpA F' vs ds
  | _, _, .nil => .nil
  | _, _, .cons r t => .cons (Rp.mono h r) (RpA.mono h t)
end
theorem RpA.length {F : Hp} : ∀ {ds : List D} {vs : List V}, RpA F vs ds → vs.length = ds.length
  | _, _, .nil => rfl
  | _, _, .cons _ t => congrArg (· + 1) t.length
theorem RpA.get {F : Hp} : ∀ {ds : List D} {vs : List V} {i : Nat} {d : D}, RpA F vs ds → ds[i]? = some d → ∃ v, vs[i]? = some v ∧ Rp F v d
  | _, _, _, _, .nil, e => by simp at e
  | _, _, 0, _, .cons r _, e => by simp at e; subst e; exact ⟨_, rfl, r⟩
  | _, _, i + 1, d, .cons _ t, e => by
    obtain ⟨v, h1, h2⟩ := RpA.get (i := i) (d := d) t (by simpa using e)
    exact ⟨v, by simpa using h1, h2⟩
theorem RpA.getV {F : Hp} : ∀ {ds : List D} {vs : List V} {i : Nat} {v : V}, RpA F vs ds → vs[i]? = some v → ∃ d, ds[i]? = some d ∧ Rp F v d
  | _, _, _, _, .nil, e => by simp at e
  | _, _, 0, _, .cons r _, e => by simp at e; subst e; exact ⟨_, rfl, r⟩
  | _, _, i + 1, v, .cons _ t, e => by
    obtain ⟨d, h1, h2⟩ := RpA.getV (i := i) (v := v) t (by simpa using e)
    exact ⟨d, by simpa using h1, h2⟩
theorem RpA.append {F : Hp} : ∀ {ds es : List D} {vs ws : List V}, RpA F vs ds → RpA F ws es → RpA F (vs ++ ws) (ds ++ es)
  | _, _, _, _, .nil, s => s
  | _, _, _, _, .cons r t, s => .cons r (RpA.append t s)
theorem RpA.take {F : Hp} : ∀ {ds : List D} {vs : List V} (n : Nat), RpA F vs ds → RpA F (vs.take n) (ds.take n)
  | _, _, 0, _ => .nil
  | _, _, _ + 1, .nil => .nil
  | _, _, n + 1, .cons r t => .cons r (RpA.take n t)
theorem RpA.drop {F : Hp} : ∀ {ds : List D} {vs : List V} (n : Nat), RpA F vs ds → RpA F (vs.drop n) (ds.drop n)
  | _, _, 0, r => r
  | _, _, _ + 1, .nil => .nil
  | _, _, n + 1, .cons _ t => RpA.drop n t
theorem RpA.set {F : Hp} {v : V} {d : D} (r : Rp F v d) : ∀ {ds : List D} {vs : List V} (i : Nat), RpA F vs ds → RpA F (vs.set i v) (ds.set i d)
  | _, _, _, .nil => .nil
  | _, _, 0, .cons _ t => .cons r t
  | _, _, i + 1, .cons q t => .cons q (RpA.set r i t)
theorem RpA.one {F : Hp} {v : V} {d : D} (r : Rp F v d) : RpA F [v] [d] := .cons r .nil
theorem RpA.reverse {F : Hp} : ∀ {ds : List D} {vs : List V}, RpA F vs ds → RpA F vs.reverse ds.reverse
  | _, _, .nil => .nil
  | _, _, .cons r t => by
    rw [List.reverse_cons, List.reverse_cons]
    exact (RpA.reverse t).append (.one r)
theorem Rp.intV {F : Hp} {v : V} {i : Int} : Rp F v (.int i) → v = .int i
  | .int _ => rfl
theorem Rp.blV {F : Hp} {v : V} {b : Bool} : Rp F v (.bool b) → v = .bl b
  | .bl _ => rfl
theorem Rp.strV {F : Hp} {v : V} {b : Str} : Rp F v (.str b) → v = .str b
  | .str _ => rfl
theorem Rp.nonV {F : Hp} {v : V} : Rp F v .none → v = .non
  | .non => rfl

/-! ### what a slot holds, what an expression gives -/
inductive B where
  | d (x : D)
  /-- a list that is read only (the script) -/
  | s (xs : List D)
  /-- a list of one's own, or lent: it may be changed -/
  | l (xs : List D)
  /-- a dict whose keys are tuples -/
  | t (kvs : List (List Key × D))
  /-- nothing is known -/
  | x
abbrev Env := List (Option B)
inductive W where
  | d (x : D)
  | l (xs : List D)
  | t (kvs : List (List Key × D))
  /-- what the slot i holds -/
  | c (i : Nat)
def W.isTmp : W → Bool
  | .l _ => true
  | .t _ => true
  | _ => false
inductive Out (α : Type) where
  | ok (a : α) (ρ : Env)
  | er (c : Str) (ρ : Env)
  | st
abbrev Mx (α : Type) := Env → Out α
def bnd {α β : Type} (m : Mx α) (k : α → Mx β) : Mx β := fun ρ => match m ρ with
  | .ok a ρ' => k a ρ'
  | .er c ρ' => .er c ρ'
  | .st => .st
def B.isCell : B → Bool
  | .l _ => true
  | .t _ => true
  | _ => false
def B.isX : B → Bool
  | .x => true
  | _ => false
/-- what stays in its place where it is a parameter -/
def B.lk : B → Bool
  | .l _ => true
  | .t _ => true
  | .d (.list _) => true
  | _ => false
abbrev KvR (F : Hp) : List (List Key × V) → List (List Key × D) → Prop := Paired fun p q => p.1 = q.1 ∧ Rp F p.2 q.2
def BRep (K : PySem.W.Frag) (F H : Hp) (v : V) : B → Prop
  | .d x => Rp F v x
  | .s xs => ∃ p vs, v = .ref p ∧ SqL K F p vs ∧ RpA F vs xs
  | .l xs => ∃ p vs, v = .ref p ∧ H p = some (.lst vs) ∧ RpA F vs xs
  | .t kvs => ∃ p kws, v = .ref p ∧ H p = some (.dT kws) ∧ KvR F kws kvs
  | .x => True
structure Sx where
  F : Hp
  σ : St
  H : Hp
  ρ : Env
def CellAt (s : Sx) (i : Nat) (a : Addr) : Prop := s.σ[i]? = some (some (.ref a)) ∧ ∃ b, s.ρ[i]? = some (some b) ∧ b.isCell = true
def Cell (s : Sx) (a : Addr) : Prop := ∃ i, CellAt s i a
def Lk (s : Sx) (i : Nat) (a : Addr) : Prop := s.σ[i]? = some (some (.ref a)) ∧ ∃ b, s.ρ[i]? = some (some b) ∧ b.lk = true
structure Rel (K : PySem.W.Frag) (s : Sx) : Prop where
  sub : ∀ a o, s.F a = some o → s.H a = some o
  len : s.σ.length = s.ρ.length
  slotX : ∀ (i : Nat) (b : B), s.ρ[i]? = some (some b) → b.isX = false → ∃ v, s.σ[i]? = some (some v) ∧ BRep K s.F s.H v b
  sep : ∀ i j a, CellAt s i a → CellAt s j a → i = j
  own : ∀ i a, CellAt s i a → s.F a = none
theorem Rel.slot {K : PySem.W.Frag} {s : Sx} (R : Rel K s) (i : Nat) (b : B) (h : s.ρ[i]? = some (some b)) (hx : b.isX = false := by first | rfl | assumption) : ∃ v, s.σ[i]? = some (some v) ∧ BRep K s.F s.H v b := R.slotX i b h hx
structure Step (np : Nat) (s s' : Sx) : Prop where
  keep : ∀ a o, s.H a = some o → ¬ Cell s a → s'.H a = some o
  fz : ∀ a o, s.H a = some o → ¬ Cell s a → s'.F a = s.F a
  there : ∀ a o, s.H a = some o → ∃ o', s'.H a = some o'
  cells : ∀ a, Cell s' a → Cell s a ∨ s.H a = none
  par : ∀ i a, i < np → Lk s i a → Lk s' i a
  stay : ∀ i : Nat, (∃ b : B, s.ρ[i]? = some (some b)) → ∃ b : B, s'.ρ[i]? = some (some b)
  same : ∀ i : Nat, (¬ ∃ b : B, s'.ρ[i]? = some (some b)) → s'.σ[i]? = s.σ[i]?
theorem Step.refl {np : Nat} (s : Sx) : Step np s s :=
  ⟨fun _ _ h _ => h, fun _ _ _ _ => rfl, fun _ o h => ⟨o, h⟩, fun _ h => .inl h, fun _ _ _ h => h, fun _ h => h, fun _ _ => rfl⟩
theorem Step.trans {np : Nat} {s s1 s2 : Sx} (a : Step np s s1) (b : Step np s1 s2) : Step np s s2 where
  keep := fun x o h n => b.keep x o (a.keep x o h n) fun c => (a.cells x c).elim n fun z => by rw [h] at z; cases z
  fz := fun x o h n => (b.fz x o (a.keep x o h n) fun c => (a.cells x c).elim n fun z => by rw [h] at z; cases z).trans (a.fz x o h n)
  there := fun x o h => by
    obtain ⟨o1, h1⟩ := a.there x o h
    exact b.there x o1 h1
  cells := fun x c => by
    rcases b.cells x c with z | z
    · exact a.cells x z
    · refine .inr ?_
      cases q : s.H x with
      | none => rfl
      | some o =>
        obtain ⟨o1, h1⟩ := a.there x o q
        rw [h1] at z; cases z
  par := fun i x hi h => b.par i x hi (a.par i x hi h)
  stay := fun i h => b.stay i (a.stay i h)
  same := fun i h => (b.same i h).trans (a.same i fun z => h (b.stay i z))
theorem Step.none {np : Nat} {s s' : Sx} (a : Step np s s') {p : Addr} (h : s'.H p = none) : s.H p = none := by
  cases q : s.H p with
  | none => rfl
  | some o =>
    obtain ⟨o1, h1⟩ := a.there p o q
    rw [h1] at h; cases h
theorem Rel.nocell {K : PySem.W.Frag} {s : Sx} (R : Rel K s) {a : Addr} {o : HO} (h : s.F a = some o) : ¬ Cell s a := fun ⟨i, c⟩ => by
  rw [R.own i a c] at h; cases h
theorem Step.mono {K : PySem.W.Frag} {np : Nat} {s s' : Sx} (a : Step np s s') (R : Rel K s) : ∀ x o, s.F x = some o → s'.F x = some o := fun x o h =>
  (a.fz x o (R.sub x o h) (R.nocell h)).trans h
theorem Rel.free {K : PySem.W.Frag} {s : Sx} (R : Rel K s) {p : Addr} (h : s.H p = none) : s.F p = none := by
  cases q : s.F p with
  | none => rfl
  | some o =>
    rw [R.sub p o q] at h; cases h
/-- a cell is tracked -/
theorem Rel.cellH {K : PySem.W.Frag} {s : Sx} (R : Rel K s) {i : Nat} {a : Addr} (c : CellAt s i a) : ∃ o, s.H a = some o := by
  obtain ⟨e, b, hb, hc⟩ := c
  have hx : b.isX = false := by cases b <;> first | rfl | cases hc
  obtain ⟨v, hv, r⟩ := R.slot i b hb
  rw [e] at hv
  cases hv
  cases b with
  | d x => cases hc
  | s x => cases hc
  | x => cases hc
  | l xs =>
    obtain ⟨p, vs, e1, h, _⟩ := r
    cases e1
    exact ⟨_, h⟩
  | t kvs =>
    obtain ⟨p, vs, e1, h, _⟩ := r
    cases e1
    exact ⟨_, h⟩
theorem Rel.newNoCell {K : PySem.W.Frag} {s : Sx} (R : Rel K s) {p : Addr} (h : s.H p = none) : ¬ Cell s p := fun ⟨i, c⟩ => by
  obtain ⟨o, e⟩ := R.cellH c
  rw [h] at e; cases e
theorem BRep.keep {K : PySem.W.Frag} {F F' H H' : Hp} {v : V} {b : B} (hF : ∀ a o, F a = some o → F' a = some o) (hH : ∀ a, b.isCell = true → v = .ref a → ∀ o, H a = some o → H' a = some o) (r : BRep K F H v b) : BRep K F' H' v b := by
  cases b with
  | d x => exact Rp.mono hF r
  | s xs =>
    obtain ⟨p, vs, e, h, q⟩ := r
    exact ⟨p, vs, e, Same.seq hF h, q.mono hF⟩
  | l xs =>
    obtain ⟨p, vs, e, h, q⟩ := r
    exact ⟨p, vs, e, hH p rfl e _ h, q.mono hF⟩
  | t kvs =>
    obtain ⟨p, vs, e, h, q⟩ := r
    exact ⟨p, vs, e, hH p rfl e _ h, L2.Paired.mapP q fun _ _ z => ⟨z.1, z.2.mono hF⟩⟩
  | x => trivial
/-- a new object: frozen (F grows) or not -/
theorem Rel.alloc {K : PySem.W.Frag} {np : Nat} {F F' H : Hp} {σ : St} {ρ : Env} {p : Addr} {o : HO} (R : Rel K ⟨F, σ, H, ρ⟩) (h : H p = none) (hF : F' = F ∨ F' = upd F p o) : Rel K ⟨F', σ, upd H p o, ρ⟩ ∧ Step np ⟨F, σ, H, ρ⟩ ⟨F', σ, upd H p o, ρ⟩ := by
  have hFp : F p = none := R.free h
  have up : ∀ a u, H a = some u → upd H p o a = some u := fun a u e => by rw [upd_ne (ne_of_none e h)]; exact e
  have fne : ∀ a, a ≠ p → F' a = F a := fun a ha => by
    rcases hF with rfl | rfl
    · rfl
    · exact upd_ne ha
  have fm : ∀ a u, F a = some u → F' a = some u := fun a u e => by rw [fne a (ne_of_none e hFp)]; exact e
  have nc : ∀ i, ¬ CellAt ⟨F, σ, H, ρ⟩ i p := fun i c => R.newNoCell h ⟨i, c⟩
  refine ⟨⟨fun a u (e : F' a = some u) => ?_, R.len, fun i b hb hx => ?_, R.sep, fun i a c => ?_⟩, ⟨fun a u e _ => up a u e, fun a u e _ => fne a (ne_of_none e h), fun a u e => ⟨u, up a u e⟩, fun a c => .inl c, fun _ _ _ l => l, fun _ h => h, fun _ _ => rfl⟩⟩
  · by_cases ha : a = p
    · subst ha
      rcases hF with rfl | rfl
      · rw [hFp] at e; cases e
      · show upd H a o a = some u
        rw [upd_same] at e ⊢
        exact e
    · rw [fne a ha] at e
      exact up a u (R.sub a u e)
  · obtain ⟨v, hv, r⟩ := R.slot i b hb
    exact ⟨v, hv, r.keep fm fun a _ _ u e => up a u e⟩
  · have ha : a ≠ p := fun z => nc i (by rw [← z]; exact c)
    show F' a = none
    rw [fne a ha]
    exact R.own i a c

/-! ### readings -/
structure Cn where
  K : PySem.W.Frag
  np : Nat
  mg : Str → Option Value
def VRep (K : PySem.W.Frag) (H0 : Hp) (s : Sx) (v : V) : W → Prop
  | .d x => Rp s.F v x
  | .l xs => ∃ p vs, v = .ref p ∧ s.H p = some (.lst vs) ∧ RpA s.F vs xs ∧ s.F p = none ∧ H0 p = none ∧ ¬ Cell s p
  | .t kvs => ∃ p kws, v = .ref p ∧ s.H p = some (.dT kws) ∧ KvR s.F kws kvs ∧ s.F p = none ∧ H0 p = none ∧ ¬ Cell s p
  | .c i => s.σ[i]? = some (some v)
theorem VRep.old {K : PySem.W.Frag} {H0 H1 : Hp} {s : Sx} {v : V} {w : W} (h : ∀ p, H1 p = none → H0 p = none) (r : VRep K H1 s v w) : VRep K H0 s v w := by
  cases w with
  | d x => exact r
  | l xs =>
    obtain ⟨p, vs, e, h1, h2, h3, h4, h5⟩ := r
    exact ⟨p, vs, e, h1, h2, h3, h p h4, h5⟩
  | t xs =>
    obtain ⟨p, vs, e, h1, h2, h3, h4, h5⟩ := r
    exact ⟨p, vs, e, h1, h2, h3, h p h4, h5⟩
  | c i => exact r
/-- a value held while another expression is evaluated -/
theorem VRep.held {K : PySem.W.Frag} {H0 : Hp} {np : Nat} {s s' : Sx} {v : V} {w : W} (R : Rel K s) (S : Step np s s') (hσ : s'.σ = s.σ) (r : VRep K H0 s v w) : VRep K H0 s' v w := by
  cases w with
  | d x => exact Rp.mono (S.mono R) r
  | l xs =>
    obtain ⟨p, vs, e, h1, h2, h3, h4, h5⟩ := r
    exact ⟨p, vs, e, S.keep p _ h1 h5, h2.mono (S.mono R), (S.fz p _ h1 h5).trans h3, h4, fun c => (S.cells p c).elim h5 fun z => by rw [h1] at z; cases z⟩
  | t xs =>
    obtain ⟨p, vs, e, h1, h2, h3, h4, h5⟩ := r
    exact ⟨p, vs, e, S.keep p _ h1 h5, L2.Paired.mapP h2 fun _ _ z => ⟨z.1, z.2.mono (S.mono R)⟩, (S.fz p _ h1 h5).trans h3, h4, fun c => (S.cells p c).elim h5 fun z => by rw [h1] at z; cases z⟩
  | c i =>
    show s'.σ[i]? = some (some v)
    rw [hσ]
    exact r

/-- the wish about exceptions: by the class's name -/
abbrev WxT := WX
/-- what is wanted of an expression's outcome, from the state s -/
def Post (Γ : Cn) (Wx : WX) (s : Sx) (o : Out W) (Q : VK) : Prop :=
  match o with
  | .ok w ρ' => ∀ v F' H', Rel Γ.K ⟨F', s.σ, H', ρ'⟩ → Step Γ.np s ⟨F', s.σ, H', ρ'⟩ → VRep Γ.K s.H ⟨F', s.σ, H', ρ'⟩ v w → Q v H'
  | .er c ρ' => ∀ F' H' C, Γ.mg c = some (.ref C) → Rel Γ.K ⟨F', s.σ, H', ρ'⟩ → Step Γ.np s ⟨F', s.σ, H', ρ'⟩ → Wx (.ref C) none s.σ H'
  | .st => False
theorem Post.step {Γ : Cn} {Wx : WX} {s s1 : Sx} {o : Out W} {Q : VK} (S : Step Γ.np s s1) (hσ : s1.σ = s.σ) (h : Post Γ Wx s o Q) : Post Γ Wx s1 o Q := by
  obtain ⟨F, σ, H, ρ⟩ := s
  obtain ⟨F1, σ1, H1, ρ1⟩ := s1
  cases hσ
  cases o with
  | ok w ρ' => exact fun v F' H' R S' r => h v F' H' R (S.trans S') (r.old fun p hp => S.none hp)
  | er c ρ' => exact fun F' H' C hC R S' => h F' H' C hC R (S.trans S')
  | st => exact h.elim
def tE (Γ : Cn) (Wx : WX) (f : Mx W) : TE := fun σ H Q => ∃ F ρ, Rel Γ.K ⟨F, σ, H, ρ⟩ ∧ Post Γ Wx ⟨F, σ, H, ρ⟩ (f ρ) Q
abbrev DE (X : Cx) (Γ : Cn) (Wx : WX) (e : Expr) (f : Mx W) : Prop := PE X e (tE Γ Wx f)
theorem PE.imp {X : Cx} {e : Expr} {t t' : TE} (h : PE X e t) (i : ∀ σ H Q, t' σ H Q → t σ H Q) : PE X e t' := ⟨fun pins s σ H Q I q => h.run pins s σ H Q I (i σ H Q q)⟩
theorem PT.imp {X : Cx} {e : Expr} {t t' : TT} (h : PT X e t) (i : ∀ σ H Q, t' σ H Q → t σ H Q) : PT X e t' := ⟨fun pins s σ H Q I q => h.run pins s σ H Q I (i σ H Q q)⟩
theorem PS.imp {X : Cx} {e : Stmt} {t t' : TS} (h : PS X e t) (i : ∀ D σ H, t' D σ H → t D σ H) : PS X e t' := ⟨fun pins s σ H D I q => h.run pins s σ H D I (i D σ H q)⟩
theorem PSs.imp {X : Cx} {e : List Stmt} {t t' : TS} (h : PSs X e t) (i : ∀ D σ H, t' D σ H → t D σ H) : PSs X e t' := ⟨fun pins s σ H D I q => h.run pins s σ H D I (i D σ H q)⟩
theorem PA.imp {X : Cx} {e : List Expr} {t t' : TA} (h : PA X e t) (i : ∀ σ H Q, t' σ H Q → t σ H Q) : PA X e t' := ⟨fun pos pins s σ H Q I q => h.run pos pins s σ H Q I (i σ H Q q)⟩

/-- what a value is worth as data: of a cell of one's own its items as a list -/
def W.toD (ρ : Env) : W → Option D
  | .d x => some x
  | .l xs => some (.list xs)
  | .t _ => none
  | .c i => match ρ[i]? with
    | some (some (.d x)) => some x
    | some (some (.s xs)) => some (.list xs)
    | some (some (.l xs)) => some (.list xs)
    | _ => none
/-- data alone -/
def W.asD (ρ : Env) : W → Option D
  | .d x => some x
  | .c i => match ρ[i]? with
    | some (some (.d x)) => some x
    | _ => none
  | _ => none
theorem VRep.data {K : PySem.W.Frag} {H0 : Hp} {s : Sx} {v : V} {w : W} {x : D} (R : Rel K s) (r : VRep K H0 s v w) (e : w.asD s.ρ = some x) : Rp s.F v x := by
  cases w with
  | d y => cases e; exact r
  | l _ => cases e
  | t _ => cases e
  | c i =>
    simp only [W.asD] at e
    cases hb : s.ρ[i]? with
    | none => rw [hb] at e; cases e
    | some o =>
      cases o with
      | none => rw [hb] at e; cases e
      | some b =>
        cases b with
        | d y =>
          rw [hb] at e
          cases e
          obtain ⟨v', hv, q⟩ := R.slot i _ hb
          have r' : s.σ[i]? = some (some v) := r
          rw [hv] at r'
          cases r'
          exact q
        | s _ => rw [hb] at e; cases e
        | l _ => rw [hb] at e; cases e
        | t _ => rw [hb] at e; cases e
        | x => rw [hb] at e; cases e
/-! ### the end of a pure operation -/
theorem Post.val {Γ : Cn} {Wx : WX} {s : Sx} {Q : VK} {x : D} {v : V} (R : Rel Γ.K s) (h : Post Γ Wx s (.ok (.d x) s.ρ) Q) (r : Rp s.F v x) : Q v s.H := h v s.F s.H R (Step.refl _) r
theorem Post.tup {Γ : Cn} {Wx : WX} {s : Sx} {Q : VK} {ds : List D} {vs : List V} (R : Rel Γ.K s) (h : Post Γ Wx s (.ok (.d (.tuple ds)) s.ρ) Q) (r : RpA s.F vs ds) {p : Addr} (hp : s.H p = none) : Q (.ref p) (upd s.H p (.tup vs)) := by
  obtain ⟨R', S'⟩ := R.alloc (np := Γ.np) (p := p) (o := .tup vs) (F' := upd s.F p (.tup vs)) hp (.inr rfl)
  exact h (.ref p) _ _ R' S' (.tup upd_same (r.mono (S'.mono R)))
theorem Post.lst {Γ : Cn} {Wx : WX} {s : Sx} {Q : VK} {ds : List D} {vs : List V} (R : Rel Γ.K s) (h : Post Γ Wx s (.ok (.l ds) s.ρ) Q) (r : RpA s.F vs ds) {p : Addr} (hp : s.H p = none) : Q (.ref p) (upd s.H p (.lst vs)) := by
  obtain ⟨R', S'⟩ := R.alloc (np := Γ.np) (p := p) (o := .lst vs) (F' := s.F) hp (.inl rfl)
  exact h (.ref p) _ _ R' S' ⟨p, vs, rfl, upd_same, r, R.free hp, hp, R.newNoCell hp⟩

/-! ### names and constants -/
def mVar (i : Nat) : Mx W := fun ρ => match ρ[i]? with
  | some (some (.d x)) => .ok (.d x) ρ
  | some (some (.s _)) => .ok (.c i) ρ
  | some (some (.l _)) => .ok (.c i) ρ
  | some (some (.t _)) => .ok (.c i) ρ
  | _ => .st
def mC (x : D) : Mx W := fun ρ => .ok (.d x) ρ
section
variable {X : Cx} {Γ : Cn} {Wx : WX} {a b c : Expr} {f g f1 f2 : Mx W} {pos : Pos}
theorem de_var (i : Nat) {x : Str} (hN : X.N[i]? = some x := by rfl) (hv : Vis X.env.scope x := by first | exact Or.inl rfl | exact Or.inr (Or.inl rfl) | exact Or.inr (Or.inr rfl)) (hd : (x == ("__debug__" : Str)) = false := by decide) (hcd : (x == ("__classdict__" : Str)) = false := by decide) : DE X Γ Wx (.Name x pos) (mVar i) := by
  refine PE.imp (pe_var hN hv hd hcd) fun σ H Q ⟨F, ρ, R, h⟩ => ?_
  unfold mVar at h
  cases hb : ρ[i]? with
  | none => rw [hb] at h; exact h.elim
  | some o =>
    cases o with
    | none => rw [hb] at h; exact h.elim
    | some b =>
      rw [hb] at h
      cases b with
      | d x =>
        obtain ⟨v, hv, q⟩ := R.slot i _ hb
        exact ⟨v, hv, h v F H R (Step.refl _) q⟩
      | s x =>
        obtain ⟨v, hv, q⟩ := R.slot i _ hb
        exact ⟨v, hv, h v F H R (Step.refl _) hv⟩
      | l x =>
        obtain ⟨v, hv, q⟩ := R.slot i _ hb
        exact ⟨v, hv, h v F H R (Step.refl _) hv⟩
      | t x =>
        obtain ⟨v, hv, q⟩ := R.slot i _ hb
        exact ⟨v, hv, h v F H R (Step.refl _) hv⟩
      | x => exact h.elim
theorem de_int {i j} : DE X Γ Wx (.Constant (.int i) j pos) (mC (.int i)) := PE.imp pe_int fun σ H Q ⟨_, _, R, h⟩ => h.val R (.int i)
theorem de_bl {b j} : DE X Γ Wx (.Constant (.bool b) j pos) (mC (.bool b)) := PE.imp pe_bl fun σ H Q ⟨_, _, R, h⟩ => h.val R (.bl b)
theorem de_non {j} : DE X Γ Wx (.Constant .none j pos) (mC .none) := PE.imp pe_non fun σ H Q ⟨_, _, R, h⟩ => h.val R .non
theorem de_str {x j} : DE X Γ Wx (.Constant (.str x) j pos) (mC (.str x)) := PE.imp pe_str fun σ H Q ⟨_, _, R, h⟩ => h.val R (.str x)

/-! ### two operands -/
def m2 (g : W → W → Env → Out W) (f1 f2 : Mx W) : Mx W := bnd f1 fun w1 => bnd f2 fun w2 => g w1 w2
def m1 (g : W → Env → Out W) (f1 : Mx W) : Mx W := bnd f1 fun w1 => g w1
/-- the operation g, done by r -/
def Ok2 (Γ : Cn) (Wx : WX) (r : R2) (g : W → W → Env → Out W) : Prop :=
  ∀ (s : Sx) (v1 v2 : V) (w1 w2 : W) (H1 H2 : Hp) (Q : VK), Rel Γ.K s → VRep Γ.K H1 s v1 w1 → VRep Γ.K H2 s v2 w2 → Post Γ Wx s (g w1 w2 s.ρ) Q → r v1 v2 s.H Q
def Ok1 (Γ : Cn) (Wx : WX) (r : V → Hp → VK → Prop) (g : W → Env → Out W) : Prop :=
  ∀ (s : Sx) (v1 : V) (w1 : W) (H1 : Hp) (Q : VK), Rel Γ.K s → VRep Γ.K H1 s v1 w1 → Post Γ Wx s (g w1 s.ρ) Q → r v1 s.H Q
theorem post_bnd {s : Sx} {Q : VK} {k : W → Mx W} {K : V → Hp → Prop} (h : Post Γ Wx s (bnd f k s.ρ) Q)
    (hk : ∀ v w F1 H1 ρ1, Rel Γ.K ⟨F1, s.σ, H1, ρ1⟩ → Step Γ.np s ⟨F1, s.σ, H1, ρ1⟩ → VRep Γ.K s.H ⟨F1, s.σ, H1, ρ1⟩ v w → Post Γ Wx ⟨F1, s.σ, H1, ρ1⟩ (k w ρ1) Q → K v H1) : Post Γ Wx s (f s.ρ) K := by
  unfold bnd at h
  cases e : f s.ρ with
  | ok w ρ1 =>
    rw [e] at h
    exact fun v F1 H1 R1 S1 r => hk v w F1 H1 ρ1 R1 S1 r (Post.step (s1 := ⟨F1, s.σ, H1, ρ1⟩) S1 rfl h)
  | er c ρ1 => rw [e] at h; exact h
  | st => rw [e] at h; exact h
theorem tOp_of {r : R2} {g : W → W → Env → Out W} (hg : Ok2 Γ Wx r g) : ∀ σ H Q, tE Γ Wx (m2 g f1 f2) σ H Q → tOp r (tE Γ Wx f1) (tE Γ Wx f2) σ H Q := fun σ H Q ⟨F, ρ, R, h⟩ =>
  ⟨F, ρ, R, post_bnd (s := ⟨F, σ, H, ρ⟩) h fun v w F1 H1 ρ1 R1 S1 r1 h1 => ⟨F1, ρ1, R1, post_bnd (s := ⟨F1, σ, H1, ρ1⟩) (f := f2) (k := fun w2 => g w w2) h1 fun v2 w2 F2 H2 ρ2 R2 S2 r2 h2 =>
    hg ⟨F2, σ, H2, ρ2⟩ v v2 w w2 _ _ Q R2 (r1.held R1 S2 rfl) r2 h2⟩⟩
theorem tUn_of {r : V → Hp → VK → Prop} {g : W → Env → Out W} (hg : Ok1 Γ Wx r g) : ∀ σ H Q, tE Γ Wx (m1 g f1) σ H Q → tUn r (tE Γ Wx f1) σ H Q := fun σ H Q ⟨F, ρ, R, h⟩ =>
  ⟨F, ρ, R, post_bnd (s := ⟨F, σ, H, ρ⟩) h fun v w F1 H1 ρ1 R1 S1 r1 h1 => hg ⟨F1, σ, H1, ρ1⟩ v w _ Q R1 r1 h1⟩
/-- data in, data out -/
def p2 (g : D → D → Option D) : W → W → Env → Out W := fun w1 w2 ρ => match w1.asD ρ, w2.asD ρ with
  | some x, some y => match g x y with
    | some z => .ok (.d z) ρ
    | none => .st
  | _, _ => .st
theorem p2_inv {s : Sx} {Q : VK} {g : D → D → Option D} {v1 v2 : V} {w1 w2 : W} {H1 H2 : Hp} (R : Rel Γ.K s) (r1 : VRep Γ.K H1 s v1 w1) (r2 : VRep Γ.K H2 s v2 w2) (h : Post Γ Wx s (p2 g w1 w2 s.ρ) Q) :
    ∃ x y z, Rp s.F v1 x ∧ Rp s.F v2 y ∧ g x y = some z ∧ Post Γ Wx s (.ok (.d z) s.ρ) Q := by
  unfold p2 at h
  cases e1 : w1.asD s.ρ with
  | none => rw [e1] at h; exact h.elim
  | some x =>
    cases e2 : w2.asD s.ρ with
    | none => rw [e1, e2] at h; exact h.elim
    | some y =>
      rw [e1, e2] at h
      cases e3 : g x y with
      | none => simp only [e3] at h; exact h.elim
      | some z => simp only [e3] at h; exact ⟨x, y, z, r1.data R e1, r2.data R e2, e3, h⟩
def gI (C : Int → Int → Bool) (f : Int → Int → Int) : D → D → Option D
  | .int i, .int j => if C i j = true then some (.int (f i j)) else none
  | _, _ => none
theorem gI_inv {C : Int → Int → Bool} {f : Int → Int → Int} {x y z : D} (h : gI C f x y = some z) : ∃ i j, x = .int i ∧ y = .int j ∧ C i j = true ∧ z = .int (f i j) := by
  unfold gI at h
  split at h
  · rename_i i j
    split at h
    · rename_i hc
      cases h
      exact ⟨i, j, rfl, rfl, hc, rfl⟩
    · cases h
  · cases h
theorem ok2_I {C : Int → Int → Bool} {C' : Int → Int → Prop} {f : Int → Int → Int} (hC : ∀ i j, C i j = true → C' i j) : Ok2 Γ Wx (rI C' fun i j => .int (f i j)) (p2 (gI C f)) := fun s v1 v2 w1 w2 H1 H2 Q R r1 r2 h => by
  obtain ⟨x, y, z, q1, q2, hg, h⟩ := p2_inv R r1 r2 h
  obtain ⟨i, j, rfl, rfl, hc, rfl⟩ := gI_inv hg
  exact ⟨i, j, q1.intV, q2.intV, hC i j hc, h.val R (.int _)⟩
end
/-! ### a value becomes data: a list is frozen -/
def W.datum (ρ : Env) : W → Option (D × Env)
  | .d x => some (x, ρ)
  | .l xs => some (.list xs, ρ)
  | .t [] => some (.dict [], ρ)
  | .t (_ :: _) => none
  | .c i => match ρ[i]? with
    | some (some (.d x)) => some (x, ρ)
    | some (some (.l xs)) => some (.list xs, ρ.set i (some (.d (.list xs))))
    | _ => none
/-- frozen: the object at p, which is fresh or a cell, is put into F -/
theorem Rel.freeze {K : PySem.W.Frag} {np : Nat} {s0 s : Sx} {p : Addr} {o : HO} (R : Rel K s) (S : Step np s0 s) (e : s.H p = some o) (hF : s.F p = none) (ho : s0.H p = none) (nc : ¬ Cell s p) :
    Rel K ⟨upd s.F p o, s.σ, s.H, s.ρ⟩ ∧ Step np s0 ⟨upd s.F p o, s.σ, s.H, s.ρ⟩ ∧ (∀ a u, s.F a = some u → upd s.F p o a = some u) := by
  have fm : ∀ a u, s.F a = some u → upd s.F p o a = some u := fun a u e1 => by rw [upd_ne (ne_of_none e1 hF)]; exact e1
  refine ⟨⟨fun a u (h : upd s.F p o a = some u) => ?_, R.len, fun i b hb hx => ?_, R.sep, fun i a c => ?_⟩, ⟨S.keep, fun a u h n => ?_, S.there, S.cells, S.par, S.stay, S.same⟩, fm⟩
  · by_cases ha : a = p
    · subst ha
      rw [upd_same] at h
      rw [← h]
      exact e
    · rw [upd_ne ha] at h
      exact R.sub a u h
  · obtain ⟨v, hv, r⟩ := R.slot i b hb
    exact ⟨v, hv, r.keep fm fun _ _ _ _ z => z⟩
  · show upd s.F p o a = none
    rw [upd_ne (fun z => nc ⟨i, by rw [← z]; exact c⟩)]
    exact R.own i a c
  · show upd s.F p o a = s0.F a
    rw [upd_ne (ne_of_none h ho)]
    exact S.fz a u h n
theorem getElem?_set_cases {α : Type} {l : List α} {i j : Nat} {x y : α} (h : (l.set i x)[j]? = some y) : (j = i ∧ y = x) ∨ (j ≠ i ∧ l[j]? = some y) := by
  by_cases hj : j = i
  · subst hj
    by_cases hl : j < l.length
    · rw [List.getElem?_set_self hl] at h
      exact .inl ⟨rfl, (Option.some.inj h).symm⟩
    · rw [List.getElem?_eq_none (by simpa using hl)] at h
      cases h
  · rw [List.getElem?_set_ne (Ne.symm hj)] at h
    exact .inr ⟨hj, h⟩
theorem set_stay {ρ : Env} {i j : Nat} {b : B} (h : ∃ c : B, ρ[j]? = some (some c)) : ∃ c : B, (ρ.set i (some b))[j]? = some (some c) := by
  obtain ⟨c, h⟩ := h
  by_cases hj : j = i
  · subst hj
    exact ⟨b, List.getElem?_set_self (List.getElem?_eq_some_iff.mp h).1⟩
  · exact ⟨c, by rw [List.getElem?_set_ne (Ne.symm hj)]; exact h⟩
/-- the cell in slot i is frozen -/
theorem Rel.freezeAt {K : PySem.W.Frag} {np : Nat} {s0 s : Sx} {i : Nat} {xs : List D} {v : V} (R : Rel K s) (S : Step np s0 s) (hb : s.ρ[i]? = some (some (.l xs))) (hv : s.σ[i]? = some (some v)) :
    ∃ F', Rel K ⟨F', s.σ, s.H, s.ρ.set i (some (.d (.list xs)))⟩ ∧ Step np s0 ⟨F', s.σ, s.H, s.ρ.set i (some (.d (.list xs)))⟩ ∧ Rp F' v (.list xs) ∧ (∀ a u, s.F a = some u → F' a = some u) ∧
      (∀ a, ¬ Cell s a → F' a = s.F a) ∧ ∀ a, Cell ⟨F', s.σ, s.H, s.ρ.set i (some (.d (.list xs)))⟩ a → Cell s a := by
  obtain ⟨v', hv', p, vs, e1, e, q⟩ := R.slot i _ hb
  rw [hv] at hv'
  cases hv'
  subst e1
  have hc : CellAt s i p := ⟨hv, _, hb, rfl⟩
  have hF := R.own i p hc
  have fm : ∀ a u, s.F a = some u → upd s.F p (.lst vs) a = some u := fun a u e1 => by rw [upd_ne (ne_of_none e1 hF)]; exact e1
  have cold : ∀ j a, CellAt ⟨upd s.F p (.lst vs), s.σ, s.H, s.ρ.set i (some (.d (.list xs)))⟩ j a → CellAt s j a ∧ a ≠ p := fun j a ⟨h1, b, h2, h3⟩ => by
    rcases getElem?_set_cases h2 with ⟨_, h4⟩ | ⟨hj, h4⟩
    · cases h4; cases h3
    · exact ⟨⟨h1, b, h4, h3⟩, fun z => hj (R.sep j i p (by rw [← z]; exact ⟨h1, b, h4, h3⟩) hc)⟩
  refine ⟨upd s.F p (.lst vs), ⟨fun a u (h : upd s.F p (.lst vs) a = some u) => ?_, by simpa using R.len, fun j b hb' hx => ?_, fun j k a c1 c2 => R.sep j k a (cold j a c1).1 (cold k a c2).1, fun j a c => ?_⟩, ⟨S.keep, fun a u h n => ?_, S.there, fun a ⟨j, c⟩ => S.cells a ⟨j, (cold j a c).1⟩, fun j a hj l => ?_, fun j h => set_stay (S.stay j h), fun j h => S.same j fun z => h (set_stay z)⟩, .lst upd_same (q.mono fm), fm, fun a n => upd_ne fun z => n ⟨i, by rw [z]; exact hc⟩, fun a ⟨j, c⟩ => ⟨j, (cold j a c).1⟩⟩
  · by_cases ha : a = p
    · subst ha
      rw [upd_same] at h
      rw [← h]
      exact e
    · rw [upd_ne ha] at h
      exact R.sub a u h
  · rcases getElem?_set_cases hb' with ⟨hj, h4⟩ | ⟨hj, h4⟩
    · cases h4
      subst hj
      exact ⟨_, hv, .lst upd_same (q.mono fm)⟩
    · obtain ⟨v', hv', r⟩ := R.slot j b h4
      exact ⟨v', hv', r.keep fm fun _ _ _ _ z => z⟩
  · show upd s.F p (.lst vs) a = none
    rw [upd_ne (cold j a c).2]
    exact R.own j a (cold j a c).1
  · show upd s.F p (.lst vs) a = s0.F a
    have hne : a ≠ p := fun z => by
      subst z
      rcases S.cells a ⟨i, hc⟩ with z | z
      · exact n z
      · rw [h] at z; cases z
    rw [upd_ne hne]
    exact S.fz a u h n
  · obtain ⟨h1, b, h2, h3⟩ := S.par j a hj l
    by_cases hji : j = i
    · subst hji
      refine ⟨h1, _, List.getElem?_set_self ?_, rfl⟩
      exact (List.getElem?_eq_some_iff.mp h2).1
    · exact ⟨h1, b, by rw [show (Sx.ρ ⟨upd s.F p (.lst vs), s.σ, s.H, s.ρ.set i (some (.d (.list xs)))⟩) = s.ρ.set i (some (.d (.list xs))) from rfl, List.getElem?_set_ne (Ne.symm hji)]; exact h2, h3⟩
theorem datum_ok {K : PySem.W.Frag} {np : Nat} {s0 s : Sx} {v : V} {w : W} {x : D} {ρ' : Env} (R : Rel K s) (S : Step np s0 s) (r : VRep K s0.H s v w) (h : w.datum s.ρ = some (x, ρ')) :
    ∃ F', Rel K ⟨F', s.σ, s.H, ρ'⟩ ∧ Step np s0 ⟨F', s.σ, s.H, ρ'⟩ ∧ Rp F' v x ∧ (∀ a u, s.F a = some u → F' a = some u) ∧
      (∀ a, ¬ Cell s a → (w.isTmp = true → v ≠ .ref a) → F' a = s.F a) ∧ ∀ a, Cell ⟨F', s.σ, s.H, ρ'⟩ a → Cell s a := by
  cases w with
  | d y => cases h; exact ⟨s.F, R, S, r, fun _ _ z => z, fun _ _ _ => rfl, fun _ z => z⟩
  | l xs =>
    cases h
    obtain ⟨p, vs, rfl, e, q, hF, ho, nc⟩ := r
    obtain ⟨R', S', fm⟩ := R.freeze S e hF ho nc
    exact ⟨_, R', S', .lst upd_same (q.mono fm), fm, fun a _ n => upd_ne fun z => n rfl (by rw [z]), fun _ z => z⟩
  | t kvs =>
    cases kvs with
    | cons _ _ => cases h
    | nil =>
      cases h
      obtain ⟨p, vs, rfl, e, q, hF, ho, nc⟩ := r
      cases q
      obtain ⟨R', S', fm⟩ := R.freeze S e hF ho nc
      exact ⟨_, R', S', .dct upd_same, fm, fun a _ n => upd_ne fun z => n rfl (by rw [z]), fun _ z => z⟩
  | c i =>
    simp only [W.datum] at h
    have r' : s.σ[i]? = some (some v) := r
    cases hb : s.ρ[i]? with
    | none => rw [hb] at h; cases h
    | some o =>
      cases o with
      | none => rw [hb] at h; cases h
      | some b =>
        rw [hb] at h
        cases b with
        | d y =>
          cases h
          obtain ⟨v', hv, q⟩ := R.slot i _ hb
          rw [r'] at hv
          cases hv
          exact ⟨s.F, R, S, q, fun _ _ z => z, fun _ _ _ => rfl, fun _ z => z⟩
        | s _ => cases h
        | l xs =>
          cases h
          obtain ⟨F', h1, h2, h3, h4, h5, h6⟩ := R.freezeAt S hb r'
          exact ⟨F', h1, h2, h3, h4, fun a n _ => h5 a n, h6⟩
        | t _ => cases h
        | x => cases h
/-! ### a value is stored in slot i -/
def okAt (np : Nat) (ρ : Env) (i : Nat) : Bool := decide (i < ρ.length) && (decide (np ≤ i) || match ρ[i]? with
  | some (some b) => !b.lk
  | _ => true)
def put (np i : Nat) (b : B) (ρ : Env) : Option Env := if okAt np ρ i = true then some (ρ.set i (some b)) else none
def store (np i : Nat) (ρ : Env) : W → Option Env
  | .d x => put np i (.d x) ρ
  | .l xs => put np i (.l xs) ρ
  | .t kvs => put np i (.t kvs) ρ
  | .c j => match ρ[j]? with
    | some (some (.d x)) => put np i (.d x) ρ
    | some (some (.s xs)) => put np i (.s xs) ρ
    | some (some (.l xs)) => put np i (.d (.list xs)) (ρ.set j (some (.d (.list xs))))
    | _ => none
theorem put_ok {K : PySem.W.Frag} {np : Nat} {s0 s : Sx} {i : Nat} {b : B} {v : V} {ρ' : Env} (R : Rel K s) (S : Step np s0 s) (h : put np i b s.ρ = some ρ') (r : BRep K s.F s.H v b)
    (hc : b.isCell = true → ∀ p, v = .ref p → s.F p = none ∧ s0.H p = none ∧ ¬ Cell s p) : Rel K ⟨s.F, s.σ.set i (some v), s.H, ρ'⟩ ∧ Step np s0 ⟨s.F, s.σ.set i (some v), s.H, ρ'⟩ := by
  unfold put at h
  split at h
  · rename_i hok
    cases h
    unfold okAt at hok
    rw [Bool.and_eq_true] at hok
    obtain ⟨hi, hlk⟩ := hok
    have hi : i < s.ρ.length := of_decide_eq_true hi
    have hiσ : i < s.σ.length := by rw [R.len]; exact hi
    have cc : ∀ j a, CellAt ⟨s.F, s.σ.set i (some v), s.H, s.ρ.set i (some b)⟩ j a → (j = i ∧ v = .ref a ∧ b.isCell = true) ∨ (j ≠ i ∧ CellAt s j a) := fun j a ⟨h1, b', h2, h3⟩ => by
      rcases getElem?_set_cases h2 with ⟨hj, h4⟩ | ⟨hj, h4⟩
      · cases h4
        subst hj
        have h1' : (s.σ.set j (some v))[j]? = some (some (.ref a)) := h1
        rw [List.getElem?_set_self hiσ] at h1'
        cases h1'
        exact .inl ⟨rfl, rfl, h3⟩
      · have h1' : (s.σ.set i (some v))[j]? = some (some (.ref a)) := h1
        rw [List.getElem?_set_ne (Ne.symm hj)] at h1'
        exact .inr ⟨hj, h1', b', h4, h3⟩
    refine ⟨⟨R.sub, by simp [R.len], fun j b' hb' hx => ?_, fun j k a c1 c2 => ?_, fun j a c => ?_⟩, ⟨S.keep, S.fz, S.there, fun a ⟨j, c⟩ => ?_, fun j a hj l => ?_, fun j h => set_stay (S.stay j h), fun j h => ?_⟩⟩
    · rcases getElem?_set_cases hb' with ⟨hj, h4⟩ | ⟨hj, h4⟩
      · cases h4
        subst hj
        exact ⟨v, List.getElem?_set_self hiσ, r⟩
      · obtain ⟨v', hv', r'⟩ := R.slot j b' h4
        exact ⟨v', by show (s.σ.set i (some v))[j]? = _; rw [List.getElem?_set_ne (Ne.symm hj)]; exact hv', r'⟩
    · rcases cc j a c1 with ⟨h1, h2, h3⟩ | ⟨h1, h2⟩ <;> rcases cc k a c2 with ⟨g1, g2, g3⟩ | ⟨g1, g2⟩
      · rw [h1, g1]
      · exact absurd ⟨k, g2⟩ (hc h3 a h2).2.2
      · exact absurd ⟨j, h2⟩ (hc g3 a g2).2.2
      · exact R.sep j k a h2 g2
    · rcases cc j a c with ⟨h1, h2, h3⟩ | ⟨h1, h2⟩
      · exact (hc h3 a h2).1
      · exact R.own j a h2
    · rcases cc j a c with ⟨h1, h2, h3⟩ | ⟨h1, h2⟩
      · exact .inr (hc h3 a h2).2.1
      · exact S.cells a ⟨j, h2⟩
    · obtain ⟨h1, b', h2, h3⟩ := S.par j a hj l
      have hji : j ≠ i := fun z => by
        subst z
        rw [h2] at hlk
        have hlk' : (decide (np ≤ j) || !b'.lk) = true := hlk
        rw [h3, decide_eq_false (Nat.not_le_of_lt hj)] at hlk'
        exact absurd hlk' (by decide)
      exact ⟨by show (s.σ.set i (some v))[j]? = _; rw [List.getElem?_set_ne (Ne.symm hji)]; exact h1, b', by show (s.ρ.set i (some b))[j]? = _; rw [List.getElem?_set_ne (Ne.symm hji)]; exact h2, h3⟩
    · have hji : j ≠ i := fun z => by
        subst z
        exact h ⟨b, List.getElem?_set_self hi⟩
      show (s.σ.set i (some v))[j]? = _
      rw [List.getElem?_set_ne (Ne.symm hji)]
      exact S.same j fun z => h (set_stay z)
  · cases h
theorem store_ok {K : PySem.W.Frag} {np : Nat} {s0 s : Sx} {i : Nat} {w : W} {v : V} {ρ' : Env} (R : Rel K s) (S : Step np s0 s) (r : VRep K s0.H s v w) (h : store np i s.ρ w = some ρ') : ∃ F', Rel K ⟨F', s.σ.set i (some v), s.H, ρ'⟩ ∧ Step np s0 ⟨F', s.σ.set i (some v), s.H, ρ'⟩ := by
  cases w with
  | d x => exact ⟨s.F, put_ok R S h r fun z => by cases z⟩
  | l xs =>
    obtain ⟨p, vs, rfl, e, q, hF, ho, nc⟩ := r
    exact ⟨s.F, put_ok R S h ⟨p, vs, rfl, e, q⟩ fun _ p' z => by cases z; exact ⟨hF, ho, nc⟩⟩
  | t xs =>
    obtain ⟨p, vs, rfl, e, q, hF, ho, nc⟩ := r
    exact ⟨s.F, put_ok R S h ⟨p, vs, rfl, e, q⟩ fun _ p' z => by cases z; exact ⟨hF, ho, nc⟩⟩
  | c j =>
    have r' : s.σ[j]? = some (some v) := r
    simp only [store] at h
    cases hb : s.ρ[j]? with
    | none => rw [hb] at h; cases h
    | some o =>
      cases o with
      | none => rw [hb] at h; cases h
      | some b =>
        rw [hb] at h
        cases b with
        | d y =>
          obtain ⟨v', hv, q⟩ := R.slot j _ hb
          rw [r'] at hv
          cases hv
          exact ⟨s.F, put_ok R S h q fun z => by cases z⟩
        | s y =>
          obtain ⟨v', hv, q⟩ := R.slot j _ hb
          rw [r'] at hv
          cases hv
          exact ⟨s.F, put_ok R S h q fun z => by cases z⟩
        | l xs =>
          obtain ⟨F', R', S', q, _, _⟩ := R.freezeAt S hb r'
          exact ⟨F', put_ok R' S' h q fun z => by cases z⟩
        | t _ => cases h
        | x => cases h
end TD
namespace TD
open PySem PySem.Spec L2

/-! ### tests -/
def PostB (Γ : Cn) (Wx : WX) (s : Sx) (o : Out Bool) (Q : Bool → Hp → Prop) : Prop :=
  match o with
  | .ok b ρ' => ∀ F' H', Rel Γ.K ⟨F', s.σ, H', ρ'⟩ → Step Γ.np s ⟨F', s.σ, H', ρ'⟩ → Q b H'
  | .er c ρ' => ∀ F' H' C, Γ.mg c = some (.ref C) → Rel Γ.K ⟨F', s.σ, H', ρ'⟩ → Step Γ.np s ⟨F', s.σ, H', ρ'⟩ → Wx (.ref C) none s.σ H'
  | .st => False
theorem PostB.step {Γ : Cn} {Wx : WX} {s s1 : Sx} {o : Out Bool} {Q : Bool → Hp → Prop} (S : Step Γ.np s s1) (hσ : s1.σ = s.σ) (h : PostB Γ Wx s o Q) : PostB Γ Wx s1 o Q := by
  obtain ⟨F, σ, H, ρ⟩ := s
  obtain ⟨F1, σ1, H1, ρ1⟩ := s1
  cases hσ
  cases o with
  | ok w ρ' => exact fun F' H' R S' => h F' H' R (S.trans S')
  | er c ρ' => exact fun F' H' C hC R S' => h F' H' C hC R (S.trans S')
  | st => exact h.elim
def tT (Γ : Cn) (Wx : WX) (f : Mx Bool) : TT := fun σ H Q => ∃ F ρ, Rel Γ.K ⟨F, σ, H, ρ⟩ ∧ PostB Γ Wx ⟨F, σ, H, ρ⟩ (f ρ) Q
abbrev DT (X : Cx) (Γ : Cn) (Wx : WX) (e : Expr) (f : Mx Bool) : Prop := PT X e (tT Γ Wx f)
def asBool : W → Mx Bool := fun w ρ => match w with
  | .d (.bool b) => .ok b ρ
  | _ => .st
def tst (f : Mx W) : Mx Bool := bnd f asBool
def mNotT (f : Mx Bool) : Mx Bool := bnd f fun b ρ => .ok (!b) ρ
def mAndT (f g : Mx Bool) : Mx Bool := bnd f fun b => if b then g else fun ρ => .ok false ρ
def mOrT (f g : Mx Bool) : Mx Bool := bnd f fun b => if b then fun ρ => .ok true ρ else g
section
variable {X : Cx} {Γ : Cn} {Wx : WX} {a b c : Expr} {f g f1 f2 : Mx W} {t u : Mx Bool} {pos : Pos}
theorem postb_of {s : Sx} {Q : Bool → Hp → Prop} (h : PostB Γ Wx s (tst f s.ρ) Q) : Post Γ Wx s (f s.ρ) fun x H' => ∃ k, x = .bl k ∧ Q k H' := by
  unfold tst bnd at h
  cases e : f s.ρ with
  | ok w ρ1 =>
    rw [e] at h
    intro v F1 H1 R1 S1 r
    cases w with
    | d x =>
      cases x with
      | bool k => exact ⟨k, Rp.blV r, h F1 H1 R1 S1⟩
      | _ => exact h.elim
    | _ => exact h.elim
  | er c ρ1 => rw [e] at h; exact h
  | st => rw [e] at h; exact h
theorem postb_bnd {s : Sx} {Q : Bool → Hp → Prop} {k : Bool → Mx Bool} {K : Bool → Hp → Prop} (h : PostB Γ Wx s (bnd t k s.ρ) Q)
    (hk : ∀ b F1 H1 ρ1, Rel Γ.K ⟨F1, s.σ, H1, ρ1⟩ → Step Γ.np s ⟨F1, s.σ, H1, ρ1⟩ → PostB Γ Wx ⟨F1, s.σ, H1, ρ1⟩ (k b ρ1) Q → K b H1) : PostB Γ Wx s (t s.ρ) K := by
  unfold bnd at h
  cases e : t s.ρ with
  | ok w ρ1 =>
    rw [e] at h
    exact fun F1 H1 R1 S1 => hk w F1 H1 ρ1 R1 S1 (PostB.step (s1 := ⟨F1, s.σ, H1, ρ1⟩) S1 rfl h)
  | er c ρ1 => rw [e] at h; exact h
  | st => rw [e] at h; exact h
/-- any expression that gives a bool -/
theorem dt_val (h : DE X Γ Wx a f) (he : ∀ whole, isTrue a X.env whole = (do let v ← whole; standAt a.pos; holding [v] (truthy v)) := by intro _; rfl) : DT X Γ Wx a (tst f) :=
  PT.imp (pt_val h he) fun σ H Q ⟨F, ρ, R, h⟩ => ⟨F, ρ, R, postb_of (s := ⟨F, σ, H, ρ⟩) h⟩
theorem dt_cmp {op : CmpOp} {r : R2} {g : W → W → Env → Out W} (ho : OpR X (compareOp op) r) (hg : Ok2 Γ Wx r g) (ha : DE X Γ Wx a f1) (hb : DE X Γ Wx b f2) (hm : behindInMarks op b = false) : DT X Γ Wx (.Compare a [op] [b] pos) (tst (m2 g f1 f2)) :=
  PT.imp (pt_cmpR ho ha hb hm) fun σ H Q ⟨F, ρ, R, h⟩ => tOp_of hg σ H _ ⟨F, ρ, R, postb_of (s := ⟨F, σ, H, ρ⟩) h⟩
theorem de_cmp {op : CmpOp} {r : R2} {g : W → W → Env → Out W} (ho : OpR X (compareOp op) r) (hg : Ok2 Γ Wx r g) (ha : DE X Γ Wx a f1) (hb : DE X Γ Wx b f2) (hm : behindInMarks op b = false) : DE X Γ Wx (.Compare a [op] [b] pos) (m2 g f1 f2) :=
  PE.imp (pe_cmpR ho ha hb hm) (tOp_of hg)
theorem de_op {op : Operator} {r : R2} {g : W → W → Env → Out W} (ho : OpR X (binaryOp op) r) (hg : Ok2 Γ Wx r g) (ha : DE X Γ Wx a f1) (hb : DE X Γ Wx b f2) : DE X Γ Wx (.BinOp a op b pos) (m2 g f1 f2) :=
  PE.imp (pe_op ho ha hb) (tOp_of hg)
theorem de_un {op : UnaryOp} {r : V → Hp → VK → Prop} {g : W → Env → Out W} (ho : UnR X (unaryOp op) r) (hg : Ok1 Γ Wx r g) (ha : DE X Γ Wx a f1) : DE X Γ Wx (.UnaryOp op a pos) (m1 g f1) :=
  PE.imp (pe_un ho ha) (tUn_of hg)
theorem de_ix {r : R2} {g : W → W → Env → Out W} (ho : IxR X r) (hg : Ok2 Γ Wx r g) (ha : DE X Γ Wx a f1) (hb : DE X Γ Wx b f2) (hs : PlainIx b) : DE X Γ Wx (.Subscript a b pos) (m2 g f1 f2) :=
  PE.imp (pe_ix ho ha hb hs) (tOp_of hg)
theorem dt_not (h : DT X Γ Wx a t) : DT X Γ Wx (.UnaryOp .Not a pos) (mNotT t) :=
  PT.imp (pt_not h) fun σ H Q ⟨F, ρ, R, h⟩ => ⟨F, ρ, R, postb_bnd (s := ⟨F, σ, H, ρ⟩) h fun b F1 H1 ρ1 R1 S1 h1 => h1 F1 H1 R1 (Step.refl _)⟩
abbrev DW (X : Cx) (Γ : Cn) (Wx : WX) (e : Expr) (f : Mx Bool) : Prop := PW X e (tT Γ Wx f)
theorem PW.imp {e : Expr} {t t' : TT} (h : PW X e t) (i : ∀ σ H Q, t' σ H Q → t σ H Q) : PW X e t' := ⟨fun wh pins s σ H Q I q => h.run wh pins s σ H Q I (i σ H Q q)⟩
theorem dw_and1 (h : DT X Γ Wx a t) : DW X Γ Wx (.BoolOp .And [a] pos) t := pw_and1 h
theorem dw_or1 (h : DT X Γ Wx a t) : DW X Γ Wx (.BoolOp .Or [a] pos) t := pw_or1 h
theorem dw_and {rest : List Expr} (h : DT X Γ Wx a t) (h2 : DW X Γ Wx (.BoolOp .And (b :: rest) pos) u) : DW X Γ Wx (.BoolOp .And (a :: b :: rest) pos) (mAndT t u) :=
  PW.imp (pw_and h h2) fun σ H Q ⟨F, ρ, R, h⟩ => ⟨F, ρ, R, postb_bnd (s := ⟨F, σ, H, ρ⟩) h fun b F1 H1 ρ1 R1 S1 h1 => by
    cases b with
    | true => exact ⟨F1, ρ1, R1, h1⟩
    | false => exact h1 F1 H1 R1 (Step.refl _)⟩
theorem dw_or {rest : List Expr} (h : DT X Γ Wx a t) (h2 : DW X Γ Wx (.BoolOp .Or (b :: rest) pos) u) : DW X Γ Wx (.BoolOp .Or (a :: b :: rest) pos) (mOrT t u) :=
  PW.imp (pw_or h h2) fun σ H Q ⟨F, ρ, R, h⟩ => ⟨F, ρ, R, postb_bnd (s := ⟨F, σ, H, ρ⟩) h fun b F1 H1 ρ1 R1 S1 h1 => by
    cases b with
    | false => exact ⟨F1, ρ1, R1, h1⟩
    | true => exact h1 F1 H1 R1 (Step.refl _)⟩
theorem DW.dt {e : Expr} (h : DW X Γ Wx e t) : DT X Γ Wx e t := h.pt
/-! .. as values -/
def mNotV (f : Mx W) : Mx W := bnd f fun w ρ => match w with
  | .d (.bool b) => .ok (.d (.bool (!b))) ρ
  | _ => .st
def mAndV (f g : Mx W) : Mx W := bnd f fun w ρ => match w with
  | .d (.bool true) => g ρ
  | .d (.bool false) => .ok (.d (.bool false)) ρ
  | _ => .st
def mOrV (f g : Mx W) : Mx W := bnd f fun w ρ => match w with
  | .d (.bool true) => .ok (.d (.bool true)) ρ
  | .d (.bool false) => g ρ
  | _ => .st
theorem de_not (h : DE X Γ Wx a f) : DE X Γ Wx (.UnaryOp .Not a pos) (mNotV f) :=
  PE.imp (pe_not h) fun σ H Q ⟨F, ρ, R, h⟩ => ⟨F, ρ, R, post_bnd (s := ⟨F, σ, H, ρ⟩) h fun v w F1 H1 ρ1 R1 S1 r h1 => by
    cases w with
    | d x =>
      cases x with
      | bool k => exact ⟨k, Rp.blV r, Post.val (s := ⟨F1, σ, H1, ρ1⟩) R1 h1 (.bl _)⟩
      | _ => exact h1.elim
    | _ => exact h1.elim⟩
theorem de_one {op} (h : DE X Γ Wx a f) : DE X Γ Wx (.BoolOp op [a] pos) f := pe_one h
theorem de_and {rest : List Expr} (h : DE X Γ Wx a f) (h2 : DE X Γ Wx (.BoolOp .And (b :: rest) pos) g) : DE X Γ Wx (.BoolOp .And (a :: b :: rest) pos) (mAndV f g) :=
  PE.imp (pe_and h h2) fun σ H Q ⟨F, ρ, R, h⟩ => ⟨F, ρ, R, post_bnd (s := ⟨F, σ, H, ρ⟩) h fun v w F1 H1 ρ1 R1 S1 r h1 => by
    cases w with
    | d x =>
      cases x with
      | bool k =>
        refine ⟨k, Rp.blV r, ?_⟩
        cases k with
        | true => exact ⟨F1, ρ1, R1, h1⟩
        | false => exact Post.val (s := ⟨F1, σ, H1, ρ1⟩) R1 h1 (.bl _)
      | _ => exact h1.elim
    | _ => exact h1.elim⟩
theorem de_or {rest : List Expr} (h : DE X Γ Wx a f) (h2 : DE X Γ Wx (.BoolOp .Or (b :: rest) pos) g) : DE X Γ Wx (.BoolOp .Or (a :: b :: rest) pos) (mOrV f g) :=
  PE.imp (pe_or h h2) fun σ H Q ⟨F, ρ, R, h⟩ => ⟨F, ρ, R, post_bnd (s := ⟨F, σ, H, ρ⟩) h fun v w F1 H1 ρ1 R1 S1 r h1 => by
    cases w with
    | d x =>
      cases x with
      | bool k =>
        refine ⟨k, Rp.blV r, ?_⟩
        cases k with
        | false => exact ⟨F1, ρ1, R1, h1⟩
        | true => exact Post.val (s := ⟨F1, σ, H1, ρ1⟩) R1 h1 (.bl _)
      | _ => exact h1.elim
    | _ => exact h1.elim⟩
end
/-! ### statements -/
inductive Fl where
  | nx | rt (w : W) | bk | ct
def PostS (Γ : Cn) (Wx : WX) (s : Sx) (o : Out Fl) (Dn : Ends) : Prop :=
  match o with
  | .ok .nx ρ' => ∀ F' σ' H', Rel Γ.K ⟨F', σ', H', ρ'⟩ → Step Γ.np s ⟨F', σ', H', ρ'⟩ → Dn.nx σ' H'
  | .ok .bk ρ' => ∀ F' σ' H', Rel Γ.K ⟨F', σ', H', ρ'⟩ → Step Γ.np s ⟨F', σ', H', ρ'⟩ → Dn.bk σ' H'
  | .ok .ct ρ' => ∀ F' σ' H', Rel Γ.K ⟨F', σ', H', ρ'⟩ → Step Γ.np s ⟨F', σ', H', ρ'⟩ → Dn.ct σ' H'
  | .ok (.rt w) ρ' => ∀ v F' σ' H', Rel Γ.K ⟨F', σ', H', ρ'⟩ → Step Γ.np s ⟨F', σ', H', ρ'⟩ → VRep Γ.K s.H ⟨F', σ', H', ρ'⟩ v w → Dn.rt v H'
  | .er c ρ' => ∀ F' σ' H' C, Γ.mg c = some (.ref C) → Rel Γ.K ⟨F', σ', H', ρ'⟩ → Step Γ.np s ⟨F', σ', H', ρ'⟩ → Wx (.ref C) none σ' H'
  | .st => False
theorem PostS.step {Γ : Cn} {Wx : WX} {s s1 : Sx} {o : Out Fl} {Dn : Ends} (S : Step Γ.np s s1) (h : PostS Γ Wx s o Dn) : PostS Γ Wx s1 o Dn := by
  cases o with
  | ok w ρ' =>
    cases w with
    | nx => exact fun F' σ' H' R S' => h F' σ' H' R (S.trans S')
    | bk => exact fun F' σ' H' R S' => h F' σ' H' R (S.trans S')
    | ct => exact fun F' σ' H' R S' => h F' σ' H' R (S.trans S')
    | rt w => exact fun v F' σ' H' R S' r => h v F' σ' H' R (S.trans S') (r.old fun p hp => S.none hp)
  | er c ρ' => exact fun F' σ' H' C hC R S' => h F' σ' H' C hC R (S.trans S')
  | st => exact h.elim
def tS (Γ : Cn) (Wx : WX) (f : Mx Fl) : TS := fun Dn σ H => ∃ F ρ, Rel Γ.K ⟨F, σ, H, ρ⟩ ∧ PostS Γ Wx ⟨F, σ, H, ρ⟩ (f ρ) Dn
abbrev DS (X : Cx) (Γ : Cn) (Wx : WX) (st : Stmt) (f : Mx Fl) : Prop := PS X st (tS Γ Wx f)
abbrev DSs (X : Cx) (Γ : Cn) (Wx : WX) (st : List Stmt) (f : Mx Fl) : Prop := PSs X st (tS Γ Wx f)
def sNext : Mx Fl := fun ρ => .ok .nx ρ
def sSeq (f g : Mx Fl) : Mx Fl := fun ρ => match f ρ with
  | .ok .nx ρ' => g ρ'
  | o => o
def sRet (f : Mx W) : Mx Fl := bnd f fun w ρ => .ok (.rt w) ρ
def sExpr (f : Mx W) : Mx Fl := bnd f fun _ ρ => .ok .nx ρ
def sSet (np i : Nat) (f : Mx W) : Mx Fl := bnd f fun w ρ => match store np i ρ w with
  | some ρ' => .ok .nx ρ'
  | none => .st
def sIf (t : Mx Bool) (f g : Mx Fl) : Mx Fl := bnd t fun b => if b then f else g
section
variable {X : Cx} {Γ : Cn} {Wx : WX} {a b c e : Expr} {f g f1 f2 : Mx W} {t u : Mx Bool} {p q : Mx Fl} {pos : Pos} {st : Stmt} {rest : List Stmt}
/-- from an expression to what follows it -/
theorem posts_bnd {s : Sx} {Dn : Ends} {k : W → Mx Fl} {K : V → Hp → Prop} (h : PostS Γ Wx s (bnd f k s.ρ) Dn)
    (hk : ∀ v w F1 H1 ρ1, Rel Γ.K ⟨F1, s.σ, H1, ρ1⟩ → Step Γ.np s ⟨F1, s.σ, H1, ρ1⟩ → VRep Γ.K s.H ⟨F1, s.σ, H1, ρ1⟩ v w → PostS Γ Wx s (k w ρ1) Dn → K v H1) : Post Γ Wx s (f s.ρ) K := by
  unfold bnd at h
  cases e : f s.ρ with
  | ok w ρ1 =>
    rw [e] at h
    exact fun v F1 H1 R1 S1 r => hk v w F1 H1 ρ1 R1 S1 r h
  | er c ρ1 => rw [e] at h; exact fun F' H' C hC R S => h F' s.σ H' C hC R S
  | st => rw [e] at h; exact h
theorem dss_nil : DSs X Γ Wx [] sNext := PSs.imp pss_nil fun Dn σ H ⟨F, ρ, R, h⟩ => h F σ H R (Step.refl _)
theorem dss_cons (h : DS X Γ Wx st p) (h2 : DSs X Γ Wx rest q) : DSs X Γ Wx (st :: rest) (sSeq p q) :=
  PSs.imp (pss_cons h h2) fun Dn σ H ⟨F, ρ, R, h⟩ => ⟨F, ρ, R, by
    unfold sSeq at h
    cases e : p ρ with
    | ok w ρ' =>
      rw [e] at h
      cases w with
      | nx => exact fun F' σ' H' R' S' => ⟨F', ρ', R', h.step S'⟩
      | bk => exact h
      | ct => exact h
      | rt w => exact h
    | er c ρ' => rw [e] at h; exact h
    | st => rw [e] at h; exact h⟩
theorem dss_one (h : DS X Γ Wx st p) : DSs X Γ Wx [st] p := pss_one h
theorem ds_ret (h : DE X Γ Wx e f) : DS X Γ Wx (.Return (some e) pos) (sRet f) :=
  PS.imp (ps_ret h) fun Dn σ H ⟨F, ρ, R, h⟩ => ⟨F, ρ, R, posts_bnd (s := ⟨F, σ, H, ρ⟩) h fun v w F1 H1 ρ1 R1 S1 r h1 => h1 v F1 σ H1 R1 S1 r⟩
theorem ds_expr (h : DE X Γ Wx e f) (hs : swapsWith e none pos.line X.env = pure false := by rfl) : DS X Γ Wx (.Expr e pos) (sExpr f) :=
  PS.imp (ps_expr h hs) fun Dn σ H ⟨F, ρ, R, h⟩ => ⟨F, ρ, R, posts_bnd (s := ⟨F, σ, H, ρ⟩) h fun v w F1 H1 ρ1 R1 S1 r h1 => h1 F1 σ H1 R1 S1⟩
theorem set_end {s : Sx} {Dn : Ends} {i : Nat} (h : PostS Γ Wx s (sSet Γ.np i f s.ρ) Dn) : Post Γ Wx s (f s.ρ) fun v H1 => Dn.nx (s.σ.set i (some v)) H1 :=
  posts_bnd h fun v w F1 H1 ρ1 R1 S1 r h1 => by
    cases hs : store Γ.np i ρ1 w with
    | none => simp only [hs] at h1; exact h1.elim
    | some ρ' =>
      simp only [hs] at h1
      obtain ⟨F', R', S'⟩ := store_ok (s := ⟨F1, s.σ, H1, ρ1⟩) R1 S1 r hs
      exact h1 F' _ H1 R' S'
theorem ds_set (i : Nat) {x : Str} {pos' : Pos} (hN : X.N.Nodup) (h : DE X Γ Wx e f) (hi : X.N[i]? = some x := by rfl) (hx : Loc X.env.scope x := by first | exact Or.inl rfl | exact Or.inr rfl)
    (hs : swapsWith e (some (.Name x pos')) pos.line X.env = pure false := by rfl) (hf : X.fn x = true ∨ X.env.scope.names.lookup x = some .local := by first | exact .inl rfl | exact .inr rfl | assumption) :
    DS X Γ Wx (.Assign [.Name x pos'] e pos) (sSet Γ.np i f) :=
  PS.imp (ps_set hN hi hx h hs hf) fun Dn σ H ⟨F, ρ, R, h⟩ => ⟨F, ρ, R, set_end (s := ⟨F, σ, H, ρ⟩) h⟩
theorem ds_if {ss ts : List Stmt} (hc : DT X Γ Wx c t) (h1 : DSs X Γ Wx ss p) (h2 : DSs X Γ Wx ts q) : DS X Γ Wx (.If c ss ts pos) (sIf t p q) :=
  PS.imp (ps_if hc h1 h2) fun Dn σ H ⟨F, ρ, R, h⟩ => ⟨F, ρ, R, by
    unfold sIf bnd at h
    cases e : t ρ with
    | ok b ρ1 =>
      rw [e] at h
      intro F1 H1 R1 S1
      cases b with
      | true => exact ⟨F1, ρ1, R1, PostS.step S1 h⟩
      | false => exact ⟨F1, ρ1, R1, PostS.step S1 h⟩
    | er c ρ1 => rw [e] at h; exact fun F' H' C hC R' S' => h F' σ H' C hC R' S'
    | st => rw [e] at h; exact h⟩
end
end TD
namespace TD
open PySem PySem.Spec L2

/-! ### several values, held -/
def VReps (K : PySem.W.Frag) (H0 : Hp) (s : Sx) : List V → List W → Prop
  | [], [] => True
  | v :: vs, w :: ws => VRep K H0 s v w ∧ VReps K H0 s vs ws ∧ (w.isTmp = true → ∀ (j : Nat) (w' : W), ws[j]? = some w' → w'.isTmp = true → vs[j]? ≠ some v)
  | _, _ => False
theorem VReps.length {K : PySem.W.Frag} {H0 : Hp} {s : Sx} : ∀ {vs : List V} {ws : List W}, VReps K H0 s vs ws → vs.length = ws.length
  | [], [], _ => rfl
  | _ :: _, _ :: _, h => congrArg (· + 1) h.2.1.length
  | [], _ :: _, h => h.elim
  | _ :: _, [], h => h.elim
theorem VReps.get {K : PySem.W.Frag} {H0 : Hp} {s : Sx} : ∀ {vs : List V} {ws : List W} {j : Nat} {v : V} {w : W}, VReps K H0 s vs ws → vs[j]? = some v → ws[j]? = some w → VRep K H0 s v w
  | v :: vs, w :: ws, 0, _, _, h, h1, h2 => by
    cases h1
    cases h2
    exact h.1
  | v :: vs, w :: ws, j + 1, _, _, h, h1, h2 => VReps.get (j := j) h.2.1 h1 h2
  | [], [], _, _, _, _, h1, _ => by simp at h1
  | [], _ :: _, _, _, _, h, _, _ => h.elim
  | _ :: _, [], _, _, _, h, _, _ => h.elim
theorem VReps.imp {K : PySem.W.Frag} {H0 H1 : Hp} {s s' : Sx} (f : ∀ v w, VRep K H0 s v w → VRep K H1 s' v w) : ∀ {vs : List V} {ws : List W}, VReps K H0 s vs ws → VReps K H1 s' vs ws
  | [], [], _ => trivial
  | _ :: _, _ :: _, h => ⟨f _ _ h.1, VReps.imp f h.2.1, h.2.2⟩
  | [], _ :: _, h => h.elim
  | _ :: _, [], h => h.elim
def PostA (Γ : Cn) (Wx : WX) (s : Sx) (o : Out (List W)) (Q : List V → Hp → Prop) : Prop :=
  match o with
  | .ok ws ρ' => ∀ vs F' H', Rel Γ.K ⟨F', s.σ, H', ρ'⟩ → Step Γ.np s ⟨F', s.σ, H', ρ'⟩ → VReps Γ.K s.H ⟨F', s.σ, H', ρ'⟩ vs ws → Q vs H'
  | .er c ρ' => ∀ F' H' C, Γ.mg c = some (.ref C) → Rel Γ.K ⟨F', s.σ, H', ρ'⟩ → Step Γ.np s ⟨F', s.σ, H', ρ'⟩ → Wx (.ref C) none s.σ H'
  | .st => False
def tA (Γ : Cn) (Wx : WX) (f : Mx (List W)) : TA := fun σ H Q => ∃ F ρ, Rel Γ.K ⟨F, σ, H, ρ⟩ ∧ PostA Γ Wx ⟨F, σ, H, ρ⟩ (f ρ) Q
abbrev DA (X : Cx) (Γ : Cn) (Wx : WX) (es : List Expr) (f : Mx (List W)) : Prop := PA X es (tA Γ Wx f)
def aNil : Mx (List W) := fun ρ => .ok [] ρ
def aCons (f : Mx W) (g : Mx (List W)) : Mx (List W) := bnd f fun w => bnd g fun ws ρ => .ok (w :: ws) ρ
/-- an operation on the values of arguments -/
def mArgs (g : List W → Env → Out W) (f : Mx (List W)) : Mx W := bnd f fun ws => g ws
def OkC (Γ : Cn) (Wx : WX) (r : List V → Hp → VK → Prop) (g : List W → Env → Out W) : Prop :=
  ∀ (s : Sx) (vs : List V) (ws : List W) (s0 : Sx) (Q : VK), Rel Γ.K s → s0.σ = s.σ → Step Γ.np s0 s → VReps Γ.K s0.H s vs ws → Post Γ Wx s0 (g ws s.ρ) Q → r vs s.H Q
section
variable {X : Cx} {Γ : Cn} {Wx : WX} {a b c e : Expr} {es : List Expr} {f g f1 f2 : Mx W} {fs : Mx (List W)} {pos : Pos}
theorem da_nil : DA X Γ Wx [] aNil := PA.imp pa_nil fun σ H Q ⟨F, ρ, R, h⟩ => h [] F H R (Step.refl _) trivial
theorem da_cons (h : DE X Γ Wx e f) (h2 : DA X Γ Wx es fs) (hs : starEach (e :: es) X.env = (false, eval e X.env) :: starEach es X.env := by rfl) : DA X Γ Wx (e :: es) (aCons f fs) :=
  PA.imp (pa_cons h h2 hs) fun σ H Q ⟨F, ρ, R, h⟩ => ⟨F, ρ, R, by
    unfold aCons bnd at h
    cases e1 : f ρ with
    | ok w ρ1 =>
      rw [e1] at h
      intro v F1 H1 R1 S1 r1
      refine ⟨F1, ρ1, R1, ?_⟩
      cases e2 : fs ρ1 with
      | ok ws ρ2 =>
        simp only [e2] at h
        intro vs F2 H2 R2 S2 r2
        refine h (v :: vs) F2 H2 R2 (S1.trans S2) ⟨VRep.held (s := ⟨F1, σ, H1, ρ1⟩) R1 S2 rfl r1, r2.imp fun v' w' q => q.old fun p hp => S1.none hp, fun ht j w' hw ht' hv => ?_⟩
        have q := r2.get hv hw
        have key : ∀ p, v = .ref p → H1 p = none → False := fun p hp hn => by
          cases w with
          | d x => cases ht
          | c i => cases ht
          | l xs =>
            obtain ⟨p', _, e', h', _⟩ := r1
            rw [hp] at e'
            cases e'
            have : H1 p = some _ := h'
            rw [hn] at this; cases this
          | t xs =>
            obtain ⟨p', _, e', h', _⟩ := r1
            rw [hp] at e'
            cases e'
            have : H1 p = some _ := h'
            rw [hn] at this; cases this
        cases w' with
        | d x => cases ht'
        | c i => cases ht'
        | l xs =>
          obtain ⟨p, _, e', _, _, _, hn, _⟩ := q
          exact key p e' hn
        | t xs =>
          obtain ⟨p, _, e', _, _, _, hn, _⟩ := q
          exact key p e' hn
      | er c ρ2 =>
        simp only [e2] at h
        exact fun F' H' C hC R' S' => h F' H' C hC R' (S1.trans S')
      | st => simp only [e2] at h; exact h.elim
    | er c ρ1 => rw [e1] at h; exact h
    | st => rw [e1] at h; exact h⟩
theorem args_end {s : Sx} {Q : VK} {k : List W → Mx W} {K : List V → Hp → Prop} (h : Post Γ Wx s (bnd fs k s.ρ) Q)
    (hk : ∀ vs ws F1 H1 ρ1, Rel Γ.K ⟨F1, s.σ, H1, ρ1⟩ → Step Γ.np s ⟨F1, s.σ, H1, ρ1⟩ → VReps Γ.K s.H ⟨F1, s.σ, H1, ρ1⟩ vs ws → Post Γ Wx s (k ws ρ1) Q → K vs H1) : PostA Γ Wx s (fs s.ρ) K := by
  unfold bnd at h
  cases e : fs s.ρ with
  | ok w ρ1 =>
    rw [e] at h
    exact fun v F1 H1 R1 S1 r => hk v w F1 H1 ρ1 R1 S1 r h
  | er c ρ1 => rw [e] at h; exact h
  | st => rw [e] at h; exact h
theorem tCB_of {r : List V → Hp → VK → Prop} {g : List W → Env → Out W} (hg : OkC Γ Wx r g) : ∀ σ H Q, tE Γ Wx (mArgs g fs) σ H Q → tCB r (tA Γ Wx fs) σ H Q := fun σ H Q ⟨F, ρ, R, h⟩ =>
  ⟨F, ρ, R, args_end (s := ⟨F, σ, H, ρ⟩) h fun vs ws F1 H1 ρ1 R1 S1 r1 h1 => hg ⟨F1, σ, H1, ρ1⟩ vs ws ⟨F, σ, H, ρ⟩ Q R1 rfl S1 r1 h1⟩
/-- f(e, ..), f a built-in function | a built-in type -/
theorem de_callB {x : Str} {p : Pos} {id : String} {r : List V → Hp → VK → Prop} {g : List W → Env → Out W} (hc : CallR X (.builtin id) r) (hok : OkC Γ Wx r g) (hm : X.mg x = none) (hv : bootBuiltins x = some (.builtin id)) (ha : DA X Γ Wx (e :: es) fs) (hg : Gl X x := by rfl) (hn : x ≠ "__name__" := by decide) (hdb : (x == ("__debug__" : Str)) = false := by decide)
    (he : starEach (e :: es) X.env = (false, eval e X.env) :: starEach es X.env := by rfl) (hpl : (backTo pos (starEach es X.env)).any (·.1) = false := by rfl) : DE X Γ Wx (.Call (.Name x p) (e :: es) [] pos) (mArgs g fs) :=
  PE.imp (pe_callB hc hg hm hv ha hn hdb he hpl) (tCB_of hok)
theorem de_callTy {x : Str} {p : Pos} {T : String} {r : List V → Hp → VK → Prop} {g : List W → Env → Out W} (hc : CallR X (.type T) r) (hok : OkC Γ Wx r g) (hm : X.mg x = none) (hv : bootBuiltins x = some (.type T)) (ha : DA X Γ Wx (e :: es) fs) (hg : Gl X x := by rfl) (hn : x ≠ "__name__" := by decide) (hdb : (x == ("__debug__" : Str)) = false := by decide)
    (he : starEach (e :: es) X.env = (false, eval e X.env) :: starEach es X.env := by rfl) (hpl : (backTo pos (starEach es X.env)).any (·.1) = false := by rfl) : DE X Γ Wx (.Call (.Name x p) (e :: es) [] pos) (mArgs g fs) :=
  PE.imp (pe_callTy hc hg hm hv ha hn hdb he hpl) (tCB_of hok)
end
/-! ### displays -/
def datums : List W → Env → Option (List D × Env)
  | [], ρ => some ([], ρ)
  | w :: ws, ρ => match w.datum ρ with
    | none => none
    | some (x, ρ1) => match datums ws ρ1 with
      | none => none
      | some (xs, ρ2) => some (x :: xs, ρ2)
theorem datums_ok {K : PySem.W.Frag} {np : Nat} {s0 : Sx} : ∀ {vs : List V} {ws : List W} {s : Sx} {xs : List D} {ρ' : Env}, Rel K s → Step np s0 s → VReps K s0.H s vs ws → datums ws s.ρ = some (xs, ρ') →
    ∃ F', Rel K ⟨F', s.σ, s.H, ρ'⟩ ∧ Step np s0 ⟨F', s.σ, s.H, ρ'⟩ ∧ RpA F' vs xs ∧ (∀ a u, s.F a = some u → F' a = some u)
  | [], [], s, xs, ρ', R, S, r, h => by
    cases h
    exact ⟨s.F, R, S, .nil, fun _ _ z => z⟩
  | [], _ :: _, _, _, _, _, _, r, _ => r.elim
  | _ :: _, [], _, _, _, _, _, r, _ => r.elim
  | v :: vs, w :: ws, s, xs, ρ', R, S, r, h => by
    unfold datums at h
    cases e1 : w.datum s.ρ with
    | none => rw [e1] at h; cases h
    | some q1 =>
      obtain ⟨x, ρ1⟩ := q1
      rw [e1] at h
      cases e2 : datums ws ρ1 with
      | none => simp only [e2] at h; cases h
      | some q2 =>
        obtain ⟨ys, ρ2⟩ := q2
        simp only [e2] at h
        cases h
        obtain ⟨F1, R1, S1, p1, m1, n1, c1⟩ := datum_ok R S r.1 e1
        have keep : ∀ (vs' : List V) (ws' : List W), VReps K s0.H s vs' ws' → (w.isTmp = true → ∀ (j : Nat) (w' : W), ws'[j]? = some w' → w'.isTmp = true → vs'[j]? ≠ some v) → VReps K s0.H ⟨F1, s.σ, s.H, ρ1⟩ vs' ws' := by
          intro vs'
          induction vs' with
          | nil => intro ws' q _; cases ws' with
            | nil => trivial
            | cons _ _ => exact q.elim
          | cons v' vr ih => intro ws' q hd; cases ws' with
            | nil => exact q.elim
            | cons w' wr =>
              refine ⟨?_, ih wr q.2.1 fun ht j w2 h1 h2 h3 => hd ht (j + 1) w2 h1 h2 h3, q.2.2⟩
              cases w' with
              | d y => exact Rp.mono m1 q.1
              | c i => exact q.1
              | l ys =>
                obtain ⟨p, us, rfl, h1, h2, h3, h4, h5⟩ := q.1
                exact ⟨p, us, rfl, h1, h2.mono m1, (n1 p h5 fun ht z => hd ht 0 _ rfl rfl (by rw [z]; rfl)).trans h3, h4, fun c => h5 (c1 p c)⟩
              | t ys =>
                obtain ⟨p, us, rfl, h1, h2, h3, h4, h5⟩ := q.1
                exact ⟨p, us, rfl, h1, L2.Paired.mapP h2 fun _ _ z => ⟨z.1, z.2.mono m1⟩, (n1 p h5 fun ht z => hd ht 0 _ rfl rfl (by rw [z]; rfl)).trans h3, h4, fun c => h5 (c1 p c)⟩
        obtain ⟨F2, R2, S2, p2, m2⟩ := datums_ok (s := ⟨F1, s.σ, s.H, ρ1⟩) R1 S1 (keep vs ws r.2.1 r.2.2) e2
        exact ⟨F2, R2, S2, .cons (p1.mono m2) p2, fun a u z => m2 a u (m1 a u z)⟩
def gTup (ws : List W) : Env → Out W := fun ρ => match datums ws ρ with
  | some (xs, ρ') => if xs.length ≤ 100000 then .ok (.d (.tuple xs)) ρ' else .st
  | none => .st
def gLst (ws : List W) : Env → Out W := fun ρ => match datums ws ρ with
  | some (xs, ρ') => if xs.length ≤ 100000 then .ok (.l xs) ρ' else .st
  | none => .st
theorem sz5 {n : Nat} (h : n ≤ 100000) : n ≤ sizeLine := Nat.le_trans h (by decide)
section
variable {X : Cx} {Γ : Cn} {Wx : WX} {a b c e : Expr} {es : List Expr} {f g f1 f2 : Mx W} {fs : Mx (List W)} {pos : Pos}
theorem de_tup {k : Nat} (h : DA X Γ Wx es fs) : DE X Γ Wx (.Tuple es k pos) (mArgs gTup fs) :=
  PE.imp (pe_tup h) fun σ H Q ⟨F, ρ, R, h⟩ => ⟨F, ρ, R, args_end (s := ⟨F, σ, H, ρ⟩) h fun vs ws F1 H1 ρ1 R1 S1 r1 h1 => by
    unfold gTup at h1
    cases e1 : datums ws ρ1 with
    | none => rw [e1] at h1; exact h1.elim
    | some q =>
      obtain ⟨xs, ρ2⟩ := q
      simp only [e1] at h1
      split at h1
      · rename_i hl
        obtain ⟨F2, R2, S2, p2, _⟩ := datums_ok (s := ⟨F1, σ, H1, ρ1⟩) R1 S1 r1 e1
        refine ⟨by rw [p2.length]; exact sz5 hl, fun p hp => ?_⟩
        exact Post.tup (s := ⟨F2, σ, H1, ρ2⟩) R2 (Post.step (s1 := ⟨F2, σ, H1, ρ2⟩) S2 rfl h1) p2 hp
      · exact h1.elim⟩
theorem de_lst (h : DA X Γ Wx es fs) : DE X Γ Wx (.List es pos) (mArgs gLst fs) :=
  PE.imp (pe_lst h) fun σ H Q ⟨F, ρ, R, h⟩ => ⟨F, ρ, R, args_end (s := ⟨F, σ, H, ρ⟩) h fun vs ws F1 H1 ρ1 R1 S1 r1 h1 => by
    unfold gLst at h1
    cases e1 : datums ws ρ1 with
    | none => rw [e1] at h1; exact h1.elim
    | some q =>
      obtain ⟨xs, ρ2⟩ := q
      simp only [e1] at h1
      split at h1
      · rename_i hl
        obtain ⟨F2, R2, S2, p2, _⟩ := datums_ok (s := ⟨F1, σ, H1, ρ1⟩) R1 S1 r1 e1
        refine ⟨by rw [p2.length]; exact sz5 hl, fun p hp => ?_⟩
        exact Post.lst (s := ⟨F2, σ, H1, ρ2⟩) R2 (Post.step (s1 := ⟨F2, σ, H1, ρ2⟩) S2 rfl h1) p2 hp
      · exact h1.elim⟩
end
/-! ### sequences -/
/-- the items of a list | of a tuple | of either -/
def W.lst (ρ : Env) : W → Option (List D)
  | .d (.list xs) => some xs
  | .l xs => some xs
  | .c i => match ρ[i]? with
    | some (some (.d (.list xs))) => some xs
    | some (some (.s xs)) => some xs
    | some (some (.l xs)) => some xs
    | _ => none
  | _ => none
def W.tup (ρ : Env) (w : W) : Option (List D) := match w.asD ρ with
  | some (.tuple xs) => some xs
  | _ => none
def W.seq (ρ : Env) (w : W) : Option (List D) := match w.lst ρ with
  | some xs => some xs
  | none => w.tup ρ
theorem sub_sqL {K : PySem.W.Frag} {F H : Hp} (h : ∀ a o, F a = some o → H a = some o) {p : Addr} {vs : List V} (q : SqL K F p vs) : SqL K H p vs := Same.seq h q
theorem VRep.lst {K : PySem.W.Frag} {H0 : Hp} {s : Sx} {v : V} {w : W} {xs : List D} (R : Rel K s) (r : VRep K H0 s v w) (h : w.lst s.ρ = some xs) : ∃ p vs, v = .ref p ∧ SqL K s.H p vs ∧ RpA s.F vs xs := by
  have fin : Rp s.F v (.list xs) → ∃ p vs, v = .ref p ∧ SqL K s.H p vs ∧ RpA s.F vs xs := fun q => by
    cases q with
    | lst e q => exact ⟨_, _, rfl, SqL.of (R.sub _ _ e), q⟩
  cases w with
  | d x =>
    cases x with
    | list ys => cases h; exact fin r
    | _ => cases h
  | l ys =>
    cases h
    obtain ⟨p, vs, e, q, q2, _⟩ := r
    exact ⟨p, vs, e, SqL.of q, q2⟩
  | t ys => cases h
  | c i =>
    have r' : s.σ[i]? = some (some v) := r
    simp only [W.lst] at h
    cases hb : s.ρ[i]? with
    | none => rw [hb] at h; cases h
    | some o =>
      cases o with
      | none => rw [hb] at h; cases h
      | some b =>
        rw [hb] at h
        have hx : b.isX = false := by cases b <;> first | rfl | cases h
        obtain ⟨v', hv, q⟩ := R.slot i _ hb
        rw [r'] at hv
        cases hv
        cases b with
        | x => cases h
        | d y =>
          cases y with
          | list ys => cases h; exact fin q
          | _ => cases h
        | s ys =>
          cases h
          obtain ⟨p, vs, e, q1, q2⟩ := q
          exact ⟨p, vs, e, sub_sqL R.sub q1, q2⟩
        | l ys =>
          cases h
          obtain ⟨p, vs, e, q1, q2⟩ := q
          exact ⟨p, vs, e, SqL.of q1, q2⟩
        | t _ => cases h
theorem VRep.tup {K : PySem.W.Frag} {H0 : Hp} {s : Sx} {v : V} {w : W} {xs : List D} (R : Rel K s) (r : VRep K H0 s v w) (h : w.tup s.ρ = some xs) : Rp s.F v (.tuple xs) ∧ ∃ p vs, v = .ref p ∧ s.F p = some (.tup vs) ∧ s.H p = some (.tup vs) ∧ RpA s.F vs xs := by
  unfold W.tup at h
  cases e : w.asD s.ρ with
  | none => rw [e] at h; cases h
  | some x =>
    rw [e] at h
    cases x with
    | tuple ys =>
      cases h
      have q := r.data R e
      refine ⟨q, ?_⟩
      cases q with
      | tup e q => exact ⟨_, _, rfl, e, R.sub _ _ e, q⟩
    | _ => cases h
theorem VRep.seq {K : PySem.W.Frag} {H0 : Hp} {s : Sx} {v : V} {w : W} {xs : List D} (R : Rel K s) (r : VRep K H0 s v w) (h : w.seq s.ρ = some xs) : ∃ p vs, v = .ref p ∧ (SqL K s.H p vs ∨ SqT K s.H p vs) ∧ RpA s.F vs xs := by
  unfold W.seq at h
  cases e : w.lst s.ρ with
  | some ys =>
    rw [e] at h
    cases h
    obtain ⟨p, vs, e1, q, q2⟩ := r.lst R e
    exact ⟨p, vs, e1, .inl q, q2⟩
  | none =>
    rw [e] at h
    obtain ⟨_, p, vs, e1, _, q, q2⟩ := r.tup R h
    exact ⟨p, vs, e1, .inr (SqT.of q), q2⟩
/-! x[i] -/
theorem RpA.atI {F : Hp} {ds : List D} {vs : List V} {i : Int} {d : D} (r : RpA F vs ds) (h : atI ds i = some d) : ∃ v, atI vs i = some v ∧ Rp F v d := by
  unfold L2.atI at h ⊢
  rw [r.length]
  cases e : ixN ds.length i with
  | none => rw [e] at h; cases h
  | some j =>
    rw [e] at h
    exact r.get (show ds[j]? = some d from h)
def gIx : W → W → Env → Out W := fun w1 w2 ρ => match w2.asD ρ with
  | some (.int i) => match w1.seq ρ with
    | some xs => match atI xs i with
      | some d => .ok (.d d) ρ
      | none => .st
    | none => match w1.asD ρ with
      | some (.str z) => if z.length ≤ 100000 then (match atI z.cps.toList i with
        | some c => .ok (.d (.str ⟨#[c]⟩)) ρ
        | none => .st) else .st
      | _ => .st
  | _ => .st
theorem ok_ix {Γ : Cn} {Wx : WX} : Ok2 Γ Wx (rIx Γ.K) gIx := fun s v1 v2 w1 w2 H1 H2 Q R r1 r2 h => by
  unfold gIx at h
  cases e2 : w2.asD s.ρ with
  | none => rw [e2] at h; exact h.elim
  | some y =>
    rw [e2] at h
    cases y with
    | int i =>
      have q2 := (r2.data R e2).intV
      subst q2
      cases e1 : w1.seq s.ρ with
      | some xs =>
        simp only [e1] at h
        cases e3 : atI xs i with
        | none => simp only [e3] at h; exact h.elim
        | some d =>
          simp only [e3] at h
          obtain ⟨p, vs, rfl, q, q3⟩ := r1.seq R e1
          obtain ⟨v, hv, q4⟩ := q3.atI e3
          rcases q with q | q
          · exact .inl ⟨p, vs, i, v, rfl, rfl, q, hv, h.val R q4⟩
          · exact .inr (.inl ⟨p, vs, i, v, rfl, rfl, q, hv, h.val R q4⟩)
      | none =>
        simp only [e1] at h
        cases e3 : w1.asD s.ρ with
        | none => rw [e3] at h; exact h.elim
        | some z =>
          rw [e3] at h
          cases z with
          | str z =>
            simp only at h
            split at h
            · rename_i hz
              cases e4 : atI z.cps.toList i with
              | none => simp only [e4] at h; exact h.elim
              | some c =>
                simp only [e4] at h
                exact .inr (.inr ⟨z, i, c, (r1.data R e3).strV, rfl, sz5 hz, e4, h.val R (.str _)⟩)
            · exact h.elim
          | _ => exact h.elim
    | _ => exact h.elim
/-! len -/
def gLen (ws : List W) : Env → Out W := fun ρ => match ws with
  | [w] => match w.seq ρ with
    | some xs => .ok (.d (.int xs.length)) ρ
    | none => match w.asD ρ with
      | some (.str z) => if z.length ≤ 100000 then .ok (.d (.int z.length)) ρ else .st
      | _ => .st
  | _ => .st
theorem VReps.one {K : PySem.W.Frag} {H0 : Hp} {s : Sx} {vs : List V} {w : W} (r : VReps K H0 s vs [w]) : ∃ v, vs = [v] ∧ VRep K H0 s v w := by
  cases vs with
  | nil => exact r.elim
  | cons v vr =>
    cases vr with
    | nil => exact ⟨v, rfl, r.1⟩
    | cons _ _ => exact r.2.1.elim
theorem VReps.two {K : PySem.W.Frag} {H0 : Hp} {s : Sx} {vs : List V} {w w' : W} (r : VReps K H0 s vs [w, w']) : ∃ v v', vs = [v, v'] ∧ VRep K H0 s v w ∧ VRep K H0 s v' w' := by
  cases vs with
  | nil => exact r.elim
  | cons v vr =>
    obtain ⟨v', rfl, q⟩ := VReps.one r.2.1
    exact ⟨v, v', rfl, r.1, q⟩
theorem ok_len {Γ : Cn} {Wx : WX} : OkC Γ Wx (fun xs H Q => (∃ p ys, xs = [.ref p] ∧ (SqL Γ.K H p ys ∨ SqT Γ.K H p ys) ∧ Q (.int ys.length) H) ∨ ∃ z, xs = [.str z] ∧ z.length ≤ sizeLine ∧ Q (.int z.length) H) gLen := fun s vs ws s0 Q R hσ S r h => by
  have h := h.step (s1 := s) S hσ.symm
  unfold gLen at h
  cases ws with
  | nil => exact h.elim
  | cons w wr =>
    cases wr with
    | cons _ _ => exact h.elim
    | nil =>
      obtain ⟨v, rfl, q0⟩ := VReps.one r
      simp only at h
      cases e1 : w.seq s.ρ with
      | some xs =>
        simp only [e1] at h
        obtain ⟨p, vs, rfl, q, q3⟩ := q0.seq R e1
        refine .inl ⟨p, vs, rfl, q, ?_⟩
        rw [q3.length]
        exact h.val R (.int _)
      | none =>
        simp only [e1] at h
        cases e3 : w.asD s.ρ with
        | none => rw [e3] at h; exact h.elim
        | some z =>
          rw [e3] at h
          cases z with
          | str z =>
            simp only at h
            split at h
            · rename_i hz
              exact .inr ⟨z, by rw [(q0.data R e3).strV], sz5 hz, h.val R (.int _)⟩
            · exact h.elim
          | _ => exact h.elim
/-! tuple(x), list(x) -/
def gTuple (ws : List W) : Env → Out W := fun ρ => match ws with
  | [w] => match w.seq ρ with
    | some xs => .ok (.d (.tuple xs)) ρ
    | none => .st
  | _ => .st
def gList (ws : List W) : Env → Out W := fun ρ => match ws with
  | [w] => match w.seq ρ with
    | some xs => .ok (.l xs) ρ
    | none => .st
  | _ => .st
theorem one_inv {ws : List W} {α : Type} {k : W → Out α} {P : Out α → Prop} (h : P (match ws with | [w] => k w | _ => .st)) (hst : ¬ P .st) : ∃ w, ws = [w] ∧ P (k w) := by
  cases ws with
  | nil => exact (hst h).elim
  | cons w wr =>
    cases wr with
    | nil => exact ⟨w, rfl, h⟩
    | cons _ _ => exact (hst h).elim
theorem ok_tuple {Γ : Cn} {Wx : WX} : OkC Γ Wx (fun xs H Q => ∃ p ys, xs = [.ref p] ∧ ((SqL Γ.K H p ys ∧ ∀ l, H l = none → Q (.ref l) (upd H l (.tup ys))) ∨ (SqT Γ.K H p ys ∧ Q (.ref p) H))) gTuple := fun s vs ws s0 Q R hσ S r h => by
  have h := h.step (s1 := s) S hσ.symm
  unfold gTuple at h
  obtain ⟨w, rfl, h⟩ := one_inv (P := fun o => Post Γ Wx s o Q) h fun z => z
  obtain ⟨v, rfl, q0⟩ := VReps.one r
  cases e1 : w.seq s.ρ with
  | none => simp only [e1] at h; exact h.elim
  | some xs =>
    simp only [e1] at h
    unfold W.seq at e1
    cases e : w.lst s.ρ with
    | some ys =>
      rw [e] at e1
      cases e1
      obtain ⟨p, vs, rfl, q, q2⟩ := q0.lst R e
      exact ⟨p, vs, rfl, .inl ⟨q, fun l hl => h.tup R q2 hl⟩⟩
    | none =>
      rw [e] at e1
      obtain ⟨q9, p, vs, rfl, _, q, q2⟩ := q0.tup R e1
      exact ⟨p, vs, rfl, .inr ⟨SqT.of q, h.val R q9⟩⟩
theorem ok_list {Γ : Cn} {Wx : WX} : OkC Γ Wx (fun xs H Q => ∃ p ys, xs = [.ref p] ∧ (SqL Γ.K H p ys ∨ SqT Γ.K H p ys) ∧ ∀ l, H l = none → Q (.ref l) (upd H l (.lst ys))) gList := fun s vs ws s0 Q R hσ S r h => by
  have h := h.step (s1 := s) S hσ.symm
  unfold gList at h
  obtain ⟨w, rfl, h⟩ := one_inv (P := fun o => Post Γ Wx s o Q) h fun z => z
  obtain ⟨v, rfl, q0⟩ := VReps.one r
  cases e1 : w.seq s.ρ with
  | none => simp only [e1] at h; exact h.elim
  | some xs =>
    simp only [e1] at h
    obtain ⟨p, vs, rfl, q, q2⟩ := q0.seq R e1
    exact ⟨p, vs, rfl, q, fun l hl => h.lst R q2 hl⟩
end TD
namespace TD
open PySem PySem.Spec L2

/-! ### == and != of data -/
mutual
theorem Rp.dp {K : PySem.W.Frag} {F H : Hp} (h : ∀ a o, F a = some o → H a = some o) : ∀ {d : D} {v : V}, Rp F v d → d.canLay0 = true → Dp K H v d
  | _, _, .non, _ => .non
  | _, _, .bl b, _ => .bl b
  | _, _, .int i, _ => .int i
  | _, _, .str x, _ => .str x
  | _, _, .tup e r, c => .tup (SqT.of (h _ _ e)) (RpA.dp h r (by simpa [PyData.canLay0] using c))
  | _, _, .lst e r, c => .lst (SqL.of (h _ _ e)) (RpA.dp h r (by simpa [PyData.canLay0] using c))
  | _, _, .dct e, c => by simp [PyData.canLay0] at c
theorem RpA.dp {K : PySem.W.Frag} {F H : Hp} (h : ∀ a o, F a = some o → H a = some o) : ∀ {ds : List D} {vs : List V}, RpA F vs ds → PyData.canLayAll0 ds = true → DpAll K H vs ds
  | _, _, .nil, _ => .nil
  | d :: ds, _, .cons r t, c => by
    have c' : d.canLay0 = true ∧ PyData.canLayAll0 ds = true := by simpa [PyData.canLayAll0] using c
    exact .cons (Rp.dp h r c'.1) (RpA.dp h t c'.2)
end
theorem canLay_list {xs : List D} (h : SeqAt.shaped (.list xs) = true) : PyData.canLayAll0 xs = true := by
  have q := SeqAt.canLay_of_shaped h
  simpa [PyData.canLay0] using q
theorem VRep.dp {K : PySem.W.Frag} {H0 : Hp} {s : Sx} {v : V} {w : W} {x : D} (R : Rel K s) (r : VRep K H0 s v w) (h : w.toD s.ρ = some x) (c : SeqAt.shaped x = true) : Dp K s.H v x := by
  have c0 := SeqAt.canLay_of_shaped c
  cases w with
  | d y => cases h; exact Rp.dp R.sub r c0
  | l ys =>
    cases h
    obtain ⟨p, vs, rfl, q, q2, _⟩ := r
    exact .lst (SqL.of q) (q2.dp R.sub (canLay_list c))
  | t _ => cases h
  | c i =>
    have r' : s.σ[i]? = some (some v) := r
    simp only [W.toD] at h
    cases hb : s.ρ[i]? with
    | none => rw [hb] at h; cases h
    | some o =>
      cases o with
      | none => rw [hb] at h; cases h
      | some b =>
        rw [hb] at h
        have hx : b.isX = false := by cases b <;> first | rfl | cases h
        obtain ⟨v', hv, q⟩ := R.slot i _ hb
        rw [r'] at hv
        cases hv
        cases b with
        | x => cases h
        | d y => cases h; exact Rp.dp R.sub q c0
        | s ys =>
          cases h
          obtain ⟨p, vs, rfl, q1, q2⟩ := q
          exact .lst (sub_sqL R.sub q1) (q2.dp R.sub (canLay_list c))
        | l ys =>
          cases h
          obtain ⟨p, vs, rfl, q1, q2⟩ := q
          exact .lst (SqL.of q1) (q2.dp R.sub (canLay_list c))
        | t _ => cases h
def gEqB (neg : Bool) (w1 w2 : W) : Env → Out W := fun ρ => match w1.toD ρ, w2.toD ρ with
  | some x, some y => if SeqAt.shaped x = true ∧ SeqAt.shaped y = true then .ok (.d (.bool (if neg then !(PyData.eqv x y) else PyData.eqv x y))) ρ else .st
  | _, _ => .st
abbrev gEq := gEqB false
abbrev gNe := gEqB true
section
variable {X : Cx} {Γ : Cn} {Wx : WX}
theorem ok_eq : Ok2 Γ Wx (rEqD Γ.K) gEq := fun s v1 v2 w1 w2 H1 H2 Q R r1 r2 h => by
  unfold gEq gEqB at h
  cases e1 : w1.toD s.ρ with
  | none => simp only [e1] at h; exact h.elim
  | some x =>
    cases e2 : w2.toD s.ρ with
    | none => simp only [e1, e2] at h; exact h.elim
    | some y =>
      simp only [e1, e2] at h
      split at h
      · rename_i c
        exact ⟨x, y, r1.dp R e1 c.1, r2.dp R e2 c.2, c.1, c.2, h.val R (.bl _)⟩
      · exact h.elim
theorem ok_ne : Ok2 Γ Wx (rNeD Γ.K) gNe := fun s v1 v2 w1 w2 H1 H2 Q R r1 r2 h => by
  unfold gNe gEqB at h
  cases e1 : w1.toD s.ρ with
  | none => simp only [e1] at h; exact h.elim
  | some x =>
    cases e2 : w2.toD s.ρ with
    | none => simp only [e1, e2] at h; exact h.elim
    | some y =>
      simp only [e1, e2] at h
      split at h
      · rename_i c
        exact ⟨x, y, r1.dp R e1 c.1, r2.dp R e2 c.2, c.1, c.2, h.val R (.bl _)⟩
      · exact h.elim
/-! ### whole numbers -/
def gB (f : Int → Int → Bool) : D → D → Option D
  | .int i, .int j => some (.bool (f i j))
  | _, _ => none
theorem gB_inv {f : Int → Int → Bool} {x y z : D} (h : gB f x y = some z) : ∃ i j, x = .int i ∧ y = .int j ∧ z = .bool (f i j) := by
  unfold gB at h
  split at h
  · rename_i i j
    cases h
    exact ⟨i, j, rfl, rfl, rfl⟩
  · cases h
theorem ok2_B {f : Int → Int → Bool} : Ok2 Γ Wx (rI0 fun i j => .bl (f i j)) (p2 (gB f)) := fun s v1 v2 w1 w2 H1 H2 Q R r1 r2 h => by
  obtain ⟨x, y, z, q1, q2, hg, h⟩ := p2_inv R r1 r2 h
  obtain ⟨i, j, rfl, rfl, rfl⟩ := gB_inv hg
  exact ⟨i, j, q1.intV, q2.intV, h.val R (.bl _)⟩
theorem ok2_I0 {f : Int → Int → Int} : Ok2 Γ Wx (rI0 fun i j => .int (f i j)) (p2 (gI (fun _ _ => true) f)) := fun s v1 v2 w1 w2 H1 H2 Q R r1 r2 h => by
  obtain ⟨x, y, z, q1, q2, hg, h⟩ := p2_inv R r1 r2 h
  obtain ⟨i, j, rfl, rfl, _, rfl⟩ := gI_inv hg
  exact ⟨i, j, q1.intV, q2.intV, h.val R (.int _)⟩
abbrev gLt := p2 (gB fun i j => decide (i < j))
abbrev gLe := p2 (gB fun i j => decide (i ≤ j))
abbrev gGt := p2 (gB fun i j => decide (j < i))
abbrev gGe := p2 (gB fun i j => decide (j ≤ i))
abbrev gSub := p2 (gI (fun _ _ => true) fun i j => i - j)
/-- // by a positive number below 2^30 -/
abbrev gDiv := p2 (gI (fun _ j => decide (0 < j) && decide (j < 1073741824)) fun i j => i / j)
abbrev gMod := p2 (gI (fun _ j => decide (0 < j)) fun i j => i % j)
abbrev gPow := p2 (gI (fun i j => decide (0 ≤ j) && decide (j ≤ 1000000) && decide (i.natAbs < 18446744073709551616)) fun i j => i ^ j.toNat)
theorem ok_lt : Ok2 Γ Wx (rI0 fun i j => .bl (decide (i < j))) gLt := ok2_B
theorem ok_le : Ok2 Γ Wx (rI0 fun i j => .bl (decide (i ≤ j))) gLe := ok2_B
theorem ok_gt : Ok2 Γ Wx (rI0 fun i j => .bl (decide (j < i))) gGt := ok2_B
theorem ok_ge : Ok2 Γ Wx (rI0 fun i j => .bl (decide (j ≤ i))) gGe := ok2_B
theorem ok_sub : Ok2 Γ Wx (rI0 fun i j => .int (i - j)) gSub := ok2_I0
theorem ok_div : Ok2 Γ Wx (rI CDiv fun i j => .int (i / j)) gDiv := ok2_I fun i j h => by simpa [CDiv] using h
theorem ok_mod : Ok2 Γ Wx (rI (fun _ j => 0 < j) fun i j => .int (i % j)) gMod := ok2_I fun i j h => by simpa using h
theorem ok_pow : Ok2 Γ Wx (rI CPow fun i j => .int (i ^ j.toNat)) gPow := ok2_I fun i j h => by
  simp only [Bool.and_eq_true, decide_eq_true_eq] at h
  exact ⟨h.1.1, h.1.2, by omega⟩
def gNeg (w : W) : Env → Out W := fun ρ => match w.asD ρ with
  | some (.int i) => .ok (.d (.int (-i))) ρ
  | _ => .st
theorem ok_neg : Ok1 Γ Wx (rU fun i => .int (-i)) gNeg := fun s v w H1 Q R r h => by
  unfold gNeg at h
  cases e : w.asD s.ρ with
  | none => rw [e] at h; exact h.elim
  | some x =>
    rw [e] at h
    cases x with
    | int i => exact ⟨i, (r.data R e).intV, h.val R (.int _)⟩
    | _ => exact h.elim
/-! ### +: numbers, texts, tuples, lists -/
def rAddAll (K : PySem.W.Frag) : R2 := fun x y H Q => (rI0 (fun i j => .int (i + j))) x y H Q ∨ (∃ i j, x = .str i ∧ y = .str j ∧ i.length + j.length ≤ sizeLine ∧ Q (.str (i ++ j)) H) ∨ rCatA K x y H Q ∨ rCat x y H Q
theorem op_addAll : OpR X (binaryOp .Add) (rAddAll X.K) := OpR.or op_add (OpR.or op_add_str (OpR.or op_catA op_cat))
/-- the items of a list that may be joined to another one (the script may not) -/
def W.own (ρ : Env) : W → Option (List D)
  | .d (.list xs) => some xs
  | .l xs => some xs
  | .c i => match ρ[i]? with
    | some (some (.d (.list xs))) => some xs
    | some (some (.l xs)) => some xs
    | _ => none
  | _ => none
theorem VRep.own {K : PySem.W.Frag} {H0 : Hp} {s : Sx} {v : V} {w : W} {xs : List D} (R : Rel K s) (r : VRep K H0 s v w) (h : w.own s.ρ = some xs) : ∃ p vs, v = .ref p ∧ s.H p = some (.lst vs) ∧ RpA s.F vs xs := by
  have fin : Rp s.F v (.list xs) → ∃ p vs, v = .ref p ∧ s.H p = some (.lst vs) ∧ RpA s.F vs xs := fun q => by
    cases q with
    | lst e q => exact ⟨_, _, rfl, R.sub _ _ e, q⟩
  cases w with
  | d x =>
    cases x with
    | list ys => cases h; exact fin r
    | _ => cases h
  | l ys =>
    cases h
    obtain ⟨p, vs, e, q, q2, _⟩ := r
    exact ⟨p, vs, e, q, q2⟩
  | t ys => cases h
  | c i =>
    have r' : s.σ[i]? = some (some v) := r
    simp only [W.own] at h
    cases hb : s.ρ[i]? with
    | none => rw [hb] at h; cases h
    | some o =>
      cases o with
      | none => rw [hb] at h; cases h
      | some b =>
        rw [hb] at h
        have hx : b.isX = false := by cases b <;> first | rfl | cases h
        obtain ⟨v', hv, q⟩ := R.slot i _ hb
        rw [r'] at hv
        cases hv
        cases b with
        | x => cases h
        | d y =>
          cases y with
          | list ys => cases h; exact fin q
          | _ => cases h
        | s ys => cases h
        | l ys =>
          cases h
          exact q
        | t _ => cases h
def gAdd (w1 w2 : W) : Env → Out W := fun ρ => match w1.asD ρ, w2.asD ρ with
  | some (.int i), some (.int j) => .ok (.d (.int (i + j))) ρ
  | some (.str x), some (.str y) => if x.length + y.length ≤ 100000 then .ok (.d (.str (x ++ y))) ρ else .st
  | some (.tuple xs), some (.tuple ys) => if xs.length + ys.length ≤ 100000 then .ok (.d (.tuple (xs ++ ys))) ρ else .st
  | _, _ => match w1.own ρ, w2.own ρ with
    | some xs, some ys => if xs.length + ys.length ≤ 100000 then .ok (.l (xs ++ ys)) ρ else .st
    | _, _ => .st
theorem gAdd_cases {s : Sx} {w1 w2 : W} {P : Out W → Prop} (h : P (gAdd w1 w2 s.ρ)) (hst : ¬ P .st) :
    (∃ i j, w1.asD s.ρ = some (.int i) ∧ w2.asD s.ρ = some (.int j) ∧ P (.ok (.d (.int (i + j))) s.ρ)) ∨
    (∃ x y, w1.asD s.ρ = some (.str x) ∧ w2.asD s.ρ = some (.str y) ∧ x.length + y.length ≤ 100000 ∧ P (.ok (.d (.str (x ++ y))) s.ρ)) ∨
    (∃ xs ys, w1.asD s.ρ = some (.tuple xs) ∧ w2.asD s.ρ = some (.tuple ys) ∧ xs.length + ys.length ≤ 100000 ∧ P (.ok (.d (.tuple (xs ++ ys))) s.ρ)) ∨
    (∃ xs ys, w1.own s.ρ = some xs ∧ w2.own s.ρ = some ys ∧ xs.length + ys.length ≤ 100000 ∧ P (.ok (.l (xs ++ ys)) s.ρ)) := by
  unfold gAdd at h
  split at h
  · rename_i i j e1 e2
    exact .inl ⟨i, j, e1, e2, h⟩
  · rename_i x y e1 e2
    split at h
    · rename_i hl
      exact .inr (.inl ⟨x, y, e1, e2, hl, h⟩)
    · exact (hst h).elim
  · rename_i x y e1 e2
    split at h
    · rename_i hl
      exact .inr (.inr (.inl ⟨x, y, e1, e2, hl, h⟩))
    · exact (hst h).elim
  · split at h
    · rename_i xs ys e1 e2
      split at h
      · rename_i hl
        exact .inr (.inr (.inr ⟨xs, ys, e1, e2, hl, h⟩))
      · exact (hst h).elim
    · exact (hst h).elim
theorem tup_inv {F : Hp} {v : V} {xs : List D} (r : Rp F v (.tuple xs)) : ∃ p vs, v = .ref p ∧ F p = some (.tup vs) ∧ RpA F vs xs := by
  cases r with
  | tup e q => exact ⟨_, _, rfl, e, q⟩
theorem RpA.nil_iff {F : Hp} {vs : List V} {xs : List D} (r : RpA F vs xs) : vs = [] ↔ xs = [] := by
  cases r <;> simp
theorem ok_add : Ok2 Γ Wx (rAddAll Γ.K) gAdd := fun s v1 v2 w1 w2 H1 H2 Q R r1 r2 h => by
  rcases gAdd_cases (P := fun o => Post Γ Wx s o Q) h (fun z => z) with ⟨i, j, e1, e2, h⟩ | ⟨x, y, e1, e2, hl, h⟩ | ⟨xs, ys, e1, e2, hl, h⟩ | ⟨xs, ys, e1, e2, hl, h⟩
  · exact .inl ⟨i, j, (r1.data R e1).intV, (r2.data R e2).intV, h.val R (.int _)⟩
  · exact .inr (.inl ⟨x, y, (r1.data R e1).strV, (r2.data R e2).strV, sz5 hl, h.val R (.str _)⟩)
  · obtain ⟨p, vs, rfl, f1, q1⟩ := tup_inv (r1.data R e1)
    obtain ⟨p', us, rfl, f2, q2⟩ := tup_inv (r2.data R e2)
    refine .inr (.inr (.inl ⟨p, p', vs, us, rfl, rfl, SqT.of (R.sub _ _ f1), SqT.of (R.sub _ _ f2), by rw [q1.length, q2.length]; exact sz5 hl, fun z => ?_, fun z z' => ?_, fun z z' l hp => ?_⟩))
    · have e := q1.nil_iff.mp z
      subst e
      exact h.val R (r2.data R e2)
    · have e := q2.nil_iff.mp z'
      subst e
      rw [List.append_nil] at h
      exact h.val R (r1.data R e1)
    · exact h.tup R (q1.append q2) hp
  · obtain ⟨p, vs, rfl, f1, q1⟩ := r1.own R e1
    obtain ⟨p', us, rfl, f2, q2⟩ := r2.own R e2
    exact .inr (.inr (.inr ⟨p, p', vs, us, rfl, rfl, f1, f2, by rw [q1.length, q2.length]; exact sz5 hl, fun l hp => h.lst R (q1.append q2) hp⟩))
/-! ### slices -/
def cutD {α : Type} (xs : List α) (lo hi : Option Int) : List α := (xs.drop (HT.sIx xs.length 0 lo)).take (HT.sIx xs.length xs.length hi - HT.sIx xs.length 0 lo)
theorem RpA.cut {F : Hp} {vs : List V} {xs : List D} (r : RpA F vs xs) (lo hi : Option Int) : RpA F (cutV vs lo hi) (cutD xs lo hi) := by
  unfold cutV cutD
  rw [r.length]
  exact (r.drop _).take _
theorem cut_whole {α : Type} {xs : List α} {lo hi : Option Int} (h : HT.sIx xs.length 0 lo = 0 ∧ HT.sIx xs.length xs.length hi = xs.length) : cutD xs lo hi = xs := by
  unfold cutD
  rw [h.1, h.2]
  simp
def rSlAll (K : PySem.W.Frag) : V → Option Int → Option Int → Hp → VK → Prop := fun x lo hi H Q => rSlA K x lo hi H Q ∨ rSlL K x lo hi H Q ∨ rSlS x lo hi H Q
theorem sl_all : SlR X (rSlAll X.K) := SlR.or sl_tupA (SlR.or sl_list sl_str)
def gSl (w : W) (lo hi : Option Int) : Env → Out W := fun ρ => match w.lst ρ with
  | some xs => .ok (.l (cutD xs lo hi)) ρ
  | none => match w.asD ρ with
    | some (.tuple xs) => .ok (.d (.tuple (cutD xs lo hi))) ρ
    | some (.str z) => if z.length ≤ 100000 then .ok (.d (.str (cutS z lo hi))) ρ else .st
    | _ => .st
def Mo := Mx (Option Int)
def oNone : Mx (Option Int) := fun ρ => .ok none ρ
def oSome (f : Mx W) : Mx (Option Int) := bnd f fun w ρ => match w.asD ρ with
  | some (.int i) => .ok (some i) ρ
  | _ => .st
def mSl (f : Mx W) (lo hi : Mx (Option Int)) : Mx W := bnd f fun w => bnd lo fun a => bnd hi fun b => gSl w a b
def PostO (Γ : Cn) (Wx : WX) (s : Sx) (o : Out (Option Int)) (Q : Option Int → Hp → Prop) : Prop :=
  match o with
  | .ok b ρ' => ∀ F' H', Rel Γ.K ⟨F', s.σ, H', ρ'⟩ → Step Γ.np s ⟨F', s.σ, H', ρ'⟩ → Q b H'
  | .er c ρ' => ∀ F' H' C, Γ.mg c = some (.ref C) → Rel Γ.K ⟨F', s.σ, H', ρ'⟩ → Step Γ.np s ⟨F', s.σ, H', ρ'⟩ → Wx (.ref C) none s.σ H'
  | .st => False
def tOo (Γ : Cn) (Wx : WX) (f : Mx (Option Int)) : TO := fun σ H Q => ∃ F ρ, Rel Γ.K ⟨F, σ, H, ρ⟩ ∧ PostO Γ Wx ⟨F, σ, H, ρ⟩ (f ρ) Q
abbrev DO (X : Cx) (Γ : Cn) (Wx : WX) (e : Option Expr) (f : Mx (Option Int)) : Prop := PO X e (tOo Γ Wx f)
theorem PO.imp {e : Option Expr} {t t' : TO} (h : PO X e t) (i : ∀ σ H Q, t' σ H Q → t σ H Q) : PO X e t' := ⟨fun pins s σ H Q I q => h.run pins s σ H Q I (i σ H Q q)⟩
variable {a b c e : Expr} {f g f1 f2 : Mx W} {pos : Pos}
theorem do_none : DO X Γ Wx none oNone := PO.imp po_none fun σ H Q ⟨F, ρ, R, h⟩ => h F H R (Step.refl _)
theorem do_some (h : DE X Γ Wx e f) : DO X Γ Wx (some e) (oSome f) := PO.imp (po_some h) fun σ H Q ⟨F, ρ, R, h⟩ => ⟨F, ρ, R, by
  unfold oSome bnd at h
  cases e1 : f ρ with
  | ok w ρ1 =>
    rw [e1] at h
    intro v F1 H1 R1 S1 r
    simp only at h
    cases e2 : w.asD ρ1 with
    | none => rw [e2] at h; exact h.elim
    | some x =>
      rw [e2] at h
      cases x with
      | int i => exact ⟨i, (VRep.data (s := ⟨F1, σ, H1, ρ1⟩) R1 r e2).intV, h F1 H1 R1 S1⟩
      | _ => exact h.elim
  | er c ρ1 => rw [e1] at h; exact h
  | st => rw [e1] at h; exact h⟩
theorem post_bndO {s : Sx} {Q : VK} {m : Mx (Option Int)} {k : Option Int → Mx W} {K : Option Int → Hp → Prop} (h : Post Γ Wx s (bnd m k s.ρ) Q)
    (hk : ∀ b F1 H1 ρ1, Rel Γ.K ⟨F1, s.σ, H1, ρ1⟩ → Step Γ.np s ⟨F1, s.σ, H1, ρ1⟩ → Post Γ Wx ⟨F1, s.σ, H1, ρ1⟩ (k b ρ1) Q → K b H1) : PostO Γ Wx s (m s.ρ) K := by
  unfold bnd at h
  cases e : m s.ρ with
  | ok w ρ1 =>
    rw [e] at h
    exact fun F1 H1 R1 S1 => hk w F1 H1 ρ1 R1 S1 (Post.step (s1 := ⟨F1, s.σ, H1, ρ1⟩) S1 rfl h)
  | er c ρ1 => rw [e] at h; exact h
  | st => rw [e] at h; exact h
theorem ok_sl {s : Sx} {v : V} {w : W} {H1 : Hp} {lo hi : Option Int} {Q : VK} (R : Rel Γ.K s) (r : VRep Γ.K H1 s v w) (h : Post Γ Wx s (gSl w lo hi s.ρ) Q) : rSlAll Γ.K v lo hi s.H Q := by
  unfold gSl at h
  cases e1 : w.lst s.ρ with
  | some xs =>
    simp only [e1] at h
    obtain ⟨p, vs, rfl, q, q2⟩ := r.lst R e1
    exact .inr (.inl ⟨p, vs, rfl, q, fun l hl => h.lst R (q2.cut lo hi) hl⟩)
  | none =>
    simp only [e1] at h
    cases e2 : w.asD s.ρ with
    | none => rw [e2] at h; exact h.elim
    | some x =>
      rw [e2] at h
      cases x with
      | tuple xs =>
        obtain ⟨p, vs, rfl, f1, q1⟩ := tup_inv (r.data R e2)
        refine .inl ⟨p, vs, rfl, SqT.of (R.sub _ _ f1), fun z => ?_, fun z l hl => h.tup R (q1.cut lo hi) hl⟩
        rw [q1.length] at z
        have h' : Post Γ Wx s (.ok (.d (.tuple (cutD xs lo hi))) s.ρ) Q := h
        rw [cut_whole z] at h'
        exact h'.val R (r.data R e2)
      | str z =>
        simp only at h
        split at h
        · rename_i hz
          exact .inr (.inr ⟨z, (r.data R e2).strV, sz5 hz, h.val R (.str _)⟩)
        · exact h.elim
      | _ => exact h.elim
theorem de_slice {lo hi : Option Expr} {p2 : Pos} {ml mh : Mx (Option Int)} (he : DE X Γ Wx e f) (hl : DO X Γ Wx lo ml) (hh : DO X Γ Wx hi mh) (hK : X.K = Γ.K) : DE X Γ Wx (.Subscript e (.Slice lo hi none p2) pos) (mSl f ml mh) :=
  PE.imp (pe_slice sl_all he hl hh) fun σ H Q ⟨F, ρ, R, h⟩ => ⟨F, ρ, R, post_bnd (s := ⟨F, σ, H, ρ⟩) h fun v w F1 H1 ρ1 R1 S1 r1 h1 => ⟨F1, ρ1, R1, post_bndO (s := ⟨F1, σ, H1, ρ1⟩) h1 fun i F2 H2 ρ2 R2 S2 h2 =>
    ⟨F2, ρ2, R2, post_bndO (s := ⟨F2, σ, H2, ρ2⟩) h2 fun j F3 H3 ρ3 R3 S3 h3 => by
      rw [hK]
      exact ok_sl (s := ⟨F3, σ, H3, ρ3⟩) R3 (VRep.held (s := ⟨F2, σ, H2, ρ2⟩) R2 S3 rfl (VRep.held (s := ⟨F1, σ, H1, ρ1⟩) R1 S2 rfl r1)) h3⟩⟩⟩
end
end TD
namespace TD
open PySem PySem.Spec L2

/-! ### targets -/
abbrev Bd := D → Env → Option Env
def OkG (Γ : Cn) (g : TG) (bd : Bd) : Prop := ∀ (s : Sx) (v : V) (d : D) (ρ1 : Env) (Q : St → Hp → Prop), Rel Γ.K s → Rp s.F v d → bd d s.ρ = some ρ1 →
  (∀ σ1, Rel Γ.K ⟨s.F, σ1, s.H, ρ1⟩ → Step Γ.np s ⟨s.F, σ1, s.H, ρ1⟩ → Q σ1 s.H) → g v s.σ s.H Q
/-- .. and only the slots vs change -/
def OkGw (Γ : Cn) (vs : List Nat) (g : TG) (bd : Bd) : Prop := ∀ (s : Sx) (v : V) (d : D) (ρ1 : Env) (Q : St → Hp → Prop), Rel Γ.K s → Rp s.F v d → bd d s.ρ = some ρ1 →
  (∀ σ1, wipe σ1 vs = wipe s.σ vs → Rel Γ.K ⟨s.F, σ1, s.H, ρ1⟩ → Step Γ.np s ⟨s.F, σ1, s.H, ρ1⟩ → Q σ1 s.H) → g v s.σ s.H Q
theorem OkGw.ok {Γ : Cn} {vs : List Nat} {g : TG} {bd : Bd} (h : OkGw Γ vs g bd) : OkG Γ g bd := fun s v d ρ1 Q R r e q => h s v d ρ1 Q R r e fun σ1 _ R' S' => q σ1 R' S'
theorem wipe_set_mem {σ : St} {x : Option V} {i : Nat} : ∀ {vs : List Nat}, i ∈ vs → wipe (σ.set i x) vs = wipe σ vs
  | v :: vs, h => by
    show (wipe (σ.set i x) vs).set v none = (wipe σ vs).set v none
    by_cases hi : i ∈ vs
    · rw [wipe_set_mem hi]
    · have e : i = v := by
        rcases List.mem_cons.mp h with z | z
        · exact z
        · exact absurd z hi
      subst e
      have q : ∀ {vs : List Nat}, i ∉ vs → wipe (σ.set i x) vs = (wipe σ vs).set i x := by
        intro vs
        induction vs with
        | nil => intro _; rfl
        | cons v vs ih =>
          intro hn
          show (wipe (σ.set i x) vs).set v none = ((wipe σ vs).set v none).set i x
          rw [ih (fun z => hn (List.mem_cons_of_mem _ z)), List.set_comm]
          exact fun z => hn (by rw [z]; exact List.mem_cons_self)
      rw [q hi, List.set_set]
def bdN (np i : Nat) : Bd := fun d ρ => put np i (.d d) ρ
theorem okGw_name {Γ : Cn} {i : Nat} {vs : List Nat} (h : i ∈ vs) : OkGw Γ vs (gName i) (bdN Γ.np i) := fun s v d ρ1 Q R r e q => by
  obtain ⟨R', S'⟩ := put_ok (b := .d d) R (Step.refl (np := Γ.np) s) e r fun z => by cases z
  exact q _ (wipe_set_mem h) R' S'
theorem okG_name {Γ : Cn} {i : Nat} : OkG Γ (gName i) (bdN Γ.np i) := fun s v d ρ1 Q R r e q => by
  obtain ⟨R', S'⟩ := put_ok (b := .d d) R (Step.refl (np := Γ.np) s) e r fun z => by cases z
  exact q _ R' S'
/-! several targets -/
def bdAll : List Bd → List D → Env → Option Env
  | [], [], ρ => some ρ
  | b :: bs, d :: ds, ρ => (b d ρ).bind fun ρ1 => bdAll bs ds ρ1
  | _, _, _ => none
def OkGsw (Γ : Cn) (vs : List Nat) (t : TGs) (bds : List Bd) : Prop := ∀ (s : Sx) (us : List V) (ds : List D) (ρ1 : Env) (Q : St → Hp → Prop), Rel Γ.K s → RpA s.F us ds → bdAll bds ds s.ρ = some ρ1 →
  (∀ σ1, wipe σ1 vs = wipe s.σ vs → Rel Γ.K ⟨s.F, σ1, s.H, ρ1⟩ → Step Γ.np s ⟨s.F, σ1, s.H, ρ1⟩ → Q σ1 s.H) → t us s.σ s.H Q
theorem okGs_nil {Γ : Cn} {vs : List Nat} : OkGsw Γ vs gNil [] := fun s us ds ρ1 Q R r e q => by
  cases ds with
  | cons _ _ => cases e
  | nil =>
    cases r
    cases e
    exact ⟨rfl, q s.σ rfl R (Step.refl _)⟩
theorem okGs_cons {Γ : Cn} {vs : List Nat} {g : TG} {t : TGs} {b : Bd} {bs : List Bd} (h : OkGw Γ vs g b) (h2 : OkGsw Γ vs t bs) : OkGsw Γ vs (gCons g t) (b :: bs) := fun s us ds ρ1 Q R r e q => by
  cases ds with
  | nil => cases e
  | cons d ds =>
    cases r with
    | cons r1 rr =>
      simp only [bdAll] at e
      cases e1 : b d s.ρ with
      | none => rw [e1] at e; cases e
      | some ρ2 =>
        rw [e1] at e
        refine ⟨_, _, rfl, h s _ d ρ2 _ R r1 e1 fun σ1 hw R1 S1 => ?_⟩
        exact h2 ⟨s.F, σ1, s.H, ρ2⟩ _ ds ρ1 Q R1 rr e fun σ2 hw2 R2 S2 => q σ2 (hw2.trans hw) R2 (S1.trans S2)
def bdT (bds : List Bd) : Bd := fun d ρ => match d with
  | .tuple ds => bdAll bds ds ρ
  | _ => none
theorem bdAll_len : ∀ {bds : List Bd} {ds : List D} {ρ ρ1 : Env}, bdAll bds ds ρ = some ρ1 → ds.length = bds.length
  | [], [], _, _, _ => rfl
  | b :: bs, d :: ds, ρ, ρ1, h => by
    simp only [bdAll] at h
    cases e : b d ρ with
    | none => rw [e] at h; cases h
    | some ρ2 => rw [e] at h; exact congrArg (· + 1) (bdAll_len (bds := bs) (ds := ds) h)
  | [], _ :: _, _, _, h => by cases h
  | _ :: _, [], _, _, h => by cases h
theorem okGw_tup {Γ : Cn} {vs : List Nat} {n : Nat} {t : TGs} {bds : List Bd} (h : OkGsw Γ vs t bds) (hn : bds.length = n) : OkGw Γ vs (L2.gTup Γ.K n t) (bdT bds) := fun s v d ρ1 Q R r e q => by
  cases d with
  | tuple ds =>
    have e' : bdAll bds ds s.ρ = some ρ1 := e
    obtain ⟨p, us, rfl, f, ra⟩ := tup_inv r
    exact ⟨p, us, rfl, SqT.of (R.sub _ _ f), by rw [ra.length, bdAll_len e', hn], h s us ds ρ1 Q R ra e' q⟩
  | _ => cases e
/-! ### what is walked -/
/-- the cell in the slot that is walked is set aside -/
def outR (ρ : Env) : Option Nat → Env
  | none => ρ
  | some j => ρ.set j none
def Sx.out (s : Sx) (mv : Option Nat) : Sx := ⟨s.F, s.σ, s.H, outR s.ρ mv⟩
abbrev Walk := List D × Option Nat
theorem outR_some {ρ : Env} {mv : Option Nat} {i : Nat} {b : B} (h : (outR ρ mv)[i]? = some (some b)) : ρ[i]? = some (some b) ∧ mv ≠ some i := by
  cases mv with
  | none => exact ⟨h, fun z => by cases z⟩
  | some j =>
    have h' : (ρ.set j none)[i]? = some (some b) := h
    by_cases hj : i = j
    · subst hj
      by_cases hl : i < ρ.length
      · rw [List.getElem?_set_self hl] at h'; cases h'
      · rw [List.getElem?_eq_none (by simpa using hl)] at h'; cases h'
    · rw [List.getElem?_set_ne (Ne.symm hj)] at h'
      exact ⟨h', fun z => hj (by cases z; rfl)⟩
theorem CellAt.ofOut {s : Sx} {mv : Option Nat} {i : Nat} {a : Addr} (c : CellAt (s.out mv) i a) : CellAt s i a ∧ mv ≠ some i := by
  obtain ⟨h1, b, h2, h3⟩ := c
  obtain ⟨h4, h5⟩ := outR_some h2
  exact ⟨⟨h1, b, h4, h3⟩, h5⟩
theorem Rel.out {K : PySem.W.Frag} {s : Sx} (R : Rel K s) (mv : Option Nat) : Rel K (s.out mv) where
  sub := R.sub
  len := by
    show s.σ.length = (outR s.ρ mv).length
    cases mv with
    | none => exact R.len
    | some j => show _ = (s.ρ.set j none).length; rw [List.length_set]; exact R.len
  slotX := fun i b hb hx => R.slotX i b (outR_some hb).1 hx
  sep := fun i j a c1 c2 => R.sep i j a c1.ofOut.1 c2.ofOut.1
  own := fun i a c => R.own i a c.ofOut.1
/-- what is no cell is kept -/
structure Keep (s s' : Sx) : Prop where
  keep : ∀ a o, s.H a = some o → ¬ Cell s a → s'.H a = some o
  fz : ∀ a o, s.H a = some o → ¬ Cell s a → s'.F a = s.F a
theorem Step.kp {np : Nat} {s s' : Sx} (S : Step np s s') : Keep s s' := ⟨S.keep, S.fz⟩
theorem Keep.mono {K : PySem.W.Frag} {s s' : Sx} (a : Keep s s') (R : Rel K s) : ∀ x o, s.F x = some o → s'.F x = some o := fun x o h =>
  (a.fz x o (R.sub x o h) (R.nocell h)).trans h
def IterOk (Γ : Cn) (s1 : Sx) (J : It) (items : List D) : Prop :=
  ∀ (i : Nat) (s : Sx), Keep s1 s → Rel Γ.K s →
    (items.length ≤ i → J.stop i s.H) ∧ ∀ d, items[i]? = some d → J.go i s.H ∧ ∀ v H', J.yld i s.H v H' → ∃ F', Rel Γ.K ⟨F', s.σ, H', s.ρ⟩ ∧ Step Γ.np s ⟨F', s.σ, H', s.ρ⟩ ∧ Rp F' v d
/-- what is set aside stands in its slot -/
def MvOk (ρ : Env) (w : Walk) : Prop := ∀ j, w.2 = some j → ρ[j]? = some (some (.l w.1))
def PostI (Γ : Cn) (Wx : WX) (s : Sx) (o : Out Walk) (Q : It → Hp → Prop) : Prop :=
  match o with
  | .ok w ρ' => ∀ J F' H', Rel Γ.K ⟨F', s.σ, H', ρ'⟩ → Step Γ.np s ⟨F', s.σ, H', ρ'⟩ → MvOk ρ' w → IterOk Γ (Sx.out ⟨F', s.σ, H', ρ'⟩ w.2) J w.1 → Q J H'
  | .er c ρ' => ∀ F' H' C, Γ.mg c = some (.ref C) → Rel Γ.K ⟨F', s.σ, H', ρ'⟩ → Step Γ.np s ⟨F', s.σ, H', ρ'⟩ → Wx (.ref C) none s.σ H'
  | .st => False
def tI (Γ : Cn) (Wx : WX) (f : Mx Walk) : TI := fun σ H R => ∃ F ρ, Rel Γ.K ⟨F, σ, H, ρ⟩ ∧ PostI Γ Wx ⟨F, σ, H, ρ⟩ (f ρ) R
abbrev DI (X : Cx) (Γ : Cn) (Wx : WX) (tg iter : Expr) (f : Mx Walk) : Prop := PI X tg iter (tI Γ Wx f)
theorem PI.imp {X : Cx} {tg iter : Expr} {t t' : TI} (h : PI X tg iter t) (i : ∀ σ H Q, t' σ H Q → t σ H Q) : PI X tg iter t' := ⟨fun pins s σ H Q I q => h.run pins s σ H Q I (i σ H Q q)⟩
theorem PI.or {X : Cx} {tg iter : Expr} {t t' : TI} (h : PI X tg iter t) (h' : PI X tg iter t') : PI X tg iter (fun σ H R => t σ H R ∨ t' σ H R) := ⟨fun pins s σ H R I q => q.elim (h.run pins s σ H R I) (h'.run pins s σ H R I)⟩
/-! a list, a tuple, a text -/
def W.walkL (ρ : Env) : W → Option Walk
  | .d (.list xs) => some (xs, none)
  | .l xs => some (xs, none)
  | .c i => match ρ[i]? with
    | some (some (.d (.list xs))) => some (xs, none)
    | some (some (.s xs)) => some (xs, none)
    | some (some (.l xs)) => some (xs, some i)
    | _ => none
  | _ => none
def mWalk (f : Mx W) : Mx Walk := bnd f fun w ρ => match w.walkL ρ with
  | some k => .ok k ρ
  | none => match w.asD ρ with
    | some (.tuple xs) => .ok (xs, none) ρ
    | some (.str z) => .ok (z.cps.toList.map fun c => PyData.str ⟨#[c]⟩, none) ρ
    | _ => .st
theorem walkL_ok {K : PySem.W.Frag} {H0 : Hp} {s : Sx} {v : V} {w : W} {k : Walk} (R : Rel K s) (r : VRep K H0 s v w) (h : w.walkL s.ρ = some k) :
    ∃ p vs, v = .ref p ∧ SqL K s.H p vs ∧ MvOk s.ρ k ∧ ∀ s', Keep (s.out k.2) s' → Rel K s' → SqL K s'.H p vs ∧ RpA s'.F vs k.1 := by
  have fin : ∀ {xs : List D}, Rp s.F v (.list xs) → ∃ p vs, v = .ref p ∧ SqL K s.H p vs ∧ MvOk s.ρ (xs, none) ∧ ∀ s', Keep (s.out none) s' → Rel K s' → SqL K s'.H p vs ∧ RpA s'.F vs xs := fun q => by
    cases q with
    | lst e q => exact ⟨_, _, rfl, SqL.of (R.sub _ _ e), (fun j z => by cases z), fun s' S' R' => ⟨SqL.of (R'.sub _ _ (S'.mono (R.out none) _ _ e)), q.mono (S'.mono (R.out none))⟩⟩
  cases w with
  | d x =>
    cases x with
    | list ys => cases h; exact fin r
    | _ => cases h
  | l ys =>
    cases h
    obtain ⟨p, vs, e, q, q2, q3, q4, q5⟩ := r
    exact ⟨p, vs, e, SqL.of q, (fun j z => by cases z), fun s' S' R' => ⟨SqL.of (S'.keep p _ q q5), q2.mono (S'.mono (R.out none))⟩⟩
  | t ys => cases h
  | c i =>
    have r' : s.σ[i]? = some (some v) := r
    simp only [W.walkL] at h
    cases hb : s.ρ[i]? with
    | none => rw [hb] at h; cases h
    | some o =>
      cases o with
      | none => rw [hb] at h; cases h
      | some b =>
        rw [hb] at h
        have hx : b.isX = false := by cases b <;> first | rfl | cases h
        obtain ⟨v', hv, q⟩ := R.slot i _ hb
        rw [r'] at hv
        cases hv
        cases b with
        | x => cases h
        | d y =>
          cases y with
          | list ys => cases h; exact fin q
          | _ => cases h
        | s ys =>
          cases h
          obtain ⟨p, vs, e, q1, q2⟩ := q
          exact ⟨p, vs, e, sub_sqL R.sub q1, (fun j z => by cases z), fun s' S' R' => ⟨sub_sqL R'.sub (sub_sqL (S'.mono (R.out none)) q1), q2.mono (S'.mono (R.out none))⟩⟩
        | l ys =>
          cases h
          obtain ⟨p, vs, e, q1, q2⟩ := q
          subst e
          refine ⟨p, vs, rfl, SqL.of q1, (fun j z => by cases z; exact hb), fun s' S' R' => ?_⟩
          have nc : ¬ Cell (s.out (some i)) p := fun ⟨j, c⟩ => by
            obtain ⟨c1, c2⟩ := c.ofOut
            exact c2 (by rw [R.sep j i p c1 ⟨r', _, hb, rfl⟩])
          exact ⟨SqL.of (S'.keep p _ q1 nc), q2.mono (S'.mono (R.out (some i)))⟩
        | t _ => cases h
section
variable {X : Cx} {Γ : Cn} {Wx : WX} {a b c e tg : Expr} {f g f1 f2 : Mx W} {fs : Mx (List W)} {pos : Pos}
theorem posti_bnd {s : Sx} {Q : It → Hp → Prop} {k : W → Mx Walk} {K : V → Hp → Prop} (h : PostI Γ Wx s (bnd f k s.ρ) Q)
    (hk : ∀ v w F1 H1 ρ1, f s.ρ = .ok w ρ1 → Rel Γ.K ⟨F1, s.σ, H1, ρ1⟩ → Step Γ.np s ⟨F1, s.σ, H1, ρ1⟩ → VRep Γ.K s.H ⟨F1, s.σ, H1, ρ1⟩ v w → PostI Γ Wx s (k w ρ1) Q → K v H1) : Post Γ Wx s (f s.ρ) K := by
  unfold bnd at h
  cases e : f s.ρ with
  | ok w ρ1 =>
    rw [e] at h
    exact fun v F1 H1 R1 S1 r => hk v w F1 H1 ρ1 e R1 S1 r h
  | er c ρ1 => rw [e] at h; exact h
  | st => rw [e] at h; exact h
theorem di_seq (he : DE X Γ Wx e f) (hK : X.K = Γ.K) : DI X Γ Wx tg e (mWalk f) :=
  PI.imp (PI.or (pi_list he) (PI.or (pi_tup he) (pi_str he))) fun σ H Q ⟨F, ρ, R, h⟩ => by
    rw [hK]
    have h0 := h
    unfold mWalk bnd at h0
    cases e1 : f ρ with
    | st => rw [e1] at h0; exact h0.elim
    | er c ρ1 =>
      rw [e1] at h0
      exact .inl ⟨F, ρ, R, posti_bnd (s := ⟨F, σ, H, ρ⟩) h fun v w F1 H1 ρ1 e' R1 S1 r h1 => by
        have e' : f ρ = _ := e'
        rw [e1] at e'; cases e'⟩
    | ok w0 ρ0 =>
      rw [e1] at h0
      simp only at h0
      cases e2 : w0.walkL ρ0 with
      | some k =>
        refine .inl ⟨F, ρ, R, posti_bnd (s := ⟨F, σ, H, ρ⟩) h fun v w F1 H1 ρ1 e' R1 S1 r h1 => ?_⟩
        have e' : f ρ = _ := e'
        rw [e1] at e'; cases e'
        simp only [e2] at h1
        obtain ⟨p, vs, rfl, q, mv, q2⟩ := walkL_ok (s := ⟨F1, σ, H1, ρ0⟩) R1 r e2
        refine ⟨p, rfl, ⟨vs, q⟩, h1 _ F1 H1 R1 S1 mv fun i s' S' R' => ?_⟩
        obtain ⟨q3, q4⟩ := q2 s' S' R'
        refine ⟨fun hi => ⟨vs, q3, by rw [q4.length]; exact hi⟩, fun d hd => ?_⟩
        obtain ⟨u, hu, ru⟩ := q4.get hd
        exact ⟨⟨vs, u, q3, hu⟩, fun v' H' ⟨y1, y2⟩ => by
          subst y1
          have := y2 vs q3
          rw [hu] at this
          cases this
          exact ⟨s'.F, R', Step.refl _, ru⟩⟩
      | none =>
        simp only [e2] at h0
        cases e3 : w0.asD ρ0 with
        | none => rw [e3] at h0; exact h0.elim
        | some x =>
          rw [e3] at h0
          cases x with
          | tuple xs =>
            refine .inr (.inl ⟨F, ρ, R, posti_bnd (s := ⟨F, σ, H, ρ⟩) h fun v w F1 H1 ρ1 e' R1 S1 r h1 => ?_⟩)
            have e' : f ρ = _ := e'
            rw [e1] at e'; cases e'
            simp only [e2, e3] at h1
            obtain ⟨p, vs, rfl, f1, q1⟩ := tup_inv (VRep.data (s := ⟨F1, σ, H1, ρ0⟩) R1 r e3)
            have f1 : F1 p = some (.tup vs) := f1
            refine ⟨p, rfl, ⟨vs, SqT.of (R1.sub _ _ f1)⟩, h1 _ F1 H1 R1 S1 (fun j z => by cases z) fun i s' S' R' => ?_⟩
            have q3 : SqT Γ.K s'.H p vs := SqT.of (R'.sub _ _ (S'.mono R1 _ _ f1))
            have q4 : RpA s'.F vs xs := q1.mono (S'.mono R1)
            refine ⟨fun hi => ⟨vs, q3, by rw [q4.length]; exact hi⟩, fun d hd => ?_⟩
            obtain ⟨u, hu, ru⟩ := q4.get hd
            exact ⟨⟨vs, u, q3, hu⟩, fun v' H' ⟨y1, y2⟩ => by
              subst y1
              have := y2 vs q3
              rw [hu] at this
              cases this
              exact ⟨s'.F, R', Step.refl _, ru⟩⟩
          | str z =>
            refine .inr (.inr ⟨F, ρ, R, posti_bnd (s := ⟨F, σ, H, ρ⟩) h fun v w F1 H1 ρ1 e' R1 S1 r h1 => ?_⟩)
            have e' : f ρ = _ := e'
            rw [e1] at e'; cases e'
            simp only [e2, e3] at h1
            have ev := (VRep.data (s := ⟨F1, σ, H1, ρ0⟩) R1 r e3).strV
            subst ev
            refine ⟨z, rfl, h1 _ F1 H1 R1 S1 (fun j z => by cases z) fun i s' S' R' => ?_⟩
            refine ⟨fun hi => (by simpa using hi : z.cps.size ≤ i), fun d hd => ?_⟩
            rw [List.getElem?_map] at hd
            cases hc : z.cps.toList[i]? with
            | none => rw [hc] at hd; cases hd
            | some c =>
              rw [hc] at hd
              cases hd
              have hi : i < z.cps.size := by
                have := (List.getElem?_eq_some_iff.mp hc).1
                simpa using this
              refine ⟨hi, fun v' H' ⟨y1, c', hc', y2⟩ => ?_⟩
              subst y1 y2
              have e9 : c' = c := by
                rw [Array.getElem?_toList] at hc
                rw [hc'] at hc
                exact Option.some.inj hc
              subst e9
              exact ⟨s'.F, R', Step.refl _, .str _⟩
          | _ => exact h0.elim
/-! range -/
def rangeD (lo : Int) (n : Nat) : List D := (List.range n).map fun (k : Nat) => PyData.int (lo + (k : Int))
def gRng1 (ws : List W) (ρ : Env) : Out Walk := match ws with
  | [w] => match w.asD ρ with
    | some (.int n) => if -1000000000 ≤ n ∧ n ≤ 1000000000 then .ok (rangeD 0 n.toNat, none) ρ else .st
    | _ => .st
  | _ => .st
def gRng2 (ws : List W) (ρ : Env) : Out Walk := match ws with
  | [w, w'] => match w.asD ρ, w'.asD ρ with
    | some (.int i), some (.int j) => if -1000000000 ≤ i ∧ i ≤ 1000000000 ∧ -1000000000 ≤ j ∧ j ≤ 1000000000 then .ok (rangeD i (j - i).toNat, none) ρ else .st
    | _, _ => .st
  | _ => .st
def mRng1 (fs : Mx (List W)) : Mx Walk := bnd fs gRng1
def mRng2 (fs : Mx (List W)) : Mx Walk := bnd fs gRng2
theorem postia_bnd {s : Sx} {Q : It → Hp → Prop} {k : List W → Mx Walk} {K : List V → Hp → Prop} (h : PostI Γ Wx s (bnd fs k s.ρ) Q)
    (hk : ∀ vs ws F1 H1 ρ1, Rel Γ.K ⟨F1, s.σ, H1, ρ1⟩ → Step Γ.np s ⟨F1, s.σ, H1, ρ1⟩ → VReps Γ.K s.H ⟨F1, s.σ, H1, ρ1⟩ vs ws → PostI Γ Wx s (k ws ρ1) Q → K vs H1) : PostA Γ Wx s (fs s.ρ) K := by
  unfold bnd at h
  cases e : fs s.ρ with
  | ok w ρ1 =>
    rw [e] at h
    exact fun v F1 H1 R1 S1 r => hk v w F1 H1 ρ1 R1 S1 r h
  | er c ρ1 => rw [e] at h; exact h
  | st => rw [e] at h; exact h
theorem iter_range {s : Sx} {lo : Int} {n : Nat} : IterOk Γ s (Itr lo n) (rangeD lo n) := fun i s' S' R' => by
  refine ⟨fun hi => (by simpa [rangeD] using hi : n ≤ i), fun d hd => ?_⟩
  unfold rangeD at hd
  rw [List.getElem?_map] at hd
  by_cases hi : i < n
  · rw [List.getElem?_range hi] at hd
    cases hd
    refine ⟨hi, fun v' H' ⟨y1, y2⟩ => ?_⟩
    subst y1 y2
    exact ⟨s'.F, R', Step.refl _, .int _⟩
  · rw [List.getElem?_eq_none (by simpa using hi)] at hd
    cases hd
theorem di_range1 {p : Pos} (hm : X.mg "range" = none) (ha : DA X Γ Wx [a] fs) (hg : Gl X "range" := by rfl) (hs : starEach [a] X.env = [(false, eval a X.env)] := by rfl) : DI X Γ Wx tg (.Call (.Name "range" p) [a] [] pos) (mRng1 fs) :=
  PI.imp (pi_range1 hg hm ha hs) fun σ H Q ⟨F, ρ, R, h⟩ => ⟨F, ρ, R, postia_bnd (s := ⟨F, σ, H, ρ⟩) h fun vs ws F1 H1 ρ1 R1 S1 r h1 => by
    unfold gRng1 at h1
    split at h1
    · rename_i w
      obtain ⟨v, rfl, q0⟩ := VReps.one r
      split at h1
      · rename_i n e1
        split at h1
        · rename_i hn
          exact ⟨n, by rw [(VRep.data (s := ⟨F1, σ, H1, ρ1⟩) R1 q0 e1).intV], by omega, by omega, h1 _ F1 H1 R1 S1 (fun j z => by cases z) iter_range⟩
        · exact h1.elim
      · exact h1.elim
    · exact h1.elim⟩
theorem di_range2 {p : Pos} (hm : X.mg "range" = none) (ha : DA X Γ Wx [a, b] fs) (hg : Gl X "range" := by rfl) (hs : starEach [a, b] X.env = [(false, eval a X.env), (false, eval b X.env)] := by rfl) (hs2 : starEach [b] X.env = [(false, eval b X.env)] := by rfl) : DI X Γ Wx tg (.Call (.Name "range" p) [a, b] [] pos) (mRng2 fs) :=
  PI.imp (pi_range2 hg hm ha hs hs2) fun σ H Q ⟨F, ρ, R, h⟩ => ⟨F, ρ, R, postia_bnd (s := ⟨F, σ, H, ρ⟩) h fun vs ws F1 H1 ρ1 R1 S1 r h1 => by
    unfold gRng2 at h1
    split at h1
    · rename_i w w'
      obtain ⟨v, v', rfl, q0, q1⟩ := VReps.two r
      split at h1
      · rename_i n m e1 e2
        split at h1
        · rename_i hn
          exact ⟨n, m, by rw [(VRep.data (s := ⟨F1, σ, H1, ρ1⟩) R1 q0 e1).intV, (VRep.data (s := ⟨F1, σ, H1, ρ1⟩) R1 q1 e2).intV], ⟨by omega, by omega, by omega, by omega⟩, h1 _ F1 H1 R1 S1 (fun j z => by cases z) iter_range⟩
        · exact h1.elim
      · exact h1.elim
    · exact h1.elim⟩
/-! ### for -/
def loop (bd : Bd) (body : Mx Fl) : List D → Mx Fl
  | [], ρ => .ok .nx ρ
  | x :: xs, ρ => match bd x ρ with
    | none => .st
    | some ρ1 => match body ρ1 with
      | .ok .nx ρ2 => loop bd body xs ρ2
      | .ok .ct ρ2 => loop bd body xs ρ2
      | .ok .bk ρ2 => .ok .nx ρ2
      | o => o
def backR (ρ : Env) (w : Walk) : Option Env := match w.2 with
  | none => some ρ
  | some j => match ρ[j]? with
    | some none => some (ρ.set j (some (.l w.1)))
    | _ => none
def fin {α : Type} (w : Walk) : Out α → Out α
  | .ok f ρ => match backR ρ w with
    | some ρ' => .ok f ρ'
    | none => .st
  | .er c ρ => match backR ρ w with
    | some ρ' => .er c ρ'
    | none => .st
  | .st => .st
def sFor (it : Mx Walk) (bd : Bd) (body : Mx Fl) : Mx Fl := bnd it fun w ρ => fin w (loop bd body w.1 (outR ρ w.2))
/-- what was set aside comes back -/
theorem back_ok {K : PySem.W.Frag} {np : Nat} {s s2 : Sx} {w : Walk} {ρ' : Env} (R : Rel K s) (mv : MvOk s.ρ w) (S : Step np (s.out w.2) s2) (R2 : Rel K s2) (h : backR s2.ρ w = some ρ') : Rel K ⟨s2.F, s2.σ, s2.H, ρ'⟩ ∧ Step np s ⟨s2.F, s2.σ, s2.H, ρ'⟩ := by
  obtain ⟨xs, o⟩ := w
  cases o with
  | none => cases h; exact ⟨R2, S⟩
  | some j =>
    have hb : s.ρ[j]? = some (some (.l xs)) := mv j rfl
    simp only [backR] at h
    cases hj : s2.ρ[j]? with
    | none => rw [hj] at h; cases h
    | some o =>
      cases o with
      | some b => rw [hj] at h; cases h
      | none =>
        rw [hj] at h
        cases h
        obtain ⟨v, hv, p, vs, e1, hH, hr⟩ := R.slot j _ hb
        subst e1
        have hc : CellAt s j p := ⟨hv, _, hb, rfl⟩
        have nco : ¬ Cell (s.out (some j)) p := fun ⟨k, c⟩ => by
          obtain ⟨c1, c2⟩ := c.ofOut
          exact c2 (by rw [R.sep k j p c1 hc])
        have S' : Step np (s.out (some j)) s2 := S
        have hH2 : s2.H p = some (.lst vs) := S'.keep p _ hH nco
        have hF2 : s2.F p = none := (S'.fz p _ hH nco).trans (R.own j p hc)
        have hσ : s2.σ[j]? = some (some (.ref p)) := (S'.same j fun ⟨b, z⟩ => by rw [hj] at z; cases z).trans hv
        have nc2 : ¬ Cell s2 p := fun c => (S'.cells p c).elim nco fun z => by
          have z' : s.H p = none := z
          rw [hH] at z'; cases z'
        have hl : j < s2.ρ.length := (List.getElem?_eq_some_iff.mp hj).1
        have m := S'.mono (R.out (some j))
        have cc : ∀ k a, CellAt ⟨s2.F, s2.σ, s2.H, s2.ρ.set j (some (.l xs))⟩ k a → (k = j ∧ a = p) ∨ (k ≠ j ∧ CellAt s2 k a) := fun k a ⟨h1, b, h2, h3⟩ => by
          rcases getElem?_set_cases h2 with ⟨hk, _⟩ | ⟨hk, h4⟩
          · subst hk
            have h1' : s2.σ[k]? = some (some (.ref a)) := h1
            rw [hσ] at h1'
            cases h1'
            exact .inl ⟨rfl, rfl⟩
          · exact .inr ⟨hk, h1, b, h4, h3⟩
        have outne : ∀ {k : Nat} {b : B}, k ≠ j → s.ρ[k]? = some (some b) → (s.out (some j)).ρ[k]? = some (some b) := fun {k b} hk e => by
          show (s.ρ.set j none)[k]? = _
          rw [List.getElem?_set_ne (Ne.symm hk)]
          exact e
        refine ⟨⟨R2.sub, by simpa using R2.len, fun k b hk hx => ?_, fun k l a c1 c2 => ?_, fun k a c => ?_⟩, ⟨fun a o h n => S'.keep a o h fun ⟨k, c⟩ => n ⟨k, c.ofOut.1⟩, fun a o h n => S'.fz a o h fun ⟨k, c⟩ => n ⟨k, c.ofOut.1⟩, S'.there, fun a ⟨k, c⟩ => ?_, fun k a hk l => ?_, fun k hk => ?_, fun k hk => ?_⟩⟩
        · rcases getElem?_set_cases hk with ⟨hkj, h4⟩ | ⟨hkj, h4⟩
          · cases h4
            subst hkj
            exact ⟨_, hσ, p, vs, rfl, hH2, hr.mono m⟩
          · exact R2.slot k b h4
        · rcases cc k a c1 with ⟨h1, h2⟩ | ⟨h1, h2⟩ <;> rcases cc l a c2 with ⟨g1, g2⟩ | ⟨g1, g2⟩
          · rw [h1, g1]
          · subst h2; exact absurd ⟨l, g2⟩ nc2
          · subst g2; exact absurd ⟨k, h2⟩ nc2
          · exact R2.sep k l a h2 g2
        · rcases cc k a c with ⟨h1, h2⟩ | ⟨h1, h2⟩
          · subst h2; exact hF2
          · exact R2.own k a h2
        · rcases cc k a c with ⟨h1, h2⟩ | ⟨h1, h2⟩
          · subst h2; exact .inl ⟨j, hc⟩
          · rcases S'.cells a ⟨k, h2⟩ with ⟨l, c'⟩ | z
            · exact .inl ⟨l, c'.ofOut.1⟩
            · exact .inr z
        · by_cases hkj : k = j
          · subst hkj
            obtain ⟨l1, b, l2, l3⟩ := l
            rw [hv] at l1
            cases l1
            exact ⟨hσ, _, List.getElem?_set_self hl, rfl⟩
          · obtain ⟨l1, b, l2, l3⟩ := l
            obtain ⟨h1, b', h2, h3⟩ := S'.par k a hk ⟨l1, b, outne hkj l2, l3⟩
            exact ⟨h1, b', by show (s2.ρ.set j _)[k]? = _; rw [List.getElem?_set_ne (Ne.symm hkj)]; exact h2, h3⟩
        · by_cases hkj : k = j
          · subst hkj; exact ⟨_, List.getElem?_set_self hl⟩
          · obtain ⟨b, hb'⟩ := hk
            exact set_stay (S'.stay k ⟨b, outne hkj hb'⟩)
        · exact S'.same k fun z => hk (set_stay z)
theorem fin_ok {s : Sx} {w : Walk} {o : Out Fl} {Dn : Ends} (R : Rel Γ.K s) (mv : MvOk s.ρ w) (h : PostS Γ Wx s (fin w o) Dn) : PostS Γ Wx (s.out w.2) o Dn := by
  have hσ : (s.out w.2).σ = s.σ := rfl
  cases o with
  | st => exact h
  | er c ρ =>
    unfold fin at h
    intro F' σ' H' C hC R' S'
    cases e : backR ρ w with
    | none => simp only [e] at h; exact h.elim
    | some ρ' =>
      simp only [e] at h
      obtain ⟨R3, S3⟩ := back_ok (s2 := ⟨F', σ', H', ρ⟩) R mv S' R' e
      exact h F' σ' H' C hC R3 S3
  | ok f ρ =>
    unfold fin at h
    cases e : backR ρ w with
    | none => simp only [e] at h; exact h.elim
    | some ρ' =>
      simp only [e] at h
      cases f with
      | nx =>
        intro F' σ' H' R' S'
        obtain ⟨R3, S3⟩ := back_ok (s2 := ⟨F', σ', H', ρ⟩) R mv S' R' e
        exact h F' σ' H' R3 S3
      | bk =>
        intro F' σ' H' R' S'
        obtain ⟨R3, S3⟩ := back_ok (s2 := ⟨F', σ', H', ρ⟩) R mv S' R' e
        exact h F' σ' H' R3 S3
      | ct =>
        intro F' σ' H' R' S'
        obtain ⟨R3, S3⟩ := back_ok (s2 := ⟨F', σ', H', ρ⟩) R mv S' R' e
        exact h F' σ' H' R3 S3
      | rt u =>
        intro v F' σ' H' R' S' r
        obtain ⟨R3, S3⟩ := back_ok (s2 := ⟨F', σ', H', ρ⟩) R mv S' R' e
        refine h v F' σ' H' R3 S3 ?_
        have hs : ∀ p, (s.out w.2).H p = none → ¬ Cell ⟨F', σ', H', ρ⟩ p → ¬ Cell ⟨F', σ', H', ρ'⟩ p := fun p hp n c => by
          rcases S3.cells p c with ⟨k, c'⟩ | _
          · obtain ⟨o', e'⟩ := R.cellH c'
            have hp' : s.H p = none := hp
            rw [e'] at hp'; cases hp'
          · obtain ⟨k, c1, b, c2, c3⟩ := c
            unfold backR at e
            cases hw : w.2 with
            | none => simp only [hw] at e; cases e; exact n ⟨k, c1, b, c2, c3⟩
            | some j =>
              simp only [hw] at e
              split at e
              · rename_i hj
                cases e
                rcases getElem?_set_cases c2 with ⟨hk, _⟩ | ⟨hk, h4⟩
                · subst hk
                  obtain ⟨v', hv', _⟩ := R.slot k _ (mv k hw)
                  have q := S'.same k fun ⟨b, z⟩ => by
                    have z' : ρ[k]? = some (some b) := z
                    rw [hj] at z'; cases z'
                  have c1' : σ'[k]? = some (some (.ref p)) := c1
                  have q' : σ'[k]? = s.σ[k]? := q
                  rw [c1'] at q'
                  obtain ⟨o', e'⟩ := R.cellH ⟨q'.symm, _, mv k hw, rfl⟩
                  have hp' : s.H p = none := hp
                  rw [e'] at hp'; cases hp'
                · exact n ⟨k, c1, b, h4, c3⟩
              · cases e
        cases u with
        | d x => exact r
        | c i => exact r
        | l xs =>
          obtain ⟨p, vs, e1, h1, h2, h3, h4, h5⟩ := r
          exact ⟨p, vs, e1, h1, h2, h3, h4, hs p h4 h5⟩
        | t xs =>
          obtain ⟨p, vs, e1, h1, h2, h3, h4, h5⟩ := r
          exact ⟨p, vs, e1, h1, h2, h3, h4, hs p h4 h5⟩
theorem postsi_bnd {s : Sx} {Dn : Ends} {m : Mx Walk} {k : Walk → Mx Fl} {K : It → Hp → Prop} (h : PostS Γ Wx s (bnd m k s.ρ) Dn)
    (hk : ∀ w J F1 H1 ρ1, Rel Γ.K ⟨F1, s.σ, H1, ρ1⟩ → Step Γ.np s ⟨F1, s.σ, H1, ρ1⟩ → MvOk ρ1 w → IterOk Γ (Sx.out ⟨F1, s.σ, H1, ρ1⟩ w.2) J w.1 → PostS Γ Wx ⟨F1, s.σ, H1, ρ1⟩ (k w ρ1) Dn → K J H1) : PostI Γ Wx s (m s.ρ) K := by
  unfold bnd at h
  cases e : m s.ρ with
  | ok w ρ1 =>
    rw [e] at h
    exact fun J F1 H1 R1 S1 mv it => hk w J F1 H1 ρ1 R1 S1 mv it (PostS.step S1 h)
  | er c ρ1 => rw [e] at h; exact fun F' H' C hC R S => h F' s.σ H' C hC R S
  | st => rw [e] at h; exact h
theorem ds_for {iter : Expr} {body : List Stmt} {m : Mx Walk} {g : TG} {bd : Bd} {p : Mx Fl} (hp : PassesOwn (model X.prog X.w) X.A X.env X.xe) (hc : X.calm = true) (hi : DI X Γ Wx tg iter m) (hg : PG X tg g) (ok : OkG Γ g bd) (hb : DSs X Γ Wx body p)
    (hs : ∀ x, foldedSetIterable iter X.env x = pure x := by intro _; rfl) : DS X Γ Wx (.For tg iter body [] pos) (sFor m bd p) :=
  PS.imp (ps_for hp hc hi hg hb hs) fun Dn σ H ⟨F, ρ, R, h⟩ => ⟨F, ρ, R, postsi_bnd (s := ⟨F, σ, H, ρ⟩) h fun w J F1 H1 ρ1 R1 S1 mv it h1 => by
    have h2 := fin_ok (s := ⟨F1, σ, H1, ρ1⟩) R1 mv h1
    refine ⟨fun i n σ' H' => ∃ F' ρ', Rel Γ.K ⟨F', σ', H', ρ'⟩ ∧ Step Γ.np (Sx.out ⟨F1, σ, H1, ρ1⟩ w.2) ⟨F', σ', H', ρ'⟩ ∧ i ≤ w.1.length ∧ n = w.1.length - i ∧ PostS Γ Wx ⟨F', σ', H', ρ'⟩ (loop bd p (w.1.drop i) ρ') Dn,
      ⟨w.1.length, F1, outR ρ1 w.2, R1.out w.2, Step.refl _, Nat.zero_le _, by simp, h2⟩, ?_⟩
    rintro i n σ' H' ⟨F', ρ', R', S', hi, rfl, h'⟩
    obtain ⟨stop, turn⟩ := it i ⟨F', σ', H', ρ'⟩ S'.kp R'
    cases e : w.1[i]? with
    | none =>
      have hle : w.1.length ≤ i := List.getElem?_eq_none_iff.mp e
      refine .inl ⟨stop hle, ?_⟩
      rw [List.drop_eq_nil_of_le hle] at h'
      exact h' F' σ' H' R' (Step.refl _)
    | some d =>
      have hlt : i < w.1.length := (List.getElem?_eq_some_iff.mp e).1
      obtain ⟨go, yld⟩ := turn d e
      refine .inr ⟨go, fun σ2 H2 => ∃ F2 ρ2, Rel Γ.K ⟨F2, σ2, H2, ρ2⟩ ∧ Step Γ.np (Sx.out ⟨F1, σ, H1, ρ1⟩ w.2) ⟨F2, σ2, H2, ρ2⟩ ∧ PostS Γ Wx ⟨F2, σ2, H2, ρ2⟩ (loop bd p (w.1.drop (i + 1)) ρ2) Dn,
        fun σ2 H2 ⟨F2, ρ2, R2, S2, q2⟩ => ⟨w.1.length - (i + 1), by omega, F2, ρ2, R2, S2, hlt, rfl, q2⟩, fun v H2 y => ?_⟩
      obtain ⟨F2, R2, S2, rv⟩ := yld v H2 y
      have ed : w.1.drop i = d :: w.1.drop (i + 1) := by
        rw [List.drop_eq_getElem_cons hlt]
        congr 1
        exact Option.some.inj ((List.getElem?_eq_getElem hlt).symm.trans e)
      rw [ed] at h'
      have h' := h'.step (s1 := ⟨F2, σ', H2, ρ'⟩) S2
      unfold loop at h'
      cases eb : bd d ρ' with
      | none => rw [eb] at h'; exact h'.elim
      | some ρ3 =>
        rw [eb] at h'
        refine ok ⟨F2, σ', H2, ρ'⟩ v d ρ3 _ R2 rv eb fun σ3 R3 S3 => ⟨F2, ρ3, R3, ?_⟩
        have St : Step Γ.np (Sx.out ⟨F1, σ, H1, ρ1⟩ w.2) ⟨F2, σ3, H2, ρ3⟩ := (S'.trans S2).trans S3
        have h' := h'.step (s1 := ⟨F2, σ3, H2, ρ3⟩) S3
        cases ep : p ρ3 with
        | st => simp only [ep] at h'; exact h'.elim
        | er c ρ4 => simp only [ep] at h'; exact h'
        | ok f ρ4 =>
          simp only [ep] at h'
          cases f with
          | nx => exact fun F4 σ4 H4 R4 S4 => ⟨F4, ρ4, R4, St.trans S4, h'.step S4⟩
          | ct => exact fun F4 σ4 H4 R4 S4 => ⟨F4, ρ4, R4, St.trans S4, h'.step S4⟩
          | bk => exact fun F4 σ4 H4 R4 S4 => h' F4 σ4 H4 R4 S4
          | rt u => exact h'⟩
end
end TD
namespace TD
open PySem PySem.Spec L2

section
variable {X : Cx} {Γ : Cn} {Wx : WX} {a b c e tg : Expr} {f g f1 f2 : Mx W} {fs : Mx (List W)} {pos : Pos} {t : Mx Bool} {p q : Mx Fl}
/-! ### while -/
def whileN (t : Mx Bool) (p : Mx Fl) : Nat → Mx Fl
  | 0, _ => .st
  | n + 1, ρ => match t ρ with
    | .ok false ρ1 => .ok .nx ρ1
    | .ok true ρ1 => match p ρ1 with
      | .ok .nx ρ2 => whileN t p n ρ2
      | .ok .ct ρ2 => whileN t p n ρ2
      | .ok .bk ρ2 => .ok .nx ρ2
      | o => o
    | .er c ρ1 => .er c ρ1
    | .st => .st
open Classical in
noncomputable def sWhile (t : Mx Bool) (p : Mx Fl) : Mx Fl := fun ρ => if h : ∃ n, whileN t p n ρ ≠ .st then whileN t p (Classical.choose h) ρ else .st
theorem whileN_mono : ∀ (n m : Nat) (ρ : Env), n ≤ m → whileN t p n ρ ≠ .st → whileN t p m ρ = whileN t p n ρ
  | 0, _, _, _, h => absurd rfl h
  | n + 1, 0, _, hm, _ => absurd hm (Nat.not_succ_le_zero n)
  | n + 1, m + 1, ρ, hm, h => by
    simp only [whileN] at h ⊢
    cases e : t ρ with
    | st => rfl
    | er c ρ1 => rfl
    | ok b ρ1 =>
      rw [e] at h
      cases b with
      | false => rfl
      | true =>
        simp only at h ⊢
        cases e2 : p ρ1 with
        | st => simp only
        | er c ρ2 => simp only
        | ok fl ρ2 =>
          rw [e2] at h
          cases fl with
          | nx => exact whileN_mono n m ρ2 (Nat.le_of_succ_le_succ hm) h
          | ct => exact whileN_mono n m ρ2 (Nat.le_of_succ_le_succ hm) h
          | bk => rfl
          | rt u => rfl
theorem sWhile_of {n : Nat} {ρ : Env} {o : Out Fl} (h : whileN t p n ρ = o) (hst : o ≠ .st) : sWhile t p ρ = o := by
  have hex : ∃ n, whileN t p n ρ ≠ .st := ⟨n, by rw [h]; exact hst⟩
  unfold sWhile
  rw [dif_pos hex]
  have h1 := Classical.choose_spec hex
  rcases Nat.le_total (Classical.choose hex) n with z | z
  · rw [← whileN_mono _ _ ρ z h1]; exact h
  · rw [whileN_mono _ _ ρ z (by rw [h]; exact hst)]; exact h
theorem sWhile_inv {ρ : Env} (h : sWhile t p ρ ≠ .st) : ∃ n, whileN t p n ρ = sWhile t p ρ := by
  unfold sWhile at h ⊢
  split at h
  · rename_i hex
    exact ⟨Classical.choose hex, by rw [dif_pos hex]⟩
  · exact absurd rfl h
theorem ds_while {test : Expr} {body : List Stmt} (hp : PassesOwn (model X.prog X.w) X.A X.env X.xe) (ht : DT X Γ Wx test t) (hb : DSs X Γ Wx body p) : DS X Γ Wx (.While test body [] pos) (sWhile t p) :=
  PS.imp (ps_while hp ht hb) fun Dn σ H ⟨F, ρ, R, h⟩ => by
    have hne : sWhile t p ρ ≠ .st := fun z => by rw [z] at h; exact h
    obtain ⟨n, hn⟩ := sWhile_inv hne
    rw [← hn] at h
    refine ⟨fun m σ H => ∃ F ρ, Rel Γ.K ⟨F, σ, H, ρ⟩ ∧ PostS Γ Wx ⟨F, σ, H, ρ⟩ (whileN t p m ρ) Dn, ⟨n, F, ρ, R, h⟩, ?_⟩
    rintro m σ H ⟨F, ρ, R, h⟩
    cases m with
    | zero => exact h.elim
    | succ m =>
      refine ⟨F, ρ, R, ?_⟩
      simp only [whileN] at h
      cases e : t ρ with
      | st => rw [e] at h; exact h
      | er c ρ1 => rw [e] at h; exact fun F' H' C hC R' S' => h F' σ H' C hC R' S'
      | ok b ρ1 =>
        rw [e] at h
        intro F1 H1 R1 S1
        cases b with
        | false => exact h F1 σ H1 R1 S1
        | true =>
          refine ⟨fun σ2 H2 => ∃ F2 ρ2, Rel Γ.K ⟨F2, σ2, H2, ρ2⟩ ∧ PostS Γ Wx ⟨F2, σ2, H2, ρ2⟩ (whileN t p m ρ2) Dn, fun σ2 H2 q => ⟨m, Nat.lt_succ_self m, q⟩, F1, ρ1, R1, ?_⟩
          simp only at h
          have h' := PostS.step (s1 := ⟨F1, σ, H1, ρ1⟩) S1 h
          cases e2 : p ρ1 with
          | st => rw [e2] at h'; exact h'
          | er c ρ2 => rw [e2] at h'; exact h'
          | ok fl ρ2 =>
            rw [e2] at h'
            cases fl with
            | nx => exact fun F4 σ4 H4 R4 S4 => ⟨F4, ρ2, R4, h'.step S4⟩
            | ct => exact fun F4 σ4 H4 R4 S4 => ⟨F4, ρ2, R4, h'.step S4⟩
            | bk => exact fun F4 σ4 H4 R4 S4 => h' F4 σ4 H4 R4 S4
            | rt u => exact h'
/-! ### list comprehensions -/
def wipeR (ρ : Env) : List Nat → Env
  | [] => ρ
  | v :: vs => (wipeR ρ vs).set v none
theorem wipeR_length (ρ : Env) : ∀ vs : List Nat, (wipeR ρ vs).length = ρ.length
  | [] => rfl
  | v :: vs => by unfold wipeR; rw [List.length_set, wipeR_length ρ vs]
theorem wipeR_some {ρ : Env} {i : Nat} {x : B} : ∀ {vs : List Nat}, (wipeR ρ vs)[i]? = some (some x) → ρ[i]? = some (some x) ∧ i ∉ vs
  | [], h => ⟨h, by simp⟩
  | v :: vs, h => by
    unfold wipeR at h
    rcases getElem?_set_cases h with ⟨_, h4⟩ | ⟨hi, h4⟩
    · cases h4
    · obtain ⟨h1, h2⟩ := wipeR_some h4
      exact ⟨h1, fun z => (List.mem_cons.mp z).elim hi h2⟩
theorem wipeR_out {ρ : Env} {i : Nat} : ∀ {vs : List Nat}, i ∉ vs → (wipeR ρ vs)[i]? = ρ[i]?
  | [], _ => rfl
  | v :: vs, h => by
    unfold wipeR
    rw [List.getElem?_set_ne (fun z => h (by rw [z]; exact List.mem_cons_self))]
    exact wipeR_out fun z => h (List.mem_cons_of_mem _ z)
def compL (vs : List Nat) (bd : Bd) (tt : Mx Bool) (te : Mx W) : List D → List D → Mx (List D)
  | [], acc, ρ => .ok acc ρ
  | x :: xs, acc, ρ => match bd x ρ with
    | none => .st
    | some ρ1 => match tt ρ1 with
      | .ok true ρ2 => match te ρ2 with
        | .ok w ρ3 => match w.datum ρ3 with
          | some (y, ρ4) => if acc.length < 100000 then compL vs bd tt te xs (acc ++ [y]) (wipeR ρ4 vs) else .st
          | none => .st
        | _ => .st
      | .ok false ρ2 => compL vs bd tt te xs acc (wipeR ρ2 vs)
      | _ => .st
def restoreR (ρ0 : Env) : List Nat → Env → Option Env
  | [], ρ => some ρ
  | i :: vs, ρ => match ρ0[i]? with
    | some (some (.d x)) => restoreR ρ0 vs (ρ.set i (some (.d x)))
    | some (some _) => none
    | _ => restoreR ρ0 vs ρ
theorem restore_spec {ρ0 : Env} : ∀ {vs : List Nat} {ρ ρ' : Env}, restoreR ρ0 vs ρ = some ρ' → ρ'.length = ρ.length ∧ ∀ (k : Nat) (b : B), ρ'[k]? = some (some b) → ρ[k]? = some (some b) ∨ (k ∈ vs ∧ ρ0[k]? = some (some b) ∧ ∃ x, b = .d x)
  | [], ρ, ρ', h => by cases h; exact ⟨rfl, fun k b z => .inl z⟩
  | i :: vs, ρ, ρ', h => by
    unfold restoreR at h
    split at h
    · rename_i x hx
      obtain ⟨h1, h2⟩ := restore_spec h
      refine ⟨by rw [h1, List.length_set], fun k b hk => ?_⟩
      rcases h2 k b hk with z | ⟨z1, z2, z3⟩
      · rcases getElem?_set_cases z with ⟨g1, g2⟩ | ⟨g1, g2⟩
        · cases g2
          subst g1
          exact .inr ⟨List.mem_cons_self, hx, x, rfl⟩
        · exact .inl g2
      · exact .inr ⟨List.mem_cons_of_mem _ z1, z2, z3⟩
    · cases h
    · obtain ⟨h1, h2⟩ := restore_spec h
      refine ⟨h1, fun k b hk => ?_⟩
      rcases h2 k b hk with z | ⟨z1, z2, z3⟩
      · exact .inl z
      · exact .inr ⟨List.mem_cons_of_mem _ z1, z2, z3⟩
/-- what was known stays, or comes back -/
theorem restore_stay {ρ0 : Env} : ∀ {vs : List Nat} {ρ ρ' : Env}, restoreR ρ0 vs ρ = some ρ' → ρ0.length = ρ.length → (∀ k : Nat, (∃ b : B, ρ[k]? = some (some b)) → ∃ b : B, ρ'[k]? = some (some b)) ∧ ∀ k : Nat, k ∈ vs → (∃ b : B, ρ0[k]? = some (some b)) → ∃ b : B, ρ'[k]? = some (some b)
  | [], ρ, ρ', h, _ => by cases h; exact ⟨fun k z => z, fun k z => by cases z⟩
  | i :: vs, ρ, ρ', h, hl => by
    unfold restoreR at h
    split at h
    · rename_i x hx
      obtain ⟨h1, h2⟩ := restore_stay h (by rw [List.length_set]; exact hl)
      have hi : i < ρ.length := by rw [← hl]; exact (List.getElem?_eq_some_iff.mp hx).1
      refine ⟨fun k z => h1 k (set_stay z), fun k hk z => ?_⟩
      rcases List.mem_cons.mp hk with e | e
      · subst e
        exact h1 k ⟨_, List.getElem?_set_self hi⟩
      · exact h2 k e z
    · cases h
    · rename_i h3 h4
      obtain ⟨h1, h2⟩ := restore_stay h hl
      refine ⟨h1, fun k hk z => ?_⟩
      rcases List.mem_cons.mp hk with e | e
      · subst e
        obtain ⟨b, hb⟩ := z
        exact absurd hb (h4 b)
      · exact h2 k e z
def mComp (vs : List Nat) (it : Mx Walk) (bd : Bd) (tt : Mx Bool) (te : Mx W) : Mx W := bnd it fun w ρ => match compL vs bd tt te w.1 [] (wipeR (outR ρ w.2) vs) with
  | .ok ys ρ' => match restoreR (outR ρ w.2) vs ρ' with
    | some ρ'' => match backR ρ'' w with
      | some ρ3 => .ok (.l ys) ρ3
      | none => .st
    | none => .st
  | _ => .st
def tYesM : Mx Bool := fun ρ => .ok true ρ
abbrev DTs (X : Cx) (Γ : Cn) (Wx : WX) (ifs : List Expr) (f : Mx Bool) : Prop := PTs X ifs (tT Γ Wx f)
theorem PTs.imp {ifs : List Expr} {t t' : TT} (h : PTs X ifs t) (i : ∀ σ H Q, t' σ H Q → t σ H Q) : PTs X ifs t' := ⟨fun pins s σ H Q I q => h.run pins s σ H Q I (i σ H Q q)⟩
theorem dts_nil : DTs X Γ Wx [] tYesM := PTs.imp pts_nil fun σ H Q ⟨F, ρ, R, h⟩ => h F H R (Step.refl _)
theorem dts_one (h : DT X Γ Wx c t) : DTs X Γ Wx [c] t := pts_one h
abbrev W0 : WX := fun _ _ _ _ => False
/-- the state of a block: the names vs forgotten -/
theorem Rel.wiped {K : PySem.W.Frag} {s : Sx} {vs : List Nat} {σ : St} (R : Rel K s) (hσ : wipe s.σ vs = wipe σ vs) : Rel K ⟨s.F, wipe σ vs, s.H, wipeR s.ρ vs⟩ := by
  have g : ∀ {i : Nat} {b : B}, (wipeR s.ρ vs)[i]? = some (some b) → s.ρ[i]? = some (some b) ∧ (wipe σ vs)[i]? = s.σ[i]? := fun {i b} h => by
    obtain ⟨h1, h2⟩ := wipeR_some h
    exact ⟨h1, by rw [← hσ, wipe_out h2]⟩
  have cc : ∀ {i a}, CellAt ⟨s.F, wipe σ vs, s.H, wipeR s.ρ vs⟩ i a → CellAt s i a := fun {i a} ⟨h1, b, h2, h3⟩ => by
    obtain ⟨h4, h5⟩ := g h2
    exact ⟨h5.symm.trans h1, b, h4, h3⟩
  refine ⟨R.sub, ?_, fun i b hb hx => ?_, fun i j a c1 c2 => R.sep i j a (cc c1) (cc c2), fun i a c => R.own i a (cc c)⟩
  · show (wipe σ vs).length = (wipeR s.ρ vs).length
    rw [← hσ, wipe_length, wipeR_length]
    exact R.len
  · obtain ⟨h4, h5⟩ := g hb
    obtain ⟨v, hv, r⟩ := R.slotX i b h4 hx
    exact ⟨v, h5.trans hv, r⟩
/-- .. reached from such a state -/
theorem Step.wiped {np : Nat} {s1 s : Sx} {vs : List Nat} {ρ1 : Env} {σ : St} (S : Step np s1 s) (h1 : s1.σ = wipe σ vs) (h2 : s1.ρ = wipeR ρ1 vs) (hσ : wipe s.σ vs = wipe σ vs) : Step np s1 ⟨s.F, wipe σ vs, s.H, wipeR s.ρ vs⟩ := by
  have sm : ∀ {i : Nat}, i ∉ vs → (wipe σ vs)[i]? = s.σ[i]? := fun {i} h => by rw [← hσ, wipe_out h]
  refine ⟨S.keep, S.fz, S.there, fun a ⟨i, h3, b, h4, h5⟩ => ?_, fun i a hi l => ?_, fun i h => ?_, fun i _ => by rw [h1]⟩
  · obtain ⟨h6, h7⟩ := wipeR_some h4
    exact S.cells a ⟨i, (sm h7).symm.trans h3, b, h6, h5⟩
  · obtain ⟨l1, b, l2, l3⟩ := l
    obtain ⟨g1, b', g2, g3⟩ := S.par i a hi ⟨l1, b, l2, l3⟩
    have hn : i ∉ vs := by rw [h2] at l2; exact (wipeR_some l2).2
    exact ⟨(sm hn).trans g1, b', by show (wipeR s.ρ vs)[i]? = _; rw [wipeR_out hn]; exact g2, g3⟩
  · have hn : i ∉ vs := by
      obtain ⟨b, hb⟩ := h
      rw [h2] at hb
      exact (wipeR_some hb).2
    obtain ⟨b, hb⟩ := S.stay i h
    exact ⟨b, by show (wipeR s.ρ vs)[i]? = _; rw [wipeR_out hn]; exact hb⟩
/-- the list that a block fills -/
theorem upd_fresh {K : PySem.W.Frag} {np : Nat} {s0 s : Sx} {p : Addr} {o u : HO} (R : Rel K s) (S : Step np s0 s) (h0 : s0.H p = none) (h : s.H p = some o) (hF : s.F p = none) (hc : ¬ Cell s p) :
    Rel K ⟨s.F, s.σ, upd s.H p u, s.ρ⟩ ∧ Step np s0 ⟨s.F, s.σ, upd s.H p u, s.ρ⟩ := by
  have ne : ∀ {a : Addr} {o : HO}, s0.H a = some o → a ≠ p := fun e z => by rw [z, h0] at e; cases e
  refine ⟨⟨fun a o' e => ?_, R.len, fun i b hb hx => ?_, R.sep, R.own⟩, ⟨fun a o' e n => ?_, S.fz, fun a o' e => ?_, S.cells, S.par, S.stay, S.same⟩⟩
  · show upd s.H p u a = some o'
    rw [upd_ne (fun z => by subst z; rw [hF] at e; cases e)]
    exact R.sub a o' e
  · obtain ⟨v, hv, r⟩ := R.slotX i b hb hx
    refine ⟨v, hv, r.keep (fun _ _ z => z) fun a hb' hv' o' e => ?_⟩
    subst hv'
    show upd s.H p u a = some o'
    rw [upd_ne (fun z => hc ⟨i, by rw [← z]; exact ⟨hv, b, hb, hb'⟩⟩)]
    exact e
  · show upd s.H p u a = some o'
    rw [upd_ne (ne e)]
    exact S.keep a o' e n
  · show ∃ o', upd s.H p u a = some o'
    rw [upd_ne (ne e)]
    exact S.there a o' e
/-- the end of the block: the names are what they were -/
theorem comp_end {K : PySem.W.Frag} {np : Nat} {s s4 : Sx} {w : Walk} {vs : List Nat} {ρ2 ρ3 : Env} (hvs : ∀ i ∈ vs, np ≤ i) (R : Rel K s) (mv : MvOk s.ρ w) (R4 : Rel K s4) (h4 : s4.σ = wipe s.σ vs)
    (S : Step np ⟨s.F, wipe s.σ vs, s.H, wipeR (outR s.ρ w.2) vs⟩ s4) (h2 : restoreR (outR s.ρ w.2) vs s4.ρ = some ρ2) (hw4 : ∀ i ∈ vs, ∀ b : B, s4.ρ[i]? ≠ some (some b)) (h3 : backR ρ2 w = some ρ3) :
    Rel K ⟨s4.F, s.σ, s4.H, ρ3⟩ ∧ Step np s ⟨s4.F, s.σ, s4.H, ρ3⟩ ∧ ∀ p, ¬ Cell s p → s.H p = none → ¬ Cell ⟨s4.F, s.σ, s4.H, ρ3⟩ p → True := by
  have Rw : Rel K ⟨s.F, wipe s.σ vs, s.H, wipeR (outR s.ρ w.2) vs⟩ := (R.out w.2).wiped (σ := s.σ) rfl
  have m : ∀ a o, s.F a = some o → s4.F a = some o := S.mono Rw
  obtain ⟨hl, hs⟩ := restore_spec h2
  have hlen : (outR s.ρ w.2).length = s4.ρ.length := by
    have e1 := R4.len
    rw [h4, wipe_length] at e1
    rw [← e1]
    exact (R.out w.2).len.symm
  obtain ⟨st1, st2⟩ := restore_stay h2 hlen
  have cw : ∀ {a}, Cell ⟨s.F, wipe s.σ vs, s.H, wipeR (outR s.ρ w.2) vs⟩ a → Cell (s.out w.2) a := fun {a} ⟨i, g1, b, g2, g3⟩ => by
    obtain ⟨g4, g5⟩ := wipeR_some g2
    have g1' : (wipe s.σ vs)[i]? = some (some (.ref a)) := g1
    exact ⟨i, (wipe_some g1').1, b, g4, g3⟩
  have cc : ∀ {i a}, CellAt ⟨s4.F, s.σ, s4.H, ρ2⟩ i a → CellAt s4 i a := fun {i a} ⟨g1, b, g2, g3⟩ => by
    rcases hs i b g2 with z | ⟨_, _, x, z⟩
    · have hn : i ∉ vs := fun z' => hw4 i z' b z
      exact ⟨by rw [h4, wipe_out hn]; exact g1, b, z, g3⟩
    · subst z; cases g3
  have R2 : Rel K ⟨s4.F, s.σ, s4.H, ρ2⟩ := by
    refine ⟨R4.sub, ?_, fun i b hb hx => ?_, fun i j a c1 c2 => R4.sep i j a (cc c1) (cc c2), fun i a c => R4.own i a (cc c)⟩
    · show s.σ.length = ρ2.length
      rw [hl, ← hlen]
      exact (R.out w.2).len
    · rcases hs i b hb with z | ⟨_, z, x, e⟩
      · obtain ⟨v, hv, r⟩ := R4.slotX i b z hx
        have hn : i ∉ vs := fun z' => hw4 i z' b z
        rw [h4, wipe_out hn] at hv
        exact ⟨v, hv, r⟩
      · subst e
        obtain ⟨v, hv, r⟩ := R.slot i _ (outR_some z).1
        exact ⟨v, hv, Rp.mono m r⟩
  have S2 : Step np (s.out w.2) ⟨s4.F, s.σ, s4.H, ρ2⟩ := by
    refine ⟨fun a o e n => S.keep a o e fun c => n (cw c), fun a o e n => S.fz a o e fun c => n (cw c), S.there, fun a ⟨i, c⟩ => ?_, fun i a hi l => ?_, fun i h => ?_, fun i _ => rfl⟩
    · rcases S.cells a ⟨i, cc c⟩ with z | z
      · exact .inl (cw z)
      · exact .inr z
    · have hn : i ∉ vs := fun z => Nat.lt_irrefl _ (Nat.lt_of_lt_of_le hi (hvs i z))
      obtain ⟨l1, b, l2, l3⟩ := l
      have l1' : s.σ[i]? = some (some (.ref a)) := l1
      have l2' : (outR s.ρ w.2)[i]? = some (some b) := l2
      obtain ⟨g1, b', g2, g3⟩ := S.par i a hi ⟨by show (wipe s.σ vs)[i]? = _; rw [wipe_out hn]; exact l1', b, by show (wipeR (outR s.ρ w.2) vs)[i]? = _; rw [wipeR_out hn]; exact l2', l3⟩
      obtain ⟨b2, hb2⟩ := st1 i ⟨b', g2⟩
      rcases hs i b2 hb2 with z | ⟨z, _⟩
      · rw [g2] at z
        cases z
        exact ⟨l1', b', hb2, g3⟩
      · exact absurd z hn
    · by_cases hn : i ∈ vs
      · exact st2 i hn h
      · obtain ⟨b, hb⟩ := h
        have hb' : (outR s.ρ w.2)[i]? = some (some b) := hb
        exact st1 i (S.stay i ⟨b, by show (wipeR (outR s.ρ w.2) vs)[i]? = _; rw [wipeR_out hn]; exact hb'⟩)
  obtain ⟨R3, S3⟩ := back_ok (s2 := ⟨s4.F, s.σ, s4.H, ρ2⟩) R mv S2 R2 h3
  exact ⟨R3, S3, fun _ _ _ _ => trivial⟩
theorem comp_run {s1 : Sx} {J : It} {g : TG} {bd : Bd} {vs : List Nat} {te : Mx W} {items : List D} {σ : St} {Qd : Hp → Prop} {Dl : Addr} (h1σ : s1.σ = wipe σ vs) {ρ1 : Env} (h1ρ : s1.ρ = wipeR ρ1 vs)
    (R1 : Rel Γ.K s1) (hD : s1.H Dl = none) (it : IterOk Γ s1 J items) (ok : OkGw Γ vs g bd) 
    (K : List D → Env → Prop) (fin : ∀ ys ρ', K ys ρ' → ∀ F' H' us, Rel Γ.K ⟨F', wipe σ vs, H', ρ'⟩ → Step Γ.np s1 ⟨F', wipe σ vs, H', ρ'⟩ → H' Dl = some (.lst us) → RpA F' us ys → F' Dl = none → ¬ Cell ⟨F', wipe σ vs, H', ρ'⟩ Dl → (∀ i ∈ vs, ∀ b : B, ρ'[i]? ≠ some (some b)) → Qd H')
    (h : match compL vs bd t te items [] s1.ρ with | .ok ys ρ' => K ys ρ' | _ => False) :
    ∃ Wd : Nat → Nat → Hp → Prop, (∃ m, Wd 0 m (upd s1.H Dl (.lst []))) ∧ ∀ i m H, Wd i m H → (J.stop i H ∧ Qd H) ∨ (J.go i H ∧ ∃ Nx : Hp → Prop, (∀ H', Nx H' → ∃ m', m' < m ∧ Wd (i + 1) m' H') ∧ ∀ x H', J.yld i H x H' → g x (wipe σ vs) H' fun σ2 H2 => wipe σ2 vs = wipe σ vs ∧ tT Γ W0 t σ2 H2 fun b H3 =>
      if b = true then tE Γ W0 te σ2 H3 fun y H4 => ∃ acc, H4 Dl = some (.lst acc) ∧ acc.length < sizeLine ∧ Nx (upd H4 Dl (.lst (acc ++ [y]))) else Nx H3) := by
  obtain ⟨F1, σ1, H1, ρ1'⟩ := s1
  have h1σ : σ1 = wipe σ vs := h1σ
  have h1ρ : ρ1' = wipeR ρ1 vs := h1ρ
  subst h1σ h1ρ
  have ww : wipe (wipe σ vs) vs = wipe σ vs := by
    have q : ∀ (us vs : List Nat), (∀ i ∈ us, i ∈ vs) → wipe (wipe σ vs) us = wipe σ vs := by
      intro us
      induction us with
      | nil => intro vs _; rfl
      | cons u us ih =>
        intro vs hu
        show (wipe (wipe σ vs) us).set u none = wipe σ vs
        rw [ih vs fun i hi => hu i (List.mem_cons_of_mem _ hi)]
        apply List.ext_getElem?
        intro k
        by_cases hk : k = u
        · subst hk
          have hm := hu k List.mem_cons_self
          by_cases hl : k < (wipe σ vs).length
          · rw [List.getElem?_set_self hl]
            have nn : ∀ x, (wipe σ vs)[k]? ≠ some (some x) := fun x z => (wipe_some z).2 hm
            rw [List.getElem?_eq_getElem hl]
            cases e : (wipe σ vs)[k] with
            | none => rfl
            | some x => exact absurd (by rw [List.getElem?_eq_getElem hl, e]) (nn x)
          · rw [List.getElem?_eq_none (by simpa using hl), List.getElem?_eq_none (by simpa using hl)]
        · rw [List.getElem?_set_ne (Ne.symm hk)]
    exact q vs vs fun _ z => z
  let P : Nat → Nat → Hp → Prop := fun i m H => ∃ F ρ us acc, Rel Γ.K ⟨F, wipe σ vs, H, ρ⟩ ∧ Step Γ.np ⟨F1, wipe σ vs, H1, wipeR ρ1 vs⟩ ⟨F, wipe σ vs, H, ρ⟩ ∧ H Dl = some (.lst us) ∧ RpA F us acc ∧ F Dl = none ∧ ¬ Cell ⟨F, wipe σ vs, H, ρ⟩ Dl ∧ (∃ ρ0, ρ = wipeR ρ0 vs) ∧ m = items.length - i ∧
    match compL vs bd t te (items.drop i) acc ρ with | .ok ys ρ' => K ys ρ' | _ => False
  refine ⟨P, ⟨items.length, ?_⟩, ?_⟩
  · obtain ⟨R', S'⟩ := R1.alloc (np := Γ.np) (p := Dl) (o := .lst []) (F' := F1) hD (.inl rfl)
    exact ⟨F1, wipeR ρ1 vs, [], [], R', S', upd_same, .nil, R1.free hD, fun ⟨i, c⟩ => R1.newNoCell hD ⟨i, c⟩, ⟨ρ1, rfl⟩, by simp, h⟩
  · rintro i m H ⟨F, ρ, us, acc, R, S, hu, ra, hF, hc, hρ0, rfl, h⟩
    obtain ⟨stop, turn⟩ := it i ⟨F, wipe σ vs, H, ρ⟩ S.kp R
    cases e : items[i]? with
    | none =>
      have hle : items.length ≤ i := List.getElem?_eq_none_iff.mp e
      rw [List.drop_eq_nil_of_le hle] at h
      obtain ⟨ρ0, rfl⟩ := hρ0
      exact .inl ⟨stop hle, fin acc _ h F H us R S hu ra hF hc fun i hi b z => (wipeR_some z).2 hi⟩
    | some d =>
      have hlt : i < items.length := (List.getElem?_eq_some_iff.mp e).1
      obtain ⟨go, yld⟩ := turn d e
      have ed : items.drop i = d :: items.drop (i + 1) := by
        rw [List.drop_eq_getElem_cons hlt]
        congr 1
        exact Option.some.inj ((List.getElem?_eq_getElem hlt).symm.trans e)
      rw [ed] at h
      unfold compL at h
      refine .inr ⟨go, fun H' => P (i + 1) (items.length - (i + 1)) H', fun H' q => ⟨items.length - (i + 1), by omega, q⟩, fun v H2 y => ?_⟩
      obtain ⟨F2, R2, S2, rv⟩ := yld v H2 y
      have R2 : Rel Γ.K ⟨F2, wipe σ vs, H2, ρ⟩ := R2
      have S2 : Step Γ.np ⟨F, wipe σ vs, H, ρ⟩ ⟨F2, wipe σ vs, H2, ρ⟩ := S2
      cases eb : bd d ρ with
      | none => rw [eb] at h; exact h.elim
      | some ρ3 =>
        rw [eb] at h
        simp only at h
        refine ok ⟨F2, wipe σ vs, H2, ρ⟩ v d ρ3 _ R2 rv eb fun σ3 hw R3 S3 => ⟨hw.trans ww, F2, ρ3, R3, ?_⟩
        have R3 : Rel Γ.K ⟨F2, σ3, H2, ρ3⟩ := R3
        have St : Step Γ.np ⟨F1, wipe σ vs, H1, wipeR ρ1 vs⟩ ⟨F2, σ3, H2, ρ3⟩ := (S.trans S2).trans S3
        have hw3 : wipe σ3 vs = wipe σ vs := hw.trans ww
        -- the list that is filled, at any later state of the turn
        have there : ∀ {s' : Sx}, Rel Γ.K s' → Step Γ.np ⟨F, wipe σ vs, H, ρ⟩ s' → s'.H Dl = some (.lst us) ∧ RpA s'.F us acc ∧ s'.F Dl = none ∧ ¬ Cell s' Dl := fun {s'} R' S' =>
          ⟨S'.keep Dl _ hu hc, ra.mono (S'.mono R), (S'.fz Dl _ hu hc).trans hF, fun c => (S'.cells Dl c).elim hc fun z => by
            have z' : H Dl = none := z
            rw [hu] at z'; cases z'⟩
        cases et : t ρ3 with
        | st => rw [et] at h; exact h.elim
        | er c ρ4 => rw [et] at h; exact h.elim
        | ok b ρ4 =>
          rw [et] at h
          intro F4 H4 R4 S4
          have R4 : Rel Γ.K ⟨F4, σ3, H4, ρ4⟩ := R4
          have S4 : Step Γ.np ⟨F2, σ3, H2, ρ3⟩ ⟨F4, σ3, H4, ρ4⟩ := S4
          cases b with
          | false =>
            obtain ⟨t1, t2, t3, t4⟩ := there R4 ((S2.trans S3).trans S4)
            have Rw := R4.wiped (σ := σ) hw3
            have Sw := (St.trans S4).wiped (σ := σ) rfl rfl hw3
            refine ⟨F4, wipeR ρ4 vs, us, acc, Rw, Sw, t1, t2, t3, fun ⟨j, g1, b, g2, g3⟩ => ?_, ⟨ρ4, rfl⟩, rfl, h⟩
            obtain ⟨g4, g5⟩ := wipeR_some g2
            have g1' : (wipe σ vs)[j]? = some (some (.ref Dl)) := g1
            rw [← hw3, wipe_out g5] at g1'
            exact t4 ⟨j, g1', b, g4, g3⟩
          | true =>
            simp only at h
            refine ⟨F4, ρ4, R4, ?_⟩
            cases ee : te ρ4 with
            | st => rw [ee] at h; exact h.elim
            | er c ρ5 => rw [ee] at h; exact h.elim
            | ok w ρ5 =>
              rw [ee] at h
              intro y F5 H5 R5 S5 rw5
              have R5 : Rel Γ.K ⟨F5, σ3, H5, ρ5⟩ := R5
              have S5 : Step Γ.np ⟨F4, σ3, H4, ρ4⟩ ⟨F5, σ3, H5, ρ5⟩ := S5
              simp only at h
              cases ew : w.datum ρ5 with
              | none => rw [ew] at h; exact h.elim
              | some q =>
                obtain ⟨y', ρ6⟩ := q
                simp only [ew] at h
                by_cases hlen : acc.length < 100000
                · rw [if_pos hlen] at h
                  obtain ⟨F6, R6, S6, p6, m6, n6, c6⟩ := datum_ok (s := ⟨F5, σ3, H5, ρ5⟩) R5 S5 rw5 ew
                  have S6 : Step Γ.np ⟨F4, σ3, H4, ρ4⟩ ⟨F6, σ3, H5, ρ6⟩ := S6
                  have R6 : Rel Γ.K ⟨F6, σ3, H5, ρ6⟩ := R6
                  obtain ⟨t1, t2, t3, t4⟩ := there R6 (((S2.trans S3).trans S4).trans S6)
                  have t1 : H5 Dl = some (.lst us) := t1
                  refine ⟨us, t1, by rw [ra.length]; exact Nat.lt_of_lt_of_le hlen (by decide), ?_⟩
                  obtain ⟨R7, S7⟩ := upd_fresh (u := .lst (us ++ [y])) R6 ((St.trans S4).trans S6) hD t1 t3 t4
                  have Rw := R7.wiped (σ := σ) (vs := vs) hw3
                  have Sw := S7.wiped (σ := σ) (vs := vs) rfl rfl hw3
                  refine ⟨F6, wipeR ρ6 vs, us ++ [y], acc ++ [y'], Rw, Sw, upd_same, RpA.append t2 (.one p6), t3, fun ⟨j, g1, b, g2, g3⟩ => ?_, ⟨ρ6, rfl⟩, rfl, h⟩
                  obtain ⟨g4, g5⟩ := wipeR_some g2
                  have g1' : (wipe σ vs)[j]? = some (some (.ref Dl)) := g1
                  rw [← hw3, wipe_out g5] at g1'
                  exact t4 ⟨j, g1', b, g4, g3⟩
                · rw [if_neg hlen] at h
                  exact h.elim
theorem postwi_bnd {s : Sx} {Q : VK} {m : Mx Walk} {k : Walk → Mx W} {K : It → Hp → Prop} (h : Post Γ Wx s (bnd m k s.ρ) Q)
    (hk : ∀ w J F1 H1 ρ1, Rel Γ.K ⟨F1, s.σ, H1, ρ1⟩ → Step Γ.np s ⟨F1, s.σ, H1, ρ1⟩ → MvOk ρ1 w → IterOk Γ (Sx.out ⟨F1, s.σ, H1, ρ1⟩ w.2) J w.1 → Post Γ Wx ⟨F1, s.σ, H1, ρ1⟩ (k w ρ1) Q → K J H1) : PostI Γ Wx s (m s.ρ) K := by
  unfold bnd at h
  cases e : m s.ρ with
  | ok w ρ1 =>
    rw [e] at h
    exact fun J F1 H1 R1 S1 mv it => hk w J F1 H1 ρ1 R1 S1 mv it (Post.step (s1 := ⟨F1, s.σ, H1, ρ1⟩) S1 rfl h)
  | er c ρ1 => rw [e] at h; exact h
  | st => rw [e] at h; exact h
theorem tLc_of {m : Mx Walk} {g : TG} {bd : Bd} {te : Mx W} {vs : List Nat} (ok : OkGw Γ vs g bd) (hvs : ∀ i ∈ vs, Γ.np ≤ i) : ∀ σ H Q, tE Γ Wx (mComp vs m bd t te) σ H Q → tLc (tI Γ Wx m) g (tT Γ W0 t) (tE Γ W0 te) vs σ H Q := fun σ H Q ⟨F, ρ, R, h⟩ =>
  ⟨F, ρ, R, postwi_bnd (s := ⟨F, σ, H, ρ⟩) h fun w J F1 H1 ρ1 R1 S1 mv it h1 Dl hD => by
    have R1 : Rel Γ.K ⟨F1, σ, H1, ρ1⟩ := R1
    have mv' : MvOk (Sx.ρ ⟨F1, σ, H1, ρ1⟩) w := mv
    refine comp_run (Γ := Γ) (items := w.1) (t := t) (te := te) (bd := bd) (s1 := ⟨F1, wipe σ vs, H1, wipeR (outR ρ1 w.2) vs⟩) (ρ1 := outR ρ1 w.2) rfl rfl ((R1.out w.2).wiped (σ := σ) (vs := vs) rfl) hD ?_ ok
      (fun ys ρ' => match restoreR (outR ρ1 w.2) vs ρ' with
        | some ρ'' => match backR ρ'' w with
          | some ρ3 => Post Γ Wx ⟨F1, σ, H1, ρ1⟩ (.ok (.l ys) ρ3) Q
          | none => False
        | none => False) ?_ ?_
    · intro i s K' R'
      refine it i s ⟨fun a o e n => K'.keep a o e fun ⟨j, g1, b, g2, g3⟩ => ?_, fun a o e n => K'.fz a o e fun ⟨j, g1, b, g2, g3⟩ => ?_⟩ R'
      · obtain ⟨g4, g5⟩ := wipeR_some g2
        have g1' : (wipe σ vs)[j]? = some (some (.ref a)) := g1
        exact n ⟨j, (wipe_some g1').1, b, g4, g3⟩
      · obtain ⟨g4, g5⟩ := wipeR_some g2
        have g1' : (wipe σ vs)[j]? = some (some (.ref a)) := g1
        exact n ⟨j, (wipe_some g1').1, b, g4, g3⟩
    · intro ys ρ' hk F' H' us R' S' hu ra hF hc hw
      cases e1 : restoreR (outR ρ1 w.2) vs ρ' with
      | none => simp only [e1] at hk
      | some ρ2 =>
        simp only [e1] at hk
        cases e2 : backR ρ2 w with
        | none => simp only [e2] at hk
        | some ρ3 =>
          simp only [e2] at hk
          obtain ⟨R3, S3, _⟩ := comp_end (s := ⟨F1, σ, H1, ρ1⟩) (s4 := ⟨F', wipe σ vs, H', ρ'⟩) hvs R1 mv' R' rfl S' e1 hw e2
          refine hk (.ref Dl) F' H' R3 S3 ⟨Dl, us, rfl, hu, ra, hF, hD, fun c => ?_⟩
          rcases S3.cells Dl c with z | z
          · exact R1.newNoCell hD z
          · obtain ⟨j, g1, b, g2, g3⟩ := c
            obtain ⟨_, hs⟩ := restore_spec e1
            have gb : ρ2[j]? = some (some b) ∨ (Sx.ρ ⟨F1, σ, H1, ρ1⟩)[j]? = some (some (.l w.1)) := by
              unfold backR at e2
              cases hw2 : w.2 with
              | none => simp only [hw2] at e2; cases e2; exact .inl g2
              | some k =>
                simp only [hw2] at e2
                split at e2
                · cases e2
                  rcases getElem?_set_cases g2 with ⟨g4, _⟩ | ⟨g4, g5⟩
                  · subst g4
                    exact .inr (mv' j hw2)
                  · exact .inl g5
                · cases e2
            rcases gb with gb | gb
            · rcases hs j b gb with z | ⟨_, _, x, z⟩
              · have hn : j ∉ vs := fun z' => hw j z' b z
                exact hc ⟨j, by show (wipe σ vs)[j]? = _; rw [wipe_out hn]; exact g1, b, z, g3⟩
              · subst z; cases g3
            · exact R1.newNoCell hD ⟨j, g1, _, gb, rfl⟩
    · show match compL vs bd t te w.1 [] (wipeR (outR ρ1 w.2) vs) with | .ok ys ρ' => _ | _ => False
      cases e : compL vs bd t te w.1 [] (wipeR (outR ρ1 w.2) vs) with
      | st => simp only [e] at h1; exact h1.elim
      | er c ρ' => simp only [e] at h1; exact h1.elim
      | ok ys ρ' =>
        simp only [e] at h1
        cases e1 : restoreR (outR ρ1 w.2) vs ρ' with
        | none => simp only [e1] at h1; exact h1.elim
        | some ρ2 =>
          simp only [e1] at h1
          cases e2 : backR ρ2 w with
          | none => simp only [e2] at h1; exact h1.elim
          | some ρ3 =>
            simp only [e2] at h1
            simp only [e1, e2]
            exact h1⟩
/-- [elt for tg in iter if ..] -/
theorem de_comp {elt tg iter : Expr} {ifs : List Expr} {scope : Scope} {own : List (Str × Nat)} {m : Mx Walk} {g : TG} {bd : Bd} {te : Mx W} (hc : X.calm = true) (hN : X.N.Nodup) (hi : DI X Γ Wx tg iter m) (ok : BlkOk X.N X.env.scope scope own)
    (hg : ∀ (s : Shared) (H : Hp) (C : Addr) (cl : List (Str × Addr)) (fp : List Addr), PG (X.blk s H scope (compEnvC scope cl C X.env) fp) tg g) (okg : OkGw Γ (own.map (·.2)) g bd) (hvs : (own.map (·.2)).all (fun i => decide (Γ.np ≤ i)) = true)
    (ht : ∀ (s : Shared) (H : Hp) (C : Addr) (cl : List (Str × Addr)) (fp : List Addr), DTs (X.blk s H scope (compEnvC scope cl C X.env) fp) Γ W0 ifs t)
    (he : ∀ (s : Shared) (H : Hp) (C : Addr) (cl : List (Str × Addr)) (fp : List Addr), DE (X.blk s H scope (compEnvC scope cl C X.env) fp) Γ W0 elt te)
    (hs : ∀ x, foldedSetIterable iter X.env x = pure x := by intro _; rfl) : DE X Γ Wx (.ListComp elt [⟨tg, iter, ifs, 0⟩] scope pos) (mComp (own.map (·.2)) m bd t te) :=
  PE.imp (pe_lc hc hN hi ok hg ht he hs) (tLc_of okg fun i h => of_decide_eq_true (List.all_eq_true.mp hvs i h))
/-- y = [elt for tg in iter if ..] -/
theorem ds_setLc (i : Nat) {y : Str} {py : Pos} {elt tg iter : Expr} {ifs : List Expr} {scope : Scope} {own : List (Str × Nat)} {spos : Pos} {m : Mx Walk} {g : TG} {bd : Bd} {te : Mx W} (hc : X.calm = true) (hN : X.N.Nodup) (hi : DI X Γ Wx tg iter m) (ok : BlkOk X.N X.env.scope scope own)
    (hg : ∀ (s : Shared) (H : Hp) (C : Addr) (cl : List (Str × Addr)) (fp : List Addr), PG (X.blk s H scope (compEnvC scope cl C X.env) fp) tg g) (okg : OkGw Γ (own.map (·.2)) g bd) (hvs : (own.map (·.2)).all (fun i => decide (Γ.np ≤ i)) = true)
    (ht : ∀ (s : Shared) (H : Hp) (C : Addr) (cl : List (Str × Addr)) (fp : List Addr), DTs (X.blk s H scope (compEnvC scope cl C X.env) fp) Γ W0 ifs t)
    (he : ∀ (s : Shared) (H : Hp) (C : Addr) (cl : List (Str × Addr)) (fp : List Addr), DE (X.blk s H scope (compEnvC scope cl C X.env) fp) Γ W0 elt te)
    (hy : X.N[i]? = some y := by rfl) (hyl : X.env.scope.names.lookup y = some .local := by rfl) (hsw : swapsWith (.ListComp elt [⟨tg, iter, ifs, 0⟩] scope pos) (some (.Name y py)) spos.line X.env = pure true := by exact sw_true rfl rfl rfl (by decide +kernel))
    (hs : ∀ x, foldedSetIterable iter X.env x = pure x := by intro _; rfl) : DS X Γ Wx (.Assign [.Name y py] (.ListComp elt [⟨tg, iter, ifs, 0⟩] scope pos) spos) (sSet Γ.np i (mComp (own.map (·.2)) m bd t te)) :=
  PS.imp (ps_setLc hc hN hy hyl hsw hi ok hg ht he hs) fun Dn σ H ⟨F, ρ, R, h⟩ => tLc_of okg (fun i h => of_decide_eq_true (List.all_eq_true.mp hvs i h)) σ H (fun v H1 => Dn.nx (σ.set i (some v)) H1) ⟨F, ρ, R, set_end (s := ⟨F, σ, H, ρ⟩) h⟩
end
end TD
namespace TD
open PySem PySem.Spec L2

/-! ### a def: what it computes of its arguments; a list handed in may come back changed -/
inductive FO where
  | ok (b : B) (bs : List B)
  | er (c : Str) (bs : List B)
  | st
def ofB : B → W
  | .d x => .d x
  | .l xs => .l xs
  | .t kvs => .t kvs
  | _ => .d .none
/-- only cells come back changed -/
def Kept (bs bs' : List B) : Prop := bs'.length = bs.length ∧ ∀ (j : Nat) (b : B), bs[j]? = some b → b.isCell = false → bs'[j]? = some b
def scOf (F : Hp) (vs : List V) (H : Hp) (bs : List B) : Sx := ⟨F, vs.map some, H, bs.map some⟩
def spF (K : PySem.W.Frag) (mg : Str → Option Value) (f : List B → FO) : Sp := fun vs H Q E => ∃ F bs, Rel K (scOf F vs H bs) ∧
  match f bs with
  | .ok b bs' => ∀ v F' H', Rel K (scOf F' vs H' bs') → Step vs.length (scOf F vs H bs) (scOf F' vs H' bs') → VRep K H (scOf F' vs H' bs') v (ofB b) → Kept bs bs' → Q v H'
  | .er c bs' => ∀ F' H' C, mg c = some (.ref C) → Rel K (scOf F' vs H' bs') → Step vs.length (scOf F vs H bs) (scOf F' vs H' bs') → Kept bs bs' → E (.ref C) none H'
  | .st => False
/-! the caller's side -/
def W.res (ρ : Env) : W → Option B
  | .d x => some (.d x)
  | .l xs => some (.l xs)
  | .t kvs => some (.t kvs)
  | .c i => match ρ[i]? with
    | some (some .x) => none
    | some (some b) => some b
    | _ => none
def ress : List W → Env → Option (List B)
  | [], _ => some []
  | w :: ws, ρ => match w.res ρ with
    | none => none
    | some b => match ress ws ρ with
      | none => none
      | some bs => some (b :: bs)
def lookC : List W → List B → Nat → Option B
  | .c i :: ws, b :: bs, k => if i = k then some b else lookC ws bs k
  | _ :: ws, _ :: bs, k => lookC ws bs k
  | _, _, _ => none
def slotsOf : List W → List Nat
  | [] => []
  | .c i :: ws => i :: slotsOf ws
  | _ :: ws => slotsOf ws
def wbk (ws : List W) (bs : List B) (k : Nat) : Option B → Option B
  | some b => if b.isCell = true then (match lookC ws bs k with
    | some b' => some b'
    | none => some b) else some b
  | none => none
def wb (ws : List W) (bs : List B) (ρ : Env) : Env := ρ.mapIdx (wbk ws bs)
def mCall (f : List B → FO) (fs : Mx (List W)) : Mx W := bnd fs fun ws ρ => match ress ws ρ with
  | none => .st
  | some bs => if (slotsOf ws).Nodup then (match f bs with
    | .ok b bs' => .ok (ofB b) (wb ws bs' ρ)
    | .er c bs' => .er c (wb ws bs' ρ)
    | .st => .st) else .st
theorem lookC_some : ∀ {ws : List W} {bs : List B} {k : Nat} {b : B}, lookC ws bs k = some b → ∃ j : Nat, ws[j]? = some (.c k) ∧ bs[j]? = some b
  | [], _, _, _, h => by cases h
  | .c i :: ws, [], _, _, h => by cases h
  | .c i :: ws, b :: bs, k, b', h => by
    unfold lookC at h
    split at h
    · rename_i e
      cases h
      exact ⟨0, by rw [e]; rfl, rfl⟩
    · obtain ⟨j, h1, h2⟩ := lookC_some h
      exact ⟨j + 1, h1, h2⟩
  | .d _ :: ws, b :: bs, k, b', h => by
    obtain ⟨j, h1, h2⟩ := lookC_some (ws := ws) (bs := bs) h
    exact ⟨j + 1, h1, h2⟩
  | .l _ :: ws, b :: bs, k, b', h => by
    obtain ⟨j, h1, h2⟩ := lookC_some (ws := ws) (bs := bs) h
    exact ⟨j + 1, h1, h2⟩
  | .t _ :: ws, b :: bs, k, b', h => by
    obtain ⟨j, h1, h2⟩ := lookC_some (ws := ws) (bs := bs) h
    exact ⟨j + 1, h1, h2⟩
  | .d _ :: ws, [], _, _, h => by cases h
  | .l _ :: ws, [], _, _, h => by cases h
  | .t _ :: ws, [], _, _, h => by cases h
theorem lookC_none : ∀ {ws : List W} {bs : List B} {k : Nat}, lookC ws bs k = none → bs.length = ws.length → ∀ j : Nat, ws[j]? ≠ some (.c k)
  | [], _, _, _, _, j => by simp
  | w :: ws, [], _, _, h, _ => by cases h
  | .c i :: ws, b :: bs, k, h, hl, j => by
    unfold lookC at h
    split at h
    · cases h
    · rename_i e
      cases j with
      | zero => intro z; cases z; exact e rfl
      | succ j => exact lookC_none h (by simpa using hl) j
  | .d _ :: ws, b :: bs, k, h, hl, j => by
    cases j with
    | zero => intro z; cases z
    | succ j => exact lookC_none (ws := ws) (bs := bs) h (by simpa using hl) j
  | .l _ :: ws, b :: bs, k, h, hl, j => by
    cases j with
    | zero => intro z; cases z
    | succ j => exact lookC_none (ws := ws) (bs := bs) h (by simpa using hl) j
  | .t _ :: ws, b :: bs, k, h, hl, j => by
    cases j with
    | zero => intro z; cases z
    | succ j => exact lookC_none (ws := ws) (bs := bs) h (by simpa using hl) j
theorem mem_slots : ∀ {ws : List W} {j k : Nat}, ws[j]? = some (.c k) → k ∈ slotsOf ws
  | [], _, _, h => by simp at h
  | w :: ws, 0, k, h => by cases h; exact List.mem_cons_self
  | .c i :: ws, j + 1, k, h => List.mem_cons_of_mem _ (mem_slots (ws := ws) (j := j) h)
  | .d _ :: ws, j + 1, k, h => mem_slots (ws := ws) (j := j) h
  | .l _ :: ws, j + 1, k, h => mem_slots (ws := ws) (j := j) h
  | .t _ :: ws, j + 1, k, h => mem_slots (ws := ws) (j := j) h
theorem slots_inj : ∀ {ws : List W} {i j k : Nat}, (slotsOf ws).Nodup → ws[i]? = some (.c k) → ws[j]? = some (.c k) → i = j
  | [], _, _, _, _, h, _ => by simp at h
  | w :: ws, 0, 0, _, _, _, _ => rfl
  | w :: ws, 0, j + 1, k, hn, h1, h2 => by
    cases h1
    exact absurd (mem_slots (ws := ws) (j := j) h2) (List.nodup_cons.mp hn).1
  | w :: ws, i + 1, 0, k, hn, h1, h2 => by
    cases h2
    exact absurd (mem_slots (ws := ws) (j := i) h1) (List.nodup_cons.mp hn).1
  | .c i' :: ws, i + 1, j + 1, k, hn, h1, h2 => congrArg (· + 1) (slots_inj (ws := ws) (List.nodup_cons.mp hn).2 h1 h2)
  | .d _ :: ws, i + 1, j + 1, k, hn, h1, h2 => congrArg (· + 1) (slots_inj (ws := ws) hn h1 h2)
  | .l _ :: ws, i + 1, j + 1, k, hn, h1, h2 => congrArg (· + 1) (slots_inj (ws := ws) hn h1 h2)
  | .t _ :: ws, i + 1, j + 1, k, hn, h1, h2 => congrArg (· + 1) (slots_inj (ws := ws) hn h1 h2)
theorem ress_len : ∀ {ws : List W} {ρ : Env} {bs : List B}, ress ws ρ = some bs → bs.length = ws.length
  | [], _, _, h => by cases h; rfl
  | w :: ws, ρ, bs, h => by
    unfold ress at h
    cases e : w.res ρ with
    | none => rw [e] at h; cases h
    | some b =>
      rw [e] at h
      cases e2 : ress ws ρ with
      | none => simp only [e2] at h; cases h
      | some br => simp only [e2] at h; cases h; exact congrArg (· + 1) (ress_len e2)
theorem ress_get : ∀ {ws : List W} {ρ : Env} {bs : List B} {j : Nat} {b : B}, ress ws ρ = some bs → bs[j]? = some b → ∃ w, ws[j]? = some w ∧ w.res ρ = some b
  | [], _, _, _, _, h, hb => by cases h; simp at hb
  | w :: ws, ρ, bs, j, b, h, hb => by
    unfold ress at h
    cases e : w.res ρ with
    | none => rw [e] at h; cases h
    | some b0 =>
      rw [e] at h
      cases e2 : ress ws ρ with
      | none => simp only [e2] at h; cases h
      | some br =>
        simp only [e2] at h
        cases h
        cases j with
        | zero => cases hb; exact ⟨w, rfl, e⟩
        | succ j => exact ress_get (j := j) e2 hb
theorem VRep.res {K : PySem.W.Frag} {H0 : Hp} {s : Sx} {v : V} {w : W} {b : B} (R : Rel K s) (r : VRep K H0 s v w) (h : w.res s.ρ = some b) : BRep K s.F s.H v b ∧ b.isX = false ∧ (b.isCell = true → ∀ a, v = .ref a → s.F a = none ∧ (w.isTmp = true ∧ ¬ Cell s a ∧ H0 a = none ∨ ∃ i, w = .c i ∧ CellAt s i a)) := by
  cases w with
  | d x => cases h; exact ⟨r, rfl, fun z => by cases z⟩
  | l xs =>
    cases h
    obtain ⟨p, vs, rfl, e, q, hF, h0, nc⟩ := r
    exact ⟨⟨p, vs, rfl, e, q⟩, rfl, fun _ a z => by cases z; exact ⟨hF, .inl ⟨rfl, nc, h0⟩⟩⟩
  | t xs =>
    cases h
    obtain ⟨p, vs, rfl, e, q, hF, h0, nc⟩ := r
    exact ⟨⟨p, vs, rfl, e, q⟩, rfl, fun _ a z => by cases z; exact ⟨hF, .inl ⟨rfl, nc, h0⟩⟩⟩
  | c i =>
    have r' : s.σ[i]? = some (some v) := r
    simp only [W.res] at h
    split at h
    · cases h
    · rename_i b0 hb hn
      cases h
      have hx : b.isX = false := by cases b <;> first | rfl | exact (hb rfl).elim
      obtain ⟨v', hv, q⟩ := R.slot i _ hn
      rw [r'] at hv
      cases hv
      refine ⟨q, hx, fun hc a z => ?_⟩
      subst z
      have c : CellAt s i a := ⟨r', b, hn, hc⟩
      exact ⟨R.own i a c, .inr ⟨i, rfl, c⟩⟩
    · cases h
theorem getElem?_map_some {α β : Type} {f : α → β} {l : List α} {i : Nat} {y : β} (h : (l.map f)[i]? = some y) : ∃ x, l[i]? = some x ∧ f x = y := by
  rw [List.getElem?_map] at h
  cases e : l[i]? with
  | none => rw [e] at h; cases h
  | some x => rw [e] at h; exact ⟨x, rfl, Option.some.inj h⟩
theorem cell_sc {F H : Hp} {vs : List V} {bs : List B} {j : Nat} {a : Addr} (c : CellAt (scOf F vs H bs) j a) : vs[j]? = some (.ref a) ∧ ∃ b, bs[j]? = some b ∧ b.isCell = true := by
  obtain ⟨h1, b, h2, h3⟩ := c
  obtain ⟨x, e1, e2⟩ := getElem?_map_some h1
  obtain ⟨y, e3, e4⟩ := getElem?_map_some h2
  cases e2
  cases e4
  exact ⟨e1, b, e3, h3⟩
theorem sc_cell {F H : Hp} {vs : List V} {bs : List B} {j : Nat} {a : Addr} {b : B} (h1 : vs[j]? = some (.ref a)) (h2 : bs[j]? = some b) (h3 : b.isCell = true) : CellAt (scOf F vs H bs) j a :=
  ⟨by show (vs.map some)[j]? = _; rw [List.getElem?_map, h1]; rfl, b, by show (bs.map some)[j]? = _; rw [List.getElem?_map, h2]; rfl, h3⟩
section
variable {X : Cx} {Γ : Cn} {Wx : WX} {f : Mx W} {fs : Mx (List W)} {pos : Pos}
/-- the arguments as the callee meets them -/
theorem call_in {H0 : Hp} {s : Sx} {vs : List V} {ws : List W} {bs : List B} (R : Rel Γ.K s) (r : VReps Γ.K H0 s vs ws) (h : ress ws s.ρ = some bs) (hn : (slotsOf ws).Nodup) :
    Rel Γ.K (scOf s.F vs s.H bs) ∧ ∀ j a, CellAt (scOf s.F vs s.H bs) j a → (∃ w, ws[j]? = some w ∧ w.isTmp = true ∧ ¬ Cell s a ∧ H0 a = none) ∨ ∃ i, ws[j]? = some (.c i) ∧ CellAt s i a := by
  have info : ∀ {j : Nat} {b : B}, bs[j]? = some b → ∃ w v, ws[j]? = some w ∧ vs[j]? = some v ∧ BRep Γ.K s.F s.H v b ∧ b.isX = false ∧ (b.isCell = true → ∀ a, v = .ref a → s.F a = none ∧ (w.isTmp = true ∧ ¬ Cell s a ∧ H0 a = none ∨ ∃ i, w = .c i ∧ CellAt s i a)) := fun {j b} hb => by
    obtain ⟨w, hw, hr⟩ := ress_get h hb
    have hj : j < vs.length := by
      rw [r.length]
      exact (List.getElem?_eq_some_iff.mp hw).1
    have hv := List.getElem?_eq_getElem hj
    obtain ⟨q1, q2, q3⟩ := (r.get hv hw).res R hr
    exact ⟨w, _, hw, hv, q1, q2, q3⟩
  have cells : ∀ j a, CellAt (scOf s.F vs s.H bs) j a → s.F a = none ∧ ((∃ w, ws[j]? = some w ∧ w.isTmp = true ∧ ¬ Cell s a ∧ H0 a = none) ∨ ∃ i, ws[j]? = some (.c i) ∧ CellAt s i a) := fun j a c => by
    obtain ⟨c1, b, c2, c3⟩ := cell_sc c
    obtain ⟨w, v, hw, hv, _, _, q⟩ := info c2
    rw [c1] at hv
    cases hv
    obtain ⟨q1, q2⟩ := q c3 a rfl
    refine ⟨q1, q2.imp (fun z => ⟨w, hw, z.1, z.2.1, z.2.2⟩) fun ⟨i, e, z⟩ => ⟨i, by rw [hw, e], z⟩⟩
  refine ⟨⟨R.sub, ?_, fun i b hb hx => ?_, fun i j a c1 c2 => ?_, fun i a c => (cells i a c).1⟩, fun j a c => (cells j a c).2⟩
  · show (vs.map some).length = (bs.map some).length
    rw [List.length_map, List.length_map, r.length, ress_len h]
  · obtain ⟨y, e3, e4⟩ := getElem?_map_some hb
    cases e4
    obtain ⟨w, v, hw, hv, q, _⟩ := info e3
    exact ⟨v, by show (vs.map some)[i]? = _; rw [List.getElem?_map, hv]; rfl, q⟩
  · have v1 := (cell_sc c1).1
    have v2 := (cell_sc c2).1
    rcases (cells i a c1).2 with ⟨w, h1, h2, h3, h4⟩ | ⟨k, h1, h2⟩ <;> rcases (cells j a c2).2 with ⟨w', g1, g2, g3, g4⟩ | ⟨k', g1, g2⟩
    · -- two temporaries at one address
      have key : ∀ (vs : List V) (ws : List W) (i j : Nat) (w w' : W), VReps Γ.K H0 s vs ws → ws[i]? = some w → w.isTmp = true → ws[j]? = some w' → w'.isTmp = true → vs[i]? = some (.ref a) → vs[j]? = some (.ref a) → i = j := by
        intro vs
        induction vs with
        | nil => intro ws i j w w' q _ _ _ _ z; simp at z
        | cons v vr ih =>
          intro ws i j w w' q e1 t1 e2 t2 z1 z2
          cases ws with
          | nil => exact q.elim
          | cons w0 wr =>
            cases i with
            | zero =>
              cases j with
              | zero => rfl
              | succ j =>
                cases e1
                cases z1
                exact absurd z2 (q.2.2 t1 j w' e2 t2)
            | succ i =>
              cases j with
              | zero =>
                cases e2
                cases z2
                exact absurd z1 (q.2.2 t2 i w e1 t1)
              | succ j => exact congrArg (· + 1) (ih wr i j w w' q.2.1 e1 t1 e2 t2 z1 z2)
      exact key vs ws i j w w' r h1 h2 g1 g2 v1 v2
    · exact absurd ⟨k', g2⟩ h3
    · exact absurd ⟨k, h2⟩ g3
    · have e := R.sep k k' a h2 g2
      subst e
      exact slots_inj hn h1 g1
theorem wb_get {ws : List W} {bs : List B} {ρ : Env} {k : Nat} {b : B} (h : (wb ws bs ρ)[k]? = some (some b)) : ∃ b0, ρ[k]? = some (some b0) ∧ (b0.isCell = false ∧ b = b0 ∨ b0.isCell = true ∧ (lookC ws bs k = some b ∨ lookC ws bs k = none ∧ b = b0)) := by
  unfold wb at h
  rw [List.getElem?_mapIdx] at h
  cases e : ρ[k]? with
  | none => rw [e] at h; cases h
  | some o =>
    rw [e] at h
    have h : wbk ws bs k o = some b := Option.some.inj h
    cases o with
    | none => cases h
    | some b0 =>
      refine ⟨b0, rfl, ?_⟩
      simp only [wbk] at h
      by_cases hc : b0.isCell = true
      · rw [if_pos hc] at h
        cases e2 : lookC ws bs k with
        | none => simp only [e2] at h; exact .inr ⟨hc, .inr ⟨rfl, (Option.some.inj h).symm⟩⟩
        | some b' => simp only [e2] at h; exact .inr ⟨hc, .inl h⟩
      · rw [if_neg hc] at h
        exact .inl ⟨by simpa using hc, (Option.some.inj h).symm⟩
theorem wb_some {ws : List W} {bs : List B} {ρ : Env} {k : Nat} (h : ∃ b : B, ρ[k]? = some (some b)) : ∃ b : B, (wb ws bs ρ)[k]? = some (some b) := by
  obtain ⟨b, h⟩ := h
  unfold wb
  rw [List.getElem?_mapIdx, h]
  show ∃ b', some (wbk ws bs k (some b)) = some (some b')
  unfold wbk
  simp only
  split
  · split
    · exact ⟨_, rfl⟩
    · exact ⟨_, rfl⟩
  · exact ⟨_, rfl⟩
/-- behind the call -/
theorem call_out {s0 s : Sx} {vs : List V} {ws : List W} {bs bs' : List B} {F' H' : Hp} (R : Rel Γ.K s) (S : Step Γ.np s0 s) (r : VReps Γ.K s0.H s vs ws) (h : ress ws s.ρ = some bs) (hn : (slotsOf ws).Nodup)
    (R' : Rel Γ.K (scOf F' vs H' bs')) (S' : Step vs.length (scOf s.F vs s.H bs) (scOf F' vs H' bs')) (kp : Kept bs bs') :
    Rel Γ.K ⟨F', s.σ, H', wb ws bs' s.ρ⟩ ∧ Step Γ.np s0 ⟨F', s.σ, H', wb ws bs' s.ρ⟩ ∧ ∀ p, s.H p = none → s0.H p = none ∧ ¬ Cell ⟨F', s.σ, H', wb ws bs' s.ρ⟩ p := by
  obtain ⟨Rc, cells⟩ := call_in R r h hn
  have m : ∀ a o, s.F a = some o → F' a = some o := S'.mono Rc
  have hl : bs'.length = ws.length := kp.1.trans (ress_len h)
  have old : ∀ {k a}, CellAt ⟨F', s.σ, H', wb ws bs' s.ρ⟩ k a → CellAt s k a ∧ ((∃ j : Nat, ws[j]? = some (.c k) ∧ CellAt (scOf F' vs H' bs') j a) ∨ ¬ Cell (scOf s.F vs s.H bs) a) := fun {k a} ⟨h1, b, h2, h3⟩ => by
    obtain ⟨b0, e0, q⟩ := wb_get h2
    have c0 : b0.isCell = true := by
      rcases q with ⟨z, z2⟩ | ⟨z, _⟩
      · subst z2; rw [z] at h3; cases h3
      · exact z
    have c : CellAt s k a := ⟨h1, b0, e0, c0⟩
    refine ⟨c, ?_⟩
    rcases q with ⟨z, _⟩ | ⟨_, z | ⟨z, _⟩⟩
    · rw [c0] at z; cases z
    · obtain ⟨j, j1, j2⟩ := lookC_some z
      have hj : j < vs.length := by
        rw [r.length]
        exact (List.getElem?_eq_some_iff.mp j1).1
      have hv := List.getElem?_eq_getElem hj
      have rv : s.σ[k]? = some (some vs[j]) := r.get hv j1
      have h1' : s.σ[k]? = some (some (.ref a)) := h1
      rw [h1'] at rv
      have ev : vs[j] = .ref a := (Option.some.inj (Option.some.inj rv)).symm
      rw [ev] at hv
      exact .inl ⟨j, j1, sc_cell hv j2 h3⟩
    · refine .inr fun ⟨j, cj⟩ => ?_
      rcases cells j a cj with ⟨_, _, _, n, _⟩ | ⟨i, i1, i2⟩
      · exact n ⟨k, c⟩
      · have e := R.sep i k a i2 c
        subst e
        exact lookC_none z hl j i1
  refine ⟨⟨R'.sub, ?_, fun k b hk hx => ?_, fun i j a c1 c2 => R.sep i j a (old c1).1 (old c2).1, fun k a c => ?_⟩, ⟨fun a o e n => ?_, fun a o e n => ?_, fun a o e => ?_, fun a ⟨k, c⟩ => S.cells a ⟨k, (old c).1⟩, fun k a hk l => ?_, fun k hk => wb_some (S.stay k hk), fun k hk => S.same k fun z => hk (wb_some z)⟩, fun p hp => ⟨S.none hp, fun ⟨k, c⟩ => R.newNoCell hp ⟨k, (old c).1⟩⟩⟩
  · show s.σ.length = (wb ws bs' s.ρ).length
    unfold wb
    rw [List.length_mapIdx]
    exact R.len
  · obtain ⟨b0, e0, q⟩ := wb_get hk
    have fromArg : lookC ws bs' k = some b → ∃ v, s.σ[k]? = some (some v) ∧ BRep Γ.K F' H' v b := fun z => by
      obtain ⟨j, j1, j2⟩ := lookC_some z
      have hj : j < vs.length := by
        rw [r.length]
        exact (List.getElem?_eq_some_iff.mp j1).1
      have hv := List.getElem?_eq_getElem hj
      obtain ⟨v, hv', q⟩ := R'.slotX j b (by show (bs'.map some)[j]? = _; rw [List.getElem?_map, j2]; rfl) hx
      obtain ⟨x, e1, e2⟩ := getElem?_map_some hv'
      cases e2
      rw [hv] at e1
      cases e1
      exact ⟨_, r.get hv j1, q⟩
    rcases q with ⟨z, z2⟩ | ⟨z, z2 | ⟨z2, z3⟩⟩
    · subst z2
      obtain ⟨v, hv, q⟩ := R.slotX k b e0 hx
      exact ⟨v, hv, q.keep m fun a hc => by rw [z] at hc; cases hc⟩
    · exact fromArg z2
    · subst z3
      obtain ⟨v, hv, q⟩ := R.slotX k b e0 hx
      refine ⟨v, hv, q.keep m fun a hc ea o eo => ?_⟩
      subst ea
      refine S'.keep a o eo fun ⟨j, cj⟩ => ?_
      rcases cells j a cj with ⟨_, _, _, n, _⟩ | ⟨i, i1, i2⟩
      · exact n ⟨k, hv, b, e0, z⟩
      · have e := R.sep i k a i2 ⟨hv, b, e0, z⟩
        subst e
        exact lookC_none z2 hl j i1
  · obtain ⟨c', q⟩ := old c
    rcases q with ⟨j, _, cj⟩ | n
    · exact R'.own j a cj
    · obtain ⟨o, ho⟩ := R.cellH c'
      exact (S'.fz a o ho n).trans (R.own k a c')
  · have e1 := S.keep a o e n
    refine S'.keep a o e1 fun ⟨j, cj⟩ => ?_
    rcases cells j a cj with ⟨_, _, _, _, z⟩ | ⟨i, _, i2⟩
    · rw [e] at z; cases z
    · rcases S.cells a ⟨i, i2⟩ with z | z
      · exact n z
      · rw [e] at z; cases z
  · have e1 := S.keep a o e n
    refine (S'.fz a o e1 fun ⟨j, cj⟩ => ?_).trans (S.fz a o e n)
    rcases cells j a cj with ⟨_, _, _, _, z⟩ | ⟨i, _, i2⟩
    · rw [e] at z; cases z
    · rcases S.cells a ⟨i, i2⟩ with z | z
      · exact n z
      · rw [e] at z; cases z
  · obtain ⟨o1, e1⟩ := S.there a o e
    exact S'.there a o1 e1
  · obtain ⟨h1, b, h2, h3⟩ := S.par k a hk l
    refine ⟨h1, ?_⟩
    obtain ⟨b2, hb2⟩ := wb_some (ws := ws) (bs := bs') ⟨b, h2⟩
    refine ⟨b2, hb2, ?_⟩
    obtain ⟨b0, e0, q⟩ := wb_get hb2
    rw [h2] at e0
    cases e0
    rcases q with ⟨_, z2⟩ | ⟨z, z2 | ⟨_, z3⟩⟩
    · subst z2; exact h3
    · obtain ⟨j, j1, j2⟩ := lookC_some z2
      have hj : j < vs.length := by
        rw [r.length]
        exact (List.getElem?_eq_some_iff.mp j1).1
      have hv := List.getElem?_eq_getElem hj
      have rv : s.σ[k]? = some (some vs[j]) := r.get hv j1
      rw [h1] at rv
      have ev : vs[j] = .ref a := (Option.some.inj (Option.some.inj rv)).symm
      rw [ev] at hv
      have hjb : j < bs.length := by rw [ress_len h, ← r.length]; exact hj
      obtain ⟨b9, hb⟩ : ∃ b9, bs[j]? = some b9 := ⟨_, List.getElem?_eq_getElem hjb⟩
      have lkj : Lk (scOf s.F vs s.H bs) j a := by
        obtain ⟨w, hw, hr⟩ := ress_get h hb
        rw [j1] at hw
        cases hw
        simp only [W.res, h2] at hr
        refine ⟨by show (vs.map some)[j]? = _; rw [List.getElem?_map, hv]; rfl, b9, by show (bs.map some)[j]? = _; rw [List.getElem?_map, hb]; rfl, ?_⟩
        cases b with
        | x => cases h3
        | _ => cases hr; exact h3
      obtain ⟨_, b3, g2, g3⟩ := S'.par j a hj lkj
      obtain ⟨y, e3, e4⟩ := getElem?_map_some g2
      cases e4
      rw [j2] at e3
      cases e3
      exact g3
    · subst z3; exact h3
theorem de_call {k : Nat} {fa : Addr} {fd : FuncData} {ps : List Str} {x : Str} {p : Pos} {e : Expr} {es : List Expr} {g : List B → FO} (F : FnOk X.prog X.w X.K X.mg X.base (L2.CX X.prog X.w) k fa fd ps (spF Γ.K Γ.mg g)) (hr : Room k X.A) (hm : X.mg x = some (.ref fa)) (hk : PySem.W.keepIn X.K (.ref fa) = true) (hb : Binds X.K fd ps [])
    (tk : Takes X Wx) (ha : DA X Γ Wx (e :: es) fs) (hg : Gl X x := by rfl) (hdb : (x == ("__debug__" : Str)) = false := by decide) (he : starEach (e :: es) X.env = (false, eval e X.env) :: starEach es X.env := by rfl) (hpl : (backTo pos (starEach es X.env)).any (·.1) = false := by rfl) :
    DE X Γ Wx (.Call (.Name x p) (e :: es) [] pos) (mCall g fs) :=
  PE.imp (pe_callS F hr hg hm hk hb (fun σ => passAt tk σ) ha hdb he hpl) fun σ H Q ⟨F0, ρ, R, h⟩ => ⟨F0, ρ, R, args_end (s := ⟨F0, σ, H, ρ⟩) h fun vs ws F1 H1 ρ1 R1 S1 r h1 => by
    have R1 : Rel Γ.K ⟨F1, σ, H1, ρ1⟩ := R1
    have S1 : Step Γ.np ⟨F0, σ, H, ρ⟩ ⟨F1, σ, H1, ρ1⟩ := S1
    have r : VReps Γ.K (Sx.H ⟨F0, σ, H, ρ⟩) ⟨F1, σ, H1, ρ1⟩ vs ws := r
    cases e1 : ress ws ρ1 with
    | none => simp only [e1] at h1; exact h1.elim
    | some bs =>
      simp only [e1] at h1
      by_cases hn : (slotsOf ws).Nodup
      · rw [if_pos hn] at h1
        obtain ⟨Rc, _⟩ := call_in (s := ⟨F1, σ, H1, ρ1⟩) R1 r e1 hn
        refine ⟨F1, bs, Rc, ?_⟩
        cases eg : g bs with
        | st => rw [eg] at h1; exact h1.elim
        | ok b bs' =>
          rw [eg] at h1
          intro v F' H' R' S' rv kp
          obtain ⟨R2, S2, fr⟩ := call_out (s := ⟨F1, σ, H1, ρ1⟩) R1 S1 r e1 hn R' S' kp
          refine h1 v F' H' R2 S2 ?_
          cases b with
          | d y => exact rv
          | s y => exact rv
          | x => exact rv
          | l ys =>
            obtain ⟨p, us, e2, q1, q2, q3, q4, _⟩ := rv
            exact ⟨p, us, e2, q1, q2, q3, (fr p q4).1, (fr p q4).2⟩
          | t ys =>
            obtain ⟨p, us, e2, q1, q2, q3, q4, _⟩ := rv
            exact ⟨p, us, e2, q1, q2, q3, (fr p q4).1, (fr p q4).2⟩
        | er c bs' =>
          rw [eg] at h1
          intro F' H' C hC R' S' kp
          obtain ⟨R2, S2, fr⟩ := call_out (s := ⟨F1, σ, H1, ρ1⟩) R1 S1 r e1 hn R' S' kp
          exact h1 F' H' C hC R2 S2
      · rw [if_neg hn] at h1; exact h1.elim⟩
end
end TD
namespace TD
open PySem PySem.Spec PyProof.Rows L2

/-! ### a def by its body -/
def backB : List B → Env → List B
  | [], _ => []
  | b :: bs, ρ => (if b.isCell = true then ((ρ.head?.getD none).getD b) else b) :: backB bs ρ.tail
/-- what is handed back: a list of one's own goes out as it is; a lent one as data -/
def retW (np : Nat) (ρ : Env) : W → Option (B × Env)
  | .d x => some (.d x, ρ)
  | .l xs => some (.l xs, ρ)
  | .t kvs => some (.t kvs, ρ)
  | .c i => match ρ[i]? with
    | some (some (.d x)) => some (.d x, ρ)
    | some (some (.l xs)) => if np ≤ i then some (.l xs, ρ) else some (.d (.list xs), ρ.set i (some (.d (.list xs))))
    | some (some (.t kvs)) => if np ≤ i then some (.t kvs, ρ) else none
    | _ => none
def mkFn (np n : Nat) (body : Mx Fl) (bs : List B) : FO :=
  if bs.length = np then match body (bs.map some ++ List.replicate (n - np) none) with
    | .ok .nx ρ => .ok (.d .none) (backB bs ρ)
    | .ok (.rt w) ρ => match retW np ρ w with
      | some (b, ρ') => .ok b (backB bs ρ')
      | none => .st
    | .er c ρ => .er c (backB bs ρ)
    | _ => .st
  else .st
theorem backB_get : ∀ {bs : List B} {ρ : Env} {j : Nat} {b : B}, bs[j]? = some b → ∃ b', (backB bs ρ)[j]? = some b' ∧ (b.isCell = false ∧ b' = b ∨ b.isCell = true ∧ (ρ[j]? = some (some b') ∨ ((∀ c : B, ρ[j]? ≠ some (some c)) ∧ b' = b)))
  | [], _, _, _, h => by simp at h
  | b0 :: bs, ρ, 0, b, h => by
    cases h
    refine ⟨_, rfl, ?_⟩
    by_cases hc : b0.isCell = true
    · rw [if_pos hc]
      refine .inr ⟨hc, ?_⟩
      cases ρ with
      | nil => exact .inr ⟨fun c => by simp, rfl⟩
      | cons o ρ =>
        cases o with
        | none => exact .inr ⟨fun c => by simp, rfl⟩
        | some b' => exact .inl rfl
    · rw [if_neg hc]
      exact .inl ⟨by simpa using hc, rfl⟩
  | b0 :: bs, ρ, j + 1, b, h => by
    obtain ⟨b', h1, h2⟩ := backB_get (bs := bs) (ρ := ρ.tail) (j := j) h
    refine ⟨b', h1, ?_⟩
    cases ρ with
    | nil => simpa using h2
    | cons o ρ => exact h2
theorem backB_len : ∀ {bs : List B} {ρ : Env}, (backB bs ρ).length = bs.length
  | [], _ => rfl
  | b :: bs, ρ => congrArg (· + 1) (backB_len (bs := bs) (ρ := ρ.tail))
theorem backB_some {bs : List B} {ρ : Env} {j : Nat} {b' : B} (h : (backB bs ρ)[j]? = some b') : ∃ b, bs[j]? = some b ∧ (b.isCell = false ∧ b' = b ∨ b.isCell = true ∧ (ρ[j]? = some (some b') ∨ ((∀ c : B, ρ[j]? ≠ some (some c)) ∧ b' = b))) := by
  have hj : j < bs.length := by
    have := (List.getElem?_eq_some_iff.mp h).1
    rw [backB_len] at this
    exact this
  have hb := List.getElem?_eq_getElem hj
  obtain ⟨b2, h1, h2⟩ := backB_get (ρ := ρ) hb
  rw [h] at h1
  cases h1
  exact ⟨_, hb, h2⟩
/-- the state at a def's entry -/
def entry (n : Nat) (F : Hp) (vs : List V) (H : Hp) (bs : List B) : Sx := ⟨F, vs.map some ++ List.replicate (n - vs.length) none, H, bs.map some ++ List.replicate (n - bs.length) none⟩
theorem app_rep_some {α : Type} {l : List α} {m i : Nat} {y : α} (h : (l.map some ++ List.replicate m none)[i]? = some (some y)) : l[i]? = some y := by
  by_cases hi : i < l.length
  · rw [List.getElem?_append_left (by simpa using hi), List.getElem?_map] at h
    cases e : l[i]? with
    | none => rw [e] at h; cases h
    | some x => rw [e] at h; cases h; rfl
  · rw [List.getElem?_append_right (by simpa using hi)] at h
    rw [List.getElem?_replicate] at h
    split at h <;> cases h
theorem app_rep_of {α : Type} {l : List α} {m i : Nat} {y : α} (h : l[i]? = some y) : (l.map some ++ List.replicate m none)[i]? = some (some y) := by
  have hi : i < l.length := (List.getElem?_eq_some_iff.mp h).1
  rw [List.getElem?_append_left (by simpa using hi), List.getElem?_map, h]
  rfl
theorem entry_rel {K : PySem.W.Frag} {n : Nat} {F H : Hp} {vs : List V} {bs : List B} (R : Rel K (scOf F vs H bs)) : Rel K (entry n F vs H bs) ∧ (∀ j a, CellAt (entry n F vs H bs) j a → CellAt (scOf F vs H bs) j a) ∧ vs.length = bs.length := by
  have hl : vs.length = bs.length := by
    have := R.len
    simpa [scOf] using this
  have cc : ∀ j a, CellAt (entry n F vs H bs) j a → CellAt (scOf F vs H bs) j a := fun j a ⟨h1, b, h2, h3⟩ => sc_cell (app_rep_some h1) (app_rep_some h2) h3
  refine ⟨⟨R.sub, by simp [entry, hl], fun i b hb hx => ?_, fun i j a c1 c2 => R.sep i j a (cc i a c1) (cc j a c2), fun i a c => R.own i a (cc i a c)⟩, cc, hl⟩
  have hb' := app_rep_some hb
  obtain ⟨v, hv, r⟩ := R.slotX i b (by show (bs.map some)[i]? = _; rw [List.getElem?_map, hb']; rfl) hx
  obtain ⟨x, e1, e2⟩ := getElem?_map_some hv
  cases e2
  exact ⟨_, app_rep_of e1, r⟩
/-- from the state at the body's end to the caller's view -/
theorem fn_back {K : PySem.W.Frag} {n : Nat} {F H : Hp} {vs : List V} {bs : List B} {s' : Sx} (R : Rel K (scOf F vs H bs)) (R' : Rel K s') (S : Step vs.length (entry n F vs H bs) s') :
    Rel K (scOf s'.F vs s'.H (backB bs s'.ρ)) ∧ Step vs.length (scOf F vs H bs) (scOf s'.F vs s'.H (backB bs s'.ρ)) ∧ Kept bs (backB bs s'.ρ) ∧ ∀ j a, CellAt (scOf s'.F vs s'.H (backB bs s'.ρ)) j a → CellAt s' j a ∧ j < vs.length := by
  obtain ⟨Re, cc, hl⟩ := entry_rel (n := n) R
  have m : ∀ a o, F a = some o → s'.F a = some o := S.mono Re
  have ec : ∀ j a, CellAt (scOf F vs H bs) j a → CellAt (entry n F vs H bs) j a ∧ j < vs.length := fun j a c => by
    obtain ⟨h1, b, h2, h3⟩ := cell_sc c
    exact ⟨⟨app_rep_of h1, b, app_rep_of h2, h3⟩, (List.getElem?_eq_some_iff.mp h1).1⟩
  -- a lent cell at the end
  have lent : ∀ (j : Nat) (a : Addr) (b : B), vs[j]? = some (.ref a) → bs[j]? = some b → b.isCell = true → s'.σ[j]? = some (some (.ref a)) ∧ ∃ b', s'.ρ[j]? = some (some b') ∧ b'.lk = true := fun j a b h1 h2 h3 => by
    have hj : j < vs.length := (List.getElem?_eq_some_iff.mp h1).1
    exact S.par j a hj ⟨app_rep_of h1, b, app_rep_of h2, by cases b <;> first | rfl | cases h3⟩
  have slotOf : ∀ (j : Nat) (b : B), bs[j]? = some b → b.isX = false → ∃ v, vs[j]? = some v ∧ BRep K F H v b := fun j b hb hx => by
    obtain ⟨v, hv, r⟩ := R.slotX j b (by show (bs.map some)[j]? = _; rw [List.getElem?_map, hb]; rfl) hx
    obtain ⟨x, e1, e2⟩ := getElem?_map_some hv
    cases e2
    exact ⟨_, e1, r⟩
  have refOf : ∀ (j : Nat) (b : B), bs[j]? = some b → b.isCell = true → ∃ a, vs[j]? = some (.ref a) := fun j b hb hc => by
    have hx : b.isX = false := by cases b <;> first | rfl | cases hc
    obtain ⟨v, hv, r⟩ := slotOf j b hb hx
    cases b with
    | l xs => obtain ⟨p, _, rfl, _⟩ := r; exact ⟨p, hv⟩
    | t xs => obtain ⟨p, _, rfl, _⟩ := r; exact ⟨p, hv⟩
    | _ => cases hc
  have back : ∀ (j : Nat) (b' : B), (backB bs s'.ρ)[j]? = some b' → ∃ b, bs[j]? = some b ∧ (b.isCell = false ∧ b' = b ∨ b.isCell = true ∧ ∃ a, vs[j]? = some (.ref a) ∧ s'.σ[j]? = some (some (.ref a)) ∧ s'.ρ[j]? = some (some b') ∧ b'.lk = true) := fun j b' h => by
    obtain ⟨b, hb, q⟩ := backB_some h
    refine ⟨b, hb, ?_⟩
    rcases q with z | ⟨hc, z⟩
    · exact .inl z
    · obtain ⟨a, ha⟩ := refOf j b hb hc
      obtain ⟨h1, b2, h2, h3⟩ := lent j a b ha hb hc
      rcases z with z | ⟨z, _⟩
      · rw [h2] at z
        cases z
        exact .inr ⟨hc, a, ha, h1, h2, h3⟩
      · exact absurd h2 (z b2)
  have cells : ∀ j a, CellAt (scOf s'.F vs s'.H (backB bs s'.ρ)) j a → CellAt s' j a ∧ j < vs.length ∧ CellAt (scOf F vs H bs) j a := fun j a c => by
    obtain ⟨h1, b', h2, h3⟩ := cell_sc c
    obtain ⟨b, hb, q⟩ := back j b' h2
    rcases q with ⟨z, z2⟩ | ⟨hc, a', g1, g2, g3, g4⟩
    · subst z2; rw [z] at h3; cases h3
    · rw [h1] at g1
      cases g1
      exact ⟨⟨g2, b', g3, h3⟩, (List.getElem?_eq_some_iff.mp h1).1, sc_cell h1 hb hc⟩
  refine ⟨⟨R'.sub, ?_, fun j b' hb' hx => ?_, fun i j a c1 c2 => R'.sep i j a (cells i a c1).1 (cells j a c2).1, fun j a c => R'.own j a (cells j a c).1⟩, ⟨fun a o e n => S.keep a o e fun ⟨j, c⟩ => n ⟨j, cc j a c⟩, fun a o e n => S.fz a o e fun ⟨j, c⟩ => n ⟨j, cc j a c⟩, S.there, fun a ⟨j, c⟩ => .inl ⟨j, (cells j a c).2.2⟩, fun j a hj l => ?_, fun j h => ?_, fun j _ => rfl⟩, ⟨backB_len, fun j b hb hc => ?_⟩, fun j a c => ⟨(cells j a c).1, (cells j a c).2.1⟩⟩
  · show (vs.map some).length = ((backB bs s'.ρ).map some).length
    rw [List.length_map, List.length_map, backB_len, hl]
  · obtain ⟨y, e3, e4⟩ := getElem?_map_some hb'
    cases e4
    obtain ⟨b, hb, q⟩ := back j b' e3
    rcases q with ⟨z, z2⟩ | ⟨hc, a', g1, g2, g3, g4⟩
    · subst z2
      obtain ⟨v, hv, r⟩ := slotOf j b' hb hx
      exact ⟨v, by show (vs.map some)[j]? = _; rw [List.getElem?_map, hv]; rfl, r.keep m fun a hc => by rw [z] at hc; cases hc⟩
    · obtain ⟨v, hv, r⟩ := R'.slotX j b' g3 hx
      rw [g2] at hv
      cases hv
      exact ⟨_, by show (vs.map some)[j]? = _; rw [List.getElem?_map, g1]; rfl, r⟩
  · obtain ⟨l1, b, l2, l3⟩ := l
    obtain ⟨x, e1, e2⟩ := getElem?_map_some l1
    cases e2
    obtain ⟨y, e3, e4⟩ := getElem?_map_some l2
    cases e4
    obtain ⟨b', h1, q⟩ := backB_get (ρ := s'.ρ) e3
    refine ⟨l1, b', by show ((backB bs s'.ρ).map some)[j]? = _; rw [List.getElem?_map, h1]; rfl, ?_⟩
    rcases q with ⟨z, z2⟩ | ⟨hc, z⟩
    · subst z2; exact l3
    · obtain ⟨h1', b2, h2, h3⟩ := lent j a b e1 e3 hc
      rcases z with z | ⟨z, _⟩
      · rw [h2] at z
        cases z
        exact h3
      · exact absurd h2 (z b2)
  · obtain ⟨b, hb⟩ := h
    obtain ⟨y, e3, e4⟩ := getElem?_map_some hb
    cases e4
    obtain ⟨b', h1, _⟩ := backB_get (ρ := s'.ρ) e3
    exact ⟨b', by show ((backB bs s'.ρ).map some)[j]? = _; rw [List.getElem?_map, h1]; rfl⟩
  · obtain ⟨b', h1, q⟩ := backB_get (ρ := s'.ρ) hb
    rcases q with ⟨_, z2⟩ | ⟨z, _⟩
    · subst z2; exact h1
    · rw [hc] at z; cases z
section
variable {P : Program} {w : World} {K : PySem.W.Frag} {mg : Str → Option Value} {base : Heap}
/-- a def keeps what its body's function says -/
theorem fn_ok {x qual : Str} {st : Stmt} {fa : Addr} {fd : FuncData} {N ps : List Str} {k n : Nat} {body : Mx Fl} (F : Fun K x qual st fa fd) (S : FnScope N ps (defScope st)) (hn : N.length = n)
    (hb : ∀ (cdv : Value) (A : Around) (outer : List PySem.Env) (s : Shared) (H : Hp) (E : XK), Room k (A.deeper (envOfC qual (defScope st) s.heap.objs.size fa cdv)) →
      DSs (cxOf (L2.CX P w) P w K mg base N qual (defScope st) fa cdv A outer s H E) ⟨K, ps.length, mg⟩ (fun cls d _ H => E cls d H) (defBody st) body) :
    FnOk P w K mg base (L2.CX P w) (k + 1) fa fd ps (spF K mg (mkFn ps.length n body)) := by
  refine F.okX S (fun vs H Q E h => ?_) fun cdv A outer s H vs Q E hr h => ⟨_, hb cdv A outer s H E hr, ?_⟩
  · obtain ⟨Fz, bs, R, h⟩ := h
    by_cases hl : bs.length = ps.length
    · have := R.len
      rw [← hl]
      simpa [scOf] using this
    · unfold mkFn at h
      rw [if_neg hl] at h
      exact h.elim
  · obtain ⟨Fz, bs, R, h⟩ := h
    unfold mkFn at h
    by_cases hl : bs.length = ps.length
    · rw [if_pos hl] at h
      obtain ⟨Re, cc, hvl⟩ := entry_rel (n := n) R
      have hnp : vs.length = ps.length := hvl.trans hl
      have est : L2.start N vs = vs.map some ++ List.replicate (n - vs.length) none := by unfold L2.start; rw [hn]
      refine ⟨Fz, bs.map some ++ List.replicate (n - ps.length) none, by rw [est, ← hl]; exact Re, ?_⟩
      have toEntry : (⟨Fz, L2.start N vs, H, bs.map some ++ List.replicate (n - ps.length) none⟩ : Sx) = entry n Fz vs H bs := by rw [est, ← hl]; rfl
      rw [toEntry]
      have key : ∀ {s' : Sx}, Rel K s' → Step ps.length (entry n Fz vs H bs) s' → _ := fun {s'} R' S' => fn_back (n := n) R R' (hnp ▸ S')
      cases e : body (bs.map some ++ List.replicate (n - ps.length) none) with
      | st => rw [e] at h; exact h.elim
      | er c ρ =>
        rw [e] at h
        intro F' σ' H' C hC R' S'
        obtain ⟨R2, S2, kp, _⟩ := key (s' := ⟨F', σ', H', ρ⟩) R' S'
        exact h F' H' C hC R2 S2 kp
      | ok fl ρ =>
        rw [e] at h
        cases fl with
        | bk => exact h.elim
        | ct => exact h.elim
        | nx =>
          intro F' σ' H' R' S'
          obtain ⟨R2, S2, kp, _⟩ := key (s' := ⟨F', σ', H', ρ⟩) R' S'
          exact h .non F' H' R2 S2 .non kp
        | rt u =>
          intro v F' σ' H' R' S' rv
          have R' : Rel K ⟨F', σ', H', ρ⟩ := R'
          have S' : Step ps.length (entry n Fz vs H bs) ⟨F', σ', H', ρ⟩ := S'
          have rv : VRep K H ⟨F', σ', H', ρ⟩ v u := rv
          simp only at h
          cases er : retW ps.length ρ u with
          | none => rw [er] at h; exact h.elim
          | some q =>
            obtain ⟨b, ρ'⟩ := q
            rw [er] at h
            simp only at h
            have fin : ∀ {F2 : Hp} {ρ2 : Env} {b2 : B}, Rel K ⟨F2, σ', H', ρ2⟩ → Step ps.length (entry n Fz vs H bs) ⟨F2, σ', H', ρ2⟩ → VRep K H ⟨F2, σ', H', ρ2⟩ v (ofB b2) → (∀ i, ofB b2 ≠ .c i) → b2 = b → ρ2 = ρ' → Q v H' := fun {F2 ρ2 b2} R3 S3 r3 hno e1 e2 => by
              subst e1 e2
              obtain ⟨R2, S2, kp, cl⟩ := key (s' := ⟨F2, σ', H', ρ2⟩) R3 S3
              refine h v F2 H' R2 S2 ?_ kp
              cases hw : ofB b2 with
              | d y => rw [hw] at r3; exact r3
              | c i => exact absurd hw (hno i)
              | l ys =>
                rw [hw] at r3
                obtain ⟨p, us, e2, q1, q2, q3, q4, q5⟩ := r3
                exact ⟨p, us, e2, q1, q2, q3, q4, fun ⟨j, c⟩ => q5 ⟨j, (cl j p c).1⟩⟩
              | t ys =>
                rw [hw] at r3
                obtain ⟨p, us, e2, q1, q2, q3, q4, q5⟩ := r3
                exact ⟨p, us, e2, q1, q2, q3, q4, fun ⟨j, c⟩ => q5 ⟨j, (cl j p c).1⟩⟩
            cases u with
            | d y => cases er; exact fin (b2 := .d y) R' S' rv (fun i z => by cases z) rfl rfl
            | l ys => cases er; exact fin (b2 := .l ys) R' S' rv (fun i z => by cases z) rfl rfl
            | t ys => cases er; exact fin (b2 := .t ys) R' S' rv (fun i z => by cases z) rfl rfl
            | c i =>
              have rv' : σ'[i]? = some (some v) := rv
              -- a cell of one's own is new
              have own : ∀ {b0 : B} {a : Addr}, ps.length ≤ i → ρ[i]? = some (some b0) → b0.isCell = true → v = .ref a → H a = none := fun {b0 a} hi hb hc hv => by
                subst hv
                have c : CellAt (⟨F', σ', H', ρ⟩ : Sx) i a := ⟨rv', b0, hb, hc⟩
                rcases S'.cells a ⟨i, c⟩ with ⟨j, cj⟩ | z
                · exfalso
                  have cj' := cc j a cj
                  have hj : j < ps.length := by
                    rw [← hnp]
                    exact (List.getElem?_eq_some_iff.mp (cell_sc cj').1).1
                  obtain ⟨g1, b1, g2, g3⟩ := cj
                  obtain ⟨l1, b', l2, l3⟩ := S'.par j a hj ⟨g1, b1, g2, by cases b1 <;> first | rfl | cases g3⟩
                  cases b' with
                  | l ys => exact absurd (R'.sep j i a ⟨l1, _, l2, rfl⟩ c) (by omega)
                  | t ys => exact absurd (R'.sep j i a ⟨l1, _, l2, rfl⟩ c) (by omega)
                  | s ys => cases l3
                  | x => cases l3
                  | d y =>
                    cases y with
                    | list ys =>
                      obtain ⟨v2, hv2, r2⟩ := R'.slot j _ l2
                      rw [l1] at hv2
                      cases hv2
                      cases r2 with
                      | lst e9 _ =>
                        have e8 : F' a = none := R'.own i a c
                        have e9 : F' a = _ := e9
                        rw [e8] at e9
                        cases e9
                    | _ => cases l3
                · exact z
              have notIn : ∀ {b0 : B} {a : Addr}, ps.length ≤ i → ρ[i]? = some (some b0) → b0.isCell = true → v = .ref a → ¬ ∃ j, j < ps.length ∧ CellAt (⟨F', σ', H', ρ⟩ : Sx) j a := fun {b0 a} hi hb hc hv ⟨j, hj, cj⟩ => by
                subst hv
                exact absurd (R'.sep j i a cj ⟨rv', b0, hb, hc⟩) (by omega)
              simp only [retW] at er
              cases hb : ρ[i]? with
              | none => rw [hb] at er; cases er
              | some o =>
                cases o with
                | none => rw [hb] at er; cases er
                | some b0 =>
                  rw [hb] at er
                  cases b0 with
                  | x => cases er
                  | s ys => cases er
                  | d y =>
                    cases er
                    obtain ⟨v2, hv2, r2⟩ := R'.slot i _ hb
                    have hv2 : σ'[i]? = _ := hv2
                    rw [rv'] at hv2
                    cases hv2
                    exact fin (b2 := .d y) R' S' r2 (fun i z => by cases z) rfl rfl
                  | l ys =>
                    simp only at er
                    by_cases hi : ps.length ≤ i
                    · rw [if_pos hi] at er
                      cases er
                      obtain ⟨v2, hv2, p, us, e1, r2, r3⟩ := R'.slot i _ hb
                      have hv2 : σ'[i]? = _ := hv2
                      rw [rv'] at hv2
                      cases hv2
                      obtain ⟨R2, S2, kp, cl⟩ := key (s' := ⟨F', σ', H', ρ⟩) R' S'
                      refine h v F' H' R2 S2 ⟨p, us, e1, r2, r3, ?_, own hi hb rfl e1, fun ⟨j, c⟩ => notIn hi hb rfl e1 ⟨j, by rw [← hnp]; exact (cl j p c).2, (cl j p c).1⟩⟩ kp
                      subst e1
                      exact R'.own i p ⟨rv', _, hb, rfl⟩
                    · rw [if_neg hi] at er
                      cases er
                      obtain ⟨F2, R2, S2, r2, _⟩ := R'.freezeAt S' hb rv'
                      exact fin (b2 := .d (.list ys)) R2 S2 r2 (fun i z => by cases z) rfl rfl
                  | t ys =>
                    simp only at er
                    by_cases hi : ps.length ≤ i
                    · rw [if_pos hi] at er
                      cases er
                      obtain ⟨v2, hv2, p, us, e1, r2, r3⟩ := R'.slot i _ hb
                      have hv2 : σ'[i]? = _ := hv2
                      rw [rv'] at hv2
                      cases hv2
                      obtain ⟨R2, S2, kp, cl⟩ := key (s' := ⟨F', σ', H', ρ⟩) R' S'
                      refine h v F' H' R2 S2 ⟨p, us, e1, r2, r3, ?_, own hi hb rfl e1, fun ⟨j, c⟩ => notIn hi hb rfl e1 ⟨j, by rw [← hnp]; exact (cl j p c).2, (cl j p c).1⟩⟩ kp
                      subst e1
                      exact R'.own i p ⟨rv', _, hb, rfl⟩
                    · rw [if_neg hi] at er
                      cases er
    · rw [if_neg hl] at h; exact h.elim
end
/-! ### raise -/
def sRaise (c : Str) : Mx Fl := fun ρ => .er c ρ
/-- what the text must say of an own class of errors -/
structure ErrC (K : PySem.W.Frag) (mg : Str → Option Value) (c : Str) (C : Addr) : Prop where
  gC : mg c = some (.ref C)
  exc : PySem.W.excIn K C [.type "ValueError", .type "Exception", .type "BaseException", .type "object"] "ValueError.__new__" = true
  kC : PySem.W.keepIn K (.ref C) = true
  bC : PySem.W.subIn K (.ref C) (.type "BaseException") = some true
  tC : PySem.W.typeIn K (.ref C) = some (.type "type")
section
variable {X : Cx} {Γ : Cn} {Wx : WX} {pos : Pos}
theorem ds_raise {c m : Str} {C : Addr} {j : Nat} {p p2 p3 : Pos} (E : ErrC X.K X.mg c C) (hc : X.calm = true) (tk : Takes X Wx) (hm : X.mg = Γ.mg) (hg : Gl X c := by rfl) (hdb : (c == ("__debug__" : Str)) = false := by decide) :
    DS X Γ Wx (.Raise (some (.Call (.Name c p) [.Constant (.str m) j p2] [] p3)) none pos) (sRaise c) :=
  PS.imp (ps_raise hc tk (pmk_own PySem.F.excBase_ValueError E.exc E.gC E.kC (raises_own E.bC E.tC) hg hdb)) fun Dn σ H ⟨F, ρ, R, h⟩ => h F σ H C (by rw [← hm]; exact E.gC) R (Step.refl _)
end
end TD
namespace TD
open PySem PySem.Spec PyProof.Rows L2

/-! ### lists of whole numbers -/
def numsOf : List D → Option (List Int)
  | [] => some []
  | .int i :: xs => (numsOf xs).map (i :: ·)
  | _ :: _ => none
theorem nums_map : ∀ ns : List Int, numsOf (ns.map PyData.int) = some ns
  | [] => rfl
  | n :: ns => by rw [List.map_cons]; unfold numsOf; rw [nums_map ns]; rfl
theorem nums_inv : ∀ {xs : List D} {ns : List Int}, numsOf xs = some ns → xs = ns.map PyData.int
  | [], ns, h => by cases h; rfl
  | x :: xs, ns, h => by
    cases x with
    | int i =>
      unfold numsOf at h
      cases e : numsOf xs with
      | none => rw [e] at h; cases h
      | some ms => rw [e] at h; cases h; rw [nums_inv e]; rfl
    | _ => cases h
theorem RpA.intsV {F : Hp} : ∀ {ns : List Int} {vs : List V}, RpA F vs (ns.map PyData.int) → vs = ns.map V.int
  | [], _, .nil => rfl
  | n :: ns, _, .cons r t => by rw [r.intV, RpA.intsV t]; rfl
def boolsOf : List D → Option (List Bool)
  | [] => some []
  | .bool i :: xs => (boolsOf xs).map (i :: ·)
  | _ :: _ => none
theorem boolsOf_map : ∀ ns : List Bool, boolsOf (ns.map PyData.bool) = some ns
  | [] => rfl
  | n :: ns => by rw [List.map_cons]; unfold boolsOf; rw [boolsOf_map ns]; rfl
theorem boolsOf_inv : ∀ {xs : List D} {ns : List Bool}, boolsOf xs = some ns → xs = ns.map PyData.bool
  | [], ns, h => by cases h; rfl
  | x :: xs, ns, h => by
    cases x with
    | bool i =>
      unfold boolsOf at h
      cases e : boolsOf xs with
      | none => rw [e] at h; cases h
      | some ms => rw [e] at h; cases h; rw [boolsOf_inv e]; rfl
    | _ => cases h
theorem RpA.boolsV {F : Hp} : ∀ {ns : List Bool} {vs : List V}, RpA F vs (ns.map PyData.bool) → vs = ns.map V.bl
  | [], _, .nil => rfl
  | n :: ns, _, .cons r t => by rw [r.blV, RpA.boolsV t]; rfl
/-- the greatest, the least of some numbers -/
def maxL : List Int → Int
  | [] => 0
  | [x] => x
  | x :: xs => max x (maxL xs)
def minL : List Int → Int
  | [] => 0
  | [x] => x
  | x :: xs => min x (minL xs)
theorem maxL_spec : ∀ {ns : List Int}, ns ≠ [] → maxL ns ∈ ns ∧ ∀ y ∈ ns, y ≤ maxL ns
  | [], h => absurd rfl h
  | [x], _ => ⟨by simp [maxL], by simp [maxL]⟩
  | x :: y :: r, _ => by
    obtain ⟨h1, h2⟩ := maxL_spec (ns := y :: r) (by simp)
    show max x (maxL (y :: r)) ∈ x :: y :: r ∧ ∀ z ∈ x :: y :: r, z ≤ max x (maxL (y :: r))
    refine ⟨?_, fun z hz => ?_⟩
    · rcases Int.le_total x (maxL (y :: r)) with h | h
      · rw [Int.max_eq_right h]; exact List.mem_cons_of_mem _ h1
      · rw [Int.max_eq_left h]; exact List.mem_cons_self
    · rcases List.mem_cons.mp hz with e | e
      · subst e; exact Int.le_max_left _ _
      · exact Int.le_trans (h2 z e) (Int.le_max_right _ _)
theorem minL_spec : ∀ {ns : List Int}, ns ≠ [] → minL ns ∈ ns ∧ ∀ y ∈ ns, minL ns ≤ y
  | [], h => absurd rfl h
  | [x], _ => ⟨by simp [minL], by simp [minL]⟩
  | x :: y :: r, _ => by
    obtain ⟨h1, h2⟩ := minL_spec (ns := y :: r) (by simp)
    show min x (minL (y :: r)) ∈ x :: y :: r ∧ ∀ z ∈ x :: y :: r, min x (minL (y :: r)) ≤ z
    refine ⟨?_, fun z hz => ?_⟩
    · rcases Int.le_total x (minL (y :: r)) with h | h
      · rw [Int.min_eq_left h]; exact List.mem_cons_self
      · rw [Int.min_eq_right h]; exact List.mem_cons_of_mem _ h1
    · rcases List.mem_cons.mp hz with e | e
      · subst e; exact Int.min_le_left _ _
      · exact Int.le_trans (Int.min_le_right _ _) (h2 z e)
/-- a built-in of one list of numbers -/
def gI1 (f : List Int → Option D) (ws : List W) : Env → Out W := fun ρ => match ws with
  | [w] => match w.lst ρ with
    | some xs => match numsOf xs with
      | some ns => match f ns with
        | some d => .ok (.d d) ρ
        | none => .st
      | none => .st
    | none => .st
  | _ => .st
theorem gI1_inv {Γ : Cn} {Wx : WX} {s s0 : Sx} {f : List Int → Option D} {ws : List W} {vs : List V} {Q : VK} (R : Rel Γ.K s) (hσ : s0.σ = s.σ) (S : Step Γ.np s0 s) (r : VReps Γ.K s0.H s vs ws) (h : Post Γ Wx s0 (gI1 f ws s.ρ) Q) :
    ∃ p ns d, vs = [.ref p] ∧ SqL Γ.K s.H p (ns.map V.int) ∧ f ns = some d ∧ Post Γ Wx s (.ok (.d d) s.ρ) Q := by
  have h := h.step (s1 := s) S hσ.symm
  unfold gI1 at h
  obtain ⟨w, rfl, h⟩ := one_inv (P := fun o => Post Γ Wx s o Q) h fun z => z
  obtain ⟨v, rfl, q0⟩ := VReps.one r
  cases e1 : w.lst s.ρ with
  | none => simp only [e1] at h; exact h.elim
  | some xs =>
    simp only [e1] at h
    cases e2 : numsOf xs with
    | none => simp only [e2] at h; exact h.elim
    | some ns =>
      simp only [e2] at h
      cases e3 : f ns with
      | none => simp only [e3] at h; exact h.elim
      | some d =>
        simp only [e3] at h
        obtain ⟨p, us, rfl, q, q2⟩ := q0.lst R e1
        have e4 := nums_inv e2
        subst e4
        have e5 := q2.intsV
        subst e5
        exact ⟨p, ns, d, rfl, q, e3, h⟩
abbrev gSum := gI1 fun ns => some (.int ns.sum)
abbrev gMaxL := gI1 fun ns => if ns = [] then none else some (.int (maxL ns))
abbrev gMinL := gI1 fun ns => if ns = [] then none else some (.int (minL ns))
section
variable {X : Cx} {Γ : Cn} {Wx : WX}
theorem ok_sum : OkC Γ Wx (rSum Γ.K) gSum := fun s vs ws s0 Q R hσ S r h => by
  obtain ⟨p, ns, d, rfl, q, e, h⟩ := gI1_inv R hσ S r h
  cases e
  exact ⟨p, ns, rfl, q, h.val R (.int _)⟩
theorem ok_maxL : OkC Γ Wx (rMax Γ.K) gMaxL := fun s vs ws s0 Q R hσ S r h => by
  obtain ⟨p, ns, d, rfl, q, e, h⟩ := gI1_inv R hσ S r h
  split at e
  · cases e
  · rename_i hn
    cases e
    obtain ⟨h1, h2⟩ := maxL_spec hn
    refine ⟨p, ns, rfl, q, by cases ns with | nil => exact absurd rfl hn | cons _ _ => exact Nat.succ_pos _, fun m hm hle => ?_⟩
    have e2 : m = maxL ns := Int.le_antisymm (h2 m hm) (hle _ h1)
    subst e2
    exact h.val R (.int _)
theorem ok_minL : OkC Γ Wx (rMin Γ.K) gMinL := fun s vs ws s0 Q R hσ S r h => by
  obtain ⟨p, ns, d, rfl, q, e, h⟩ := gI1_inv R hσ S r h
  split at e
  · cases e
  · rename_i hn
    cases e
    obtain ⟨h1, h2⟩ := minL_spec hn
    refine ⟨p, ns, rfl, q, by cases ns with | nil => exact absurd rfl hn | cons _ _ => exact Nat.succ_pos _, fun m hm hle => ?_⟩
    have e2 : m = minL ns := Int.le_antisymm (hle _ h1) (h2 m hm)
    subst e2
    exact h.val R (.int _)
def gAll (ws : List W) : Env → Out W := fun ρ => match ws with
  | [w] => match w.lst ρ with
    | some xs => match boolsOf xs with
      | some ns => .ok (.d (.bool (ns.all id))) ρ
      | none => .st
    | none => .st
  | _ => .st
theorem ok_all : OkC Γ Wx (rAll Γ.K) gAll := fun s vs ws s0 Q R hσ S r h => by
  have h := h.step (s1 := s) S hσ.symm
  unfold gAll at h
  obtain ⟨w, rfl, h⟩ := one_inv (P := fun o => Post Γ Wx s o Q) h fun z => z
  obtain ⟨v, rfl, q0⟩ := VReps.one r
  cases e1 : w.lst s.ρ with
  | none => simp only [e1] at h; exact h.elim
  | some xs =>
    simp only [e1] at h
    cases e2 : boolsOf xs with
    | none => simp only [e2] at h; exact h.elim
    | some ns =>
      simp only [e2] at h
      obtain ⟨p, us, rfl, q, q2⟩ := q0.lst R e1
      have e4 := boolsOf_inv e2
      subst e4
      have e5 := q2.boolsV
      subst e5
      exact ⟨p, ns, rfl, q, h.val R (.bl _)⟩
/-- a built-in of two numbers; of one -/
def gI2 (f : Int → Int → Int) (ws : List W) : Env → Out W := fun ρ => match ws with
  | [w, w'] => match w.asD ρ, w'.asD ρ with
    | some (.int i), some (.int j) => .ok (.d (.int (f i j))) ρ
    | _, _ => .st
  | _ => .st
theorem two_inv {ws : List W} {α : Type} {k : W → W → Out α} {P : Out α → Prop} (h : P (match ws with | [w, w'] => k w w' | _ => .st)) (hst : ¬ P .st) : ∃ w w', ws = [w, w'] ∧ P (k w w') := by
  cases ws with
  | nil => exact (hst h).elim
  | cons w wr =>
    cases wr with
    | nil => exact (hst h).elim
    | cons w' wr =>
      cases wr with
      | nil => exact ⟨w, w', rfl, h⟩
      | cons _ _ => exact (hst h).elim
theorem ok_I2 {f : Int → Int → Int} : OkC Γ Wx (fun xs H Q => ∃ i j, xs = [.int i, .int j] ∧ Q (.int (f i j)) H) (gI2 f) := fun s vs ws s0 Q R hσ S r h => by
  have h := h.step (s1 := s) S hσ.symm
  unfold gI2 at h
  obtain ⟨w, w', rfl, h2⟩ := two_inv (P := fun o => Post Γ Wx s o Q) h fun z => z
  obtain ⟨v, v', rfl, q0, q1⟩ := VReps.two r
  split at h2
  · rename_i i j e1 e2
    exact ⟨i, j, by rw [(q0.data R e1).intV, (q1.data R e2).intV], h2.val R (.int _)⟩
  · exact h2.elim
abbrev gMax2 := gI2 fun i j => if j > i then j else i
abbrev gMin2 := gI2 fun i j => if j < i then j else i
def gAbs (ws : List W) : Env → Out W := fun ρ => match ws with
  | [w] => match w.asD ρ with
    | some (.int i) => .ok (.d (.int (if i < 0 then -i else i))) ρ
    | _ => .st
  | _ => .st
theorem ok_abs : OkC Γ Wx (fun xs H Q => ∃ i, xs = [.int i] ∧ Q (.int (if i < 0 then -i else i)) H) gAbs := fun s vs ws s0 Q R hσ S r h => by
  have h := h.step (s1 := s) S hσ.symm
  unfold gAbs at h
  obtain ⟨w, rfl, h2⟩ := one_inv (P := fun o => Post Γ Wx s o Q) h fun z => z
  obtain ⟨v, rfl, q0⟩ := VReps.one r
  split at h2
  · rename_i i e1
    exact ⟨i, by rw [(q0.data R e1).intV], h2.val R (.int _)⟩
  · exact h2.elim
/-- int(x) of a number or a truth -/
def gInt (ws : List W) : Env → Out W := fun ρ => match ws with
  | [w] => match w.asD ρ with
    | some (.int i) => .ok (.d (.int i)) ρ
    | some (.bool k) => .ok (.d (.int (if k then 1 else 0))) ρ
    | some (.str a) => if a.length ≤ 640 then (match PySem.intText? a with
      | some n => .ok (.d (.int n)) ρ
      | none => .st) else .st
    | _ => .st
  | _ => .st
def rIntAll : List V → Hp → VK → Prop := fun xs H Q => ((∃ i, xs = [.int i] ∧ Q (.int i) H) ∨ ∃ k, xs = [.bl k] ∧ Q (.int (if k then 1 else 0)) H) ∨ ∃ a n, xs = [.str a] ∧ PySem.intText? a = some n ∧ a.length ≤ 640 ∧ Q (.int n) H
theorem call_intAll : CallR X (.type "int") rIntAll := CallR.or call_int1 call_int_str
theorem ok_int : OkC Γ Wx rIntAll gInt := fun s vs ws s0 Q R hσ S r h => by
  have h := h.step (s1 := s) S hσ.symm
  unfold gInt at h
  obtain ⟨w, rfl, h2⟩ := one_inv (P := fun o => Post Γ Wx s o Q) h fun z => z
  obtain ⟨v, rfl, q0⟩ := VReps.one r
  split at h2
  · rename_i i e1
    exact .inl (.inl ⟨i, by rw [(q0.data R e1).intV], h2.val R (.int _)⟩)
  · rename_i i e1
    exact .inl (.inr ⟨i, by rw [(q0.data R e1).blV], h2.val R (.int _)⟩)
  · rename_i a e1
    by_cases hl : a.length ≤ 640
    · rw [if_pos hl] at h2
      cases e2 : PySem.intText? a with
      | none => simp only [e2] at h2; exact h2.elim
      | some n =>
        simp only [e2] at h2
        exact .inr ⟨a, n, by rw [(q0.data R e1).strV], e2, hl, h2.val R (.int _)⟩
    · rw [if_neg hl] at h2; exact h2.elim
  · exact h2.elim
/-! ### isinstance of a built-in type -/
def tyD : D → String
  | .none => "NoneType"
  | .bool _ => "bool"
  | .int _ => "int"
  | .str _ => "str"
  | .list _ => "list"
  | .tuple _ => "tuple"
  | .dict _ => "dict"
def W.ty (ρ : Env) : W → Option String
  | .d x => some (tyD x)
  | .l _ => some "list"
  | .t _ => some "dict"
  | .c i => match ρ[i]? with
    | some (some (.d x)) => some (tyD x)
    | some (some (.l _)) => some "list"
    | some (some (.t _)) => some "dict"
    | _ => none
theorem Rp.ty {K : PySem.W.Frag} {F H : Hp} {v : V} {x : D} (h : ∀ a o, F a = some o → H a = some o) (r : Rp F v x) : TyX K H v (.type (tyD x)) := by
  cases r with
  | non => exact .base .non
  | bl b => exact .base (.bl b)
  | int i => exact .base (.int i)
  | str i => exact .base (.str i)
  | tup e q => exact .base (.tup (h _ _ e))
  | lst e q => exact .base (.lst (h _ _ e))
  | dct e => exact .base (.dT (h _ _ e))
theorem VRep.ty {K : PySem.W.Frag} {H0 : Hp} {s : Sx} {v : V} {w : W} {T : String} (R : Rel K s) (r : VRep K H0 s v w) (h : w.ty s.ρ = some T) : TyX K s.H v (.type T) := by
  cases w with
  | d x => cases h; exact Rp.ty R.sub r
  | l xs =>
    cases h
    obtain ⟨p, vs, rfl, e, _⟩ := r
    exact .base (.lst e)
  | t xs =>
    cases h
    obtain ⟨p, vs, rfl, e, _⟩ := r
    exact .base (.dT e)
  | c i =>
    have r' : s.σ[i]? = some (some v) := r
    simp only [W.ty] at h
    split at h
    · rename_i x hb
      cases h
      obtain ⟨v', hv, q⟩ := R.slot i _ hb
      rw [r'] at hv; cases hv
      exact Rp.ty R.sub q
    · rename_i x hb
      cases h
      obtain ⟨v', hv, p, vs, rfl, e, _⟩ := R.slot i _ hb
      rw [r'] at hv; cases hv
      exact .base (.lst e)
    · rename_i x hb
      cases h
      obtain ⟨v', hv, p, vs, rfl, e, _⟩ := R.slot i _ hb
      rw [r'] at hv; cases hv
      exact .base (.dT e)
    · cases h
def gIsi (T : String) (w : W) : Env → Out W := fun ρ => match w.ty ρ with
  | some tn => match kitB tn T with
    | some b => .ok (.d (.bool b)) ρ
    | none => .st
  | none => .st
theorem de_isi {e : Expr} {f : Mx W} {x : Str} {T : String} {p p2 pos : Pos} (hm : X.mg "isinstance" = none) (hm2 : X.mg x = none) (hv : bootBuiltins x = some (.type T)) (he : DE X Γ Wx e f) (hK : X.K = Γ.K) (hg : Gl X "isinstance" := by rfl) (hg2 : Gl X x := by rfl) (hn : x ≠ "__name__" := by decide) (hdb : (x == ("__debug__" : Str)) = false := by decide)
    (h1 : starEach [e, .Name x p2] X.env = (false, eval e X.env) :: starEach [.Name x p2] X.env := by rfl) (h2 : starEach [.Name x p2] X.env = (false, eval (.Name x p2) X.env) :: starEach [] X.env := by rfl) (hpl : (backTo pos (starEach [.Name x p2] X.env)).any (·.1) = false := by rfl) :
    DE X Γ Wx (.Call (.Name "isinstance" p) [e, .Name x p2] [] pos) (m1 (gIsi T) f) :=
  PE.imp (pe_callB call_isi hg hm boot_isinstance (pa_cons he (pa_cons (pe_bltn (v := .ty T) hg2 hm2 hv rfl hn hdb) pa_nil h2) h1) (by decide) (by decide) h1 hpl) fun σ H Q ⟨F, ρ, R, h⟩ => ⟨F, ρ, R, post_bnd (s := ⟨F, σ, H, ρ⟩) h fun v w F1 H1 ρ1 R1 S1 r h1 => by
    unfold gIsi at h1
    cases e1 : w.ty ρ1 with
    | none => rw [e1] at h1; exact h1.elim
    | some tn =>
      rw [e1] at h1
      simp only at h1
      cases e2 : kitB tn T with
      | none => rw [e2] at h1; exact h1.elim
      | some b =>
        rw [e2] at h1
        refine ⟨v, .ty T, .type tn, .type T, b, rfl, .ty T, ?_, kit_ty e2, Post.val (s := ⟨F1, σ, H1, ρ1⟩) R1 h1 (.bl _)⟩
        rw [hK]
        exact VRep.ty (s := ⟨F1, σ, H1, ρ1⟩) R1 r e1⟩
theorem kit_int_int : kitB "int" "int" = some true := by decide +kernel
theorem kit_bool_int : kitB "bool" "int" = some true := by decide +kernel
theorem kit_int_bool : kitB "int" "bool" = some false := by decide +kernel
theorem kit_bool_bool : kitB "bool" "bool" = some true := by decide +kernel
theorem kit_tuple_tuple : kitB "tuple" "tuple" = some true := by decide +kernel
theorem kit_list_tuple : kitB "list" "tuple" = some false := by decide +kernel
theorem kit_int_tuple : kitB "int" "tuple" = some false := by decide +kernel
theorem kit_bool_tuple : kitB "bool" "tuple" = some false := by decide +kernel
theorem kit_str_tuple : kitB "str" "tuple" = some false := by decide +kernel
theorem kit_none_tuple : kitB "NoneType" "tuple" = some false := by decide +kernel
theorem kit_dict_tuple : kitB "dict" "tuple" = some false := by decide +kernel
theorem kit_str_str : kitB "str" "str" = some true := by decide +kernel
theorem kit_none_int : kitB "NoneType" "int" = some false := by decide +kernel
theorem kit_str_int : kitB "str" "int" = some false := by decide +kernel
theorem kit_list_int : kitB "list" "int" = some false := by decide +kernel
theorem kit_tuple_int : kitB "tuple" "int" = some false := by decide +kernel
theorem kit_dict_int : kitB "dict" "int" = some false := by decide +kernel
theorem kit_none_bool : kitB "NoneType" "bool" = some false := by decide +kernel
theorem kit_str_bool : kitB "str" "bool" = some false := by decide +kernel
theorem kit_list_bool : kitB "list" "bool" = some false := by decide +kernel
theorem kit_tuple_bool : kitB "tuple" "bool" = some false := by decide +kernel
theorem kit_dict_bool : kitB "dict" "bool" = some false := by decide +kernel
/-! ### * -/
def rMulAll (K : PySem.W.Frag) : R2 := fun x y H Q => (rI CMul fun i j => .int (i * j)) x y H Q ∨ rRepT K x y H Q
theorem op_mulAll : OpR X (binaryOp .Mult) (rMulAll X.K) := OpR.or op_mul op_repT
def gMul (w1 w2 : W) : Env → Out W := fun ρ => match w1.asD ρ, w2.asD ρ with
  | some (.int i), some (.int j) => if (-18446744073709551616 < i ∧ i < 18446744073709551616) ∨ (-18446744073709551616 < j ∧ j < 18446744073709551616) then .ok (.d (.int (i * j))) ρ else .st
  | some (.tuple xs), some (.int k) => if xs ≠ [] ∧ 2 ≤ k ∧ k ≤ 1000 ∧ xs.length ≤ 1000 then .ok (.d (.tuple (List.replicate k.toNat xs).flatten)) ρ else .st
  | _, _ => .st
theorem RpA.rep {F : Hp} {vs : List V} {xs : List D} (r : RpA F vs xs) : ∀ k : Nat, RpA F (List.replicate k vs).flatten (List.replicate k xs).flatten
  | 0 => .nil
  | k + 1 => by
    rw [List.replicate_succ, List.replicate_succ, List.flatten_cons, List.flatten_cons]
    exact r.append (RpA.rep r k)
theorem ok_mul : Ok2 Γ Wx (rMulAll Γ.K) gMul := fun s v1 v2 w1 w2 H1 H2 Q R r1 r2 h => by
  unfold gMul at h
  split at h
  · rename_i i j e1 e2
    split at h
    · rename_i hc
      exact .inl ⟨i, j, (r1.data R e1).intV, (r2.data R e2).intV, (hc.imp (fun z => ⟨by omega, by omega⟩) (fun z => ⟨by omega, by omega⟩)), h.val R (.int _)⟩
    · exact h.elim
  · rename_i xs k e1 e2
    split at h
    · rename_i hc
      obtain ⟨p, vs, rfl, f1, q1⟩ := tup_inv (r1.data R e1)
      refine .inr ⟨p, k, vs, rfl, (r2.data R e2).intV, SqT.of (R.sub _ _ f1), fun z => hc.1 (q1.nil_iff.mp z), hc.2.1, hc.2.2.1, by rw [q1.length]; exact hc.2.2.2, fun l hl => h.tup R (q1.rep _) hl⟩
    · exact h.elim
  · exact h.elim
end
end TD
namespace TD
open PySem PySem.Spec PyProof.Rows L2

theorem boot_VE : bootBuiltins "ValueError" = some (.type "ValueError") := by decide +kernel
/-! ### a law's own try: the error is asked for its classes -/
theorem call_isET {X : Cx} {a D : Addr} {oe : Obj} {pn : List (Addr × Obj)} (C : ExcC X.K D) (hz : Zc (.ref D) Option.none oe) (hf : ∃ vs, oe.data = .fields vs) : CallR (X.suite a ((a, oe) :: pn)) (.builtin "isinstance")
    (fun xs H Q => ∃ (tp : Addr) (cs : List V) (us : List Value) (b : Bool), xs = [.ref a, .ref tp] ∧ H tp = some (.tup cs) ∧ Paired ClsV cs us ∧ PySem.W.kitAny X.K (.ref D) us = some b ∧ Q (.bl b) H) := by
  intro pins s σ H xs us Q I r h
  obtain ⟨tp, cs, ws, b, rfl, hT, k, e, q⟩ := h
  obtain ⟨u1, u2, rfl, r1, r2⟩ := vals2 r
  cases (show u1 = Value.ref a from r1)
  cases (show u2 = Value.ref tp from r2)
  obtain ⟨_, its, rv, o, h1, h2, n, h3⟩ := (show ObjOk X.prog X.w H s.heap tp (.tup cs) from I.hok tp _ hT)
  have e3 := ClsV.all k rv
  subst e3
  obtain ⟨oc, od, dt, sl⟩ := o
  simp only at h2 h3
  subst h2 h3
  obtain ⟨hget, _⟩ := I.pin (a, oe) (List.mem_append.mpr (.inl List.mem_cons_self))
  obtain ⟨vs, hv⟩ := hf
  have J : PySem.W.InstAt s.heap a oe D Option.none := by
    obtain ⟨oc, od, oda, osl⟩ := oe
    obtain ⟨h1, h2⟩ := hz
    dsimp only at h1 h2 hv
    subst h1 h2 hv
    exact ⟨hget, rfl, rfl, trivial⟩
  exact PySem.W.kia_tup (PySem.W.handS_kitx_exc C.hg C.hk C.hs C.hd C.ha C.hn C.ht C.hm) I.kIn J h1 e (fun z => nomatch z) fun tk => ⟨.bl b, H, I.kept (t' := tk) fun _ _ z => z, rfl, q⟩
/-- what is asked of a caught error: one class; four classes -/
def tIs1 (K : PySem.W.Frag) (cls : Value) (d : Option Addr) (a : Addr) (i : Nat) (cv : Value) : TE := fun σ H Q => ∃ (D : Addr) (b : Bool), cls = .ref D ∧ d = Option.none ∧ ExcC K D ∧ σ[i]? = some (some (.ref a)) ∧ PySem.W.kitOne K (.ref D) cv = some b ∧ Q (.bl b) H
def tIs4 (K : PySem.W.Frag) (cls : Value) (d : Option Addr) (a : Addr) (i : Nat) (cvs : List Addr) : TE := fun σ H Q => ∃ (D : Addr) (b : Bool), cls = .ref D ∧ d = Option.none ∧ ExcC K D ∧ σ[i]? = some (some (.ref a)) ∧ PySem.W.kitAny K (.ref D) (cvs.map Value.ref) = some b ∧
  ∀ q, H q = Option.none → Q (.bl b) (upd H q (.tup (cvs.map V.ref)))
section
variable {X : Cx} {a : Addr} {oe : Obj} {cls : Value} {d : Option Addr} {pn : List (Addr × Obj)} {i : Nat} {n c : Str} {p p2 p3 pos : Pos}
theorem pe_is1 {v : V} {cv : Value} (hz : Zc cls d oe) (hf : ∃ vs, oe.data = .fields vs) (hm : X.mg "isinstance" = Option.none) (hv : PE (X.suite a ((a, oe) :: pn)) (.Name c p3) (tC v)) (hcv : ∀ u, RelV v u → u = cv) (hi : X.N[i]? = some n) (hvis : Vis X.env.scope n)
    (hn1 : (n == ("__debug__" : Str)) = false) (hn2 : (n == ("__classdict__" : Str)) = false) (hg : Gl X "isinstance")
    (h1 : starEach [.Name n p2, .Name c p3] X.env = (false, eval (.Name n p2) X.env) :: starEach [.Name c p3] X.env) (h2 : starEach [.Name c p3] X.env = (false, eval (.Name c p3) X.env) :: starEach [] X.env) (hpl : (backTo pos (starEach [.Name c p3] X.env)).any (·.1) = false) :
    PE (X.suite a ((a, oe) :: pn)) (.Call (.Name "isinstance" p) [.Name n p2, .Name c p3] [] pos) (tIs1 X.K cls d a i cv) := by
  refine ⟨fun pins s σ H Q I h => ?_⟩
  obtain ⟨D, b, rfl, rfl, E, hσ, hk, q⟩ := h
  exact (pe_callB (X := X.suite a ((a, oe) :: pn)) (call_isE E hz hf) hg hm boot_isinstance (pa_cons (pe_var (i := i) hi hvis hn1 hn2) (pa_cons hv pa_nil h2) h1) (by decide) (by decide) h1 hpl).run pins s σ H Q I ⟨.ref a, hσ, v, cv, b, rfl, hcv, hk, q⟩
theorem pe_is4 {c1 c2 c3 c4 : Str} {C1 C2 C3 C4 : Addr} {p4 p5 p6 pt : Pos} {kt : Nat} (hz : Zc cls d oe) (hf : ∃ vs, oe.data = .fields vs) (hm : X.mg "isinstance" = Option.none)
    (g1 : PE (X.suite a ((a, oe) :: pn)) (.Name c1 p3) (tC (.ref C1))) (g2 : PE (X.suite a ((a, oe) :: pn)) (.Name c2 p4) (tC (.ref C2))) (g3 : PE (X.suite a ((a, oe) :: pn)) (.Name c3 p5) (tC (.ref C3))) (g4 : PE (X.suite a ((a, oe) :: pn)) (.Name c4 p6) (tC (.ref C4)))
    (hi : X.N[i]? = some n) (hvis : Vis X.env.scope n) (hn1 : (n == ("__debug__" : Str)) = false) (hn2 : (n == ("__classdict__" : Str)) = false) (hg : Gl X "isinstance")
    (h1 : starEach [.Name n p2, .Tuple [.Name c1 p3, .Name c2 p4, .Name c3 p5, .Name c4 p6] kt pt] X.env = (false, eval (.Name n p2) X.env) :: starEach [.Tuple [.Name c1 p3, .Name c2 p4, .Name c3 p5, .Name c4 p6] kt pt] X.env)
    (h2 : starEach [.Tuple [.Name c1 p3, .Name c2 p4, .Name c3 p5, .Name c4 p6] kt pt] X.env = (false, eval (.Tuple [.Name c1 p3, .Name c2 p4, .Name c3 p5, .Name c4 p6] kt pt) X.env) :: starEach [] X.env) (hpl : (backTo pos (starEach [.Tuple [.Name c1 p3, .Name c2 p4, .Name c3 p5, .Name c4 p6] kt pt] X.env)).any (·.1) = false)
    (s1 : starEach [.Name c1 p3, .Name c2 p4, .Name c3 p5, .Name c4 p6] X.env = (false, eval (.Name c1 p3) X.env) :: starEach [.Name c2 p4, .Name c3 p5, .Name c4 p6] X.env) (s2 : starEach [.Name c2 p4, .Name c3 p5, .Name c4 p6] X.env = (false, eval (.Name c2 p4) X.env) :: starEach [.Name c3 p5, .Name c4 p6] X.env)
    (s3 : starEach [.Name c3 p5, .Name c4 p6] X.env = (false, eval (.Name c3 p5) X.env) :: starEach [.Name c4 p6] X.env) (s4 : starEach [.Name c4 p6] X.env = (false, eval (.Name c4 p6) X.env) :: starEach [] X.env) :
    PE (X.suite a ((a, oe) :: pn)) (.Call (.Name "isinstance" p) [.Name n p2, .Tuple [.Name c1 p3, .Name c2 p4, .Name c3 p5, .Name c4 p6] kt pt] [] pos) (tIs4 X.K cls d a i [C1, C2, C3, C4]) := by
  refine ⟨fun pins s σ H Q I h => ?_⟩
  obtain ⟨D, b, rfl, rfl, E, hσ, hk, q⟩ := h
  refine (pe_callB (X := X.suite a ((a, oe) :: pn)) (call_isET E hz hf) hg hm boot_isinstance (pa_cons (pe_var (i := i) hi hvis hn1 hn2) (pa_cons (pe_tup (pa_cons g1 (pa_cons g2 (pa_cons g3 (pa_cons g4 pa_nil s4) s3) s2) s1)) pa_nil h2) h1) (by decide) (by decide) h1 hpl).run pins s σ H Q I ?_
  refine ⟨.ref a, hσ, by show 4 ≤ sizeLine; decide, fun q' hq => ⟨q', [.ref C1, .ref C2, .ref C3, .ref C4], [.ref C1, .ref C2, .ref C3, .ref C4], b, rfl, upd_same, ?_, hk, q q' hq⟩⟩
  exact .cons (.own C1) (.cons (.own C2) (.cons (.own C3) (.cons (.own C4) .nil)))
end
/-- of an error's class: whether it is the right one, a ValueError, another one of the program's -/
abbrev Asked := Str → Option (Bool × Bool × Bool)
def sTry (np o i : Nat) (ask : Asked) (body : Mx Fl) : Mx Fl := fun ρ => match body ρ with
  | .er c ρ' => match ask c with
    | some (b1, b2, b3) => match ρ'[i]? with
      | some (some (.l _)) => .st
      | some (some (.t _)) => .st
      | some _ => if np ≤ i then match put np o (.l [.bool b1, .bool b2, .bool b3]) (ρ'.set i (some .x)) with
        | some ρ2 => .ok .nx ρ2
        | none => .st
        else .st
      | none => .st
    | none => .st
  | r => r
/-- what the text must say for it: the class in the clause (CT), the right one (C1), the others -/
structure AskOk (K : PySem.W.Frag) (mg : Str → Option Value) (ask : Asked) (CT C1 : Addr) (Cs : List Addr) : Prop where
  at_ : ∀ c b1 b2 b3 D, ask c = some (b1, b2, b3) → mg c = some (.ref D) → ExcC K D ∧ PySem.W.exmOne K (.ref D) (.ref CT) = some true ∧ PySem.W.kitOne K (.ref D) (.ref C1) = some b1 ∧ PySem.W.kitOne K (.ref D) (.type "ValueError") = some b2 ∧ PySem.W.kitAny K (.ref D) (Cs.map Value.ref) = some b3
theorem poison {K : PySem.W.Frag} {np : Nat} {s0 s : Sx} {i : Nat} {x : Option V} (R : Rel K s) (S : Step np s0 s) (hi : np ≤ i) (hl : i < s.ρ.length) (hb : ∀ b : B, s.ρ[i]? = some (some b) → b.isCell = false) :
    Rel K ⟨s.F, s.σ.set i x, s.H, s.ρ.set i (some .x)⟩ ∧ Step np s0 ⟨s.F, s.σ.set i x, s.H, s.ρ.set i (some .x)⟩ := by
  have cc : ∀ {j a}, CellAt ⟨s.F, s.σ.set i x, s.H, s.ρ.set i (some .x)⟩ j a → CellAt s j a := fun {j a} ⟨h1, b, h2, h3⟩ => by
    rcases getElem?_set_cases h2 with ⟨_, h4⟩ | ⟨hj, h4⟩
    · cases h4; cases h3
    · have h1' : (s.σ.set i x)[j]? = some (some (.ref a)) := h1
      rw [List.getElem?_set_ne (Ne.symm hj)] at h1'
      exact ⟨h1', b, h4, h3⟩
  refine ⟨⟨R.sub, by simp [R.len], fun j b hj hx => ?_, fun j k a c1 c2 => R.sep j k a (cc c1) (cc c2), fun j a c => R.own j a (cc c)⟩, ⟨S.keep, S.fz, S.there, fun a ⟨j, c⟩ => S.cells a ⟨j, cc c⟩, fun j a hj l => ?_, fun j h => set_stay (S.stay j h), fun j h => ?_⟩⟩
  · rcases getElem?_set_cases hj with ⟨_, h4⟩ | ⟨hji, h4⟩
    · cases h4; cases hx
    · obtain ⟨v, hv, r⟩ := R.slotX j b h4 hx
      exact ⟨v, by show (s.σ.set i x)[j]? = _; rw [List.getElem?_set_ne (Ne.symm hji)]; exact hv, r⟩
  · obtain ⟨h1, b, h2, h3⟩ := S.par j a hj l
    have hji : j ≠ i := fun z => by omega
    exact ⟨by show (s.σ.set i x)[j]? = _; rw [List.getElem?_set_ne (Ne.symm hji)]; exact h1, b, by show (s.ρ.set i (some .x))[j]? = _; rw [List.getElem?_set_ne (Ne.symm hji)]; exact h2, h3⟩
  · have hji : j ≠ i := fun z => by
      subst z
      exact h ⟨.x, List.getElem?_set_self hl⟩
    show (s.σ.set i x)[j]? = _
    rw [List.getElem?_set_ne (Ne.symm hji)]
    exact S.same j fun z => h (set_stay z)
section
variable {X : Cx} {Γ : Cn} {Wx : WX}
theorem ds_try {o i : Nat} {ask : Asked} {body : List Stmt} {bd : Mx Fl} {n own cT c1 c2 c3 c4 c5 : Str} {CT C1 C2 C3 C4 C5 : Addr} {pos pos' q1 q2 q3 q4 q5 q6 q7 q8 q9 q10 q11 q12 q13 q14 q15 q16 q17 q18 q19 q20 q21 q22 q23 q24 : Pos} {k1 : Nat}
    (hN : X.N.Nodup) (tk : Takes X Wx) (A : AskOk Γ.K Γ.mg ask CT C1 [C2, C3, C4, C5]) (gT : X.mg cT = some (.ref CT)) (gi : X.mg "isinstance" = Option.none) (gV : X.mg "ValueError" = Option.none)
    (h1 : X.mg c1 = some (.ref C1)) (h2 : X.mg c2 = some (.ref C2)) (h3 : X.mg c3 = some (.ref C3)) (h4 : X.mg c4 = some (.ref C4)) (h5 : X.mg c5 = some (.ref C5)) (hoi : o ≠ i) (hK : X.K = Γ.K)
    (hb : ∀ (W : WX) (pn : List (Addr × Obj)) (xe : Value → Shared → Prop), Takes (X.tr pn xe) W → PassesOwn (model X.prog X.w) X.A X.env xe → DSs (X.tr pn xe) Γ W body bd)
    (hs : X.stack = X.env :: X.outer := by rfl) (hf : X.env.frame = some X.env.locals := by rfl) (hi : X.N[i]? = some n := by rfl) (hln : X.env.kindOf n = some .local := by rfl) (ho : X.N[o]? = some own := by rfl) (hlo : X.env.kindOf own = some .local := by rfl)
    (hcT : Gl X cT := by rfl) (hcd : (cT == ("__debug__" : Str)) = false := by decide)
    (vi : Vis X.env.scope n := by exact Or.inl rfl) (lo : Loc X.env.scope own := by exact Or.inl rfl) (vo : Vis X.env.scope own := by exact Or.inl rfl) (gis : Gl X "isinstance" := by rfl) (gVE : Gl X "ValueError" := by rfl) (gg1 : Gl X c1 := by rfl) (gg2 : Gl X c2 := by rfl) (gg3 : Gl X c3 := by rfl) (gg4 : Gl X c4 := by rfl) (gg5 : Gl X c5 := by rfl)
    (d1 : (c1 == ("__debug__" : Str)) = false := by decide) (d2 : (c2 == ("__debug__" : Str)) = false := by decide) (d3 : (c3 == ("__debug__" : Str)) = false := by decide) (d4 : (c4 == ("__debug__" : Str)) = false := by decide) (d5 : (c5 == ("__debug__" : Str)) = false := by decide)
    (dn : (n == ("__debug__" : Str)) = false := by decide) (dn2 : (n == ("__classdict__" : Str)) = false := by decide) (do1 : (own == ("__debug__" : Str)) = false := by decide) (do2 : (own == ("__classdict__" : Str)) = false := by decide)
    (hline : (q14.endLine == q22.line) = true := by rfl) (hof : X.fn own = true ∨ X.env.scope.names.lookup own = some .local := by exact .inr rfl) :
    DS X Γ Wx (.Try body [.ExceptHandler (some (.Name cT q1)) (some n) [
      .Assign [.Name own q2] (.List [.Call (.Name "isinstance" q3) [.Name n q4, .Name c1 q5] [] q6, .Call (.Name "isinstance" q7) [.Name n q8, .Name "ValueError" q9] [] q10] q11) q12,
      .Expr (.Call (.Attribute (.Name own q13) "append" q14) [.Call (.Name "isinstance" q15) [.Name n q16, .Tuple [.Name c2 q17, .Name c3 q18, .Name c4 q19, .Name c5 q20] k1 q21] [] q24] [] q22) q23] pos'] [] [] pos) (sTry Γ.np o i ask bd) := by
  have lns : X.env.scope.names.lookup own = some .local := hlo
  refine PS.imp (ps_try_as (i := i) (ts := fun a cls d => tSeq (tAsg (tLst (tCons (tIs1 X.K cls d a i (.ref C1)) (tCons (tIs1 X.K cls d a i (.type "ValueError")) tNil))) (gName o)) (tDrop (tBM X.K "list" rAppend (tVar o) (tCons (tIs4 X.K cls d a i [C2, C3, C4, C5]) tNil))))
    hs hf hN hi hln ⟨hcT, hcd, .inl gT⟩ tk hb fun a oe cls d pn hz hfl => ?_) fun Dn σ H ⟨F, ρ, R, h⟩ => ⟨F, ρ, R, ?_⟩
  · have s0 : ∀ (x y : Expr) (r : List Expr), True := fun _ _ _ => trivial
    have gl : ∀ {c : Str} {C : Addr} {p : Pos}, X.mg c = some (.ref C) → Gl X c → (c == ("__debug__" : Str)) = false → PE (X.suite a ((a, oe) :: pn)) (.Name c p) (tC (.ref C)) := fun hm hg hd => pe_glob hg hm rfl hd
    exact pss_cons (ps_set (X := X.suite a ((a, oe) :: pn)) hN ho lo (pe_lst (pa_cons (pe_is1 hz hfl gi (gl h1 gg1 d1) (fun u r => r) hi vi dn dn2 gis rfl rfl rfl) (pa_cons (pe_is1 hz hfl gi (pe_bltn (v := .ty "ValueError") gVE gV boot_VE rfl) (fun u r => r) hi vi dn dn2 gis rfl rfl rfl) pa_nil rfl) rfl)) rfl hof)
      (pss_one (ps_expr (pe_bm PySem.F.plainAttrs_list PySem.F.slot_list_append PySem.F.type_list_append mt_append (pe_var (i := o) ho vo do1 do2) (pa_cons (pe_is4 hz hfl gi (gl h2 gg2 d2) (gl h3 gg3 d3) (gl h4 gg4 d4) (gl h5 gg5 d5) hi vi dn dn2 gis rfl rfl rfl rfl rfl rfl rfl) pa_nil rfl) rfl rfl hline rfl rfl) rfl))
  · unfold sTry at h
    cases e : bd ρ with
    | st => rw [e] at h; exact h
    | ok fl ρ' =>
      rw [e] at h
      cases fl with
      | nx => exact h
      | bk => exact h
      | ct => exact h
      | rt u => exact h
    | er c ρ' =>
      rw [e] at h
      intro F' σ' H' C hC R' S'
      simp only at h
      cases ea : ask c with
      | none => rw [ea] at h; exact h.elim
      | some q =>
        obtain ⟨b1, b2, b3⟩ := q
        rw [ea] at h
        obtain ⟨E, x1, x2, x3, x4⟩ := A.at_ c b1 b2 b3 C ea hC
        rw [← hK] at E x1 x2 x3 x4
        simp only at h
        have h' : ∃ ρ2, Γ.np ≤ i ∧ i < ρ'.length ∧ (∀ b : B, ρ'[i]? = some (some b) → b.isCell = false) ∧ put Γ.np o (.l [.bool b1, .bool b2, .bool b3]) (ρ'.set i (some .x)) = some ρ2 ∧ PostS Γ Wx ⟨F, σ, H, ρ⟩ (.ok .nx ρ2) Dn := by
          split at h
          · exact h.elim
          · exact h.elim
          · rename_i o' n1 n2 hio
            split at h
            · rename_i hnp
              cases ep : put Γ.np o (.l [.bool b1, .bool b2, .bool b3]) (ρ'.set i (some .x)) with
              | none => rw [ep] at h; exact h.elim
              | some ρ2 =>
                rw [ep] at h
                refine ⟨ρ2, hnp, (List.getElem?_eq_some_iff.mp hio).1, fun b hb => ?_, rfl, h⟩
                cases b with
                | l xs => rw [hio] at hb; cases hb; exact (n1 xs rfl).elim
                | t xs => rw [hio] at hb; cases hb; exact (n2 xs rfl).elim
                | _ => rfl
            · exact h.elim
          · exact h.elim
        obtain ⟨ρ2, hnp, hil, hcell, hput, h⟩ := h'
        refine ⟨true, x1, fun _ a0 ha0 => ?_, fun z => by cases z⟩
        have hiσ : i < σ'.length := by
          have := R'.len
          have this : σ'.length = ρ'.length := this
          omega
        have g1 : (σ'.set i (some (.ref a0)))[i]? = some (some (.ref a0)) := List.getElem?_set_self hiσ
        refine ⟨C, b1, rfl, rfl, E, g1, x2, C, b2, rfl, rfl, E, g1, x3, by show 2 ≤ sizeLine; decide, fun p hp => ?_⟩
        have g2 : ((σ'.set i (some (.ref a0))).set o (some (.ref p)))[i]? = some (some (.ref a0)) := by rw [List.getElem?_set_ne hoi]; exact g1
        have hoσ : o < (σ'.set i (some (.ref a0))).length := by
          have hok : okAt Γ.np (ρ'.set i (some .x)) o = true := by
            unfold put at hput
            split at hput
            · assumption
            · cases hput
          unfold okAt at hok
          rw [Bool.and_eq_true] at hok
          have := of_decide_eq_true hok.1
          have l2 : σ'.length = ρ'.length := R'.len
          simp at this ⊢
          omega
        have g3 : ((σ'.set i (some (.ref a0))).set o (some (.ref p)))[o]? = some (some (.ref p)) := List.getElem?_set_self hoσ
        refine ⟨.ref p, g3, .inl ⟨rfl, _, SqL.of upd_same⟩, C, b3, rfl, rfl, E, g2, x4, fun q hq => ?_⟩
        have hqp : p ≠ q := ne_of_none (o := .lst [.bl b1, .bl b2]) (H := upd H' p (.lst [.bl b1, .bl b2])) upd_same hq
        refine ⟨p, [.bl b1, .bl b2], .bl b3, rfl, rfl, by rw [upd_ne hqp]; exact upd_same, by show 2 < sizeLine; decide, ?_⟩
        have R' : Rel Γ.K ⟨F', σ', H', ρ'⟩ := R'
        have S' : Step Γ.np ⟨F, σ, H, ρ⟩ ⟨F', σ', H', ρ'⟩ := S'
        have hp : H' p = Option.none := hp
        obtain ⟨R1, S1⟩ := R'.alloc (np := Γ.np) (p := p) (o := .lst [.bl b1, .bl b2]) (F' := F') hp (.inl rfl)
        obtain ⟨R2, S2⟩ := R1.alloc (np := Γ.np) (p := q) (o := .tup ([C2, C3, C4, C5].map V.ref)) (F' := F') hq (.inl rfl)
        have nc : ¬ Cell ⟨F', σ', upd (upd H' p (.lst [.bl b1, .bl b2])) q (.tup ([C2, C3, C4, C5].map V.ref)), ρ'⟩ p := fun ⟨k, c⟩ => R'.newNoCell hp ⟨k, c⟩
        obtain ⟨R3, S3⟩ := upd_fresh (s0 := ⟨F', σ', H', ρ'⟩) (u := .lst ([.bl b1, .bl b2] ++ [.bl b3])) R2 (S1.trans S2) hp (o := .lst [.bl b1, .bl b2]) (by show upd (upd H' p _) q _ p = _; rw [upd_ne hqp]; exact upd_same) (R'.free hp) nc
        have S4 := S'.trans S3
        obtain ⟨R5, S5⟩ := poison (x := Option.none) (i := i) R3 S4 hnp hil hcell
        obtain ⟨R6, S6⟩ := put_ok (i := o) (v := .ref p) R5 S5 hput ⟨p, _, rfl, upd_same, .cons (.bl b1) (.cons (.bl b2) (.cons (.bl b3) .nil))⟩ fun _ p' z => by
          cases z
          refine ⟨R'.free hp, S'.none hp, fun ⟨k, c1, b, c2, c3⟩ => ?_⟩
          rcases getElem?_set_cases c2 with ⟨_, z⟩ | ⟨hk, z⟩
          · cases z; cases c3
          · have c1' : (σ'.set i Option.none)[k]? = some (some (.ref p)) := c1
            rw [List.getElem?_set_ne (Ne.symm hk)] at c1'
            exact R'.newNoCell hp ⟨k, c1', b, z, c3⟩
        have es : ((σ'.set i (some (.ref a0))).set o (some (.ref p))).set i Option.none = (σ'.set i Option.none).set o (some (.ref p)) := by
          rw [List.set_comm _ _ hoi, List.set_set]
        show Dn.nx (((σ'.set i (some (.ref a0))).set o (some (.ref p))).set i Option.none) _
        rw [es]
        exact h F' _ _ R6 S6
end
end TD
namespace TD
open PySem PySem.Spec PyProof.Rows L2

/-! ### the text's defs as facts; the law's end -/
/-- the def st stands at the module's name x -/
def Df (K : PySem.W.Frag) (mg : Str → Option Value) (x : Str) (st : Stmt) (ps : List Str) : Prop := ∃ f fd, Fun K x x st f fd ∧ Binds K fd ps [] ∧ mg x = some (.ref f)
/-- .. and computes g -/
def Okd (P : Program) (w : World) (K : PySem.W.Frag) (mg : Str → Option Value) (base : Heap) (k : Nat) (x : Str) (ps : List Str) (g : List B → FO) : Prop :=
  ∃ f fd, FnOk P w K mg base (L2.CX P w) k f fd ps (spF K mg g) ∧ Binds K fd ps [] ∧ mg x = some (.ref f) ∧ PySem.W.keepIn K (.ref f) = true
theorem df_mk {K : PySem.W.Frag} {h : Heap} {mg : Str → Option Value} {x : Str} {st : Stmt} {ps : List Str} {f : Addr} {od an : Option Addr} {sl : Array (Option Value)} {oc kV dc pm cd ct : Value} (X : K.In h) (G : h.Ns mainGlobals mg)
    (a : PySem.W.nsIn K mainGlobals x = some (some (.ref f))) (l : K.lookup f = some ⟨oc, od, .func (PySem.W.fnOf x x (defArgs st) (defBody st) (defScope st) .none kV dc pm an cd ct), sl⟩) (c : PySem.W.codeIn K cd x = true) (k : PySem.W.keepIn K (.ref f) = true)
    (b : ∀ (kV doc pm : Value) (an : Option Addr) (cdv ct : Value) (us : List Value), us.length = ps.length → bindArgs (PySem.W.fnOf x x (defArgs st) (defBody st) (defScope st) .none kV doc pm an cdv ct) ⟨us, []⟩ = pure (ps.zip us)) : Df K mg x st ps :=
  ⟨f, _, fun_mk (st := st) l c k, (fun_mk (st := st) l c k).binds b, PySem.W.mg_of X G a⟩
theorem df_ok {P : Program} {w : World} {K : PySem.W.Frag} {mg : Str → Option Value} {base : Heap} {x : Str} {st : Stmt} {ps N : List Str} {k n : Nat} {body : Mx Fl} (h : Df K mg x st ps) (S : FnScope N ps (defScope st)) (hn : N.length = n)
    (hb : ∀ (fa : Addr) (cdv : Value) (A : Around) (outer : List PySem.Env) (s : Shared) (H : Hp) (E : XK), Room k (A.deeper (envOfC x (defScope st) s.heap.objs.size fa cdv)) →
      DSs (cxOf (L2.CX P w) P w K mg base N x (defScope st) fa cdv A outer s H E) ⟨K, ps.length, mg⟩ (fun cls d _ H => E cls d H) (defBody st) body) : Okd P w K mg base (k + 1) x ps (mkFn ps.length n body) := by
  obtain ⟨f, fd, F, b, g⟩ := h
  exact ⟨f, fd, fn_ok F S hn fun cdv A outer s H E hr => hb f cdv A outer s H E hr, b, g, F.kp⟩
theorem Okd.eq {P : Program} {w : World} {K : PySem.W.Frag} {mg : Str → Option Value} {base : Heap} {x : Str} {ps : List Str} {k : Nat} {g g' : List B → FO} (h : Okd P w K mg base k x ps g) (e : g = g') : Okd P w K mg base k x ps g' := e ▸ h
theorem rpa_ints {F : Hp} : ∀ ns : List Int, RpA F (ns.map V.int) (ns.map PyData.int)
  | [] => .nil
  | n :: r => .cons (.int n) (rpa_ints r)
/-- the promise of the law itself -/
def spLaw (K : PySem.W.Frag) (g : List B → FO) : Sp := fun vs H Q E => ∃ F bs, Rel K (scOf F vs H bs) ∧ ∃ bs', g bs = .ok (.d (.bool true)) bs' ∧ ∀ H', Q (.bl true) H'
theorem law_ok {P : Program} {w : World} {K : PySem.W.Frag} {mg : Str → Option Value} {base : Heap} {x : Str} {ps : List Str} {k : Nat} {g : List B → FO} (h : Okd P w K mg base k x ps g) : ∃ f fd, FnOk P w K mg base (L2.CX P w) k f fd ps (spLaw K g) ∧ Binds K fd ps [] ∧ mg x = some (.ref f) := by
  obtain ⟨f, fd, F, b, m, _⟩ := h
  refine ⟨f, fd, F.imp fun vs H Q E ⟨Fz, bs, R, bs', e, q⟩ => ⟨Fz, bs, R, ?_⟩, b, m⟩
  rw [e]
  intro v F' H' _ _ r _
  rw [Rp.blV r]
  exact q H'
theorem law_of {P : Program} {w : World} {K : PySem.W.Frag} {mg : Str → Option Value} {base : Heap} {fa : Addr} {fd : FuncData} {ps : List Str} {k : Nat} {g : List B → FO} (F : FnOk P w K mg base (L2.CX P w) k fa fd ps (spF K mg g)) : FnOk P w K mg base (L2.CX P w) k fa fd ps (spLaw K g) :=
  F.imp fun vs H Q E ⟨Fz, bs, R, bs', e, q⟩ => ⟨Fz, bs, R, by
    rw [e]
    intro v F' H' _ _ r _
    rw [Rp.blV r]
    exact q H'⟩
def ask1 (c1 : Str) : Asked := fun c => if c = c1 then some (true, true, false) else none
theorem law_start {K : PySem.W.Frag} {g : List B → FO} {H : Hp} {a : Addr} {ns : List Int} (hS : SqL K H a (ns.map V.int)) (hg : ∃ bs', g [.s (ns.map PyData.int)] = .ok (.d (.bool true)) bs') : spLaw K g [.ref a] H (fun v _ => v = .bl true) fun _ _ _ => False := by
  obtain ⟨bs', e⟩ := hg
  refine ⟨fun b => if b = a then H b else none, [.s (ns.map PyData.int)], ⟨fun b o h => ?_, rfl, fun i b hb _ => ?_, fun i j b c _ => ?_, fun i b c => ?_⟩, bs', e, fun _ => rfl⟩
  · have h' : (if b = a then H b else none) = some o := h
    split at h'
    · exact h'
    · cases h'
  · cases i with
    | succ i => cases hb
    | zero =>
      cases hb
      refine ⟨.ref a, rfl, a, ns.map V.int, rfl, ?_, ?_⟩
      · rcases hS with h | h
        · refine .inl ?_
          rcases h with h | ⟨o, h⟩
          · exact .inl (by show (if a = a then H a else none) = _; rw [if_pos rfl]; exact h)
          · exact .inr ⟨o, by show (if a = a then H a else none) = _; rw [if_pos rfl]; exact h⟩
        · exact .inr h
      · exact rpa_ints ns
  · obtain ⟨_, b', h2, h3⟩ := c
    cases i with
    | succ i => cases h2
    | zero => cases h2; cases h3
  · obtain ⟨_, b', h2, h3⟩ := c
    cases i with
    | succ i => cases h2
    | zero => cases h2; cases h3
theorem cx_end {P : Program} {w : World} {H : Hp} {s : Shared} {e : Value} {s' : Shared} : L2.CX P w [] H s (fun _ _ _ => False) e s' → False := fun ⟨_, _, _, _, _, _, _, _, _, _, _, _, z⟩ => z
/-! what is asked of the classes of errors -/
theorem ask1_ok {K : PySem.W.Frag} {mg : Str → Option Value} {c1 : Str} {CT C1 : Addr} {Cs : List Addr} (g1 : mg c1 = some (.ref C1)) (E : ExcC K C1) (h1 : PySem.W.subIn K (.ref CT) (.type "BaseException") = some true) (hdct : PySem.W.hasDictIn K CT = true) (ht : PySem.W.typeIn K (.ref CT) = some (.type "type")) (h4 : PySem.W.subIn K (.ref C1) (.ref CT) = some true)
    (hV : PySem.W.kitOne K (.ref C1) (.type "ValueError") = some true) (hO : PySem.W.kitAny K (.ref C1) (Cs.map Value.ref) = some false) : AskOk K mg (ask1 c1) CT C1 Cs := ⟨fun c b1 b2 b3 D ha hD => by
  unfold ask1 at ha
  split at ha
  · rename_i e
    subst e
    cases ha
    rw [g1] at hD
    cases hD
    refine ⟨E, PySem.W.exm_ref h1 hdct ht h4, ?_, hV, hO⟩
    unfold PySem.W.kitOne
    rw [if_pos (by simp)]
  · cases ha⟩
end TD
namespace TD
open PySem PySem.Spec PyProof.Rows L2
section
variable {X : Cx} {Γ : Cn} {Wx : WX} {a b c : Expr} {f1 f2 f3 : Mx W} {pos : Pos}
/-! ### a op b op c -/
def mChain (g g' : W → W → Env → Out W) (f1 f2 f3 : Mx W) : Mx W := bnd f1 fun w1 => bnd f2 fun w2 ρ => match g w1 w2 ρ with
  | .ok (.d (.bool true)) ρ' => bnd f3 (fun w3 => g' w2 w3) ρ'
  | .ok (.d (.bool false)) ρ' => .ok (.d (.bool false)) ρ'
  | .er c ρ' => .er c ρ'
  | _ => .st
theorem tChain_of {r r' : R2} {g g' : W → W → Env → Out W} (hg : Ok2 Γ Wx r g) (hg' : Ok2 Γ Wx r' g') : ∀ σ H Q, tE Γ Wx (mChain g g' f1 f2 f3) σ H Q → tChain r r' (tE Γ Wx f1) (tE Γ Wx f2) (tE Γ Wx f3) σ H Q := fun σ H Q ⟨F, ρ, R, h⟩ =>
  ⟨F, ρ, R, post_bnd (s := ⟨F, σ, H, ρ⟩) h fun v w F1 H1 ρ1 R1 S1 r1 h1 => ⟨F1, ρ1, R1, post_bnd (s := ⟨F1, σ, H1, ρ1⟩) (h1.step (Step.refl _) rfl) fun v2 w2 F2 H2 ρ2 R2 S2 r2 h2 => by
    refine hg ⟨F2, σ, H2, ρ2⟩ v v2 w w2 _ _ _ R2 (r1.held R1 S2 rfl) r2 ?_
    show Post Γ Wx ⟨F2, σ, H2, ρ2⟩ (g w w2 ρ2) _
    have h3 : Post Γ Wx ⟨F2, σ, H2, ρ2⟩ (match g w w2 ρ2 with
      | .ok (.d (.bool true)) ρ' => bnd f3 (fun w3 => g' w2 w3) ρ'
      | .ok (.d (.bool false)) ρ' => .ok (.d (.bool false)) ρ'
      | .er c ρ' => .er c ρ'
      | _ => .st) Q := h2.step (Step.refl _) rfl
    revert h3
    generalize g w w2 ρ2 = o
    intro h3
    cases o with
    | st => exact h3.elim
    | er c ρ' => exact h3
    | ok w0 ρ3 =>
      intro v0 F3 H3 R3 S3 r0
      cases w0 with
      | d x =>
        cases x with
        | bool k =>
          have e0 : v0 = .bl k := Rp.blV r0
          subst e0
          refine ⟨k, rfl, ?_⟩
          cases k with
          | false => exact h3 (.bl false) F3 H3 R3 S3 (.bl false)
          | true =>
            have h3' : Post Γ Wx ⟨F2, σ, H2, ρ2⟩ (bnd f3 (fun w3 => g' w2 w3) ρ3) Q := h3
            have h4 := h3'.step (s1 := ⟨F3, σ, H3, ρ3⟩) S3 rfl
            exact ⟨F3, ρ3, R3, post_bnd (s := ⟨F3, σ, H3, ρ3⟩) h4 fun v4 w4 F4 H4 ρ4 R4 S4 r4 h5 => hg' ⟨F4, σ, H4, ρ4⟩ v2 v4 w2 w4 _ _ Q R4 ((r2.held R2 S3 rfl).held R3 S4 rfl) r4 h5⟩
        | _ => exact h3.elim
      | _ => exact h3.elim⟩⟩
theorem de_chain {op op' : CmpOp} {r r' : R2} {g g' : W → W → Env → Out W} (ho : OpR X (compareOp op) r) (ho' : OpR X (compareOp op') r') (hg : Ok2 Γ Wx r g) (hg' : Ok2 Γ Wx r' g') (ha : DE X Γ Wx a f1) (hb : DE X Γ Wx b f2) (hc : DE X Γ Wx c f3)
    (hm : lastMarks [op, op'] [b, c] = false := by with_unfolding_all rfl) : DE X Γ Wx (.Compare a [op, op'] [b, c] pos) (mChain g g' f1 f2 f3) := PE.imp (pe_chain ho ho' ha hb hc hm) (tChain_of hg hg')
theorem dt_chain {op op' : CmpOp} {r r' : R2} {g g' : W → W → Env → Out W} (ho : OpR X (compareOp op) r) (ho' : OpR X (compareOp op') r') (hg : Ok2 Γ Wx r g) (hg' : Ok2 Γ Wx r' g') (ha : DE X Γ Wx a f1) (hb : DE X Γ Wx b f2) (hc : DE X Γ Wx c f3)
    (hm : lastMarks [op, op'] [b, c] = false := by with_unfolding_all rfl) : DT X Γ Wx (.Compare a [op, op'] [b, c] pos) (tst (mChain g g' f1 f2 f3)) :=
  PT.imp (pt_chain ho ho' ha hb hc hm) fun σ H Q ⟨F, ρ, R, h⟩ => tChain_of hg hg' σ H _ ⟨F, ρ, R, postb_of (s := ⟨F, σ, H, ρ⟩) h⟩
/-! ### the module's constants -/
theorem de_globI {x : Str} {i : Int} (h : ∃ t, X.mg x = some (.int i t)) (hg : Gl X x := by rfl) (hd : (x == ("__debug__" : Str)) = false := by decide) : DE X Γ Wx (.Name x pos) (mC (.int i)) := by
  obtain ⟨t, h⟩ := h
  exact PE.imp (pe_glob (v := .int i) hg h ⟨t, rfl⟩ hd) fun σ H Q ⟨_, _, R, h⟩ => h.val R (.int i)
theorem de_globS {x : Str} {i : Str} (h : ∃ t, X.mg x = some (.str i t)) (hg : Gl X x := by rfl) (hd : (x == ("__debug__" : Str)) = false := by decide) : DE X Γ Wx (.Name x pos) (mC (.str i)) := by
  obtain ⟨t, h⟩ := h
  exact PE.imp (pe_glob (v := .str i) hg h ⟨t, rfl⟩ hd) fun σ H Q ⟨_, _, R, h⟩ => h.val R (.str i)
/-! ### {} -/
def mDict0 : Mx W := fun ρ => .ok (.t []) ρ
theorem de_dict0 : DE X Γ Wx (.Dict [] [] pos) mDict0 := PE.imp pe_dnewT fun σ H Q ⟨F, ρ, R, h⟩ p hp => by
  obtain ⟨R', S'⟩ := R.alloc (np := Γ.np) (p := p) (o := .dT []) (F' := F) hp (.inl rfl)
  exact h (.ref p) _ _ R' S' ⟨p, [], rfl, upd_same, .nil, R.free hp, hp, R.newNoCell hp⟩
end
end TD
namespace TD
open PySem PySem.Spec PyProof.Rows L2
/-! ### how denotations are worked out -/
abbrev tupI (ns : List Int) : D := .tuple (ns.map PyData.int)
def cTurn (vs : List Nat) (bd : Bd) (tt : Mx Bool) (te : Mx W) (x : D) (ρ : Env) : Option (Option D × Env) := match bd x ρ with
  | none => none
  | some ρ1 => match tt ρ1 with
    | .ok true ρ2 => match te ρ2 with
      | .ok w ρ3 => match w.datum ρ3 with
        | some (y, ρ4) => some (some y, wipeR ρ4 vs)
        | none => none
      | _ => none
    | .ok false ρ2 => some (none, wipeR ρ2 vs)
    | _ => none
theorem compL_cons {vs : List Nat} {bd : Bd} {tt : Mx Bool} {te : Mx W} {x : D} {xs acc : List D} {ρ ρ' : Env} {y : Option D} (h : cTurn vs bd tt te x ρ = some (y, ρ')) (hl : acc.length < 100000) :
    compL vs bd tt te (x :: xs) acc ρ = compL vs bd tt te xs (acc ++ y.toList) ρ' := by
  unfold cTurn at h
  conv => lhs; unfold compL
  cases e1 : bd x ρ with
  | none => rw [e1] at h; cases h
  | some ρ1 =>
    rw [e1] at h
    simp only at h ⊢
    cases e2 : tt ρ1 with
    | st => rw [e2] at h; cases h
    | er c ρ2 => rw [e2] at h; cases h
    | ok b ρ2 =>
      rw [e2] at h
      cases b with
      | false => cases h; simp only [Option.toList_none, List.append_nil]
      | true =>
        simp only at h ⊢
        cases e3 : te ρ2 with
        | st => rw [e3] at h; cases h
        | er c ρ3 => rw [e3] at h; cases h
        | ok w ρ3 =>
          rw [e3] at h
          simp only at h ⊢
          cases e4 : w.datum ρ3 with
          | none => rw [e4] at h; cases h
          | some q =>
            obtain ⟨y', ρ4⟩ := q
            rw [e4] at h
            cases h
            simp only
            rw [if_pos hl]
            rfl
theorem compL_fmap {vs : List Nat} {bd : Bd} {tt : Mx Bool} {te : Mx W} {ρ : Env} (g : D → Option D) : ∀ (items acc : List D), (∀ x ∈ items, cTurn vs bd tt te x ρ = some (g x, ρ)) → acc.length + items.length ≤ 100000 → compL vs bd tt te items acc ρ = .ok (acc ++ items.filterMap g) ρ
  | [], acc, _, _ => by simp [compL]
  | x :: xs, acc, h, hl => by
    rw [List.length_cons] at hl
    rw [compL_cons (h x List.mem_cons_self) (by omega), compL_fmap g xs _ (fun y hy => h y (List.mem_cons_of_mem _ hy)) (by
      cases g x <;> simp <;> omega)]
    cases e : g x <;> simp [e]
theorem compL_map {vs : List Nat} {bd : Bd} {tt : Mx Bool} {te : Mx W} {ρ : Env} (g : D → D) (items acc : List D) (h : ∀ x ∈ items, cTurn vs bd tt te x ρ = some (some (g x), ρ)) (hl : acc.length + items.length ≤ 100000) : compL vs bd tt te items acc ρ = .ok (acc ++ items.map g) ρ := by
  rw [compL_fmap (fun x => some (g x)) items acc h hl]
  simp
/-- a loop that goes through -/
theorem loop_nx {bd : Bd} {body : Mx Fl} (I : Nat → Env → Prop) : ∀ (items : List D) (k : Nat) (ρ : Env), I k ρ → (∀ i x ρ, items[i]? = some x → I (k + i) ρ → ∃ ρ1 ρ2, bd x ρ = some ρ1 ∧ (body ρ1 = .ok .nx ρ2 ∨ body ρ1 = .ok .ct ρ2) ∧ I (k + i + 1) ρ2) →
    ∃ ρ', loop bd body items ρ = .ok .nx ρ' ∧ I (k + items.length) ρ'
  | [], k, ρ, h, _ => ⟨ρ, rfl, h⟩
  | x :: xs, k, ρ, h, hs => by
    obtain ⟨ρ1, ρ2, e1, e2, h2⟩ := hs 0 x ρ rfl h
    obtain ⟨ρ', e3, h3⟩ := loop_nx I xs (k + 1) ρ2 h2 fun i y ρ hy hi => by
      have := hs (i + 1) y ρ (by simpa using hy) (by rw [show k + (i + 1) = k + 1 + i by omega]; exact hi)
      rw [show k + (i + 1) + 1 = k + 1 + i + 1 by omega] at this
      exact this
    refine ⟨ρ', ?_, by rw [List.length_cons, show k + (xs.length + 1) = k + 1 + xs.length by omega]; exact h3⟩
    unfold loop
    rw [e1]
    rcases e2 with e2 | e2 <;> (simp only [e2]; exact e3)
/-- places in a written environment -/
theorem env0 {o : Option B} {ρ : Env} : (o :: ρ : Env)[0]? = some o := rfl
theorem atI_int {α : Type} {xs : List α} {j : Nat} {v : α} (h : xs[j]? = some v) : atI xs (j : Int) = some v := atI_nat h
end TD
namespace TD
open PySem PySem.Spec PyProof.Rows L2
/-! ### one step each, at a given environment -/
section
variable {α β : Type} {ρ ρ' : Env} {f g : Mx W} {p q : Mx Fl} {fs : Mx (List W)} {t : Mx Bool}
theorem bnd_ap {m : Mx α} {k : α → Mx β} : bnd m k ρ = (match m ρ with | .ok a ρ' => k a ρ' | .er c ρ' => .er c ρ' | .st => .st) := rfl
theorem bnd_ok {m : Mx α} {k : α → Mx β} {a : α} (h : m ρ = .ok a ρ') : bnd m k ρ = k a ρ' := by unfold bnd; rw [h]
theorem sSeq_ap : sSeq p q ρ = (match p ρ with | .ok .nx ρ' => q ρ' | r => r) := rfl
theorem sRet_ap : sRet f ρ = (match f ρ with | .ok w ρ' => .ok (.rt w) ρ' | .er c ρ' => .er c ρ' | .st => .st) := by
  unfold sRet bnd
  cases f ρ <;> rfl
theorem sExpr_ap : sExpr f ρ = (match f ρ with | .ok _ ρ' => .ok .nx ρ' | .er c ρ' => .er c ρ' | .st => .st) := by
  unfold sExpr bnd
  cases f ρ <;> rfl
theorem sSet_ap {np i : Nat} : sSet np i f ρ = (match f ρ with | .ok w ρ' => (match store np i ρ' w with | some ρ'' => .ok .nx ρ'' | none => .st) | .er c ρ' => .er c ρ' | .st => .st) := by
  unfold sSet bnd
  cases f ρ <;> rfl
theorem sIf_ap : sIf t p q ρ = (match t ρ with | .ok b ρ' => (if b then p else q) ρ' | .er c ρ' => .er c ρ' | .st => .st) := by
  unfold sIf bnd
  cases t ρ <;> rfl
theorem sIf_t {ρ' : Env} (h : t ρ = .ok true ρ') : sIf t p q ρ = p ρ' := by unfold sIf bnd; rw [h]; rfl
theorem sIf_f {ρ' : Env} (h : t ρ = .ok false ρ') : sIf t p q ρ = q ρ' := by unfold sIf bnd; rw [h]; rfl
theorem sSeq_nx {ρ' : Env} (h : p ρ = .ok .nx ρ') : sSeq p q ρ = q ρ' := by unfold sSeq; rw [h]
theorem sSeq_rt {ρ' : Env} {w : W} (h : p ρ = .ok (.rt w) ρ') : sSeq p q ρ = .ok (.rt w) ρ' := by unfold sSeq; rw [h]
theorem sSeq_er {ρ' : Env} {c : Str} (h : p ρ = .er c ρ') : sSeq p q ρ = .er c ρ' := by unfold sSeq; rw [h]
theorem sNext_ap : sNext ρ = .ok .nx ρ := rfl
theorem sRaise_ap {c : Str} : sRaise c ρ = .er c ρ := rfl
theorem mC_ap {x : D} : mC x ρ = .ok (.d x) ρ := rfl
theorem tYesM_ap : tYesM ρ = .ok true ρ := rfl
theorem aNil_ap : aNil ρ = .ok [] ρ := rfl
theorem aCons_ap : aCons f fs ρ = (match f ρ with | .ok w ρ' => (match fs ρ' with | .ok ws ρ'' => .ok (w :: ws) ρ'' | .er c ρ'' => .er c ρ'' | .st => .st) | .er c ρ' => .er c ρ' | .st => .st) := by
  unfold aCons bnd
  cases f ρ with
  | st => rfl
  | er c ρ1 => rfl
  | ok w ρ1 => simp only; cases fs ρ1 <;> rfl
theorem mArgs_ap {k : List W → Env → Out W} : mArgs k fs ρ = (match fs ρ with | .ok ws ρ' => k ws ρ' | .er c ρ' => .er c ρ' | .st => .st) := by
  unfold mArgs bnd
  cases fs ρ <;> rfl
theorem m2_ap {k : W → W → Env → Out W} : m2 k f g ρ = (match f ρ with | .ok w ρ' => (match g ρ' with | .ok w2 ρ'' => k w w2 ρ'' | .er c ρ'' => .er c ρ'' | .st => .st) | .er c ρ' => .er c ρ' | .st => .st) := by
  unfold m2 bnd
  cases f ρ with
  | st => rfl
  | er c ρ1 => rfl
  | ok w ρ1 => simp only; cases g ρ1 <;> rfl
theorem m1_ap {k : W → Env → Out W} : m1 k f ρ = (match f ρ with | .ok w ρ' => k w ρ' | .er c ρ' => .er c ρ' | .st => .st) := by
  unfold m1 bnd
  cases f ρ <;> rfl
theorem tst_ap : tst f ρ = (match f ρ with | .ok w ρ' => asBool w ρ' | .er c ρ' => .er c ρ' | .st => .st) := by
  unfold tst bnd
  cases f ρ <;> rfl
theorem asBool_b {b : Bool} : asBool (.d (.bool b)) ρ = .ok b ρ := rfl
theorem mNotT_ap : mNotT t ρ = (match t ρ with | .ok b ρ' => .ok (!b) ρ' | .er c ρ' => .er c ρ' | .st => .st) := by
  unfold mNotT bnd
  cases t ρ <;> rfl
theorem mAndT_ap {t' : Mx Bool} : mAndT t t' ρ = (match t ρ with | .ok b ρ' => (if b then t' else fun ρ => .ok false ρ) ρ' | .er c ρ' => .er c ρ' | .st => .st) := by
  unfold mAndT bnd
  cases t ρ <;> rfl
theorem mOrT_ap {t' : Mx Bool} : mOrT t t' ρ = (match t ρ with | .ok b ρ' => (if b then fun ρ => .ok true ρ else t') ρ' | .er c ρ' => .er c ρ' | .st => .st) := by
  unfold mOrT bnd
  cases t ρ <;> rfl
theorem mRng1_ap : mRng1 fs ρ = (match fs ρ with | .ok ws ρ' => gRng1 ws ρ' | .er c ρ' => .er c ρ' | .st => .st) := by
  unfold mRng1 bnd
  cases fs ρ <;> rfl
theorem mRng2_ap : mRng2 fs ρ = (match fs ρ with | .ok ws ρ' => gRng2 ws ρ' | .er c ρ' => .er c ρ' | .st => .st) := by
  unfold mRng2 bnd
  cases fs ρ <;> rfl
theorem gRng1_ap {n : Int} (h1 : -1000000000 ≤ n) (h2 : n ≤ 1000000000) : gRng1 [.d (.int n)] ρ = .ok (rangeD 0 n.toNat, none) ρ := by
  unfold gRng1
  simp only [W.asD]
  rw [if_pos ⟨h1, h2⟩]
theorem gRng1_nat {n : Nat} (h2 : n ≤ 1000000) : gRng1 [.d (.int (n : Int))] ρ = .ok (rangeD 0 n, none) ρ := by
  rw [gRng1_ap (by omega) (by omega)]
  rfl
/-- over range -/
theorem compL_rng {vs : List Nat} {bd : Bd} {tt : Mx Bool} {te : Mx W} {n : Nat} (g : Nat → D) (h : ∀ k : Nat, k < n → cTurn vs bd tt te (.int (k : Int)) ρ = some (some (g k), ρ)) (hl : n ≤ 100000) :
    compL vs bd tt te (rangeD 0 n) [] ρ = .ok ((List.range n).map g) ρ := by
  have h2 := compL_map (vs := vs) (bd := bd) (tt := tt) (te := te) (ρ := ρ) (fun d => match d with | .int i => g i.toNat | _ => .none) (rangeD 0 n) [] (fun x hx => by
    unfold rangeD at hx
    rw [List.mem_map] at hx
    obtain ⟨k, hk, rfl⟩ := hx
    have := h k (List.mem_range.mp hk)
    simp only [Int.zero_add, Int.toNat_natCast]
    exact this) (by simp [rangeD]; exact hl)
  rw [h2]
  simp [rangeD]
theorem mComp_of {vs : List Nat} {it : Mx Walk} {bd : Bd} {tt : Mx Bool} {te : Mx W} {items ys : List D} {ρ1 : Env} (hi : it ρ = .ok (items, none) ρ1) (hc : compL vs bd tt te items [] (wipeR ρ1 vs) = .ok ys ρ') {ρ2 : Env} (hr : restoreR ρ1 vs ρ' = some ρ2) :
    mComp vs it bd tt te ρ = .ok (.l ys) ρ2 := by
  unfold mComp bnd
  rw [hi]
  simp only [outR]
  rw [hc]
  simp only [hr, backR]
theorem mComp_rng {vs : List Nat} {it : Mx Walk} {bd : Bd} {tt : Mx Bool} {te : Mx W} {n : Nat} {ρ1 : Env} (g : Nat → D) (hi : it ρ = .ok (rangeD 0 n, none) ρ1) (hl : n ≤ 100000) (h : ∀ k : Nat, k < n → cTurn vs bd tt te (.int (k : Int)) (wipeR ρ1 vs) = some (some (g k), wipeR ρ1 vs)) (hr : restoreR ρ1 vs (wipeR ρ1 vs) = some ρ1) :
    mComp vs it bd tt te ρ = .ok (.l ((List.range n).map g)) ρ1 := mComp_of hi (compL_rng g h hl) hr
theorem mComp_ints {vs : List Nat} {it : Mx Walk} {bd : Bd} {tt : Mx Bool} {te : Mx W} {xs : List Int} {ρ1 : Env} (g : Int → D) (hi : it ρ = .ok (xs.map PyData.int, none) ρ1) (hl : xs.length ≤ 100000) (h : ∀ n ∈ xs, cTurn vs bd tt te (.int n) (wipeR ρ1 vs) = some (some (g n), wipeR ρ1 vs)) (hr : restoreR ρ1 vs (wipeR ρ1 vs) = some ρ1) :
    mComp vs it bd tt te ρ = .ok (.l (xs.map g)) ρ1 := by
  refine mComp_of hi ?_ hr
  rw [compL_map (fun d => match d with | .int i => g i | _ => .none) (xs.map PyData.int) [] (fun x hx => by
    rw [List.mem_map] at hx
    obtain ⟨n, hn, rfl⟩ := hx
    exact h n hn) (by simpa using hl)]
  simp
theorem sFor_of {it : Mx Walk} {bd : Bd} {body : Mx Fl} {items : List D} {ρ1 : Env} (hi : it ρ = .ok (items, none) ρ1) : sFor it bd body ρ = loop bd body items ρ1 := by
  unfold sFor bnd
  rw [hi]
  simp only [outR]
  cases loop bd body items ρ1 <;> rfl
theorem mWalk_ap : mWalk f ρ = (match f ρ with
  | .ok w ρ' => (match w.walkL ρ' with
      | some k => .ok k ρ'
      | none => match w.asD ρ' with
        | some (.tuple xs) => .ok (xs, none) ρ'
        | some (.str z) => .ok (z.cps.toList.map fun c => PyData.str ⟨#[c]⟩, none) ρ'
        | _ => .st)
  | .er c ρ' => .er c ρ' | .st => .st) := by
  unfold mWalk bnd
  cases f ρ with
  | ok w ρ' => rfl
  | er c ρ' => rfl
  | st => rfl
end
/-! data of whole numbers -/
theorem lay_ints : ∀ xs : List Int, PyData.canLayAll0 (xs.map PyData.int) = true
  | [] => rfl
  | x :: xs => by rw [List.map_cons]; simp [PyData.canLayAll0, PyData.canLay0, lay_ints xs]
theorem dep_ints : ∀ xs : List Int, PyData.depthAll (xs.map PyData.int) = 0
  | [] => rfl
  | x :: xs => by rw [List.map_cons]; simp [PyData.depthAll, PyData.depth, dep_ints xs]
theorem sh_int (n : Int) : SeqAt.shaped (.int n) = true := rfl
theorem sh_tupI (xs : List Int) : SeqAt.shaped (tupI xs) = true := by
  simp [SeqAt.shaped, PyData.canLay0, PyData.depth, lay_ints, dep_ints]
theorem sh_lstI (xs : List Int) : SeqAt.shaped (.list (xs.map PyData.int)) = true := by
  simp [SeqAt.shaped, PyData.canLay0, PyData.depth, lay_ints, dep_ints]
theorem beq_dec {α : Type} [BEq α] [LawfulBEq α] [DecidableEq α] (a b : α) : (a == b) = decide (a = b) := by rw [Bool.eq_iff_iff, beq_iff_eq, decide_eq_true_eq]
theorem eqv_ints : ∀ xs ys : List Int, PyData.eqvAll (xs.map PyData.int) (ys.map PyData.int) = decide (xs = ys)
  | [], [] => by simp [PyData.eqvAll]
  | [], _ :: _ => by simp [PyData.eqvAll]
  | _ :: _, [] => by simp [PyData.eqvAll]
  | x :: xs, y :: ys => by simp [PyData.eqvAll, PyData.eqv, eqv_ints xs ys, beq_dec]
theorem eqv_tupI (xs ys : List Int) : PyData.eqv (tupI xs) (tupI ys) = decide (xs = ys) := by
  simp [PyData.eqv, eqv_ints]
theorem eqv_int (i j : Int) : PyData.eqv (.int i) (.int j) = decide (i = j) := by simp [PyData.eqv, beq_dec]
theorem gEqB_d {ρ : Env} {neg : Bool} {x y : D} (h1 : SeqAt.shaped x = true) (h2 : SeqAt.shaped y = true) : gEqB neg (.d x) (.d y) ρ = .ok (.d (.bool (if neg then !(PyData.eqv x y) else PyData.eqv x y))) ρ := by
  unfold gEqB
  simp only [W.toD]
  rw [if_pos ⟨h1, h2⟩]
theorem eq_int {ρ : Env} {i j : Int} : gEqB false (.d (.int i)) (.d (.int j)) ρ = .ok (.d (.bool (decide (i = j)))) ρ := by
  rw [gEqB_d (sh_int i) (sh_int j), eqv_int]
  rfl
theorem ne_int {ρ : Env} {i j : Int} : gEqB true (.d (.int i)) (.d (.int j)) ρ = .ok (.d (.bool (!decide (i = j)))) ρ := by
  rw [gEqB_d (sh_int i) (sh_int j), eqv_int]
  rfl
theorem eq_tupI {ρ : Env} {xs ys : List Int} : gEqB false (.d (tupI xs)) (.d (tupI ys)) ρ = .ok (.d (.bool (decide (xs = ys)))) ρ := by
  rw [gEqB_d (sh_tupI xs) (sh_tupI ys), eqv_tupI]
  rfl
theorem ne_tupI {ρ : Env} {xs ys : List Int} : gEqB true (.d (tupI xs)) (.d (tupI ys)) ρ = .ok (.d (.bool (!decide (xs = ys)))) ρ := by
  rw [gEqB_d (sh_tupI xs) (sh_tupI ys), eqv_tupI]
  rfl
theorem atI_mem {α : Type} {xs : List α} {i : Int} (h0 : 0 ≤ i) (h1 : i < xs.length) : ∃ x ∈ xs, atI xs i = some x := by
  obtain ⟨j, rfl⟩ := Int.eq_ofNat_of_zero_le h0
  have hj : j < xs.length := by omega
  exact ⟨xs[j], List.getElem_mem hj, atI_int (List.getElem?_eq_getElem hj)⟩
theorem atI_at {α : Type} {xs : List α} {i : Int} {y : α} (h0 : 0 ≤ i) (h : xs[i.toNat]? = some y) : atI xs i = some y := by
  obtain ⟨j, rfl⟩ := Int.eq_ofNat_of_zero_le h0
  exact atI_int h
theorem loop_all {bd : Bd} {body : Mx Fl} (I : Env → Prop) {ds : List D} {ρ : Env} (h : I ρ) (hs : ∀ x ρ, x ∈ ds → I ρ → ∃ ρ1 ρ2, bd x ρ = some ρ1 ∧ (body ρ1 = .ok .nx ρ2 ∨ body ρ1 = .ok .ct ρ2) ∧ I ρ2) : ∃ ρ', loop bd body ds ρ = .ok .nx ρ' ∧ I ρ' :=
  loop_nx (fun _ => I) ds 0 ρ h fun i x ρ hx hi => hs x ρ (List.mem_of_getElem? hx) hi
theorem loop_ints {bd : Bd} {body : Mx Fl} (I : Env → Prop) {ns : List Int} {ρ : Env} (h : I ρ) (hs : ∀ n ρ, n ∈ ns → I ρ → ∃ ρ1 ρ2, bd (.int n) ρ = some ρ1 ∧ (body ρ1 = .ok .nx ρ2 ∨ body ρ1 = .ok .ct ρ2) ∧ I ρ2) : ∃ ρ', loop bd body (ns.map PyData.int) ρ = .ok .nx ρ' ∧ I ρ' :=
  loop_nx (fun _ => I) (ns.map PyData.int) 0 ρ h fun i x ρ hx hi => by
    rw [List.getElem?_map, Option.map_eq_some_iff] at hx
    obtain ⟨n, hn, rfl⟩ := hx
    exact hs n ρ (List.mem_of_getElem? hn) hi
theorem cutD_map {α β : Type} (f : α → β) (xs : List α) (lo hi : Option Int) : cutD (xs.map f) lo hi = (cutD xs lo hi).map f := by
  simp [cutD, List.map_drop, List.map_take]
theorem eq_bool {ρ : Env} {i j : Bool} : gEqB false (.d (.bool i)) (.d (.bool j)) ρ = .ok (.d (.bool (decide (i = j)))) ρ := by
  rw [gEqB_d rfl rfl]
  cases i <;> cases j <;> rfl
theorem ne_bool {ρ : Env} {i j : Bool} : gEqB true (.d (.bool i)) (.d (.bool j)) ρ = .ok (.d (.bool (!decide (i = j)))) ρ := by
  rw [gEqB_d rfl rfl]
  cases i <;> cases j <;> rfl
theorem cut_to {α : Type} {xs : List α} {k : Nat} : cutD xs none (some (k : Int)) = xs.take k := by
  unfold cutD
  rw [HT.sIx_nat]
  show (xs.drop 0).take (min k xs.length - 0) = _
  rw [List.drop_zero, Nat.sub_zero]
  by_cases h : k ≤ xs.length
  · rw [Nat.min_eq_left h]
  · rw [Nat.min_eq_right (by omega), List.take_length, List.take_of_length_le (by omega)]
theorem cut_from {α : Type} {xs : List α} {k : Nat} : cutD xs (some (k : Int)) none = xs.drop k := by
  unfold cutD
  rw [HT.sIx_nat]
  show (xs.drop (min k xs.length)).take (xs.length - min k xs.length) = _
  by_cases h : k ≤ xs.length
  · rw [Nat.min_eq_left h, List.take_of_length_le (by rw [List.length_drop]; omega)]
  · rw [Nat.min_eq_right (by omega), List.drop_eq_nil_of_le (i := k) (by omega), List.drop_eq_nil_of_le (i := xs.length) (by omega), List.take_nil]
/-- over data -/
theorem mComp_map {ρ : Env} {vs : List Nat} {it : Mx Walk} {bd : Bd} {tt : Mx Bool} {te : Mx W} {xs : List D} {ρ1 : Env} (g : D → D) (hi : it ρ = .ok (xs, none) ρ1) (hl : xs.length ≤ 100000) (h : ∀ n ∈ xs, cTurn vs bd tt te n (wipeR ρ1 vs) = some (some (g n), wipeR ρ1 vs)) (hr : restoreR ρ1 vs (wipeR ρ1 vs) = some ρ1) :
    mComp vs it bd tt te ρ = .ok (.l (xs.map g)) ρ1 := by
  refine mComp_of hi ?_ hr
  rw [compL_map g xs [] h (by simpa using hl)]
  simp
section
variable {ρ : Env}
theorem mSl_ap {f : Mx W} {lo hi : Mx (Option Int)} : mSl f lo hi ρ = (match f ρ with
  | .ok w ρ1 => (match lo ρ1 with
    | .ok a ρ2 => (match hi ρ2 with
      | .ok b ρ3 => gSl w a b ρ3
      | .er c ρ3 => .er c ρ3
      | .st => .st)
    | .er c ρ2 => .er c ρ2
    | .st => .st)
  | .er c ρ1 => .er c ρ1
  | .st => .st) := by
  unfold mSl bnd
  cases f ρ with
  | st => rfl
  | er c ρ1 => rfl
  | ok w ρ1 =>
    simp only
    cases lo ρ1 with
    | st => rfl
    | er c ρ1 => rfl
    | ok a ρ2 => simp only; cases hi ρ2 <;> rfl
theorem oNone_ap : oNone ρ = .ok none ρ := rfl
theorem oSome_ap {f : Mx W} : oSome f ρ = (match f ρ with
  | .ok w ρ1 => (match w.asD ρ1 with
    | some (.int i) => .ok (some i) ρ1
    | _ => .st)
  | .er c ρ1 => .er c ρ1
  | .st => .st) := by
  unfold oSome bnd
  cases f ρ <;> rfl
theorem gSl_t {xs : List D} {a b : Option Int} : gSl (.d (.tuple xs)) a b ρ = .ok (.d (.tuple (cutD xs a b))) ρ := rfl
theorem gSl_l {xs : List D} {a b : Option Int} : gSl (.l xs) a b ρ = .ok (.l (cutD xs a b)) ρ := rfl
theorem gSl_ld {xs : List D} {a b : Option Int} : gSl (.d (.list xs)) a b ρ = .ok (.l (cutD xs a b)) ρ := rfl
theorem a_tup {xs ys : List D} (h : xs.length + ys.length ≤ 100000) : gAdd (.d (.tuple xs)) (.d (.tuple ys)) ρ = .ok (.d (.tuple (xs ++ ys))) ρ := by
  unfold gAdd
  simp only [W.asD]
  rw [if_pos h]
theorem a_rep {xs : List D} {k : Int} (h : xs ≠ []) (h1 : 2 ≤ k) (h2 : k ≤ 1000) (h3 : xs.length ≤ 1000) : gMul (.d (.tuple xs)) (.d (.int k)) ρ = .ok (.d (.tuple (List.replicate k.toNat xs).flatten)) ρ := by
  unfold gMul
  simp only [W.asD]
  rw [if_pos ⟨h, h1, h2, h3⟩]
theorem a_lst {xs ys : List D} (h : xs.length + ys.length ≤ 100000) : gAdd (.l xs) (.l ys) ρ = .ok (.l (xs ++ ys)) ρ := by
  unfold gAdd
  simp only [W.asD, W.own]
  rw [if_pos h]
end
/-! numbers -/
section
variable {ρ : Env} {i j : Int}
theorem a_add : gAdd (.d (.int i)) (.d (.int j)) ρ = .ok (.d (.int (i + j))) ρ := rfl
theorem a_sub : TD.gSub (.d (.int i)) (.d (.int j)) ρ = .ok (.d (.int (i - j))) ρ := rfl
theorem a_lt : gLt (.d (.int i)) (.d (.int j)) ρ = .ok (.d (.bool (decide (i < j)))) ρ := rfl
theorem a_le : gLe (.d (.int i)) (.d (.int j)) ρ = .ok (.d (.bool (decide (i ≤ j)))) ρ := rfl
theorem a_gt : gGt (.d (.int i)) (.d (.int j)) ρ = .ok (.d (.bool (decide (j < i)))) ρ := rfl
theorem a_ge : gGe (.d (.int i)) (.d (.int j)) ρ = .ok (.d (.bool (decide (j ≤ i)))) ρ := rfl
theorem a_div (h : 0 < j) (h2 : j < 1073741824) : gDiv (.d (.int i)) (.d (.int j)) ρ = .ok (.d (.int (i / j))) ρ := by
  simp [p2, gI, W.asD, h, h2]
theorem a_mod (h : 0 < j) : TD.gMod (.d (.int i)) (.d (.int j)) ρ = .ok (.d (.int (i % j))) ρ := by
  simp [p2, gI, W.asD, h]
theorem a_pow (h : 0 ≤ j) (h1 : j ≤ 1000000) (h2 : i.natAbs < 18446744073709551616) : gPow (.d (.int i)) (.d (.int j)) ρ = .ok (.d (.int (i ^ j.toNat))) ρ := by
  simp [p2, gI, W.asD, h, h1, h2]
theorem a_mul (h : (-18446744073709551616 < i ∧ i < 18446744073709551616) ∨ (-18446744073709551616 < j ∧ j < 18446744073709551616)) : gMul (.d (.int i)) (.d (.int j)) ρ = .ok (.d (.int (i * j))) ρ := by
  unfold gMul
  simp only [W.asD]
  rw [if_pos h]
theorem mCall_ap {f : List B → FO} {fs : Mx (List W)} : mCall f fs ρ = (match fs ρ with
  | .ok ws ρ' => (match ress ws ρ' with
    | none => .st
    | some bs => if (slotsOf ws).Nodup then (match f bs with
      | .ok b bs' => .ok (ofB b) (wb ws bs' ρ')
      | .er c bs' => .er c (wb ws bs' ρ')
      | .st => .st) else .st)
  | .er c ρ' => .er c ρ'
  | .st => .st) := by
  unfold mCall bnd
  cases fs ρ with
  | ok ws ρ' => rfl
  | er c ρ' => rfl
  | st => rfl
theorem slots_nil : slotsOf [] = [] := by rw [slotsOf]
theorem slots_d {x : D} {ws : List W} : slotsOf (.d x :: ws) = slotsOf ws := by rw [slotsOf]; intro i h; cases h
theorem slots_l {x : List D} {ws : List W} : slotsOf (.l x :: ws) = slotsOf ws := by rw [slotsOf]; intro i h; cases h
theorem slots_t {x : List (List Key × D)} {ws : List W} : slotsOf (.t x :: ws) = slotsOf ws := by rw [slotsOf]; intro i h; cases h
theorem slots_c {i : Nat} {ws : List W} : slotsOf (.c i :: ws) = i :: slotsOf ws := by rw [slotsOf]
/-- nothing lent: nothing comes back -/
theorem wb_none {ws : List W} {bs : List B} {ρ : Env} (h : slotsOf ws = []) : wb ws bs ρ = ρ := by
  have hl : ∀ (ws : List W) (bs : List B) (k : Nat), slotsOf ws = [] → lookC ws bs k = none := by
    intro ws
    induction ws with
    | nil => intro bs k _; rfl
    | cons w ws ih =>
      intro bs k h
      cases w with
      | c i => cases h
      | d x => cases bs with
        | nil => rfl
        | cons b bs => exact ih bs k h
      | l x => cases bs with
        | nil => rfl
        | cons b bs => exact ih bs k h
      | t x => cases bs with
        | nil => rfl
        | cons b bs => exact ih bs k h
  unfold wb
  refine List.ext_getElem (by simp) fun k h1 h2 => ?_
  rw [List.getElem_mapIdx]
  cases e : ρ[k] with
  | none => rfl
  | some b =>
    unfold wbk
    rw [hl ws bs k h]
    simp
end
/-- the k-th number -/
def nth (xs : List Int) (k : Nat) : Int := xs.getD k 0
theorem getI {xs : List Int} {k : Nat} (h : k < xs.length) : atI (xs.map PyData.int) (k : Int) = some (.int (nth xs k)) := by
  refine atI_int ?_
  rw [List.getElem?_map, List.getElem?_eq_getElem h]
  simp [nth, List.getD_eq_getElem?_getD, List.getElem?_eq_getElem h]
theorem nth_mem {xs : List Int} {k : Nat} (h : k < xs.length) : nth xs k ∈ xs := by
  unfold nth
  rw [List.getD_eq_getElem?_getD, List.getElem?_eq_getElem h]
  exact List.getElem_mem h
end TD
namespace Gen
open PySem PySem.Spec PyProof.Rows L2 TD
def topS (i : Nat) : Stmt := PySem.Challenge.pw_tallysets_k02_is_tally.main.body.getD i (.Pass ⟨0, 0, 0, 0⟩)
abbrev s_is_count : Stmt := topS 2
theorem sc_is_count : FnScope ["thing"] ["thing"] (defScope s_is_count) := ⟨rfl, rfl, rfl, by decide +kernel, rfl, by decide +kernel, by decide +kernel⟩
abbrev s_is_tally : Stmt := topS 3
theorem sc_is_tally : FnScope ["thing", "part"] ["thing"] (defScope s_is_tally) := ⟨rfl, rfl, rfl, by decide +kernel, rfl, by decide +kernel, by decide +kernel⟩
abbrev s__law_number : Stmt := topS 5
theorem sc__law_number : FnScope ["_law_cell", "_law_k", "_law_number_here"] ["_law_cell", "_law_k"] (defScope s__law_number) := ⟨rfl, rfl, rfl, by decide +kernel, rfl, by decide +kernel, by decide +kernel⟩
abbrev s__law_tally : Stmt := topS 6
theorem sc__law_tally : FnScope ["_law_cell", "_law_long", "_law_k"] ["_law_cell", "_law_long"] (defScope s__law_tally) := ⟨rfl, rfl, rfl, by decide +kernel, rfl, by decide +kernel, by decide +kernel⟩
abbrev s__law_told : Stmt := topS 7
theorem sc__law_told : FnScope ["_law_thing", "_law_due", "_law_found"] ["_law_thing", "_law_due"] (defScope s__law_told) := ⟨rfl, rfl, rfl, by decide +kernel, rfl, by decide +kernel, by decide +kernel⟩
abbrev s__law_odd : Stmt := topS 8
theorem sc__law_odd : FnScope ["_law_cell"] ["_law_cell"] (defScope s__law_odd) := ⟨rfl, rfl, rfl, by decide +kernel, rfl, by decide +kernel, by decide +kernel⟩
abbrev s_law : Stmt := topS 9
theorem sc_law : FnScope ["_law_script", "_law_thing", "_law_cell", "_law_long", "_law_good", "_law_at", "_law_grown", "_law_spoilt"] ["_law_script"] (defScope s_law) := ⟨rfl, rfl, rfl, by decide +kernel, rfl, by decide +kernel, by decide +kernel⟩
structure NB (mg : Str → Option Value) : Prop where
  all : mg "all" = none
  bool : mg "bool" = none
  int : mg "int" = none
  isinstance : mg "isinstance" = none
  len : mg "len" = none
  list : mg "list" = none
  range : mg "range" = none
  tuple : mg "tuple" = none
structure Cs (mg : Str → Option Value) : Prop where
  g_LETTERS_MOST : ∃ t, mg "LETTERS_MOST" = some (.int 4 t)
def f_is_count : List B → FO := mkFn 1 1 (sSeq (sIf (mOrT (tst (m1 (gIsi "bool") (mVar 0))) (mNotT (tst (m1 (gIsi "int") (mVar 0))))) (sRet (mC (.bool false))) (sNext)) (sRet (m2 gGe (mVar 0) (mC (.int 0)))))
def c_is_tally_0 : Mx W := mComp [1] (mWalk (mVar 0)) (bdN 1 1) (tYesM) (mCall f_is_count (aCons (mVar 1) (aNil)))
def f_is_tally : List B → FO := mkFn 1 2 (sSeq (sIf (mOrT (mNotT (tst (m1 (gIsi "tuple") (mVar 0)))) (mNotT (tst (mChain gLe gLe (mC (.int 1)) (mArgs gLen (aCons (mVar 0) (aNil))) (mC (.int 4)))))) (sRet (mC (.bool false))) (sNext)) (sRet (mArgs gAll (aCons (c_is_tally_0) (aNil)))))
def f__law_number : List B → FO := mkFn 2 3 (sSeq (sSet 2 2 (m2 gMod (m2 gMul (m2 gAdd (mVar 0) (mC (.int 3))) (m2 gIx (mArgs gLst (aCons (mC (.int 48271)) (aCons (mC (.int 69621)) (aCons (mC (.int 39373)) (aCons (mC (.int 16807)) (aNil)))))) (mVar 1))) (mC (.int 999999999989)))) (sRet (m2 gIx (mArgs gLst (aCons (m2 gMod (m2 gMul (mVar 2) (mC (.int 1001))) (m2 gAdd (m2 gPow (mC (.int 10)) (mC (.int 15))) (mC (.int 1)))) (aCons (m2 gMod (m2 gDiv (mVar 2) (mC (.int 3))) (mC (.int 10))) (aCons (mC (.int 0)) (aCons (m2 gPow (mC (.int 10)) (mC (.int 15))) (aNil)))))) (m2 gIx (mArgs gLst (aCons (mC (.int 0)) (aCons (mC (.int 0)) (aCons (mC (.int 1)) (aCons (mC (.int 1)) (aCons (mC (.int 2)) (aCons (mC (.int 3)) (aNil)))))))) (m2 gMod (mVar 2) (mC (.int 6)))))))
def c__law_tally_0 : Mx W := mComp [2] (mRng1 (aCons (mVar 1) (aNil))) (bdN 2 2) (tYesM) (mCall f__law_number (aCons (mVar 0) (aCons (mVar 2) (aNil))))
def f__law_tally : List B → FO := mkFn 2 3 (sRet (mArgs gTuple (aCons (c__law_tally_0) (aNil))))
def f__law_told : List B → FO := mkFn 2 3 (sSeq (sSet 2 2 (mCall f_is_tally (aCons (mVar 0) (aNil)))) (sRet (mAndV (m1 (gIsi "bool") (mVar 2)) (m2 gEq (mVar 2) (mVar 1)))))
def f__law_odd : List B → FO := mkFn 1 1 (sRet (m2 gIx (mArgs gLst (aCons (m1 gNeg (mC (.int 1))) (aCons (m2 gSub (m1 gNeg (mC (.int 1))) (m2 gMod (mVar 0) (m2 gPow (mC (.int 10)) (mC (.int 15))))) (aCons (mC (.bool true)) (aCons (mC (.bool false)) (aCons (mC .none) (aCons (mC (.str "1")) (aCons (mArgs gLst (aCons (mC (.int 1)) (aNil))) (aCons (mArgs gTup (aCons (mC (.int 1)) (aNil))) (aCons (mDict0) (aNil))))))))))) (m2 gMod (mVar 0) (mC (.int 9)))))
def b_law_0 : Mx Fl := sIf (mNotT (tst (mCall f__law_told (aCons (mVar 1) (aCons (mC (.bool false)) (aNil)))))) (sRet (mC (.bool false))) (sNext)
def l_law_0 : Mx Fl := sFor (mWalk (mArgs gLst (aCons (mC .none) (aCons (mC (.bool true)) (aCons (mC (.int 3)) (aCons (mC (.str "1")) (aCons (mC (.str "")) (aCons (mDict0) (aCons (mArgs gTup (aNil)) (aCons (mArgs gLst (aNil)) (aCons (m2 gMul (mArgs gTup (aCons (mC (.int 1)) (aNil))) (mC (.int 5))) (aCons (mArgs gTup (aCons (mC (.int 0)) (aCons (mC (.int 0)) (aCons (mC (.int 0)) (aCons (mC (.int 0)) (aCons (mC (.int 0)) (aNil))))))) (aNil))))))))))))) (bdN 1 1) b_law_0
def b_law_1 : Mx Fl := sSeq (sSet 1 3 (m2 gAdd (mC (.int 1)) (m2 gMod (mVar 2) (mC (.int 4))))) (sSeq (sSet 1 4 (mCall f__law_tally (aCons (mVar 2) (aCons (mVar 3) (aNil))))) (sSeq (sSet 1 5 (m2 gMod (m2 gDiv (mVar 2) (mC (.int 4))) (m2 gAdd (mVar 3) (mC (.int 1))))) (sSeq (sSet 1 6 (m2 gAdd (m2 gAdd (mSl (mVar 4) (oNone) (oSome (mVar 5))) (mArgs gTup (aCons (m2 gMod (mVar 2) (m2 gAdd (m2 gPow (mC (.int 10)) (mC (.int 15))) (mC (.int 1)))) (aNil)))) (mSl (mVar 4) (oSome (mVar 5)) (oNone)))) (sSeq (sSet 1 7 (m2 gAdd (m2 gAdd (mSl (mVar 4) (oNone) (oSome (mVar 5))) (mArgs gTup (aCons (mCall f__law_odd (aCons (m2 gDiv (mVar 2) (mC (.int 20))) (aNil))) (aNil)))) (mSl (mVar 4) (oSome (mVar 5)) (oNone)))) (sSeq (sIf (mOrT (mNotT (tst (mCall f__law_told (aCons (mVar 4) (aCons (mC (.bool true)) (aNil)))))) (mOrT (mNotT (tst (mCall f__law_told (aCons (mVar 6) (aCons (m2 gLt (mVar 3) (mC (.int 4))) (aNil)))))) (mNotT (tst (mCall f__law_told (aCons (mArgs gList (aCons (mVar 4) (aNil))) (aCons (mC (.bool false)) (aNil)))))))) (sRet (mC (.bool false))) (sNext)) (sIf (mOrT (mNotT (tst (mCall f__law_told (aCons (mSl (mVar 7) (oNone) (oSome (mC (.int 4)))) (aCons (m2 gEq (mVar 5) (mC (.int 4))) (aNil)))))) (mOrT (mNotT (tst (mCall f__law_told (aCons (mArgs gTup (aCons (mVar 4) (aNil))) (aCons (mC (.bool false)) (aNil)))))) (mNotT (tst (mCall f__law_told (aCons (mSl (mVar 4) (oNone) (oSome (mC (.int 1)))) (aCons (mC (.bool true)) (aNil)))))))) (sRet (mC (.bool false))) (sNext)))))))
def l_law_1 : Mx Fl := sFor (mWalk (m2 gAdd (mArgs gLst (aCons (mC (.int 0)) (aCons (mC (.int 1)) (aCons (mC (.int 2)) (aCons (mC (.int 3)) (aNil)))))) (mArgs gList (aCons (mVar 0) (aNil))))) (bdN 1 2) b_law_1
def f_law : List B → FO := mkFn 1 8 (sSeq (l_law_0) (sSeq (l_law_1) (sRet (mC (.bool true)))))
section
variable {P : Program} {w : World} {K : PySem.W.Frag} {mg : Str → Option Value} {base : Heap}
theorem ok_is_count (D : Df K mg "is_count" s_is_count ["thing"]) (Z : NB mg)    : Okd P w K mg base 1 "is_count" ["thing"] f_is_count := by
  exact df_ok D sc_is_count rfl fun fa cdv A outer s H E hr => dss_cons (ds_if ((dw_or (dt_val (de_isi Z.isinstance Z.bool boot_bool (de_var 0) rfl)) (dw_or1 (dt_not (dt_val (de_isi Z.isinstance Z.int boot_int (de_var 0) rfl))))).dt) (dss_one (ds_ret (de_bl))) (dss_nil)) (dss_one (ds_ret (de_cmp op_ge ok_ge (de_var 0) (de_int) (nomark _))))
theorem ok_is_tally (D : Df K mg "is_tally" s_is_tally ["thing"]) (Z : NB mg)  (C : Cs mg) (h_is_count : Okd P w K mg base 1 "is_count" ["thing"] f_is_count) : Okd P w K mg base 2 "is_tally" ["thing"] f_is_tally := by
  obtain ⟨_, _, G_is_count, b_is_count, m_is_count, k_is_count⟩ := h_is_count
  exact df_ok D sc_is_tally rfl fun fa cdv A outer s H E hr => dss_cons (ds_if ((dw_or (dt_not (dt_val (de_isi Z.isinstance Z.tuple boot_tuple (de_var 0) rfl))) (dw_or1 (dt_not (dt_chain op_le op_le ok_le ok_le (de_int) (de_callB (CallR.or call_len_seq call_len_str) ok_len Z.len PySem.boot_len (da_cons (de_var 0) (da_nil))) (de_globI C.g_LETTERS_MOST))))).dt) (dss_one (ds_ret (de_bl))) (dss_nil)) (dss_one (ds_ret (de_callB (cr_all rfl) ok_all Z.all (by decide +kernel) (da_cons (de_comp (own := [("part", 1)]) rfl sc_is_tally.nd (di_seq (de_var 0) rfl) (blkOk_by (N := ["thing", "part"]) (sc := defScope s_is_tally) (by decide +kernel)) (fun _ _ _ _ _ => pg_name (i := 1) sc_is_tally.nd rfl (by first | exact .inl rfl | exact .inr rfl)) (okGw_name (i := 1) (by decide)) rfl (fun _ _ _ _ _ => dts_nil) (fun _ _ _ _ _ => de_call G_is_count (hr.mono (by decide)) m_is_count k_is_count b_is_count takes0 (da_cons (de_var 1) (da_nil)))) (da_nil)))))
theorem ok__law_number (D : Df K mg "_law_number" s__law_number ["_law_cell", "_law_k"]) (Z : NB mg)    : Okd P w K mg base 1 "_law_number" ["_law_cell", "_law_k"] f__law_number := by
  exact df_ok D sc__law_number rfl fun fa cdv A outer s H E hr => dss_cons (ds_set 2 sc__law_number.nd (de_op op_mod ok_mod (de_op op_mulAll ok_mul (de_op op_addAll ok_add (de_var 0) (de_int)) (de_ix ix_seq ok_ix (de_lst (da_cons (de_int) (da_cons (de_int) (da_cons (de_int) (da_cons (de_int) (da_nil)))))) (de_var 1) (fun _ _ => rfl))) (de_int))) (dss_one (ds_ret (de_ix ix_seq ok_ix (de_lst (da_cons (de_op op_mod ok_mod (de_op op_mulAll ok_mul (de_var 2) (de_int)) (de_op op_addAll ok_add (de_op op_pow ok_pow (de_int) (de_int)) (de_int))) (da_cons (de_op op_mod ok_mod (de_op op_fdiv ok_div (de_var 2) (de_int)) (de_int)) (da_cons (de_int) (da_cons (de_op op_pow ok_pow (de_int) (de_int)) (da_nil)))))) (de_ix ix_seq ok_ix (de_lst (da_cons (de_int) (da_cons (de_int) (da_cons (de_int) (da_cons (de_int) (da_cons (de_int) (da_cons (de_int) (da_nil)))))))) (de_op op_mod ok_mod (de_var 2) (de_int)) (fun _ _ => rfl)) (fun _ _ => rfl))))
theorem ok__law_tally (D : Df K mg "_law_tally" s__law_tally ["_law_cell", "_law_long"]) (Z : NB mg)   (h__law_number : Okd P w K mg base 1 "_law_number" ["_law_cell", "_law_k"] f__law_number) : Okd P w K mg base 2 "_law_tally" ["_law_cell", "_law_long"] f__law_tally := by
  obtain ⟨_, _, G__law_number, b__law_number, m__law_number, k__law_number⟩ := h__law_number
  exact df_ok D sc__law_tally rfl fun fa cdv A outer s H E hr => dss_one (ds_ret (de_callTy call_tuple_of ok_tuple Z.tuple boot_tuple (da_cons (de_comp (own := [("_law_k", 2)]) rfl sc__law_tally.nd (di_range1 Z.range (da_cons (de_var 1) (da_nil))) (blkOk_by (N := ["_law_cell", "_law_long", "_law_k"]) (sc := defScope s__law_tally) (by decide +kernel)) (fun _ _ _ _ _ => pg_name (i := 2) sc__law_tally.nd rfl (by first | exact .inl rfl | exact .inr rfl)) (okGw_name (i := 2) (by decide)) rfl (fun _ _ _ _ _ => dts_nil) (fun _ _ _ _ _ => de_call G__law_number (hr.mono (by decide)) m__law_number k__law_number b__law_number takes0 (da_cons (de_var 0) (da_cons (de_var 2) (da_nil))))) (da_nil))))
theorem ok__law_told (D : Df K mg "_law_told" s__law_told ["_law_thing", "_law_due"]) (Z : NB mg)   (h_is_tally : Okd P w K mg base 2 "is_tally" ["thing"] f_is_tally) : Okd P w K mg base 3 "_law_told" ["_law_thing", "_law_due"] f__law_told := by
  obtain ⟨_, _, G_is_tally, b_is_tally, m_is_tally, k_is_tally⟩ := h_is_tally
  exact df_ok D sc__law_told rfl fun fa cdv A outer s H E hr => dss_cons (ds_set 2 sc__law_told.nd (de_call G_is_tally (hr.mono (by decide)) m_is_tally k_is_tally b_is_tally (takes_of rfl rfl rfl rfl) (da_cons (de_var 0) (da_nil)))) (dss_one (ds_ret (de_and (de_isi Z.isinstance Z.bool boot_bool (de_var 2) rfl) (de_one (de_cmp (op_eqD hr.units) ok_eq (de_var 2) (de_var 1) (nomark _))))))
theorem ok__law_odd (D : Df K mg "_law_odd" s__law_odd ["_law_cell"]) (Z : NB mg)    : Okd P w K mg base 1 "_law_odd" ["_law_cell"] f__law_odd := by
  exact df_ok D sc__law_odd rfl fun fa cdv A outer s H E hr => dss_one (ds_ret (de_ix ix_seq ok_ix (de_lst (da_cons (de_un un_neg ok_neg (de_int)) (da_cons (de_op op_sub ok_sub (de_un un_neg ok_neg (de_int)) (de_op op_mod ok_mod (de_var 0) (de_op op_pow ok_pow (de_int) (de_int)))) (da_cons (de_bl) (da_cons (de_bl) (da_cons (de_non) (da_cons (de_str) (da_cons (de_lst (da_cons (de_int) (da_nil))) (da_cons (de_tup (da_cons (de_int) (da_nil))) (da_cons (de_dict0) (da_nil))))))))))) (de_op op_mod ok_mod (de_var 0) (de_int)) (fun _ _ => rfl)))
theorem ok_law {f : Addr} {fd : FuncData} (F : Fun K "law" "law" s_law f fd) (Z : NB mg)   (h__law_odd : Okd P w K mg base 1 "_law_odd" ["_law_cell"] f__law_odd) (h__law_tally : Okd P w K mg base 2 "_law_tally" ["_law_cell", "_law_long"] f__law_tally) (h__law_told : Okd P w K mg base 3 "_law_told" ["_law_thing", "_law_due"] f__law_told) : FnOk P w K mg base (L2.CX P w) 4 f fd ["_law_script"] (spF K mg f_law) := by
  obtain ⟨_, _, G__law_odd, b__law_odd, m__law_odd, k__law_odd⟩ := h__law_odd
  obtain ⟨_, _, G__law_tally, b__law_tally, m__law_tally, k__law_tally⟩ := h__law_tally
  obtain ⟨_, _, G__law_told, b__law_told, m__law_told, k__law_told⟩ := h__law_told
  exact fn_ok F sc_law rfl fun cdv A outer s H E hr => dss_cons (ds_for (passes_of rfl) rfl (di_seq (de_lst (da_cons (de_non) (da_cons (de_bl) (da_cons (de_int) (da_cons (de_str) (da_cons (de_str) (da_cons (de_dict0) (da_cons (de_tup (da_nil)) (da_cons (de_lst (da_nil)) (da_cons (de_op op_mulAll ok_mul (de_tup (da_cons (de_int) (da_nil))) (de_int)) (da_cons (de_tup (da_cons (de_int) (da_cons (de_int) (da_cons (de_int) (da_cons (de_int) (da_cons (de_int) (da_nil))))))) (da_nil)))))))))))) rfl) (pg_name (i := 1) sc_law.nd rfl (by first | exact .inl rfl | exact .inr rfl)) (okG_name) (dss_one (ds_if (dt_not (dt_val (de_call G__law_told (hr.mono (by decide)) m__law_told k__law_told b__law_told (takes_of rfl rfl rfl rfl) (da_cons (de_var 1) (da_cons (de_bl) (da_nil)))))) (dss_one (ds_ret (de_bl))) (dss_nil)))) (dss_cons (ds_for (passes_of rfl) rfl (di_seq (de_op op_addAll ok_add (de_lst (da_cons (de_int) (da_cons (de_int) (da_cons (de_int) (da_cons (de_int) (da_nil)))))) (de_callTy call_list_of ok_list Z.list boot_list (da_cons (de_var 0) (da_nil)))) rfl) (pg_name (i := 2) sc_law.nd rfl (by first | exact .inl rfl | exact .inr rfl)) (okG_name) (dss_cons (ds_set 3 sc_law.nd (de_op op_addAll ok_add (de_int) (de_op op_mod ok_mod (de_var 2) (de_int)))) (dss_cons (ds_set 4 sc_law.nd (de_call G__law_tally (hr.mono (by decide)) m__law_tally k__law_tally b__law_tally (takes_of rfl rfl rfl rfl) (da_cons (de_var 2) (da_cons (de_var 3) (da_nil))))) (dss_cons (ds_set 5 sc_law.nd (de_op op_mod ok_mod (de_op op_fdiv ok_div (de_var 2) (de_int)) (de_op op_addAll ok_add (de_var 3) (de_int)))) (dss_cons (ds_set 6 sc_law.nd (de_op op_addAll ok_add (de_op op_addAll ok_add (de_slice (de_var 4) (do_none) (do_some (de_var 5)) rfl) (de_tup (da_cons (de_op op_mod ok_mod (de_var 2) (de_op op_addAll ok_add (de_op op_pow ok_pow (de_int) (de_int)) (de_int))) (da_nil)))) (de_slice (de_var 4) (do_some (de_var 5)) (do_none) rfl))) (dss_cons (ds_set 7 sc_law.nd (de_op op_addAll ok_add (de_op op_addAll ok_add (de_slice (de_var 4) (do_none) (do_some (de_var 5)) rfl) (de_tup (da_cons (de_call G__law_odd (hr.mono (by decide)) m__law_odd k__law_odd b__law_odd (takes_of rfl rfl rfl rfl) (da_cons (de_op op_fdiv ok_div (de_var 2) (de_int)) (da_nil))) (da_nil)))) (de_slice (de_var 4) (do_some (de_var 5)) (do_none) rfl))) (dss_cons (ds_if ((dw_or (dt_not (dt_val (de_call G__law_told (hr.mono (by decide)) m__law_told k__law_told b__law_told (takes_of rfl rfl rfl rfl) (da_cons (de_var 4) (da_cons (de_bl) (da_nil)))))) (dw_or (dt_not (dt_val (de_call G__law_told (hr.mono (by decide)) m__law_told k__law_told b__law_told (takes_of rfl rfl rfl rfl) (da_cons (de_var 6) (da_cons (de_cmp op_lt ok_lt (de_var 3) (de_int) (nomark _)) (da_nil)))))) (dw_or1 (dt_not (dt_val (de_call G__law_told (hr.mono (by decide)) m__law_told k__law_told b__law_told (takes_of rfl rfl rfl rfl) (da_cons (de_callTy call_list_of ok_list Z.list boot_list (da_cons (de_var 4) (da_nil))) (da_cons (de_bl) (da_nil))))))))).dt) (dss_one (ds_ret (de_bl))) (dss_nil)) (dss_one (ds_if ((dw_or (dt_not (dt_val (de_call G__law_told (hr.mono (by decide)) m__law_told k__law_told b__law_told (takes_of rfl rfl rfl rfl) (da_cons (de_slice (de_var 7) (do_none) (do_some (de_int)) rfl) (da_cons (de_cmp (op_eqD hr.units) ok_eq (de_var 5) (de_int) (nomark _)) (da_nil)))))) (dw_or (dt_not (dt_val (de_call G__law_told (hr.mono (by decide)) m__law_told k__law_told b__law_told (takes_of rfl rfl rfl rfl) (da_cons (de_tup (da_cons (de_var 4) (da_nil))) (da_cons (de_bl) (da_nil)))))) (dw_or1 (dt_not (dt_val (de_call G__law_told (hr.mono (by decide)) m__law_told k__law_told b__law_told (takes_of rfl rfl rfl rfl) (da_cons (de_slice (de_var 4) (do_none) (do_some (de_int)) rfl) (da_cons (de_bl) (da_nil))))))))).dt) (dss_one (ds_ret (de_bl))) (dss_nil)))))))))) (dss_one (ds_ret (de_bl))))
end
theorem fin {l : PySem.W.OpenLaw} {w : World} {K : PySem.W.Frag} {h : Heap} {mg : Str → Option Value} {fa f2 : Addr} (X : K.In h) (G : h.Ns mainGlobals mg) (hfa : mg "law" = some (.ref fa))
    {od2 an2 : Option Addr} {sl2 : Array (Option Value)} {oc2 kV2 dc2 pm2 cd2 ct2 : Value} (a2 : PySem.W.nsIn K mainGlobals "law" = some (some (.ref f2))) (l2 : K.lookup f2 = some ⟨oc2, od2, .func (PySem.W.fnOf "law" "law" (defArgs s_law) (defBody s_law) (defScope s_law) .none kV2 dc2 pm2 an2 cd2 ct2), sl2⟩) (c2 : PySem.W.codeIn K cd2 "law" = true) (k2 : PySem.W.keepIn K (.ref f2) = true)
    (Z : NB mg)  (C : Cs mg) (D_is_count : Df K mg "is_count" s_is_count ["thing"]) (D_is_tally : Df K mg "is_tally" s_is_tally ["thing"]) (D__law_number : Df K mg "_law_number" s__law_number ["_law_cell", "_law_k"]) (D__law_tally : Df K mg "_law_tally" s__law_tally ["_law_cell", "_law_long"]) (D__law_told : Df K mg "_law_told" s__law_told ["_law_thing", "_law_due"]) (D__law_odd : Df K mg "_law_odd" s__law_odd ["_law_cell"]) :
    ∃ fd : FuncData, (∀ (s : Shared) (v : Value), BindsTo s fd ⟨[v], []⟩ [("_law_script", v)]) ∧ ∀ base : Heap, K.In base → base.Ns mainGlobals mg → FnOk l.prog w K mg base (L2.CX l.prog w) 4 fa fd ["_law_script"] (spLaw K f_law) := by
  have e := hfa.symm.trans (PySem.W.mg_of X G a2)
  cases e
  refine ⟨PySem.W.fnOf "law" "law" (defArgs s_law) (defBody s_law) (defScope s_law) .none kV2 dc2 pm2 an2 cd2 ct2, fun s v => .of_eq rfl, fun base _ _ => ?_⟩
  have o_is_count := ok_is_count (P := l.prog) (w := w) (base := base) D_is_count Z
  have o_is_tally := ok_is_tally (P := l.prog) (w := w) (base := base) D_is_tally Z C o_is_count
  have o__law_number := ok__law_number (P := l.prog) (w := w) (base := base) D__law_number Z
  have o__law_tally := ok__law_tally (P := l.prog) (w := w) (base := base) D__law_tally Z o__law_number
  have o__law_told := ok__law_told (P := l.prog) (w := w) (base := base) D__law_told Z o_is_tally
  have o__law_odd := ok__law_odd (P := l.prog) (w := w) (base := base) D__law_odd Z
  exact law_of (ok_law (P := l.prog) (w := w) (base := base) (fun_mk (st := s_law) l2 c2 k2) Z o__law_odd o__law_tally o__law_told)
end Gen
namespace Gen
open PySem TD
def Sm (xs : List Int) : Prop := ∀ x ∈ xs, 0 ≤ x ∧ x ≤ 1000000000000000
theorem Sm.at {xs : List Int} (h : Sm xs) {k : Nat} (hk : k < xs.length) : 0 ≤ nth xs k ∧ nth xs k ≤ 1000000000000000 := h _ (nth_mem hk)
section
variable {xs ys : List Int}
def cntB : D → Bool
  | .int i => decide (0 ≤ i)
  | _ => false
theorem is_count_eq (d : D) : f_is_count [.d d] = .ok (.d (.bool (cntB d))) [.d d] := by
  unfold f_is_count
  cases d <;> simp [bnd_ap, sRet_ap, sSeq_ap, sExpr_ap, sSet_ap, sIf_ap, sNext_ap, sRaise_ap, mC_ap, tYesM_ap, aNil_ap, aCons_ap, mArgs_ap, m2_ap, m1_ap, tst_ap, asBool_b, mNotT_ap, mAndT_ap, mOrT_ap, mRng1_ap, mRng2_ap, mVar, W.asD, W.toD, W.datum, W.lst, W.seq, W.tup, store, put, okAt, B.lk, B.isCell, bdN, cTurn, wipeR, gIx, gLen, mWalk_ap, W.walkL, mkFn, retW, backB, a_add, a_sub, a_mul, a_div, a_mod, a_pow, a_lt, a_le, a_gt, a_ge, gIsi, W.ty, tyD, kit_none_bool, kit_bool_bool, kit_int_bool, kit_str_bool, kit_list_bool, kit_tuple_bool, kit_dict_bool, kit_none_int, kit_bool_int, kit_int_int, kit_str_int, kit_list_int, kit_tuple_int, kit_dict_int, cntB]
def tlyB : D → Bool
  | .tuple xs => decide ((1 : Int) ≤ (xs.length : Int)) && decide ((xs.length : Int) ≤ 4) && xs.all cntB
  | _ => false
theorem is_tally_tup (xs : List D) : f_is_tally [.d (.tuple xs)] = .ok (.d (.bool (tlyB (.tuple xs)))) [.d (.tuple xs)] := by
  unfold f_is_tally
  by_cases h1 : (1 : Int) ≤ (xs.length : Int)
  · by_cases h2 : (xs.length : Int) ≤ 4
    · have c : c_is_tally_0 [some (.d (.tuple xs)), none] = .ok (.l ((xs.map cntB).map PyData.bool)) [some (.d (.tuple xs)), none] := by
        rw [List.map_map]
        unfold c_is_tally_0
        refine mComp_map _ ?_ (by omega) (fun d hd => ?_) rfl
        · simp [bnd_ap, sRet_ap, sSeq_ap, sExpr_ap, sSet_ap, sIf_ap, sNext_ap, sRaise_ap, mC_ap, tYesM_ap, aNil_ap, aCons_ap, mArgs_ap, m2_ap, m1_ap, tst_ap, asBool_b, mNotT_ap, mAndT_ap, mOrT_ap, mRng1_ap, mRng2_ap, mVar, W.asD, W.toD, W.datum, W.lst, W.seq, W.tup, store, put, okAt, B.lk, B.isCell, bdN, cTurn, wipeR, gIx, gLen, mWalk_ap, W.walkL]
        · simp [bnd_ap, sRet_ap, sSeq_ap, sExpr_ap, sSet_ap, sIf_ap, sNext_ap, sRaise_ap, mC_ap, tYesM_ap, aNil_ap, aCons_ap, mArgs_ap, m2_ap, m1_ap, tst_ap, asBool_b, mNotT_ap, mAndT_ap, mOrT_ap, mRng1_ap, mRng2_ap, mVar, W.asD, W.toD, W.datum, W.lst, W.seq, W.tup, store, put, okAt, B.lk, B.isCell, bdN, cTurn, wipeR, gIx, gLen, mWalk_ap, W.walkL, mCall_ap, ress, W.res, slots_nil, slots_d, slots_l, slots_t, slots_c, wb_none, ofB, is_count_eq]
      simp [bnd_ap, sRet_ap, sSeq_ap, sExpr_ap, sSet_ap, sIf_ap, sNext_ap, sRaise_ap, mC_ap, tYesM_ap, aNil_ap, aCons_ap, mArgs_ap, m2_ap, m1_ap, tst_ap, asBool_b, mNotT_ap, mAndT_ap, mOrT_ap, mRng1_ap, mRng2_ap, mVar, W.asD, W.toD, W.datum, W.lst, W.seq, W.tup, store, put, okAt, B.lk, B.isCell, bdN, cTurn, wipeR, gIx, gLen, mWalk_ap, W.walkL, mkFn, retW, backB, a_add, a_sub, a_mul, a_div, a_mod, a_pow, a_lt, a_le, a_gt, a_ge, gIsi, W.ty, tyD, kit_tuple_tuple, mChain, h1, h2, c, gAll, boolsOf_map, tlyB, -List.map_map]
    · simp [bnd_ap, sRet_ap, sSeq_ap, sExpr_ap, sSet_ap, sIf_ap, sNext_ap, sRaise_ap, mC_ap, tYesM_ap, aNil_ap, aCons_ap, mArgs_ap, m2_ap, m1_ap, tst_ap, asBool_b, mNotT_ap, mAndT_ap, mOrT_ap, mRng1_ap, mRng2_ap, mVar, W.asD, W.toD, W.datum, W.lst, W.seq, W.tup, store, put, okAt, B.lk, B.isCell, bdN, cTurn, wipeR, gIx, gLen, mWalk_ap, W.walkL, mkFn, retW, backB, a_add, a_sub, a_mul, a_div, a_mod, a_pow, a_lt, a_le, a_gt, a_ge, gIsi, W.ty, tyD, kit_tuple_tuple, mChain, h1, h2, tlyB]
  · simp [bnd_ap, sRet_ap, sSeq_ap, sExpr_ap, sSet_ap, sIf_ap, sNext_ap, sRaise_ap, mC_ap, tYesM_ap, aNil_ap, aCons_ap, mArgs_ap, m2_ap, m1_ap, tst_ap, asBool_b, mNotT_ap, mAndT_ap, mOrT_ap, mRng1_ap, mRng2_ap, mVar, W.asD, W.toD, W.datum, W.lst, W.seq, W.tup, store, put, okAt, B.lk, B.isCell, bdN, cTurn, wipeR, gIx, gLen, mWalk_ap, W.walkL, mkFn, retW, backB, a_add, a_sub, a_mul, a_div, a_mod, a_pow, a_lt, a_le, a_gt, a_ge, gIsi, W.ty, tyD, kit_tuple_tuple, mChain, h1, tlyB]
theorem is_tally_eq (d : D) : f_is_tally [.d d] = .ok (.d (.bool (tlyB d))) [.d d] := by
  cases d with
  | tuple xs => exact is_tally_tup xs
  | _ =>
    unfold f_is_tally
    simp [bnd_ap, sRet_ap, sSeq_ap, sExpr_ap, sSet_ap, sIf_ap, sNext_ap, sRaise_ap, mC_ap, tYesM_ap, aNil_ap, aCons_ap, mArgs_ap, m2_ap, m1_ap, tst_ap, asBool_b, mNotT_ap, mAndT_ap, mOrT_ap, mRng1_ap, mRng2_ap, mVar, W.asD, W.toD, W.datum, W.lst, W.seq, W.tup, store, put, okAt, B.lk, B.isCell, bdN, cTurn, wipeR, gIx, gLen, mWalk_ap, W.walkL, mkFn, retW, backB, a_add, a_sub, a_mul, a_div, a_mod, a_pow, a_lt, a_le, a_gt, a_ge, gIsi, W.ty, tyD, kit_none_tuple, kit_bool_tuple, kit_int_tuple, kit_str_tuple, kit_list_tuple, kit_dict_tuple, tlyB]
theorem is_tally_l (xs : List D) : f_is_tally [.l xs] = .ok (.d (.bool false)) [.l xs] := by
  unfold f_is_tally
  simp [bnd_ap, sRet_ap, sSeq_ap, sExpr_ap, sSet_ap, sIf_ap, sNext_ap, sRaise_ap, mC_ap, tYesM_ap, aNil_ap, aCons_ap, mArgs_ap, m2_ap, m1_ap, tst_ap, asBool_b, mNotT_ap, mAndT_ap, mOrT_ap, mRng1_ap, mRng2_ap, mVar, W.asD, W.toD, W.datum, W.lst, W.seq, W.tup, store, put, okAt, B.lk, B.isCell, bdN, cTurn, wipeR, gIx, gLen, mWalk_ap, W.walkL, mkFn, retW, backB, gIsi, W.ty, kit_list_tuple]
theorem told_eq (d : D) (b : Bool) : f__law_told [.d d, .d (.bool b)] = .ok (.d (.bool (decide (tlyB d = b)))) [.d d, .d (.bool b)] := by
  unfold f__law_told
  simp [bnd_ap, sRet_ap, sSeq_ap, sExpr_ap, sSet_ap, sIf_ap, sNext_ap, sRaise_ap, mC_ap, tYesM_ap, aNil_ap, aCons_ap, mArgs_ap, m2_ap, m1_ap, tst_ap, asBool_b, mNotT_ap, mAndT_ap, mOrT_ap, mRng1_ap, mRng2_ap, mVar, W.asD, W.toD, W.datum, W.lst, W.seq, W.tup, store, put, okAt, B.lk, B.isCell, bdN, cTurn, wipeR, gIx, gLen, mWalk_ap, W.walkL, mkFn, retW, backB, mCall_ap, ress, W.res, slots_nil, slots_d, slots_l, slots_t, slots_c, wb_none, ofB, is_tally_eq, gIsi, W.ty, tyD, kit_bool_bool, mAndV, gEq, eq_bool]
theorem told_l (xs : List D) : f__law_told [.l xs, .d (.bool false)] = .ok (.d (.bool true)) [.l xs, .d (.bool false)] := by
  unfold f__law_told
  simp [bnd_ap, sRet_ap, sSeq_ap, sExpr_ap, sSet_ap, sIf_ap, sNext_ap, sRaise_ap, mC_ap, tYesM_ap, aNil_ap, aCons_ap, mArgs_ap, m2_ap, m1_ap, tst_ap, asBool_b, mNotT_ap, mAndT_ap, mOrT_ap, mRng1_ap, mRng2_ap, mVar, W.asD, W.toD, W.datum, W.lst, W.seq, W.tup, store, put, okAt, B.lk, B.isCell, bdN, cTurn, wipeR, gIx, gLen, mWalk_ap, W.walkL, mkFn, retW, backB, mCall_ap, ress, W.res, slotsOf, wb, wbk, lookC, ofB, slotsOf, is_tally_l, gIsi, W.ty, tyD, kit_bool_bool, mAndV, gEq, eq_bool]
theorem number_ex (c : Int) (k : Nat) (hk : k < 4) : ∃ v, 0 ≤ v ∧ v ≤ 1000000000000000 ∧ f__law_number [.d (.int c), .d (.int (k : Int))] = .ok (.d (.int v)) [.d (.int c), .d (.int (k : Int))] := by
  obtain ⟨x1, m1, e1⟩ := atI_mem (xs := [PyData.int 48271, .int 69621, .int 39373, .int 16807]) (i := (k : Int)) (by omega) (by simp; omega)
  obtain ⟨p, rfl, hp⟩ : ∃ p : Int, x1 = .int p ∧ (-18446744073709551616 < p ∧ p < 18446744073709551616) := by
    simp only [List.mem_cons, List.not_mem_nil, or_false] at m1
    rcases m1 with rfl | rfl | rfl | rfl <;> exact ⟨_, rfl, by decide⟩
  generalize hh : (c + 3) * p % 999999999989 = h
  have b0 : 0 ≤ h := by rw [← hh]; exact Int.emod_nonneg _ (by decide)
  have b1 : h < 999999999989 := by rw [← hh]; exact Int.emod_lt_of_pos _ (by decide)
  obtain ⟨x2, m2, e2⟩ := atI_mem (xs := [PyData.int 0, .int 0, .int 1, .int 1, .int 2, .int 3]) (i := h % 6) (by omega) (by simp; omega)
  obtain ⟨j, rfl, hj0, hj⟩ : ∃ j : Int, x2 = .int j ∧ 0 ≤ j ∧ j < 4 := by
    simp only [List.mem_cons, List.not_mem_nil, or_false] at m2
    rcases m2 with rfl | rfl | rfl | rfl | rfl | rfl <;> exact ⟨_, rfl, by decide⟩
  obtain ⟨x3, m3, e3⟩ := atI_mem (xs := [PyData.int (h * 1001 % 1000000000000001), .int (h / 3 % 10), .int 0, .int 1000000000000000]) (i := j) hj0 (by simp; omega)
  obtain ⟨v, rfl, hv⟩ : ∃ v : Int, x3 = .int v ∧ (0 ≤ v ∧ v ≤ 1000000000000000) := by
    simp only [List.mem_cons, List.not_mem_nil, or_false] at m3
    rcases m3 with rfl | rfl | rfl | rfl <;> exact ⟨_, rfl, by omega⟩
  refine ⟨v, hv.1, hv.2, ?_⟩
  have hb : (-18446744073709551616 < h ∧ h < 18446744073709551616) := by omega
  unfold f__law_number
  simp [bnd_ap, sRet_ap, sSeq_ap, sExpr_ap, sSet_ap, sIf_ap, sNext_ap, sRaise_ap, mC_ap, tYesM_ap, aNil_ap, aCons_ap, mArgs_ap, m2_ap, m1_ap, tst_ap, asBool_b, mNotT_ap, mAndT_ap, mOrT_ap, mRng1_ap, mRng2_ap, mVar, W.asD, W.toD, W.datum, W.lst, W.seq, W.tup, store, put, okAt, B.lk, B.isCell, bdN, cTurn, wipeR, gIx, gLen, mWalk_ap, W.walkL, mkFn, retW, backB, a_add, a_sub, a_mul, a_div, a_mod, a_pow, a_lt, a_le, a_gt, a_ge, gLst, datums, e1, hp, hh, e2, hb, e3]
def numV (c : Int) (k : Nat) : Int := match f__law_number [.d (.int c), .d (.int (k : Int))] with
  | .ok (.d (.int v)) _ => v
  | _ => 0
theorem number_eq (c : Int) (k : Nat) (hk : k < 4) : f__law_number [.d (.int c), .d (.int (k : Int))] = .ok (.d (.int (numV c k))) [.d (.int c), .d (.int (k : Int))] ∧ 0 ≤ numV c k ∧ numV c k ≤ 1000000000000000 := by
  obtain ⟨v, h0, h1, e⟩ := number_ex c k hk
  have : numV c k = v := by unfold numV; rw [e]
  rw [this]
  exact ⟨e, h0, h1⟩
def tallyV (c : Int) (n : Nat) : List Int := (List.range n).map (numV c)
theorem tallyV_len {c : Int} {n : Nat} : (tallyV c n).length = n := by simp [tallyV]
theorem tallyV_sm {c : Int} {n : Nat} (hn : n ≤ 4) : Sm (tallyV c n) := fun x hx => by
  unfold tallyV at hx
  rw [List.mem_map] at hx
  obtain ⟨k, hk, rfl⟩ := hx
  rw [List.mem_range] at hk
  exact (number_eq c k (by omega)).2
theorem tally_eq (c : Int) (n : Nat) (hn : n ≤ 4) : f__law_tally [.d (.int c), .d (.int (n : Int))] = .ok (.d (tupI (tallyV c n))) [.d (.int c), .d (.int (n : Int))] := by
  have e : c__law_tally_0 [some (.d (.int c)), some (.d (.int (n : Int))), none] = .ok (.l ((tallyV c n).map .int)) [some (.d (.int c)), some (.d (.int (n : Int))), none] := by
    rw [show (tallyV c n).map PyData.int = (List.range n).map fun k => .int (numV c k) by unfold tallyV; rw [List.map_map]; rfl]
    unfold c__law_tally_0
    refine mComp_rng _ (n := n) ?_ (by omega) (fun k hk => ?_) rfl
    · simp [bnd_ap, sRet_ap, sSeq_ap, sExpr_ap, sSet_ap, sIf_ap, sNext_ap, sRaise_ap, mC_ap, tYesM_ap, aNil_ap, aCons_ap, mArgs_ap, m2_ap, m1_ap, tst_ap, asBool_b, mNotT_ap, mAndT_ap, mOrT_ap, mRng1_ap, mRng2_ap, mVar, W.asD, W.toD, W.datum, W.lst, W.seq, W.tup, store, put, okAt, B.lk, B.isCell, bdN, cTurn, wipeR, gIx, gLen, mWalk_ap, W.walkL, gRng1_nat (show n ≤ 1000000 by omega)]
    · simp [bnd_ap, sRet_ap, sSeq_ap, sExpr_ap, sSet_ap, sIf_ap, sNext_ap, sRaise_ap, mC_ap, tYesM_ap, aNil_ap, aCons_ap, mArgs_ap, m2_ap, m1_ap, tst_ap, asBool_b, mNotT_ap, mAndT_ap, mOrT_ap, mRng1_ap, mRng2_ap, mVar, W.asD, W.toD, W.datum, W.lst, W.seq, W.tup, store, put, okAt, B.lk, B.isCell, bdN, cTurn, wipeR, gIx, gLen, mWalk_ap, W.walkL, mCall_ap, ress, W.res, slots_nil, slots_d, slots_l, slots_t, slots_c, wb_none, ofB, (number_eq c k (by omega)).1]
  unfold f__law_tally
  simp [bnd_ap, sRet_ap, sSeq_ap, sExpr_ap, sSet_ap, sIf_ap, sNext_ap, sRaise_ap, mC_ap, tYesM_ap, aNil_ap, aCons_ap, mArgs_ap, m2_ap, m1_ap, tst_ap, asBool_b, mNotT_ap, mAndT_ap, mOrT_ap, mRng1_ap, mRng2_ap, mVar, W.asD, W.toD, W.datum, W.lst, W.seq, W.tup, store, put, okAt, B.lk, B.isCell, bdN, cTurn, wipeR, gIx, gLen, mWalk_ap, W.walkL, mkFn, retW, backB, e, gTuple]
theorem odd_eq (c : Int) : ∃ d, cntB d = false ∧ f__law_odd [.d (.int c)] = .ok (.d d) [.d (.int c)] := by
  obtain ⟨x, m, e⟩ := atI_mem (xs := [PyData.int (-1), .int (-1 - c % 1000000000000000), .bool true, .bool false, .none, .str "1", .list [.int 1], .tuple [.int 1], .dict []]) (i := c % 9) (by omega) (by simp; omega)
  refine ⟨x, ?_, ?_⟩
  · simp only [List.mem_cons, List.not_mem_nil, or_false] at m
    rcases m with rfl | rfl | rfl | rfl | rfl | rfl | rfl | rfl | rfl
    · rfl
    · simp only [cntB, decide_eq_false_iff_not]; omega
    all_goals rfl
  · unfold f__law_odd
    simp [bnd_ap, sRet_ap, sSeq_ap, sExpr_ap, sSet_ap, sIf_ap, sNext_ap, sRaise_ap, mC_ap, tYesM_ap, aNil_ap, aCons_ap, mArgs_ap, m2_ap, m1_ap, tst_ap, asBool_b, mNotT_ap, mAndT_ap, mOrT_ap, mRng1_ap, mRng2_ap, mVar, W.asD, W.toD, W.datum, W.lst, W.seq, W.tup, store, put, okAt, B.lk, B.isCell, bdN, cTurn, wipeR, gIx, gLen, mWalk_ap, W.walkL, mkFn, retW, backB, a_add, a_sub, a_mul, a_div, a_mod, a_pow, a_lt, a_le, a_gt, a_ge, gLst, gTup, datums, gNeg, mDict0, e]
end
theorem loop0 (S : List D) : ∃ o, l_law_0 [some (.s S), none, none, none, none, none, none, none] = .ok .nx [some (.s S), o, none, none, none, none, none, none] := by
  obtain ⟨ρ1, e1, o, rfl⟩ := loop_all (bd := bdN 1 1) (body := b_law_0) (ds := [.none, .bool true, .int 3, .str "1", .str "", .dict [], .tuple [], .list [], .tuple [.int 1, .int 1, .int 1, .int 1, .int 1], .tuple [.int 0, .int 0, .int 0, .int 0, .int 0]]) (ρ := [some (.s S), none, none, none, none, none, none, none])
    (fun ρ => ∃ o : Option B, ρ = [some (.s S), o, none, none, none, none, none, none]) ⟨_, rfl⟩ (fun x ρ hx ⟨o, e⟩ => by
      subst e
      refine ⟨[some (.s S), some (.d x), none, none, none, none, none, none], [some (.s S), some (.d x), none, none, none, none, none, none], rfl, .inl ?_, _, rfl⟩
      have ht : tlyB x = false := by
        simp only [List.mem_cons, List.not_mem_nil, or_false] at hx
        rcases hx with rfl | rfl | rfl | rfl | rfl | rfl | rfl | rfl | rfl | rfl <;> rfl
      unfold b_law_0
      simp [bnd_ap, sRet_ap, sSeq_ap, sExpr_ap, sSet_ap, sIf_ap, sNext_ap, sRaise_ap, mC_ap, tYesM_ap, aNil_ap, aCons_ap, mArgs_ap, m2_ap, m1_ap, tst_ap, asBool_b, mNotT_ap, mAndT_ap, mOrT_ap, mRng1_ap, mRng2_ap, mVar, W.asD, W.toD, W.datum, W.lst, W.seq, W.tup, store, put, okAt, B.lk, B.isCell, bdN, cTurn, wipeR, gIx, gLen, mWalk_ap, W.walkL, mCall_ap, ress, W.res, slots_nil, slots_d, slots_l, slots_t, slots_c, wb_none, ofB, told_eq, ht])
  refine ⟨o, ?_⟩
  unfold l_law_0
  rw [sFor_of (ρ1 := [some (.s S), none, none, none, none, none, none, none]) (items := [.none, .bool true, .int 3, .str "1", .str "", .dict [], .tuple [], .list [], .tuple [.int 1, .int 1, .int 1, .int 1, .int 1], .tuple [.int 0, .int 0, .int 0, .int 0, .int 0]]) (by
    simp [bnd_ap, sRet_ap, sSeq_ap, sExpr_ap, sSet_ap, sIf_ap, sNext_ap, sRaise_ap, mC_ap, tYesM_ap, aNil_ap, aCons_ap, mArgs_ap, m2_ap, m1_ap, tst_ap, asBool_b, mNotT_ap, mAndT_ap, mOrT_ap, mRng1_ap, mRng2_ap, mVar, W.asD, W.toD, W.datum, W.lst, W.seq, W.tup, store, put, okAt, B.lk, B.isCell, bdN, cTurn, wipeR, gIx, gLen, mWalk_ap, W.walkL, gLst, gTup, datums, mDict0, a_rep])]
  exact e1
theorem body1 (S : List D) (c : Int) (o1 o3 o4 o5 o6 o7 : Option B) : ∃ p3 p4 p5 p6 p7, b_law_1 [some (.s S), o1, some (.d (.int c)), o3, o4, o5, o6, o7] = .ok .nx [some (.s S), o1, some (.d (.int c)), p3, p4, p5, p6, p7] := by
  obtain ⟨n, hn, hn1, hn4⟩ : ∃ n : Nat, 1 + c % 4 = (n : Int) ∧ 1 ≤ n ∧ n ≤ 4 := ⟨(1 + c % 4).toNat, by omega, by omega, by omega⟩
  obtain ⟨a, ha, han⟩ : ∃ a : Nat, c / 4 % ((n : Int) + 1) = (a : Int) ∧ a ≤ n := by
    have h1 := Int.emod_nonneg (c / 4) (show ((n : Int) + 1) ≠ 0 by omega)
    have h2 := Int.emod_lt_of_pos (c / 4) (show (0 : Int) < (n : Int) + 1 by omega)
    exact ⟨(c / 4 % ((n : Int) + 1)).toNat, by omega, by omega⟩
  obtain ⟨d, hd, ed⟩ := odd_eq (c / 20)
  have T := tally_eq c n hn4
  have hG0 : ∀ x ∈ (tallyV c n).map PyData.int, cntB x = true := fun x hx => by
    rw [List.mem_map] at hx
    obtain ⟨i, hi, rfl⟩ := hx
    simpa [cntB] using (tallyV_sm hn4 i hi).1
  have hL : ((tallyV c n).map PyData.int).length = n := by rw [List.length_map, tallyV_len]
  unfold tupI at T
  generalize (tallyV c n).map PyData.int = G at T hG0 hL
  have hG : G.all cntB = true := List.all_eq_true.mpr hG0
  have A1 : ∀ ρ x, gAdd (.d (.tuple (G.take a))) (.d (.tuple [x])) ρ = .ok (.d (.tuple (G.take a ++ [x]))) ρ := fun ρ x => a_tup (by simp; omega)
  have A2 : ∀ ρ x, gAdd (.d (.tuple (G.take a ++ [x]))) (.d (.tuple (G.drop a))) ρ = .ok (.d (.tuple (G.take a ++ [x] ++ G.drop a))) ρ := fun ρ x => a_tup (by simp; omega)
  have c4 : ∀ xs : List D, cutD xs none (some 4) = xs.take 4 := fun xs => cut_to (k := 4)
  have c1 : ∀ xs : List D, cutD xs none (some 1) = xs.take 1 := fun xs => cut_to (k := 1)
  have t1 : tlyB (.tuple G) = true := by simp only [tlyB, hG, hL]; simp; omega
  have t2 : tlyB (.tuple (G.take a ++ [.int (c % 1000000000000001)] ++ G.drop a)) = decide ((n : Int) < 4) := by
    have e1 : (G.take a ++ [PyData.int (c % 1000000000000001)] ++ G.drop a).all cntB = true := by
      rw [List.all_eq_true]
      intro x hx
      simp only [List.mem_append, List.mem_singleton] at hx
      rcases hx with (hx | rfl) | hx
      · exact hG0 x (List.mem_of_mem_take hx)
      · simp only [cntB, decide_eq_true_eq]; omega
      · exact hG0 x (List.mem_of_mem_drop hx)
    simp only [tlyB, e1]
    have e2 : (G.take a ++ [PyData.int (c % 1000000000000001)] ++ G.drop a).length = n + 1 := by simp; omega
    rw [e2, Bool.eq_iff_iff]
    simp
    omega
  have t4 : tlyB (.tuple ((G.take a ++ [d] ++ G.drop a).take 4)) = decide ((a : Int) = 4) := by
    by_cases h4 : a = 4
    · subst h4
      have : n = 4 := by omega
      subst this
      have e1 : G.take 4 = G := List.take_of_length_le (by omega)
      have e2 : (G.take 4 ++ [d] ++ G.drop 4).take 4 = G := by
        rw [List.append_assoc, List.take_append_of_le_length (by simp; omega), List.take_take]
        simpa using e1
      rw [e2, t1]
      rfl
    · have e1 : ((G.take a ++ [d] ++ G.drop a).take 4).all cntB = false := by
        rw [List.all_eq_false]
        refine ⟨d, ?_, by rw [hd]; decide⟩
        rw [List.append_assoc, List.take_append, List.mem_append]
        refine .inr ?_
        rw [List.length_take, Nat.min_eq_left (by omega)]
        obtain ⟨m, hm⟩ : ∃ m, 4 - a = m + 1 := ⟨3 - a, by omega⟩
        rw [hm]
        exact List.mem_cons_self
      simp only [tlyB, e1, Bool.and_false]
      rw [eq_comm, decide_eq_false_iff_not]
      omega
  have t5 : tlyB (.tuple [.tuple G]) = false := by simp [tlyB, cntB]
  have t6 : tlyB (.tuple (G.take 1)) = true := by
    have e1 : (G.take 1).all cntB = true := List.all_eq_true.mpr fun x hx => hG0 x (List.mem_of_mem_take hx)
    simp only [tlyB, e1]
    rw [List.length_take]
    simp
    omega
  unfold b_law_1
  simp [bnd_ap, sRet_ap, sSeq_ap, sExpr_ap, sSet_ap, sIf_ap, sNext_ap, sRaise_ap, mC_ap, tYesM_ap, aNil_ap, aCons_ap, mArgs_ap, m2_ap, m1_ap, tst_ap, asBool_b, mNotT_ap, mAndT_ap, mOrT_ap, mRng1_ap, mRng2_ap, mVar, W.asD, W.toD, W.datum, W.lst, W.seq, W.tup, store, put, okAt, B.lk, B.isCell, bdN, cTurn, wipeR, gIx, gLen, mWalk_ap, W.walkL, mCall_ap, ress, W.res, slots_nil, slots_d, slots_l, slots_t, slots_c, wb_none, ofB, a_add, a_sub, a_mul, a_div, a_mod, a_pow, a_lt, a_le, a_gt, a_ge, mSl_ap, oNone_ap, oSome_ap, gSl_l, gSl_t, hn, ha, T, ed, A1, A2, cut_to, cut_from, c4, c1, gTup, gList, datums, told_eq, told_l, t1, t2, t4, t5, t6, gEq, eq_int, -List.append_assoc]
theorem loop1 (S : List D) (ns : List Int) (hn : ns.length ≤ 63) (hS : ns.map PyData.int = S) (o1 : Option B) : ∃ o2 p3 p4 p5 p6 p7, l_law_1 [some (.s S), o1, none, none, none, none, none, none] = .ok .nx [some (.s S), o1, o2, p3, p4, p5, p6, p7] := by
  obtain ⟨ρ1, e1, o2, p3, p4, p5, p6, p7, rfl⟩ := loop_ints (bd := bdN 1 2) (body := b_law_1) (ns := [0, 1, 2, 3] ++ ns) (ρ := [some (.s S), o1, none, none, none, none, none, none])
    (fun ρ => ∃ o2 p3 p4 p5 p6 p7, ρ = [some (.s S), o1, o2, p3, p4, p5, p6, p7]) ⟨_, _, _, _, _, _, rfl⟩ (fun c ρ _ ⟨o2, p3, p4, p5, p6, p7, e⟩ => by
      subst e
      obtain ⟨q3, q4, q5, q6, q7, e⟩ := body1 S c o1 p3 p4 p5 p6 p7
      exact ⟨_, _, rfl, .inl e, _, _, _, _, _, _, rfl⟩)
  refine ⟨o2, p3, p4, p5, p6, p7, ?_⟩
  unfold l_law_1
  have hl : 4 + S.length ≤ 100000 := by rw [← hS, List.length_map]; omega
  have A : ∀ ρ, gAdd (.l [.int 0, .int 1, .int 2, .int 3]) (.l S) ρ = .ok (.l ([.int 0, .int 1, .int 2, .int 3] ++ S)) ρ := fun ρ => a_lst (by simpa [Nat.add_comm] using hl)
  rw [sFor_of (ρ1 := [some (.s S), o1, none, none, none, none, none, none]) (items := ([0, 1, 2, 3] ++ ns).map PyData.int) (by
    rw [List.map_append, hS]
    simp [bnd_ap, sRet_ap, sSeq_ap, sExpr_ap, sSet_ap, sIf_ap, sNext_ap, sRaise_ap, mC_ap, tYesM_ap, aNil_ap, aCons_ap, mArgs_ap, m2_ap, m1_ap, tst_ap, asBool_b, mNotT_ap, mAndT_ap, mOrT_ap, mRng1_ap, mRng2_ap, mVar, W.asD, W.toD, W.datum, W.lst, W.seq, W.tup, store, put, okAt, B.lk, B.isCell, bdN, cTurn, wipeR, gIx, gLen, mWalk_ap, W.walkL, gLst, gList, datums, A])]
  exact e1
theorem main (ns : List Int) (hn : ns.length ≤ 63) : ∃ bs', f_law [.s (ns.map PyData.int)] = .ok (.d (.bool true)) bs' := by
  generalize hS : ns.map PyData.int = S
  obtain ⟨o, h0⟩ := loop0 S
  obtain ⟨o2, p3, p4, p5, p6, p7, h1⟩ := loop1 S ns hn hS o
  refine ⟨[.s S], ?_⟩
  unfold f_law
  simp [bnd_ap, sRet_ap, sSeq_ap, sExpr_ap, sSet_ap, sIf_ap, sNext_ap, sRaise_ap, mC_ap, tYesM_ap, aNil_ap, aCons_ap, mArgs_ap, m2_ap, m1_ap, tst_ap, asBool_b, mNotT_ap, mAndT_ap, mOrT_ap, mRng1_ap, mRng2_ap, mVar, W.asD, W.toD, W.datum, W.lst, W.seq, W.tup, store, put, okAt, B.lk, B.isCell, bdN, cTurn, wipeR, gIx, gLen, mWalk_ap, W.walkL, mkFn, retW, backB, h0, h1]
end Gen
open PySem PySem.W PyProof.Rows
set_option maxHeartbeats 0 in
theorem PySem.Challenge.cw_tallysets_k02_is_tally_holds : PySem.Challenge.rw_tallysets_k02_is_tally.Holds := by
  w_on; o_law; k_head; (case hw => w_witness2)
  k_fill
  refine L2.walk_of (l := PySem.Challenge.rw_tallysets_k02_is_tally) (n := 63) (k := 4) (x := "_law_script") (CX := fun w => L2.CX PySem.Challenge.rw_tallysets_k02_is_tally.prog w) (sp := fun w => TD.spLaw _ Gen.f_law) rfl (by decide) rfl ⟨rfl, by decide, by decide⟩ (fun w h Y => PySem.W.kIn_of Y) ?F (fun _ _ a ns hl _ hS => TD.law_start hS (Gen.main ns hl)) (fun _ _ _ _ _ h => TD.cx_end h)
  case F =>
    intro w mg fa h KX G hmg
    refine' Gen.fin KX G hmg ?a2 ?l2 ?c2 ?k2 ?Z  ?C ?D_is_count ?D_is_tally ?D__law_number ?D__law_tally ?D__law_told ?D__law_odd
    (case a2 => k_is); (case l2 => k_is); (case c2 => k_is); (case k2 => k_is)
    (case Z => exact ⟨PySem.W.mg_none_of KX G (by k_is), PySem.W.mg_none_of KX G (by k_is), PySem.W.mg_none_of KX G (by k_is), PySem.W.mg_none_of KX G (by k_is), PySem.W.mg_none_of KX G (by k_is), PySem.W.mg_none_of KX G (by k_is), PySem.W.mg_none_of KX G (by k_is), PySem.W.mg_none_of KX G (by k_is)⟩)
    (case C => exact ⟨⟨_, PySem.W.mg_of KX G (by k_is)⟩⟩)
    (case D_is_count => refine' TD.df_mk KX G ?a ?l ?c ?k ?b; (case a => k_is); (case l => k_is); (case c => k_is); (case k => k_is); (case b => exact fun _ _ _ _ _ _ us hl => match us, hl with | [_], _ => rfl))
    (case D_is_tally => refine' TD.df_mk KX G ?a ?l ?c ?k ?b; (case a => k_is); (case l => k_is); (case c => k_is); (case k => k_is); (case b => exact fun _ _ _ _ _ _ us hl => match us, hl with | [_], _ => rfl))
    (case D__law_number => refine' TD.df_mk KX G ?a ?l ?c ?k ?b; (case a => k_is); (case l => k_is); (case c => k_is); (case k => k_is); (case b => exact fun _ _ _ _ _ _ us hl => match us, hl with | [_, _], _ => rfl))
    (case D__law_tally => refine' TD.df_mk KX G ?a ?l ?c ?k ?b; (case a => k_is); (case l => k_is); (case c => k_is); (case k => k_is); (case b => exact fun _ _ _ _ _ _ us hl => match us, hl with | [_, _], _ => rfl))
    (case D__law_told => refine' TD.df_mk KX G ?a ?l ?c ?k ?b; (case a => k_is); (case l => k_is); (case c => k_is); (case k => k_is); (case b => exact fun _ _ _ _ _ _ us hl => match us, hl with | [_, _], _ => rfl))
    (case D__law_odd => refine' TD.df_mk KX G ?a ?l ?c ?k ?b; (case a => k_is); (case l => k_is); (case c => k_is); (case k => k_is); (case b => exact fun _ _ _ _ _ _ us hl => match us, hl with | [_], _ => rfl))
