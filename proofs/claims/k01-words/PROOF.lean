import PyProof.Rows.All
import Wide.All
import OpenK.AllK
import Wide.FinOn
import HandS.ForMost
import HandS.Evl
import HandS.Flow
import HandS.Conv
import HandS.Steps
import HandS.Replace
import HandS.MakeKwOnly
import HandS.Star
import KE.KDictZip
import KE.GoesEnum
import PyProof.CollectWalk
import PyProof.ListStr
import PyProof.EnumMake
import HandS.Property
import HandS.IsInst
import PySem.Challenge.RW_noteless_k01_words_lead_to_states
set_option Elab.async false
set_option linter.all false
set_option maxRecDepth 100000
set_option maxHeartbeats 4000000
namespace NL
open PySem L2 Evl
section
/-! NL: a logic of values over the hand layer: data as trees, what is new, what may be read, what is owned. -/

/-- a datum: a leaf, a list, a tuple -/
inductive D where
  | v (x : V) | l (xs : List D) | t (xs : List D)
abbrev D.i (n : Int) : D := .v (.int n)
abbrev D.b (x : Bool) : D := .v (.bl x)
abbrev D.s (x : Str) : D := .v (.str x)
abbrev D.n : D := .v .non
def dInts (ns : List Int) : D := .l (ns.map D.i)
def dStrs (xs : List Str) : D := .l (xs.map D.s)

mutual
/-- the value is the datum, in the heap -/
inductive Is (K : PySem.W.Frag) (H : Hp) : V → D → Prop
  | v (x : V) : Is K H x (.v x)
  | l {a : Addr} {xs : List V} {ds : List D} : SqL K H a xs → IsL K H xs ds → Is K H (.ref a) (.l ds)
  | t {a : Addr} {xs : List V} {ds : List D} : SqT K H a xs → IsL K H xs ds → Is K H (.ref a) (.t ds)
inductive IsL (K : PySem.W.Frag) (H : Hp) : List V → List D → Prop
  | nil : IsL K H [] []
  | cons {x : V} {d : D} {xs : List V} {ds : List D} : Is K H x d → IsL K H xs ds → IsL K H (x :: xs) (d :: ds)
end
section
variable {K : PySem.W.Frag} {H H' : Hp}
mutual
theorem Is.mono (e : Ex H H') {v : V} {d : D} : Is K H v d → Is K H' v d
  | .v x => .v x
  | .l s r => .l (ex_l e s) (IsL.mono e r)
  | .t s r => .t (ex_t e s) (IsL.mono e r)
theorem IsL.mono (e : Ex H H') {xs : List V} {ds : List D} : IsL K H xs ds → IsL K H' xs ds
  | .nil => .nil
  | .cons h r => .cons (Is.mono e h) (IsL.mono e r)
end
theorem IsL.len : ∀ {xs : List V} {ds : List D}, IsL K H xs ds → xs.length = ds.length
  | _, _, .nil => rfl
  | _, _, .cons _ r => congrArg (· + 1) (IsL.len r)
theorem IsL.get : ∀ {xs : List V} {ds : List D} {i : Nat} {d : D}, IsL K H xs ds → ds[i]? = some d → ∃ x, xs[i]? = some x ∧ Is K H x d
  | _, _, _, _, .nil, e => by simp at e
  | _, _, 0, _, .cons h _, e => by simp at e; subst e; exact ⟨_, rfl, h⟩
  | _, _, i + 1, d, .cons _ r, e => by
    obtain ⟨x, h1, h2⟩ := IsL.get (i := i) (d := d) r (by simpa using e)
    exact ⟨x, by simpa using h1, h2⟩
theorem IsL.getV : ∀ {xs : List V} {ds : List D} {i : Nat} {x : V}, IsL K H xs ds → xs[i]? = some x → ∃ d, ds[i]? = some d ∧ Is K H x d
  | _, _, _, _, .nil, e => by simp at e
  | _, _, 0, _, .cons h _, e => by simp at e; subst e; exact ⟨_, rfl, h⟩
  | _, _, i + 1, d, .cons _ r, e => by
    obtain ⟨x, h1, h2⟩ := IsL.getV (i := i) r (by simpa using e)
    exact ⟨x, by simpa using h1, h2⟩
theorem IsL.app : ∀ {xs ys : List V} {ds es : List D}, IsL K H xs ds → IsL K H ys es → IsL K H (xs ++ ys) (ds ++ es)
  | _, _, _, _, .nil, r => r
  | _, _, _, _, .cons h t, r => .cons h (IsL.app t r)
theorem IsL.one {x : V} {d : D} (h : Is K H x d) : IsL K H [x] [d] := .cons h .nil
theorem IsL.set {x : V} {d : D} (h : Is K H x d) : ∀ {xs : List V} {ds : List D} (i : Nat), IsL K H xs ds → IsL K H (xs.set i x) (ds.set i d)
  | _, _, _, .nil => .nil
  | _, _, 0, .cons _ t => .cons h t
  | _, _, i + 1, .cons g t => .cons g (IsL.set h i t)
theorem IsL.take : ∀ {xs : List V} {ds : List D} (n : Nat), IsL K H xs ds → IsL K H (xs.take n) (ds.take n)
  | _, _, 0, _ => by simpa using IsL.nil
  | _, _, _ + 1, .nil => .nil
  | _, _, n + 1, .cons h r => .cons h (IsL.take n r)
theorem IsL.drop : ∀ {xs : List V} {ds : List D} (n : Nat), IsL K H xs ds → IsL K H (xs.drop n) (ds.drop n)
  | _, _, 0, r => by simpa using r
  | _, _, _ + 1, .nil => .nil
  | _, _, n + 1, .cons _ r => IsL.drop n r
/-- a list of leaves -/
theorem IsL.leaves {α : Type} {g : α → V} : ∀ {xs : List α}, IsL K H (xs.map g) (xs.map fun a => D.v (g a))
  | [] => .nil
  | _ :: _ => .cons (.v _) IsL.leaves
theorem IsL.leavesV {α : Type} {g : α → V} : ∀ {vs : List V} {xs : List α}, IsL K H vs (xs.map fun a => D.v (g a)) → vs = xs.map g
  | _, [], .nil => rfl
  | _, _ :: _, .cons (.v _) r => congrArg _ (IsL.leavesV r)
theorem Is.leaf {x y : V} (h : Is K H x (.v y)) : x = y := by cases h; rfl
end

/-! ### heaps -/
abbrev H0 : Hp := fun _ => none
def un (B F : Hp) : Hp := fun a => match F a with | some o => some o | none => B a
theorem un_l {B F : Hp} : Ex F (un B F) := fun a o e => by unfold un; rw [e]
theorem un_r {B F : Hp} (d : ∀ a, F a ≠ none → B a = none) : Ex B (un B F) := fun a o e => by
  unfold un
  cases h : F a with
  | none => exact e
  | some u => have := d a (by rw [h]; exact fun z => nomatch z); rw [this] at e; cases e
theorem un_mono {B F F' : Hp} (e : Ex F F') (d : ∀ a, F' a ≠ none → B a = none) : Ex (un B F) (un B F') := fun a o q => by
  unfold un at q
  cases h : F a with
  | some u => rw [h] at q; cases q; exact un_l a _ (e a _ h)
  | none => rw [h] at q; exact un_r d a o q
theorem un_ex {B F H : Hp} (b : Ex B H) (f : Ex F H) : Ex (un B F) H := fun a o q => by
  unfold un at q
  cases h : F a with
  | some u => rw [h] at q; cases q; exact f a _ h
  | none => rw [h] at q; exact b a o q
theorem some_ne {α : Type} {o : Option α} {x : α} (h : o = some x) : o ≠ none := by rw [h]; exact fun z => nomatch z
theorem ne_some {α : Type} {o : Option α} (h : o ≠ none) : ∃ x, o = some x := by
  cases o with
  | none => exact absurd rfl h
  | some x => exact ⟨x, rfl⟩
theorem none_of_ex {H H' : Hp} (e : Ex H H') {a : Addr} (h : H' a = none) : H a = none := fresh_back e h

/-- the frozen part and the heap grow; what is new in the frozen part was free -/
structure Grow (F H F' H' : Hp) : Prop where
  f : Ex F F'
  h : Ex H H'
  fh : Ex F' H'
  new : ∀ a, F' a ≠ none → F a = none → H a = none
theorem Grow.refl {F H : Hp} (e : Ex F H) : Grow F H F H := ⟨Ex.refl _, Ex.refl _, e, fun a h1 h2 => absurd h2 h1⟩
theorem Grow.trans {F H F1 H1 F2 H2 : Hp} (a : Grow F H F1 H1) (b : Grow F1 H1 F2 H2) : Grow F H F2 H2 :=
  ⟨a.f.trans b.f, a.h.trans b.h, b.fh, fun x h1 h2 => by
    cases h : F1 x with
    | none => exact none_of_ex a.h (b.new x h1 h)
    | some o => exact a.new x (some_ne h) h2⟩
/-- only the heap grows -/
theorem Grow.heap {F H H' : Hp} (e : Ex F H) (h : Ex H H') : Grow F H F H' := ⟨Ex.refl _, h, e.trans h, fun a h1 h2 => absurd h2 h1⟩
/-- a new cell, frozen -/
theorem Grow.cell {F H : Hp} {p : Addr} {o : HO} (e : Ex F H) (h : H p = none) : Grow F H (upd F p o) (upd H p o) := by
  have hF : F p = none := none_of_ex e h
  refine ⟨Ex.new hF, Ex.new h, fun a u q => ?_, fun a h1 h2 => ?_⟩
  · by_cases ha : a = p
    · subst ha; rw [upd_same] at q ⊢; exact q
    · rw [upd_ne ha] at q ⊢; exact e a u q
  · by_cases ha : a = p
    · subst ha; exact h
    · rw [upd_ne ha] at h1; exact absurd h2 h1
/-- new things frozen -/
theorem Grow.add {F H N H' : Hp} (e : Ex F H) (h : Ex H H') (n : ∀ a, N a ≠ none → H a = none) (nh : Ex N H') : Grow F H (un F N) H' :=
  ⟨un_r fun a x => none_of_ex e (n a x), h, un_ex (e.trans h) nh, fun a h1 h2 => by
    unfold un at h1
    cases q : N a with
    | none => rw [q] at h1; exact absurd h2 h1
    | some o => exact n a (some_ne q)⟩

inductive Kd where
  | f | r | h
/-- the heap in which a slot's thing stands: what is new, or what may be read -/
def Kd.at (B F : Hp) : Kd → Hp
  | .f => F
  | _ => un B F

/-- what is owned: by the heap that is read, the new part, the value, its own heap -/
structure Own where
  A : Hp → Hp → V → Hp → Prop
  mono : ∀ {B F F' : Hp} {v : V} {G : Hp}, Ex F F' → (∀ a, F' a ≠ none → B a = none) → A B F v G → A B F' v G

inductive Slot where
  /-- anything -/
  | n
  /-- new, frozen; readable -/
  | f (d : D) | r (d : D)
  /-- an owned list whose items are new (f), readable (r) -/
  | ol (k : Kd) (ds : List D)
  | oo (A : Own)

def SlotOk (K : PySem.W.Frag) (B F G : Hp) (σ : L2.St) (i : Nat) : Slot → Prop
  | .n => True
  | .f d => ∃ v, σ[i]? = some (some v) ∧ Is K F v d
  | .r d => ∃ v, σ[i]? = some (some v) ∧ Is K (un B F) v d
  | .ol k ds => ∃ p xs, σ[i]? = some (some (.ref p)) ∧ G p = some (.lst xs) ∧ IsL K (k.at B F) xs ds
  | .oo A => ∃ v, σ[i]? = some (some v) ∧ A.A B F v G
theorem Kd.at_mono {B F F' : Hp} (e : Ex F F') (d : ∀ a, F' a ≠ none → B a = none) : ∀ k : Kd, Ex (k.at B F) (k.at B F')
  | .f => e
  | .r => un_mono e d
  | .h => un_mono e d
theorem SlotOk.mono {K : PySem.W.Frag} {B F F' G : Hp} {σ : L2.St} {i : Nat} (e : Ex F F') (d : ∀ a, F' a ≠ none → B a = none) : ∀ {s : Slot}, SlotOk K B F G σ i s → SlotOk K B F' G σ i s
  | .n, _ => trivial
  | .f _, ⟨v, h, q⟩ => ⟨v, h, q.mono e⟩
  | .r _, ⟨v, h, q⟩ => ⟨v, h, q.mono (un_mono e d)⟩
  | .ol k _, ⟨p, xs, h, g, q⟩ => ⟨p, xs, h, g, q.mono (k.at_mono e d)⟩
  | .oo A, ⟨v, h, q⟩ => ⟨v, h, A.mono e d q⟩

abbrev Gm := List Slot
/-- THE STATE of a body: B stays and is read (the caller's heap), F is new and frozen, G i is owned by slot i -/
structure Sta (K : PySem.W.Frag) (B : Hp) (Γ : Gm) (σ : L2.St) (F : Hp) (G : Nat → Hp) (H : Hp) : Prop where
  len : σ.length = Γ.length
  bh : Ex B H
  fh : Ex F H
  bf : ∀ a, F a ≠ none → B a = none
  gh : ∀ i, Ex (G i) H
  gb : ∀ i a, G i a ≠ none → B a = none ∧ F a = none
  gg : ∀ i j a, i ≠ j → G i a ≠ none → G j a = none
  sl : ∀ (i : Nat) s, Γ[i]? = some s → SlotOk K B F (G i) σ i s
section
variable {K : PySem.W.Frag} {B F F' H H' : Hp} {Γ : Gm} {σ : L2.St} {G : Nat → Hp}
theorem Sta.bf' (S : Sta K B Γ σ F G H) (g : Grow F H F' H') : ∀ a, F' a ≠ none → B a = none := fun a h => by
  cases q : F a with
  | none => exact none_of_ex S.bh (g.new a h q)
  | some o => exact S.bf a (some_ne q)
theorem Sta.grow (S : Sta K B Γ σ F G H) (g : Grow F H F' H') : Sta K B Γ σ F' G H' where
  len := S.len
  bh := S.bh.trans g.h
  fh := g.fh
  bf := S.bf' g
  gh := fun i => (S.gh i).trans g.h
  gb := fun i a h => ⟨(S.gb i a h).1, by
    cases q : F' a with
    | none => rfl
    | some o =>
      have z := g.new a (some_ne q) (S.gb i a h).2
      obtain ⟨u, e⟩ := ne_some h
      rw [S.gh i a u e] at z; cases z⟩
  gg := S.gg
  sl := fun i s h => (S.sl i s h).mono g.f (S.bf' g)
theorem Sta.rh (S : Sta K B Γ σ F G H) : Ex (un B F) H := un_ex S.bh S.fh
end

/-! ### expressions -/
def IsK (K : PySem.W.Frag) (B F H : Hp) (v : V) (d : D) : Kd → Prop
  | .f => Is K F v d
  | .r => Is K (un B F) v d
  | .h => Is K H v d
def IsKL (K : PySem.W.Frag) (B F H : Hp) (vs : List V) (ds : List D) : Kd → Prop
  | .f => IsL K F vs ds
  | .r => IsL K (un B F) vs ds
  | .h => IsL K H vs ds
section
variable {K : PySem.W.Frag} {B F F' H H' : Hp} {Γ : Gm} {σ : L2.St} {G : Nat → Hp}
theorem IsK.toH (S : Sta K B Γ σ F G H) {v : V} {d : D} : ∀ {k : Kd}, IsK K B F H v d k → Is K H v d
  | .f, h => Is.mono S.fh h
  | .r, h => Is.mono S.rh h
  | .h, h => h
theorem IsK.grow (S : Sta K B Γ σ F G H) (g : Grow F H F' H') {v : V} {d : D} : ∀ {k : Kd}, IsK K B F H v d k → IsK K B F' H' v d k
  | .f, h => Is.mono g.f h
  | .r, h => Is.mono (un_mono g.f (S.bf' g)) h
  | .h, h => Is.mono g.h h
theorem IsKL.grow (S : Sta K B Γ σ F G H) (g : Grow F H F' H') {v : List V} {d : List D} : ∀ {k : Kd}, IsKL K B F H v d k → IsKL K B F' H' v d k
  | .f, h => IsL.mono g.f h
  | .r, h => IsL.mono (un_mono g.f (S.bf' g)) h
  | .h, h => IsL.mono g.h h
theorem IsKL.cons {v : V} {d : D} {vs : List V} {ds : List D} : ∀ {k : Kd}, IsK K B F H v d k → IsKL K B F H vs ds k → IsKL K B F H (v :: vs) (d :: ds) k
  | .f, h, t => IsL.cons h t
  | .r, h, t => IsL.cons h t
  | .h, h, t => IsL.cons h t
theorem IsK.leaf {x : V} : ∀ {k : Kd}, IsK K B F H x (.v x) k
  | .f => .v x
  | .r => .v x
  | .h => .v x
theorem IsK.leafV {v x : V} : ∀ {k : Kd}, IsK K B F H v (.v x) k → v = x
  | .f, h => Is.leaf h
  | .r, h => Is.leaf h
  | .h, h => Is.leaf h
end

/-- the expression gives a datum that fulfils φ -/
def EvW (K : PySem.W.Frag) (B : Hp) (k : Kd) (te : TE) (Γ : Gm) (φ : D → Prop) : Prop :=
  ∀ σ F G H, Sta K B Γ σ F G H → ∀ Q : VK, (∀ v d F' H', φ d → Grow F H F' H' → IsK K B F' H' v d k → Q v H') → te σ H Q
abbrev Ev (K : PySem.W.Frag) (B : Hp) (k : Kd) (te : TE) (Γ : Gm) (d : D) : Prop := EvW K B k te Γ (fun x => x = d)
def EvT (K : PySem.W.Frag) (B : Hp) (tt : TT) (Γ : Gm) (b : Bool) : Prop :=
  ∀ σ F G H, Sta K B Γ σ F G H → ∀ Q : Bool → Hp → Prop, (∀ F' H', Grow F H F' H' → Q b H') → tt σ H Q
def EvA (K : PySem.W.Frag) (B : Hp) (k : Kd) (ta : TA) (Γ : Gm) (ds : List D) : Prop :=
  ∀ σ F G H, Sta K B Γ σ F G H → ∀ Q : List V → Hp → Prop, (∀ vs F' H', Grow F H F' H' → IsKL K B F' H' vs ds k → Q vs H') → ta σ H Q
/-- a new list, not yet frozen; its items of the kind k -/
def EvN (K : PySem.W.Frag) (B : Hp) (k : Kd) (te : TE) (Γ : Gm) (ds : List D) : Prop :=
  ∀ σ F G H, Sta K B Γ σ F G H → ∀ Q : VK, (∀ p xs F' H', Grow F H F' H' → H p = none → F' p = none → H' p = some (.lst xs) → IsL K (k.at B F') xs ds → Q (.ref p) H') → te σ H Q

section
variable {K : PySem.W.Frag} {B : Hp} {Γ : Gm} {k : Kd} {ta tb te : TE} {t u : TT} {φ ψ : D → Prop} {d e : D} {x y z : V} {ds : List D}
theorem EvW.imp (h : EvW K B k te Γ φ) (i : ∀ d, φ d → ψ d) : EvW K B k te Γ ψ := fun σ F G H S Q q => h σ F G H S Q fun v d F' H' p => q v d F' H' (i d p)
theorem Ev.of {d2 : D} (h : Ev K B k te Γ d) (e : d = d2) : Ev K B k te Γ d2 := by rw [← e]; exact h
theorem EvT.of {a b : Bool} (h : EvT K B t Γ a) (e : a = b) : EvT K B t Γ b := by rw [← e]; exact h
/-- kinds -/
theorem EvW.r (h : EvW K B .f te Γ φ) : EvW K B .r te Γ φ := fun σ F G H S Q q => h σ F G H S Q fun v d F' H' p g i => q v d F' H' p g (Is.mono un_l i)
theorem EvW.h (h : EvW K B k te Γ φ) : EvW K B .h te Γ φ := fun σ F G H S Q q => h σ F G H S Q fun v d F' H' p g i => q v d F' H' p g (IsK.toH (S.grow g) i)
theorem Ev.leaf (h : Ev K B .h te Γ (.v x)) : Ev K B k te Γ (.v x) := fun σ F G H S Q q => h σ F G H S Q fun v d F' H' p g i => q v d F' H' p g (by
  subst p
  have e : v = x := Is.leaf i
  subst e
  exact IsK.leaf)
/-- from raw: the value is known -/
theorem Ev.val (h : ∀ σ F G H, Sta K B Γ σ F G H → ∀ Q : VK, (∀ H', Ex H H' → Q x H') → te σ H Q) : Ev K B k te Γ (.v x) := fun σ F G H S Q q =>
  h σ F G H S Q fun H' e => q x (.v x) F H' rfl (Grow.heap S.fh e) IsK.leaf

def Slot.get : Kd → Slot → Option D
  | _, .f d => some d
  | .r, .r d => some d
  | .h, .r d => some d
  | .h, .ol _ ds => some (.l ds)
  | _, _ => none
theorem ev_var {i : Nat} (h : (Γ[i]?.bind (Slot.get k)) = some d) : Ev K B k (tVar i) Γ d := fun σ F G H S Q q => by
  cases hs : Γ[i]? with
  | none => rw [hs] at h; cases h
  | some s =>
    rw [hs] at h
    have h : Slot.get k s = some d := h
    have so := S.sl i s hs
    have gr := Grow.refl S.fh
    cases s with
    | n => cases k <;> cases h
    | f d' =>
      have e : d' = d := by cases k <;> exact Option.some.inj h
      subst e
      obtain ⟨v, h1, h2⟩ := so
      refine ⟨v, h1, q v _ F H rfl gr ?_⟩
      cases k
      · exact h2
      · exact h2.mono un_l
      · exact h2.mono S.fh
    | r d' =>
      obtain ⟨v, h1, h2⟩ := so
      cases k with
      | f => cases h
      | r =>
        have e : d' = d := Option.some.inj h
        subst e
        exact ⟨v, h1, q v _ F H rfl gr h2⟩
      | h =>
        have e : d' = d := Option.some.inj h
        subst e
        exact ⟨v, h1, q v _ F H rfl gr (h2.mono S.rh)⟩
    | ol k' ds =>
      obtain ⟨p, xs, h1, h2, h3⟩ := so
      cases k with
      | f => cases h
      | r => cases h
      | h =>
        have e : D.l ds = d := Option.some.inj h
        subst e
        have hk : Ex (k'.at B F) H := by cases k' <;> first | exact S.fh | exact S.rh
        exact ⟨_, h1, q _ _ F H rfl gr (Is.l (sq_of (S.gh i p _ h2)) (IsL.mono hk h3))⟩
    | oo A => cases k <;> cases h
theorem ev_c : Ev K B k (tC x) Γ (.v x) := Ev.val fun σ F G H S Q q => q H (Ex.refl H)
/-- an operation upon two values that gives a value -/
theorem ev_op {r : R2} {a b : D} (ha : Ev K B .h ta Γ a) (hb : Ev K B .h tb Γ b) (hr : ∀ x y H (Q : VK), Is K H x a → Is K H y b → Q z H → r x y H Q) : Ev K B k (tOp r ta tb) Γ (.v z) := Ev.val fun σ F G H S Q q =>
  ha σ F G H S _ fun x d1 F1 H1 p1 g1 i1 => hb σ F1 G H1 (S.grow g1) _ fun y d2 F2 H2 p2 g2 i2 => by
    subst p1; subst p2
    exact hr x y H2 Q (Is.mono g2.h i1) i2 (q H2 (g1.h.trans g2.h))
theorem ev_I0 {g : Int → Int → V} {i j : Int} (ha : Ev K B .h ta Γ (.i i)) (hb : Ev K B .h tb Γ (.i j)) : Ev K B k (tOp (rI0 g) ta tb) Γ (.v (g i j)) := ev_op ha hb fun x y H Q hx hy q => by
  cases hx; cases hy
  exact ⟨i, j, rfl, rfl, q⟩
theorem ev_I {C : Int → Int → Prop} {g : Int → Int → V} {i j : Int} (ha : Ev K B .h ta Γ (.i i)) (hb : Ev K B .h tb Γ (.i j)) (hc : C i j) : Ev K B k (tOp (rI C g) ta tb) Γ (.v (g i j)) := ev_op ha hb fun x y H Q hx hy q => by
  cases hx; cases hy
  exact ⟨i, j, rfl, rfl, hc, q⟩
theorem ev_un {r : V → Hp → VK → Prop} {a : D} (ha : Ev K B .h ta Γ a) (hr : ∀ x H (Q : VK), Is K H x a → Q z H → r x H Q) : Ev K B k (tUn r ta) Γ (.v z) := Ev.val fun σ F G H S Q q =>
  ha σ F G H S _ fun x d1 F1 H1 p1 g1 i1 => by
    subst p1
    exact hr x H1 Q i1 (q H1 g1.h)
theorem ev_neg {i : Int} (ha : Ev K B .h ta Γ (.i i)) : Ev K B k (tUn (rU fun i => .int (-i)) ta) Γ (.i (-i)) := ev_un ha fun x H Q hx q => by
  cases hx
  exact ⟨i, rfl, q⟩
end

end
section

/-! ### more expressions -/
section
variable {K : PySem.W.Frag} {B : Hp} {Γ : Gm} {k : Kd} {ta tb tc te tx : TE} {t u : TT} {φ ψ : D → Prop} {d e : D} {x y z : V} {ds es : List D} {tr : TA}
theorem ea_nil : EvA K B k tNil Γ [] := fun σ F G H S Q q => q [] F H (Grow.refl S.fh) (by cases k <;> exact .nil)
theorem ea_cons (h : Ev K B k te Γ d) (hr : EvA K B k tr Γ ds) : EvA K B k (tCons te tr) Γ (d :: ds) := fun σ F G H S Q q =>
  h σ F G H S _ fun v d1 F1 H1 p1 g1 i1 => hr σ F1 G H1 (S.grow g1) _ fun vs F2 H2 g2 i2 => by
    subst p1
    exact q _ F2 H2 (g1.trans g2) (IsKL.cons (IsK.grow (S.grow g1) g2 i1) i2)
/-- two operands, the result by values and heap -/
theorem ev_opG {r : R2} {a b : D} {k1 k2 : Kd} (ha : Ev K B k1 ta Γ a) (hb : Ev K B k2 tb Γ b)
    (hr : ∀ x y F G σ H, Sta K B Γ σ F G H → ∀ (Q : VK), IsK K B F H x a k1 → IsK K B F H y b k2 → (∀ v d F' H', φ d → Grow F H F' H' → IsK K B F' H' v d k → Q v H') → r x y H Q) : EvW K B k (tOp r ta tb) Γ φ := fun σ F G H S Q q =>
  ha σ F G H S _ fun x d1 F1 H1 p1 g1 i1 => hb σ F1 G H1 (S.grow g1) _ fun y d2 F2 H2 p2 g2 i2 => by
    subst p1; subst p2
    exact hr x y F2 G σ H2 ((S.grow g1).grow g2) Q (IsK.grow (S.grow g1) g2 i1) i2 fun v d F' H' p g i => q v d F' H' p ((g1.trans g2).trans g) i

/-- an item: of a list, a tuple -/
def D.items : D → Option (List D)
  | .l ds => some ds
  | .t ds => some ds
  | _ => none
theorem ixN_nat {n : Nat} {i : Int} {j : Nat} (h : ixN n i = some j) : j < n := by
  unfold ixN at h
  split at h
  · split at h
    · cases h; omega
    · cases h
  · split at h
    · cases h; omega
    · cases h
theorem atI_len {α β : Type} {xs : List α} {ys : List β} (h : xs.length = ys.length) {i : Int} {y : β} (e : atI ys i = some y) : ∃ j, ixN ys.length i = some j ∧ ys[j]? = some y ∧ atI xs i = xs[j]? := by
  unfold atI at e ⊢
  cases q : ixN ys.length i with
  | none => rw [q] at e; cases e
  | some j =>
    rw [q] at e
    exact ⟨j, rfl, e, by rw [h, q]; rfl⟩
theorem IsK.ix {F H : Hp} {p : V} {ds : List D} {i : Int} : ∀ {d0 : D}, d0.items = some ds → IsK K B F H p d0 k → atI ds i = some d →
    ∃ a xs w, p = .ref a ∧ (IsK K B F H w d k) ∧ atI xs i = some w ∧ ∀ {H' : Hp}, (Ex F H') → Ex (un B F) H' → Ex H H' → (SqL K H' a xs ∨ SqT K H' a xs)
  | d0, h0, h, e => by
    have key : ∀ (Hx : Hp), Is K Hx p d0 → ∃ a xs w, p = .ref a ∧ Is K Hx w d ∧ atI xs i = some w ∧ ∀ {H' : Hp}, Ex Hx H' → (SqL K H' a xs ∨ SqT K H' a xs) := fun Hx hx => by
      cases hx with
      | v x => cases h0
      | l s r =>
        cases h0
        obtain ⟨j, e1, e2, e3⟩ := atI_len r.len e
        obtain ⟨w, e4, e5⟩ := r.get e2
        exact ⟨_, _, w, rfl, e5, by rw [e3, e4], fun ex => .inl (ex_l ex s)⟩
      | t s r =>
        cases h0
        obtain ⟨j, e1, e2, e3⟩ := atI_len r.len e
        obtain ⟨w, e4, e5⟩ := r.get e2
        exact ⟨_, _, w, rfl, e5, by rw [e3, e4], fun ex => .inr (ex_t ex s)⟩
    cases k with
    | f => obtain ⟨a, xs, w, h1, h2, h3, h4⟩ := key F h; exact ⟨a, xs, w, h1, h2, h3, fun e1 _ _ => h4 e1⟩
    | r => obtain ⟨a, xs, w, h1, h2, h3, h4⟩ := key (un B F) h; exact ⟨a, xs, w, h1, h2, h3, fun _ e1 _ => h4 e1⟩
    | h => obtain ⟨a, xs, w, h1, h2, h3, h4⟩ := key H h; exact ⟨a, xs, w, h1, h2, h3, fun _ _ e1 => h4 e1⟩
theorem ev_ix {d0 : D} {i : Int} (ha : Ev K B k ta Γ d0) (hb : Ev K B .h tb Γ (.i i)) (hd : d0.items = some ds) (he : atI ds i = some d) : Ev K B k (tOp (rIx K) ta tb) Γ d := ev_opG ha hb fun x y F G σ H S Q ix iy q => by
  cases Is.leaf iy
  obtain ⟨a, xs, w, rfl, i1, i2, i3⟩ := IsK.ix hd ix he
  rcases i3 S.fh S.rh (Ex.refl H) with z | z
  · exact .inl ⟨a, xs, i, w, rfl, rfl, z, i2, q w d F H rfl (Grow.refl S.fh) i1⟩
  · exact .inr (.inl ⟨a, xs, i, w, rfl, rfl, z, i2, q w d F H rfl (Grow.refl S.fh) i1⟩)
theorem ev_ixS {s : Str} {i : Int} {c : Nat} (ha : Ev K B .h ta Γ (.s s)) (hb : Ev K B .h tb Γ (.i i)) (hl : s.length ≤ 1000000) (he : atI s.cps.toList i = some c) : Ev K B k (tOp (rIx K) ta tb) Γ (.s ⟨#[c]⟩) := ev_op ha hb fun x y H Q hx hy q => by
  cases hx; cases hy
  exact .inr (.inr ⟨s, i, c, rfl, rfl, Nat.le_trans hl (by decide), he, q⟩)
/-- len -/
def rLenG (K : PySem.W.Frag) : List V → Hp → VK → Prop := fun xs H Q => ∃ x n, xs = [x] ∧ LenV K x H n ∧ Q (.int n) H
theorem call_lenG {X : Cx} : CallR X (.builtin "len") (rLenG X.K) := call_len
theorem ev_cb1 {r : List V → Hp → VK → Prop} {a : D} (ha : Ev K B .h ta Γ a) (hr : ∀ x H (Q : VK), Is K H x a → Q z H → r [x] H Q) : Ev K B k (tCB r (tCons ta tNil)) Γ (.v z) := Ev.val fun σ F G H S Q q =>
  ha σ F G H S _ fun x d1 F1 H1 p1 g1 i1 => by
    subst p1
    exact hr x H1 Q i1 (q H1 g1.h)
theorem ev_cb2 {r : List V → Hp → VK → Prop} {a b : D} (ha : Ev K B .h ta Γ a) (hb : Ev K B .h tb Γ b) (hr : ∀ x y H (Q : VK), Is K H x a → Is K H y b → Q z H → r [x, y] H Q) : Ev K B k (tCB r (tCons ta (tCons tb tNil))) Γ (.v z) := Ev.val fun σ F G H S Q q =>
  ha σ F G H S _ fun x d1 F1 H1 p1 g1 i1 => hb σ F1 G H1 (S.grow g1) _ fun y d2 F2 H2 p2 g2 i2 => by
    subst p1; subst p2
    exact hr x y H2 Q (Is.mono g2.h i1) i2 (q H2 (g1.h.trans g2.h))
theorem ev_len {d0 : D} (ha : Ev K B .h ta Γ d0) (hd : d0.items = some ds) : Ev K B k (tCB (rLenG K) (tCons ta tNil)) Γ (.i (ds.length : Int)) := ev_cb1 ha fun x H Q hx q => by
  cases hx with
  | v x => cases hd
  | l s r =>
    cases hd
    exact ⟨_, _, rfl, .inl ⟨_, s, rfl⟩, by rw [r.len]; exact q⟩
  | t s r =>
    cases hd
    exact ⟨_, _, rfl, .inr ⟨_, s, rfl⟩, by rw [r.len]; exact q⟩
theorem ev_lenS {s : Str} (ha : Ev K B .h ta Γ (.s s)) (hl : s.length ≤ 1000000) : Ev K B k (tCB (rLenG K) (tCons ta tNil)) Γ (.i (s.length : Int)) := ev_cb1 ha fun x H Q hx q => by
  cases hx
  exact ⟨.str s, s.length, rfl, ⟨Nat.le_trans hl (by decide), rfl⟩, q⟩
def rInt1 : List V → Hp → VK → Prop := fun xs H Q => (∃ i, xs = [.int i] ∧ Q (.int i) H) ∨ ∃ k, xs = [.bl k] ∧ Q (.int (if k then 1 else 0)) H
theorem call_int1' {X : Cx} : CallR X (.type "int") rInt1 := call_int1
theorem ev_int {i : Int} (ha : Ev K B .h ta Γ (.i i)) : Ev K B k (tCB rInt1 (tCons ta tNil)) Γ (.i i) := ev_cb1 ha fun x H Q hx q => by
  cases hx; exact .inl ⟨i, rfl, q⟩
theorem ev_intB {b : Bool} (ha : Ev K B .h ta Γ (.b b)) : Ev K B k (tCB rInt1 (tCons ta tNil)) Γ (.i (if b then 1 else 0)) := ev_cb1 ha fun x H Q hx q => by
  cases hx; exact .inr ⟨b, rfl, q⟩
def rAbs : List V → Hp → VK → Prop := fun xs H Q => ∃ i, xs = [.int i] ∧ Q (.int (if i < 0 then -i else i)) H
theorem ev_abs {i : Int} (ha : Ev K B .h ta Γ (.i i)) : Ev K B k (tCB rAbs (tCons ta tNil)) Γ (.i (if i < 0 then -i else i)) := ev_cb1 ha fun x H Q hx q => by
  cases hx; exact ⟨i, rfl, q⟩
def rMin2 : List V → Hp → VK → Prop := fun xs H Q => ∃ i j, xs = [.int i, .int j] ∧ Q (.int (if j < i then j else i)) H
theorem ev_min {i j : Int} (ha : Ev K B .h ta Γ (.i i)) (hb : Ev K B .h tb Γ (.i j)) : Ev K B k (tCB rMin2 (tCons ta (tCons tb tNil))) Γ (.i (if j < i then j else i)) := ev_cb2 ha hb fun x y H Q hx hy q => by
  cases hx; cases hy; exact ⟨i, j, rfl, q⟩
def rMax2' : List V → Hp → VK → Prop := fun xs H Q => ∃ i j, xs = [.int i, .int j] ∧ Q (.int (if j > i then j else i)) H
theorem ev_max {i j : Int} (ha : Ev K B .h ta Γ (.i i)) (hb : Ev K B .h tb Γ (.i j)) : Ev K B k (tCB rMax2' (tCons ta (tCons tb tNil))) Γ (.i (if j > i then j else i)) := ev_cb2 ha hb fun x y H Q hx hy q => by
  cases hx; cases hy; exact ⟨i, j, rfl, q⟩
def rStrI : List V → Hp → VK → Prop := fun xs H Q => ∃ i, xs = [.int i] ∧ i.natAbs.log2 < 1920 ∧ Q (.str (toString i)) H
theorem ev_str {i : Int} (ha : Ev K B .h ta Γ (.i i)) (hi : i.natAbs.log2 < 1920) : Ev K B k (tCB rStrI (tCons ta tNil)) Γ (.v (.str (toString i))) := ev_cb1 ha fun x H Q hx q => by
  cases hx; exact ⟨i, rfl, hi, q⟩
def rAddS2 : R2 := fun x y H Q => ∃ i j, x = .str i ∧ y = .str j ∧ i.length + j.length ≤ sizeLine ∧ Q (.str (i ++ j)) H
theorem ev_addS {i j : Str} (ha : Ev K B .h ta Γ (.s i)) (hb : Ev K B .h tb Γ (.s j)) (hl : i.length + j.length ≤ 1000000) : Ev K B k (tOp rAddS2 ta tb) Γ (.s (i ++ j)) := ev_op ha hb fun x y H Q hx hy q => by
  cases hx; cases hy; exact ⟨i, j, rfl, rfl, Nat.le_trans hl (by decide), q⟩

/-! ### displays: new lists and tuples -/
theorem ev_tup (h : EvA K B .f tr Γ ds) (hl : ds.length ≤ 100000) : Ev K B .f (tTup tr) Γ (.t ds) := fun σ F G H S Q q =>
  h σ F G H S _ fun vs F1 H1 g1 i1 => ⟨by rw [IsL.len i1]; exact sz_of hl, fun p hp => q _ _ (upd F1 p (.tup vs)) _ rfl (g1.trans (Grow.cell g1.fh hp)) (.t (st_of upd_same) (IsL.mono (Grow.cell g1.fh hp).f i1))⟩
theorem ev_tupR (h : EvA K B .r tr Γ ds) (hl : ds.length ≤ 100000) : Ev K B .r (tTup tr) Γ (.t ds) := fun σ F G H S Q q =>
  h σ F G H S _ fun vs F1 H1 g1 i1 => ⟨by rw [IsL.len i1]; exact sz_of hl, fun p hp => by
    have g2 := Grow.cell (o := .tup vs) g1.fh hp
    have S1 := S.grow g1
    exact q _ _ (upd F1 p (.tup vs)) _ rfl (g1.trans g2) (.t (st_of (un_l p _ upd_same)) (IsL.mono (un_mono g2.f (S1.bf' g2)) i1))⟩
theorem ev_tupH (h : EvA K B .h tr Γ ds) (hl : ds.length ≤ 100000) : Ev K B .h (tTup tr) Γ (.t ds) := fun σ F G H S Q q =>
  h σ F G H S _ fun vs F1 H1 g1 i1 => ⟨by rw [IsL.len i1]; exact sz_of hl, fun p hp => q _ _ F1 _ rfl (g1.trans (Grow.heap g1.fh (Ex.new hp))) (.t (st_of upd_same) (IsL.mono (Ex.new hp) i1))⟩
theorem en_lst (h : EvA K B .f tr Γ ds) (hl : ds.length ≤ 100000) : EvN K B .f (tLst tr) Γ ds := fun σ F G H S Q q =>
  h σ F G H S _ fun vs F1 H1 g1 i1 => ⟨by rw [IsL.len i1]; exact sz_of hl, fun p hp => q p vs F1 _ (g1.trans (Grow.heap g1.fh (Ex.new hp))) (none_of_ex g1.h hp) (none_of_ex g1.fh hp) upd_same i1⟩
theorem en_lstR (h : EvA K B .r tr Γ ds) (hl : ds.length ≤ 100000) : EvN K B .r (tLst tr) Γ ds := fun σ F G H S Q q =>
  h σ F G H S _ fun vs F1 H1 g1 i1 => ⟨by rw [IsL.len i1]; exact sz_of hl, fun p hp => q p vs F1 _ (g1.trans (Grow.heap g1.fh (Ex.new hp))) (none_of_ex g1.h hp) (none_of_ex g1.fh hp) upd_same i1⟩
/-- a new list frozen -/
theorem Grow.fz {F H F1 H1 : Hp} {p : Addr} {o : HO} (g : Grow F H F1 H1) (h0 : H p = none) (h1 : H1 p = some o) (hf : F1 p = none) : Grow F H (upd F1 p o) H1 :=
  ⟨g.f.trans (Ex.new hf), g.h, fun a u q => by
    by_cases ha : a = p
    · subst ha; rw [upd_same] at q; rw [h1]; exact q
    · rw [upd_ne ha] at q; exact g.fh a u q, fun a x1 x2 => by
    by_cases ha : a = p
    · subst ha; exact h0
    · rw [upd_ne ha] at x1; exact g.new a x1 x2⟩
theorem EvN.fz (h : EvN K B .f te Γ ds) : Ev K B .f te Γ (.l ds) := fun σ F G H S Q q =>
  h σ F G H S _ fun p xs F1 H1 g1 h0 hf h1 i1 => q _ _ (upd F1 p (.lst xs)) H1 rfl (g1.fz h0 h1 hf) (.l (sq_of upd_same) (IsL.mono (Ex.new hf) i1))
theorem EvN.fzR (h : EvN K B .r te Γ ds) : Ev K B .r te Γ (.l ds) := fun σ F G H S Q q =>
  h σ F G H S _ fun p xs F1 H1 g1 h0 hf h1 i1 => by
    have g2 := g1.fz h0 h1 hf
    exact q _ _ (upd F1 p (.lst xs)) H1 rfl g2 (.l (sq_of (un_l p _ upd_same)) (IsL.mono (un_mono (Ex.new hf) (S.bf' g2)) i1))

/-! ### tests -/
theorem et_test {b : Bool} (h : Ev K B .h te Γ (.b b)) : EvT K B (tTest te) Γ b := fun σ F G H S Q q =>
  h σ F G H S _ fun v d F1 H1 p g i => by
    subst p; cases i
    exact ⟨b, rfl, q F1 H1 g⟩
theorem et_B {b : Bool} (h : Ev K B .h te Γ (.b b)) : EvT K B (tB te) Γ b := fun σ F G H S Q q =>
  h σ F G H S _ fun v d F1 H1 p g i => by
    subst p; cases i
    exact ⟨b, rfl, q F1 H1 g⟩
theorem et_and {a b : Bool} (h1 : EvT K B t Γ a) (h2 : a = true → EvT K B u Γ b) : EvT K B (tAnd t u) Γ (a && b) := fun σ F G H S Q q => h1 σ F G H S _ fun F1 H1 g1 => by
  cases a with
  | true =>
    show u σ H1 Q
    exact h2 rfl σ F1 G H1 (S.grow g1) Q fun F2 H2 g2 => q F2 H2 (g1.trans g2)
  | false =>
    show Q false H1
    exact q F1 H1 g1
theorem et_or {a b : Bool} (h1 : EvT K B t Γ a) (h2 : a = false → EvT K B u Γ b) : EvT K B (tOr t u) Γ (a || b) := fun σ F G H S Q q => h1 σ F G H S _ fun F1 H1 g1 => by
  cases a with
  | true =>
    show Q true H1
    exact q F1 H1 g1
  | false =>
    show u σ H1 Q
    exact h2 rfl σ F1 G H1 (S.grow g1) Q fun F2 H2 g2 => q F2 H2 (g1.trans g2)
theorem et_not {a : Bool} (h1 : EvT K B t Γ a) : EvT K B (tNot t) Γ (!a) := fun σ F G H S Q q => h1 σ F G H S _ fun F1 H1 g1 => q F1 H1 g1
theorem ev_andV {a b : Bool} (h1 : Ev K B .h ta Γ (.b a)) (h2 : a = true → Ev K B .h tb Γ (.b b)) : Ev K B k (tAndV ta tb) Γ (.b (a && b)) := Ev.val fun σ F G H S Q q => h1 σ F G H S _ fun v d F1 H1 p g1 i => by
  subst p; cases i
  refine ⟨a, rfl, ?_⟩
  cases a with
  | true =>
    show tb σ H1 Q
    exact h2 rfl σ F1 G H1 (S.grow g1) Q fun v2 d2 F2 H2 p2 g2 i2 => by
      subst p2; cases i2
      exact q H2 (g1.h.trans g2.h)
  | false => exact q H1 g1.h
theorem ev_orV {a b : Bool} (h1 : Ev K B .h ta Γ (.b a)) (h2 : a = false → Ev K B .h tb Γ (.b b)) : Ev K B k (tOrV ta tb) Γ (.b (a || b)) := Ev.val fun σ F G H S Q q => h1 σ F G H S _ fun v d F1 H1 p g1 i => by
  subst p; cases i
  refine ⟨a, rfl, ?_⟩
  cases a with
  | true => exact q H1 g1.h
  | false =>
    show tb σ H1 Q
    exact h2 rfl σ F1 G H1 (S.grow g1) Q fun v2 d2 F2 H2 p2 g2 i2 => by
      subst p2; cases i2
      exact q H2 (g1.h.trans g2.h)
theorem ev_notV {a : Bool} (h1 : Ev K B .h ta Γ (.b a)) : Ev K B k (tNotV ta) Γ (.b (!a)) := Ev.val fun σ F G H S Q q => h1 σ F G H S _ fun v d F1 H1 p g1 i => by
  subst p; cases i
  exact ⟨a, rfl, q H1 g1.h⟩
theorem ev_if {b : Bool} (h : EvT K B t Γ b) (h1 : b = true → EvW K B k ta Γ φ) (h2 : b = false → EvW K B k tb Γ φ) : EvW K B k (tIf t ta tb) Γ φ := fun σ F G H S Q q => h σ F G H S _ fun F1 H1 g1 => by
  cases b with
  | true =>
    show ta σ H1 Q
    exact h1 rfl σ F1 G H1 (S.grow g1) Q fun v d F2 H2 p g2 i => q v d F2 H2 p (g1.trans g2) i
  | false =>
    show tb σ H1 Q
    exact h2 rfl σ F1 G H1 (S.grow g1) Q fun v d F2 H2 p g2 i => q v d F2 H2 p (g1.trans g2) i
/-- a < b < c of ints -/
theorem ev_chain {g g' : Int → Int → Bool} {a b c : Int} (ha : Ev K B .h ta Γ (.i a)) (hb : Ev K B .h tb Γ (.i b)) (hc : Ev K B .h tc Γ (.i c)) :
    Ev K B k (tChain (rI0 fun i j => .bl (g i j)) (rI0 fun i j => .bl (g' i j)) ta tb tc) Γ (.b (g a b && g' b c)) := Ev.val fun σ F G H S Q q =>
  ha σ F G H S _ fun x d1 F1 H1 p1 g1 i1 => hb σ F1 G H1 (S.grow g1) _ fun y d2 F2 H2 p2 g2 i2 => by
    subst p1; subst p2; cases i1; cases i2
    refine ⟨a, b, rfl, rfl, g a b, rfl, ?_⟩
    cases e : g a b with
    | false =>
      rw [e] at q
      exact q H2 (g1.h.trans g2.h)
    | true =>
      rw [e] at q
      refine iteT ?_
      exact hc σ F2 G H2 ((S.grow g1).grow g2) _ fun w d3 F3 H3 p3 g3 i3 => by
        subst p3; cases i3
        exact ⟨b, c, rfl, rfl, q H3 ((g1.h.trans g2.h).trans g3.h)⟩
end

/-! ### == of data -/
mutual
def D.py : D → PyData
  | .v .non => .none
  | .v (.bl b) => .bool b
  | .v (.int i) => .int i
  | .v (.str x) => .str x
  | .v _ => .none
  | .l ds => .list (D.pys ds)
  | .t ds => .tuple (D.pys ds)
def D.pys : List D → List PyData
  | [] => []
  | d :: ds => D.py d :: D.pys ds
end
mutual
/-- plain data, of that depth at most -/
def D.ok : Nat → D → Bool
  | _, .v .non => true
  | _, .v (.bl _) => true
  | _, .v (.int _) => true
  | _, .v (.str _) => true
  | _, .v _ => false
  | 0, .l _ => false
  | 0, .t _ => false
  | n + 1, .l ds => D.oks n ds
  | n + 1, .t ds => D.oks n ds
def D.oks : Nat → List D → Bool
  | _, [] => true
  | n, d :: ds => D.ok n d && D.oks n ds
end
def eqD (d e : D) : Bool := PyData.eqv d.py e.py
section
variable {K : PySem.W.Frag} {H : Hp}
mutual
theorem Is.dp : ∀ {n : Nat} {v : V} {d : D}, Is K H v d → d.ok n = true → Dp K H v d.py
  | n, _, _, .v .non, _ => by unfold D.py; exact .non
  | n, _, _, .v (.bl b), _ => by unfold D.py; exact .bl b
  | n, _, _, .v (.int i), _ => by unfold D.py; exact .int i
  | n, _, _, .v (.str x), _ => by unfold D.py; exact .str x
  | n, _, _, .v (.byt _), h => by unfold D.ok at h; cases h
  | n, _, _, .v (.flt _), h => by unfold D.ok at h; cases h
  | n, _, _, .v (.ref _), h => by unfold D.ok at h; cases h
  | n, _, _, .v (.ty _), h => by unfold D.ok at h; cases h
  | 0, _, _, .l s r, h => by unfold D.ok at h; cases h
  | 0, _, _, .t s r, h => by unfold D.ok at h; cases h
  | n + 1, _, _, .l s r, h => by unfold D.ok at h; unfold D.py; exact .lst s (IsL.dp r h)
  | n + 1, _, _, .t s r, h => by unfold D.ok at h; unfold D.py; exact .tup s (IsL.dp r h)
theorem IsL.dp : ∀ {n : Nat} {vs : List V} {ds : List D}, IsL K H vs ds → D.oks n ds = true → DpAll K H vs (D.pys ds)
  | n, _, _, .nil, _ => by unfold D.pys; exact .nil
  | n, _, _, .cons h r, q => by
    unfold D.oks at q
    rw [Bool.and_eq_true] at q
    unfold D.pys
    exact .cons (Is.dp h q.1) (IsL.dp r q.2)
end
end

end
section

/-! ### == -/
mutual
/-- the texts in it are of code points -/
def D.tx : D → Bool
  | .v (.str x) => PyData.strOk x
  | .v _ => true
  | .l ds => D.txs ds
  | .t ds => D.txs ds
def D.txs : List D → Bool
  | [] => true
  | d :: ds => D.tx d && D.txs ds
end
mutual
theorem D.lay : ∀ {n : Nat} {d : D}, d.ok n = true → d.tx = true → d.py.canLay0 = true ∧ d.py.depth ≤ n
  | n, .v .non, _, _ => by unfold D.py; exact ⟨rfl, by simp [PyData.depth]⟩
  | n, .v (.bl b), _, _ => by unfold D.py; exact ⟨rfl, by simp [PyData.depth]⟩
  | n, .v (.int i), _, _ => by unfold D.py; exact ⟨rfl, by simp [PyData.depth]⟩
  | n, .v (.str x), _, h => by unfold D.tx at h; unfold D.py; exact ⟨by simpa [PyData.canLay0] using h, by simp [PyData.depth]⟩
  | n, .v (.byt _), h, _ => by unfold D.ok at h; cases h
  | n, .v (.flt _), h, _ => by unfold D.ok at h; cases h
  | n, .v (.ref _), h, _ => by unfold D.ok at h; cases h
  | n, .v (.ty _), h, _ => by unfold D.ok at h; cases h
  | 0, .l ds, h, _ => by unfold D.ok at h; cases h
  | 0, .t ds, h, _ => by unfold D.ok at h; cases h
  | n + 1, .l ds, h, g => by
    unfold D.ok at h; unfold D.tx at g; unfold D.py
    have q := D.lays h g
    exact ⟨by simpa [PyData.canLay0] using q.1, by simp only [PyData.depth]; omega⟩
  | n + 1, .t ds, h, g => by
    unfold D.ok at h; unfold D.tx at g; unfold D.py
    have q := D.lays h g
    exact ⟨by simpa [PyData.canLay0] using q.1, by simp only [PyData.depth]; omega⟩
theorem D.lays : ∀ {n : Nat} {ds : List D}, D.oks n ds = true → D.txs ds = true → PyData.canLayAll0 (D.pys ds) = true ∧ PyData.depthAll (D.pys ds) ≤ n
  | n, [], _, _ => by unfold D.pys; exact ⟨by simp [PyData.canLayAll0], by simp [PyData.depthAll]⟩
  | n, d :: ds, h, g => by
    unfold D.oks at h; unfold D.txs at g
    rw [Bool.and_eq_true] at h g
    have q1 := D.lay h.1 g.1
    have q2 := D.lays h.2 g.2
    unfold D.pys
    exact ⟨by simp [PyData.canLayAll0, q1.1, q2.1], by simp only [PyData.depthAll]; omega⟩
end
theorem D.shaped {n : Nat} {d : D} (h : d.ok n = true) (g : d.tx = true) (hn : n ≤ 64) : SeqAt.shaped d.py = true := by
  have q := D.lay h g
  unfold SeqAt.shaped
  rw [q.1, decide_eq_true (Nat.le_trans q.2 hn)]
  rfl
section
variable {K : PySem.W.Frag} {B : Hp} {Γ : Gm} {k : Kd} {ta tb te : TE} {d e : D}
/-- plain: what == is asked of -/
def D.pl (d : D) : Bool := d.ok 9 && d.tx
theorem ev_eq (ha : Ev K B .h ta Γ d) (hb : Ev K B .h tb Γ e) (hd : d.pl = true) (he : e.pl = true) : Ev K B k (tOp (rEqD K) ta tb) Γ (.b (eqD d e)) := ev_op ha hb fun x y H Q hx hy q => by
  unfold D.pl at hd he
  rw [Bool.and_eq_true] at hd he
  exact ⟨d.py, e.py, hx.dp hd.1, hy.dp he.1, D.shaped hd.1 hd.2 (by decide), D.shaped he.1 he.2 (by decide), q⟩
theorem ev_ne (ha : Ev K B .h ta Γ d) (hb : Ev K B .h tb Γ e) (hd : d.pl = true) (he : e.pl = true) : Ev K B k (tOp (rNeD K) ta tb) Γ (.b (!eqD d e)) := ev_op ha hb fun x y H Q hx hy q => by
  unfold D.pl at hd he
  rw [Bool.and_eq_true] at hd he
  exact ⟨d.py, e.py, hx.dp hd.1, hy.dp he.1, D.shaped hd.1 hd.2 (by decide), D.shaped he.1 he.2 (by decide), q⟩
end

/-! ### states -/
def St (K : PySem.W.Frag) (B Φ : Hp) (Γ : Gm) (σ : L2.St) (H : Hp) : Prop := ∃ F G, Ex Φ F ∧ Sta K B Γ σ F G H
/-- the statement's reading holds in every such state -/
def StD (K : PySem.W.Frag) (B Φ : Hp) (t : TS) (D : Ends) (Γ : Gm) : Prop := ∀ σ H, St K B Φ Γ σ H → t D σ H
def NxO (K : PySem.W.Frag) (B Φ : Hp) (nx : L2.St → Hp → Prop) (Γ : Gm) : Prop := ∀ σ H, St K B Φ Γ σ H → nx σ H
/-- what may be given back: a datum, new or a leaf -/
def Ret (K : PySem.W.Frag) (B : Hp) (rt : VK) (d : D) : Prop := ∀ v N H', Ex B H' → (∀ a, N a ≠ none → B a = none) → Ex N H' → Is K N v d → rt v H'
/-- what may be given back that leans on what was handed in -/
def RetR (K : PySem.W.Frag) (B : Hp) (rt : VK) (d : D) : Prop := ∀ v N H', Ex B H' → (∀ a, N a ≠ none → B a = none) → Ex N H' → Is K (un B N) v d → rt v H'

inductive Le : Gm → Gm → Prop
  | nil : Le [] []
  | n {s : Slot} {Γ Δ : Gm} : Le Γ Δ → Le (s :: Γ) (.n :: Δ)
  | s {s : Slot} {Γ Δ : Gm} : Le Γ Δ → Le (s :: Γ) (s :: Δ)
  | fr {d : D} {Γ Δ : Gm} : Le Γ Δ → Le (.f d :: Γ) (.r d :: Δ)
theorem Le.len : ∀ {Γ Δ : Gm}, Le Γ Δ → Γ.length = Δ.length
  | _, _, .nil => rfl
  | _, _, .n h => congrArg (· + 1) h.len
  | _, _, .s h => congrArg (· + 1) h.len
  | _, _, .fr h => congrArg (· + 1) h.len
theorem Le.refl : ∀ Γ : Gm, Le Γ Γ
  | [] => .nil
  | _ :: Γ => .s (Le.refl Γ)
theorem Le.get : ∀ {Γ Δ : Gm} {i : Nat} {w : Slot}, Le Γ Δ → Δ[i]? = some w → w = .n ∨ Γ[i]? = some w ∨ ∃ d, Γ[i]? = some (.f d) ∧ w = .r d
  | _, _, _, _, .nil, h => by simp at h
  | _, _, 0, w, .n _, h => by simp at h; exact .inl h.symm
  | _, _, 0, w, .s _, h => by simp at h; exact .inr (.inl (by simp [h]))
  | _, _, 0, w, .fr (d := d) _, h => by simp at h; exact .inr (.inr ⟨d, by simp, h.symm⟩)
  | _, _, i + 1, w, .n r, h => by simpa using Le.get r (by simpa using h)
  | _, _, i + 1, w, .s r, h => by simpa using Le.get r (by simpa using h)
  | _, _, i + 1, w, .fr r, h => by simpa using Le.get r (by simpa using h)
section
variable {K : PySem.W.Frag} {B Φ Φ' F H : Hp} {Γ Δ : Gm} {σ : L2.St} {G : Nat → Hp} {nx : L2.St → Hp → Prop} {D₀ : Ends} {t u : TS} {te ta tb tl : TE} {tt : TT} {φ : D → Prop} {d : D} {ds es : List D} {k : Kd} {i j : Nat} {g : TG}
theorem Sta.le (S : Sta K B Γ σ F G H) (l : Le Γ Δ) : Sta K B Δ σ F G H where
  len := S.len.trans l.len
  bh := S.bh
  fh := S.fh
  bf := S.bf
  gh := S.gh
  gb := S.gb
  gg := S.gg
  sl := fun i s h => by
    rcases l.get h with e | e | ⟨d, e, e2⟩
    · subst e; trivial
    · exact S.sl i s e
    · subst e2
      obtain ⟨v, h1, h2⟩ := S.sl i _ e
      exact ⟨v, h1, h2.mono un_l⟩
theorem SlotOk.at_ {F : Hp} {G : Hp} {σ σ' : L2.St} {i : Nat} (e : σ[i]? = σ'[i]?) : ∀ {s : Slot}, SlotOk K B F G σ i s → SlotOk K B F G σ' i s
  | .n, _ => trivial
  | .f _, ⟨v, h, q⟩ => ⟨v, e ▸ h, q⟩
  | .r _, ⟨v, h, q⟩ => ⟨v, e ▸ h, q⟩
  | .ol k _, ⟨p, xs, h, g, q⟩ => ⟨p, xs, e ▸ h, g, q⟩
  | .oo A, ⟨v, h, q⟩ => ⟨v, e ▸ h, q⟩
/-- slot i changed: its value, its own heap -/
theorem Sta.put (S : Sta K B Γ σ F G H) (i : Nat) (v : V) (s : Slot) (g : Hp) (hg : Ex g H) (hb : ∀ a, g a ≠ none → B a = none ∧ F a = none) (hd : ∀ j a, j ≠ i → g a ≠ none → G j a = none)
    (ok : ∀ σ' : L2.St, σ'[i]? = some (some v) → SlotOk K B F g σ' i s) : Sta K B (Γ.set i s) (σ.set i (some v)) F (fun j => if j = i then g else G j) H where
  len := by rw [List.length_set, List.length_set]; exact S.len
  bh := S.bh
  fh := S.fh
  bf := S.bf
  gh := fun j => by
    by_cases e : j = i
    · simp only [e, if_true]; exact hg
    · simp only [e, if_false]; exact S.gh j
  gb := fun j a => by
    by_cases e : j = i
    · simp only [e, if_true]; exact hb a
    · simp only [e, if_false]; exact S.gb j a
  gg := fun j l a hjl => by
    by_cases e : j = i
    · have el : l ≠ i := fun z => hjl (e.trans z.symm)
      simp only [e, el, if_true, if_false]
      exact hd l a el
    · by_cases el : l = i
      · simp only [e, el, if_true, if_false]
        intro h
        cases q : g a with
        | none => rfl
        | some o => exact absurd (hd j a e (some_ne q)) h
      · simp only [e, el, if_false]; exact S.gg j l a hjl
  sl := fun j s' h => by
    by_cases e : j = i
    · subst e
      by_cases hl : j < Γ.length
      · rw [List.getElem?_set_self hl] at h
        cases h
        simp only [if_true]
        exact ok _ (by rw [List.getElem?_set_self (by rw [S.len]; exact hl)])
      · rw [List.getElem?_eq_none (by rw [List.length_set]; omega)] at h
        cases h
    · rw [List.getElem?_set_ne (Ne.symm e)] at h
      simp only [e, if_false]
      exact (S.sl j s' h).at_ (List.getElem?_set_ne (Ne.symm e)).symm
theorem Sta.put0 (S : Sta K B Γ σ F G H) (i : Nat) (v : V) (s : Slot) (ok : ∀ σ' : L2.St, σ'[i]? = some (some v) → SlotOk K B F H0 σ' i s) : Sta K B (Γ.set i s) (σ.set i (some v)) F (fun j => if j = i then H0 else G j) H :=
  S.put i v s H0 (fun a o e => nomatch e) (fun a z => absurd rfl z) (fun j a _ z => absurd rfl z) ok
theorem NxO.le (h : NxO K B Φ nx Δ) (l : Le Γ Δ) : NxO K B Φ nx Γ := fun σ H ⟨F, G, e, S⟩ => h σ H ⟨F, G, e, S.le l⟩
theorem NxO.st (l : Le Γ Δ) : NxO K B Φ (St K B Φ Δ) Γ := fun σ H ⟨F, G, e, S⟩ => ⟨F, G, e, S.le l⟩
theorem StD.le (h : StD K B Φ t D₀ Δ) (l : Le Γ Δ) : StD K B Φ t D₀ Γ := fun σ H ⟨F, G, e, S⟩ => h σ H ⟨F, G, e, S.le l⟩
theorem StD.phi (h : StD K B Φ' t D₀ Γ) (e : Ex Φ' Φ) : StD K B Φ t D₀ Γ := fun σ H ⟨F, G, x, S⟩ => h σ H ⟨F, G, e.trans x, S⟩
/-- the rest of a block -/
theorem sd_seq (h : StD K B Φ t { D₀ with nx := u D₀ } Γ) : StD K B Φ (tSeq t u) D₀ Γ := h
theorem sd_next (h : NxO K B Φ D₀.nx Γ) : StD K B Φ tNext D₀ Γ := h
theorem sd_brk (h : NxO K B Φ D₀.bk Γ) : StD K B Φ tBreak D₀ Γ := h
theorem sd_cont (h : NxO K B Φ D₀.ct Γ) : StD K B Φ tCont D₀ Γ := h
/-- some state of a family -/
def StE (K : PySem.W.Frag) (B Φ : Hp) (I : Gm → Prop) (σ : L2.St) (H : Hp) : Prop := ∃ Γ, I Γ ∧ St K B Φ Γ σ H
theorem NxO.ste {I : Gm → Prop} (h : I Δ) (l : Le Γ Δ) : NxO K B Φ (StE K B Φ I) Γ := fun σ H ⟨F, G, e, S⟩ => ⟨Δ, h, F, G, e, S.le l⟩
theorem sd_cut {Mid : Gm → Prop} (h : StD K B Φ t { D₀ with nx := StE K B Φ Mid } Γ) (k : ∀ Δ, Mid Δ → StD K B Φ u D₀ Δ) : StD K B Φ (tCut t u) D₀ Γ := fun σ H s => ⟨StE K B Φ Mid, h σ H s, fun σ' H' ⟨Δ, m, q⟩ => k Δ m σ' H' q⟩
/-- name = expression: a new datum | one that may lean on what was handed in | a new list, owned -/
theorem sd_setW (h : EvW K B .f te Γ φ) (n : ∀ d, φ d → NxO K B Φ D₀.nx (Γ.set i (.f d))) : StD K B Φ (tAsg te (gName i)) D₀ Γ := fun σ H ⟨F, G, e, S⟩ =>
  h σ F G H S _ fun v d F1 H1 p g1 i1 => n d p _ _ ⟨F1, _, e.trans g1.f, (S.grow g1).put0 i v (.f d) fun σ' q => ⟨v, q, i1⟩⟩
theorem sd_set (h : Ev K B .f te Γ d) (n : NxO K B Φ D₀.nx (Γ.set i (.f d))) : StD K B Φ (tAsg te (gName i)) D₀ Γ := sd_setW h fun x p => by subst p; exact n
theorem sd_setRW (h : EvW K B .r te Γ φ) (n : ∀ d, φ d → NxO K B Φ D₀.nx (Γ.set i (.r d))) : StD K B Φ (tAsg te (gName i)) D₀ Γ := fun σ H ⟨F, G, e, S⟩ =>
  h σ F G H S _ fun v d F1 H1 p g1 i1 => n d p _ _ ⟨F1, _, e.trans g1.f, (S.grow g1).put0 i v (.r d) fun σ' q => ⟨v, q, i1⟩⟩
theorem sd_setR (h : Ev K B .r te Γ d) (n : NxO K B Φ D₀.nx (Γ.set i (.r d))) : StD K B Φ (tAsg te (gName i)) D₀ Γ := sd_setRW h fun x p => by subst p; exact n
abbrev one (p : Addr) (o : HO) : Hp := upd H0 p o
theorem one_ne {p a : Addr} {o : HO} (h : one p o a ≠ none) : a = p := by
  by_cases e : a = p
  · exact e
  · rw [show one p o a = H0 a from upd_ne e] at h; exact absurd rfl h
theorem one_ex {p : Addr} {o : HO} {H : Hp} (h : H p = some o) : Ex (one p o) H := fun a u q => by
  have e := one_ne (some_ne q)
  subst e
  rw [show one a o a = some o from upd_same] at q
  cases q; exact h
theorem sd_setL (h : EvN K B k te Γ ds) (n : NxO K B Φ D₀.nx (Γ.set i (.ol k ds))) : StD K B Φ (tAsg te (gName i)) D₀ Γ := fun σ H ⟨F, G, e, S⟩ =>
  h σ F G H S _ fun p xs F1 H1 g1 h0 hf h1 i1 => n _ _ ⟨F1, _, e.trans g1.f, (S.grow g1).put i (.ref p) (.ol k ds) (one p (.lst xs)) (one_ex h1) (fun a z => by rw [one_ne z]; exact ⟨none_of_ex S.bh h0, hf⟩)
    (fun j a hj z => by rw [one_ne z]; exact none_of_ex (S.gh j) h0) fun σ' q => ⟨p, xs, q, upd_same, i1⟩⟩
/-- an expression whose value is dropped -/
theorem sd_drop (h : EvW K B k te Γ φ) (n : NxO K B Φ D₀.nx Γ) : StD K B Φ (tDrop te) D₀ Γ := fun σ H ⟨F, G, e, S⟩ =>
  h σ F G H S _ fun v d F1 H1 p g1 i1 => n _ _ ⟨F1, G, e.trans g1.f, S.grow g1⟩
theorem sd_if {b : Bool} (h : EvT K B tt Γ b) (h1 : b = true → StD K B Φ t D₀ Γ) (h2 : b = false → StD K B Φ u D₀ Γ) : StD K B Φ (tIfS tt t u) D₀ Γ := fun σ H ⟨F, G, e, S⟩ => h σ F G H S _ fun F1 H1 g1 => by
  cases b with
  | true => exact h1 rfl σ H1 ⟨F1, G, e.trans g1.f, S.grow g1⟩
  | false => exact h2 rfl σ H1 ⟨F1, G, e.trans g1.f, S.grow g1⟩
/-- return -/
theorem sd_retW (h : EvW K B .f te Γ φ) (n : ∀ d, φ d → Ret K B D₀.rt d) : StD K B Φ (tRet te) D₀ Γ := fun σ H ⟨F, G, e, S⟩ =>
  h σ F G H S _ fun v d F1 H1 p g1 i1 => n d p v F1 H1 (S.bh.trans g1.h) (S.bf' g1) g1.fh i1
theorem sd_ret (h : Ev K B .f te Γ d) (n : Ret K B D₀.rt d) : StD K B Φ (tRet te) D₀ Γ := sd_retW h fun x p => by subst p; exact n
theorem sd_retRW (h : EvW K B .r te Γ φ) (n : ∀ d, φ d → RetR K B D₀.rt d) : StD K B Φ (tRet te) D₀ Γ := fun σ H ⟨F, G, e, S⟩ =>
  h σ F G H S _ fun v d F1 H1 p g1 i1 => n d p v F1 H1 (S.bh.trans g1.h) (S.bf' g1) g1.fh i1
theorem sd_retR (h : Ev K B .r te Γ d) (n : RetR K B D₀.rt d) : StD K B Φ (tRet te) D₀ Γ := sd_retRW h fun x p => by subst p; exact n
/-- an owned list is frozen -/
theorem Sta.fz (S : Sta K B Γ σ F G H) (h : Γ[i]? = some (.ol .f ds)) : ∃ F', Ex F F' ∧ Sta K B (Γ.set i (.f (.l ds))) σ F' (fun j => if j = i then H0 else G j) H := by
  obtain ⟨p, xs, h1, h2, h3⟩ := S.sl i _ h
  have hp := S.gb i p (some_ne h2)
  have ex : Ex F (upd F p (.lst xs)) := Ex.new hp.2
  have bf' : ∀ a, upd F p (.lst xs) a ≠ none → B a = none := fun a z => by
    by_cases e : a = p
    · subst e; exact hp.1
    · rw [upd_ne e] at z; exact S.bf a z
  refine ⟨upd F p (.lst xs), ex, ?_⟩
  refine ⟨by rw [List.length_set]; exact S.len, S.bh, fun a u q => ?_, bf', fun j => ?_, fun j a z => ?_, fun j l a hjl z => ?_, fun j s' hs => ?_⟩
  · by_cases e : a = p
    · subst e; rw [upd_same] at q; cases q; exact S.gh i _ _ h2
    · rw [upd_ne e] at q; exact S.fh a u q
  · by_cases e : j = i
    · simp only [e, if_true]; exact fun a o q => nomatch q
    · simp only [e, if_false]; exact S.gh j
  · by_cases e : j = i
    · simp only [e, if_true] at z; exact absurd rfl z
    · simp only [e, if_false] at z
      have q := S.gb j a z
      refine ⟨q.1, ?_⟩
      have ne : a ≠ p := fun w => by
        subst w
        exact some_ne h2 (S.gg j i a e z)
      rw [upd_ne ne]; exact q.2
  · by_cases e : j = i
    · simp only [e, if_true] at z; exact absurd rfl z
    · simp only [e, if_false] at z
      by_cases el : l = i
      · simp only [el, if_true]
      · simp only [el, if_false]; exact S.gg j l a hjl z
  · by_cases e : j = i
    · subst e
      have hl : j < Γ.length := by
        obtain ⟨w, _⟩ := List.getElem?_eq_some_iff.mp h
        exact w
      rw [List.getElem?_set_self hl] at hs
      cases hs
      exact ⟨.ref p, h1, .l (sq_of upd_same) (IsL.mono ex h3)⟩
    · rw [List.getElem?_set_ne (Ne.symm e)] at hs
      simp only [e, if_false]
      exact SlotOk.mono ex bf' (S.sl j s' hs)
theorem NxO.fz (i : Nat) (ds : List D) (h : NxO K B Φ nx (Γ.set i (.f (.l ds)))) (e : Γ[i]? = some (.ol .f ds)) : NxO K B Φ nx Γ := fun σ H ⟨F, G, x, S⟩ => by
  obtain ⟨F', ex, S'⟩ := S.fz e
  exact h σ H ⟨F', _, x.trans ex, S'⟩
theorem StD.fz (i : Nat) (ds : List D) (h : StD K B Φ t D₀ (Γ.set i (.f (.l ds)))) (e : Γ[i]? = some (.ol .f ds)) : StD K B Φ t D₀ Γ := NxO.fz i ds h e
theorem sd_retL (e : Γ[i]? = some (.ol .f ds)) (n : Ret K B D₀.rt (.l ds)) : StD K B Φ (tRet (tVar i)) D₀ Γ := by
  have hl : i < Γ.length := (List.getElem?_eq_some_iff.mp e).1
  exact StD.fz i ds (sd_ret (ev_var (by rw [List.getElem?_set_self hl]; rfl)) n) e
/-- xs.append(e) -/
theorem IsK.kd {v : V} {H : Hp} : ∀ {k : Kd}, (k = .f ∨ k = .r) → IsK K B F H v d k → Is K (k.at B F) v d
  | .f, _, h => h
  | .r, _, h => h
  | .h, h, _ => by rcases h with h | h <;> cases h
/-- the list of slot i is written -/
theorem Sta.own (S : Sta K B Γ σ F G H) {p : Addr} {xs ys : List V} {es : List D} (h : Γ[i]? = some (.ol k ds)) (h1 : σ[i]? = some (some (.ref p))) (h2 : G i p = some (.lst xs)) (r : IsL K (k.at B F) ys es) :
    Sta K B (Γ.set i (.ol k es)) σ F (fun j => if j = i then one p (.lst ys) else G j) (upd H p (.lst ys)) := by
  have hp := S.gb i p (some_ne h2)
  have hl : i < Γ.length := (List.getElem?_eq_some_iff.mp h).1
  have nep : ∀ {X : Hp}, X p = none → ∀ a, X a ≠ none → a ≠ p := fun hx a z w => by subst w; exact z hx
  have keep : ∀ {X : Hp}, Ex X H → X p = none → Ex X (upd H p (.lst ys)) := fun {X} ex hx a u q => by
    rw [upd_ne (nep hx a (some_ne q))]; exact ex a u q
  refine ⟨by rw [List.length_set]; exact S.len, keep S.bh hp.1, keep S.fh hp.2, S.bf, fun j => ?_, fun j a z => ?_, fun j l a hjl z => ?_, fun j s' hs => ?_⟩
  · by_cases e : j = i
    · simp only [e, if_true]; exact one_ex upd_same
    · simp only [e, if_false]
      refine keep (S.gh j) ?_
      cases q : G j p with
      | none => rfl
      | some o => exact absurd (S.gg j i p e (some_ne q)) (some_ne h2)
  · by_cases e : j = i
    · simp only [e, if_true] at z
      rw [one_ne z]; exact hp
    · simp only [e, if_false] at z; exact S.gb j a z
  · by_cases e : j = i
    · have el : l ≠ i := fun w => hjl (e.trans w.symm)
      simp only [e, if_true] at z
      simp only [el, if_false]
      rw [one_ne z]
      cases q : G l p with
      | none => rfl
      | some o => exact absurd (S.gg l i p el (some_ne q)) (some_ne h2)
    · simp only [e, if_false] at z
      by_cases el : l = i
      · simp only [el, if_true]
        have q := S.gg j i a e z
        have ne : a ≠ p := fun w => by subst w; exact some_ne h2 q
        exact upd_ne ne
      · simp only [el, if_false]; exact S.gg j l a hjl z
  · by_cases e : j = i
    · subst e
      rw [List.getElem?_set_self hl] at hs
      cases hs
      simp only [if_true]
      exact ⟨p, ys, h1, upd_same, r⟩
    · rw [List.getElem?_set_ne (Ne.symm e)] at hs
      simp only [e, if_false]
      exact S.sl j s' hs
theorem sd_app (h : Γ[i]? = some (.ol k ds)) (hk : k = .f ∨ k = .r) (he : EvW K B k te Γ φ) (hz : ds.length < 100000) (n : ∀ d, φ d → NxO K B Φ D₀.nx (Γ.set i (.ol k (ds ++ [d])))) :
    StD K B Φ (tDrop (tBM K "list" rAppend (tVar i) (tCons te tNil))) D₀ Γ := fun σ H ⟨F, G, e, S⟩ => by
  obtain ⟨p, xs, h1, h2, h3⟩ := S.sl i _ h
  refine ⟨_, h1, .inl ⟨rfl, _, sq_of (S.gh i p _ h2)⟩, ?_⟩
  refine he σ F G H S _ fun v d F1 H1 p1 g1 i1 => ?_
  have S1 := S.grow g1
  refine ⟨p, xs, v, rfl, rfl, S1.gh i p _ h2, sz_lt (by rw [h3.len]; exact hz), n d p1 _ _ ⟨F1, _, e.trans g1.f, S1.own h h1 h2 ?_⟩⟩
  exact IsL.app (IsL.mono (k.at_mono g1.f (S.bf' g1)) h3) (IsL.one (IsK.kd hk i1))
/-- xs[j] = e -/
theorem sd_setI {z : Int} {m : Nat} (h : Γ[i]? = some (.ol k ds)) (hk : k = .f ∨ k = .r) (he : EvW K B k te Γ φ) (hj : Ev K B .h ta Γ (.i z)) (hz : ixN ds.length z = some m) (n : ∀ d, φ d → NxO K B Φ D₀.nx (Γ.set i (.ol k (ds.set m d)))) :
    StD K B Φ (tAsg te (gSub (tVar i) ta rSetL)) D₀ Γ := fun σ H ⟨F, G, e, S⟩ => by
  refine he σ F G H S _ fun v d F1 H1 p1 g1 i1 => ?_
  have S1 := S.grow g1
  obtain ⟨p, xs, h1, h2, h3⟩ := S1.sl i _ h
  refine ⟨_, h1, ?_⟩
  refine hj σ F1 G H1 S1 _ fun w d2 F2 H2 p2 g2 i2 => ?_
  subst p2
  cases Is.leaf i2
  have S2 := S1.grow g2
  refine ⟨p, xs, z, m, rfl, rfl, S2.gh i p _ h2, by rw [h3.len]; exact hz, n d p1 _ _ ⟨F2, _, (e.trans g1.f).trans g2.f, S2.own h h1 h2 ?_⟩⟩
  exact IsL.set (Is.mono (k.at_mono g2.f (S1.bf' g2)) (IsK.kd hk i1)) m (IsL.mono (k.at_mono g2.f (S1.bf' g2)) h3)
/-- the def's entry -/
theorem sd_start {N : List Str} {vs : List V} {H : Hp} (h : IsL K H vs ds) (hl : vs.length ≤ N.length) (b : StD K H H0 t D₀ (ds.map .r ++ List.replicate (N.length - ds.length) .n)) : t D₀ (L2.start N vs) H := by
  refine b _ _ ⟨H0, fun _ => H0, Ex.refl _, ?_⟩
  have hlen := h.len
  refine ⟨?_, Ex.refl H, fun a o q => (nomatch q), fun a z => absurd rfl z, fun i a o q => (nomatch q), fun i a z => absurd rfl z, fun i j a _ z => absurd rfl z, fun i s hs => ?_⟩
  · unfold L2.start
    rw [List.length_append, List.length_append, List.length_map, List.length_map, List.length_replicate, List.length_replicate, hlen]
  · by_cases hi : i < ds.length
    · rw [List.getElem?_append_left (by simpa using hi), List.getElem?_map] at hs
      cases e : ds[i]? with
      | none => rw [e] at hs; cases hs
      | some d =>
        rw [e] at hs
        cases hs
        obtain ⟨x, h1, h2⟩ := h.get e
        refine ⟨x, ?_, h2.mono (fun a o q => q)⟩
        unfold L2.start
        rw [List.getElem?_append_left (by rw [List.length_map, hlen]; exact hi), List.getElem?_map, h1]
        rfl
    · rw [List.getElem?_append_right (by simpa using Nat.le_of_not_lt hi), List.getElem?_replicate] at hs
      split at hs
      · cases hs; trivial
      · cases hs
end

end
section

def Slot.of : Kd → D → Slot
  | .f, d => .f d
  | _, d => .r d
section
variable {K : PySem.W.Frag} {B Φ Φ' F H : Hp} {Γ Δ : Gm} {σ : L2.St} {G : Nat → Hp} {nx : L2.St → Hp → Prop} {D₀ : Ends} {t u tb : TS} {te tl tx : TE} {ta tr : TA} {tt : TT} {φ : D → Prop} {d : D} {ds es : List D} {k : Kd} {i j : Nat} {g : TG}

/-! ### for -/
/-- for x in range(n) -/
theorem sd_forR1 {n : Int} (h : EvA K B .h ta Γ [.i n]) (hn : -100000 ≤ n ∧ n ≤ 100000) (Iv : Nat → Gm → Prop) (h0 : ∃ Δ, Iv 0 Δ ∧ Le Γ Δ)
    (hs : ∀ (m : Nat) Δ, (m : Int) < n → Iv m Δ → StD K B Φ tb { D₀ with nx := StE K B Φ (Iv (m + 1)), ct := StE K B Φ (Iv (m + 1)), bk := D₀.nx } (Δ.set j (.f (.i (m : Int))))) (hd : ∀ Δ, Iv n.toNat Δ → NxO K B Φ D₀.nx Δ) :
    StD K B Φ (tFor (iRng1 ta) (gName j) tb) D₀ Γ := fun σ H ⟨F, G, e, S⟩ =>
  h σ F G H S _ fun vs F1 H1 g1 i1 => by
    cases i1 with
    | cons a r =>
      cases r; cases a
      obtain ⟨Δ0, p0, l0⟩ := h0
      refine ⟨n, rfl, by omega, by omega, for_range (lo := 0) (n := n.toNat) (fun m => StE K B Φ (Iv m)) ⟨Δ0, p0, F1, G, e.trans g1.f, (S.grow g1).le l0⟩ (fun m σ' H' hm s => ?_) fun σ' H' ⟨Δ, p, s⟩ => hd Δ p σ' H' s⟩
      have e0 : (0 : Int) + (m : Int) = (m : Int) := Int.zero_add _
      show tb _ (σ'.set j (some (.int ((0 : Int) + (m : Int))))) H'
      rw [e0]
      obtain ⟨Δ, p, F2, G2, e2, S2⟩ := s
      exact hs m Δ (by omega) p _ _ ⟨F2, _, e2, S2.put0 j (.int m) (.f (.i (m : Int))) fun σ' q => ⟨_, q, .v _⟩⟩
/-- for x in range(a, n) -/
theorem sd_forR2 {a n : Int} (h : EvA K B .h ta Γ [.i a, .i n]) (ha : -100000 ≤ a ∧ a ≤ 100000 ∧ -100000 ≤ n ∧ n ≤ 100000) (Iv : Nat → Gm → Prop) (h0 : ∃ Δ, Iv 0 Δ ∧ Le Γ Δ)
    (hs : ∀ (m : Nat) Δ, a + (m : Int) < n → Iv m Δ → StD K B Φ tb { D₀ with nx := StE K B Φ (Iv (m + 1)), ct := StE K B Φ (Iv (m + 1)), bk := D₀.nx } (Δ.set j (.f (.i (a + (m : Int)))))) (hd : ∀ Δ, Iv (n - a).toNat Δ → NxO K B Φ D₀.nx Δ) :
    StD K B Φ (tFor (iRng2 ta) (gName j) tb) D₀ Γ := fun σ H ⟨F, G, e, S⟩ =>
  h σ F G H S _ fun vs F1 H1 g1 i1 => by
    cases i1 with
    | cons b r =>
      cases b
      cases r with
      | cons b r =>
        cases r; cases b
        obtain ⟨Δ0, p0, l0⟩ := h0
        refine ⟨a, n, rfl, by omega, for_range (lo := a) (n := (n - a).toNat) (fun m => StE K B Φ (Iv m)) ⟨Δ0, p0, F1, G, e.trans g1.f, (S.grow g1).le l0⟩ (fun m σ' H' hm s => ?_) fun σ' H' ⟨Δ, p, s⟩ => hd Δ p σ' H' s⟩
        obtain ⟨Δ, p, F2, G2, e2, S2⟩ := s
        exact hs m Δ (by omega) p _ _ ⟨F2, _, e2, S2.put0 j (.int (a + m)) (.f (.i (a + (m : Int)))) fun σ' q => ⟨_, q, .v _⟩⟩
/-- the list of a datum, its cells staying -/
theorem IsK.lst {v : V} (hk : k = .f ∨ k = .r) (h : IsK K B F H v (.l ds) k) : ∃ a xs, v = .ref a ∧ SqL K (k.at B F) a xs ∧ IsL K (k.at B F) xs ds := by
  have h := IsK.kd hk h
  cases h with
  | l s r => exact ⟨_, _, rfl, s, r⟩
/-- for x in xs; in the turn Φ' has the frozen part ahead of the loop -/
theorem sd_forL (hk : k = .f ∨ k = .r) (h : Ev K B k tl Γ (.l ds)) (Iv : Nat → Gm → Prop) (h0 : ∃ Δ, Iv 0 Δ ∧ Le Γ Δ)
    (hs : ∀ (Φ' : Hp) (m : Nat) (x : D) Δ, ds[m]? = some x → Iv m Δ → StD K B Φ' tb { D₀ with nx := StE K B Φ' (Iv (m + 1)), ct := StE K B Φ' (Iv (m + 1)), bk := D₀.nx } (Δ.set j (Slot.of k x))) (hd : ∀ Δ, Iv ds.length Δ → NxO K B Φ D₀.nx Δ) :
    StD K B Φ (tFor (iList K tl) (gName j) tb) D₀ Γ := fun σ H ⟨F, G, e, S⟩ =>
  h σ F G H S _ fun v d1 F1 H1 p1 g1 i1 => by
    subst p1
    obtain ⟨a, xs, rfl, s, r⟩ := IsK.lst hk i1
    have S1 := S.grow g1
    have kh : ∀ {F2 G2 σ2 H2 Δ}, Sta K B Δ σ2 F2 G2 H2 → Ex (k.at B F2) H2 := fun {F2 G2 σ2 H2 Δ} S2 => by
      rcases hk with hk | hk <;> subst hk
      · exact S2.fh
      · exact S2.rh
    obtain ⟨Δ0, p0, l0⟩ := h0
    refine ⟨a, rfl, ⟨xs, ex_l (kh S1) s⟩, for_list (K := K) (a := a) (xs := xs) (fun m => StE K B F1 (Iv m)) ⟨Δ0, p0, F1, G, Ex.refl _, S1.le l0⟩ (fun m σ' H' _ ⟨Δ, p, F2, G2, e2, S2⟩ => ex_l (kh S2) (ex_l (k.at_mono e2 S2.bf) s)) (fun m x σ' H' hx ⟨Δ, p, F2, G2, e2, S2⟩ => ?_) fun σ' H' ⟨Δ, p, F2, G2, e2, S2⟩ => ?_⟩
    · obtain ⟨y, h1, h2⟩ := r.getV hx
      have h2 := h2.mono (k.at_mono e2 S2.bf)
      refine hs F1 m y Δ h1 p _ _ ⟨F2, _, e2, S2.put0 j x (Slot.of k y) fun σ' q => ?_⟩
      rcases hk with hk | hk <;> subst hk
      · exact ⟨x, q, h2⟩
      · exact ⟨x, q, h2⟩
    · rw [r.len] at p
      exact hd Δ p σ' H' ⟨F2, G2, (e.trans g1.f).trans e2, S2⟩

/-! ### comprehensions -/
def wipeG : Gm → List Nat → Gm
  | Γ, [] => Γ
  | Γ, v :: vs => (wipeG Γ vs).set v .n
theorem Sta.setN (S : Sta K B Γ σ F G H) (i : Nat) (v : Option V) : Sta K B (Γ.set i .n) (σ.set i v) F G H where
  len := by rw [List.length_set, List.length_set]; exact S.len
  bh := S.bh
  fh := S.fh
  bf := S.bf
  gh := S.gh
  gb := S.gb
  gg := S.gg
  sl := fun j s h => by
    by_cases e : j = i
    · subst e
      by_cases hl : j < Γ.length
      · rw [List.getElem?_set_self hl] at h
        cases h; trivial
      · rw [List.getElem?_eq_none (by rw [List.length_set]; omega)] at h
        cases h
    · rw [List.getElem?_set_ne (Ne.symm e)] at h
      exact (S.sl j s h).at_ (List.getElem?_set_ne (Ne.symm e)).symm
theorem Sta.wipe (S : Sta K B Γ σ F G H) : ∀ vs : List Nat, Sta K B (wipeG Γ vs) (wipe σ vs) F G H
  | [] => S
  | v :: vs => by
    unfold wipeG L2.wipe
    exact (S.wipe vs).setN v none
/-- what has been given so far: the items with their tests -/
def kept (f : Nat → Bool) (v : Nat → D) (n : Nat) : List D := ((List.range n).filter f).map v
theorem kept_zero (f : Nat → Bool) (v : Nat → D) : kept f v 0 = [] := rfl
theorem kept_yes {n : Nat} {f : Nat → Bool} {v : Nat → D} (h : f n = true) : kept f v (n + 1) = kept f v n ++ [v n] := by
  unfold kept
  rw [List.range_succ, List.filter_append, List.map_append, List.filter_cons, if_pos h]
  rfl
theorem kept_no {n : Nat} {f : Nat → Bool} {v : Nat → D} (h : f n = false) : kept f v (n + 1) = kept f v n := by
  unfold kept
  rw [List.range_succ, List.filter_append, List.map_append, List.filter_cons, if_neg (by rw [h]; decide)]
  show _ ++ [] = _
  rw [List.append_nil]
theorem kept_len (n : Nat) (f : Nat → Bool) (v : Nat → D) : (kept f v n).length ≤ n := by
  unfold kept
  rw [List.length_map]
  have h := List.length_filter_le f (List.range n)
  rw [List.length_range] at h
  exact h
theorem kept_all (n : Nat) (v : Nat → D) : kept (fun _ => true) v n = (List.range n).map v := by
  unfold kept
  rw [List.filter_eq_self.mpr (fun _ _ => rfl)]
/-- the new list within a comprehension: at L, beside the state -/
def Cs (K : PySem.W.Frag) (B F1 : Hp) (Γ : Gm) (σ : L2.St) (G : Nat → Hp) (H1 : Hp) (k : Kd) (f : Nat → Bool) (v : Nat → D) (L : Addr) (m : Nat) (H' : Hp) : Prop :=
  ∃ F' xs, Sta K B Γ σ F' G H' ∧ Ex H1 H' ∧ Ex F1 F' ∧ (∀ a, F' a ≠ none → F1 a = none → H1 a = none) ∧ F' L = none ∧ H' L = some (.lst xs) ∧ IsL K (k.at B F') xs (kept f v m)
theorem Cs.turn {F1 H1 : Hp} {f : Nat → Bool} {v : Nat → D} {L : Addr} {m : Nat} {H' : Hp} {Γ' : Gm} {σ' : L2.St} (hk : k = .f ∨ k = .r) (S0 : Sta K B Γ σ F1 G H1) (hL : H1 L = none) (c : Cs K B F1 Γ σ G H1 k f v L m H') (hm : m < 50000)
    (hS : ∀ F2 H2, Sta K B Γ σ F2 G H2 → Ex F1 F2 → Sta K B Γ' σ' F2 (fun j => G j) H2 ∨ ∃ G', Sta K B Γ' σ' F2 G' H2) (ht : EvT K B tt Γ' (f m)) (he : f m = true → Ev K B k te Γ' (v m)) :
    tt σ' H' fun b H3 => if b = true then te σ' H3 fun y H4 => ∃ acc, H4 L = some (.lst acc) ∧ acc.length < sizeLine ∧ Cs K B F1 Γ σ G H1 k f v L (m + 1) (upd H4 L (.lst (acc ++ [y]))) else Cs K B F1 Γ σ G H1 k f v L (m + 1) H3 := by
  obtain ⟨F2, xs, S2, x2, f2, n2, l2, h2, i2⟩ := c
  obtain ⟨G', S2'⟩ : ∃ G', Sta K B Γ' σ' F2 G' H' := by
    rcases hS F2 H' S2 f2 with z | z
    · exact ⟨_, z⟩
    · exact z
  have lB : B L = none := none_of_ex S0.bh hL
  have lG : ∀ j, G j L = none := fun j => none_of_ex (S0.gh j) hL
  refine ht σ' F2 G' H' S2' _ fun F3 H3 g3 => ?_
  have nw : ∀ {F4 H4 : Hp}, Grow F2 H' F4 H4 → ∀ a, F4 a ≠ none → F1 a = none → H1 a = none := fun {F4 H4} g a z1 z2 => by
    cases q : F2 a with
    | none => exact none_of_ex x2 (g.new a z1 q)
    | some o => exact n2 a (some_ne q) z2
  have lF : ∀ {F4 H4 : Hp}, Grow F2 H' F4 H4 → F4 L = none := fun {F4 H4} g => by
    cases q : F4 L with
    | none => rfl
    | some o =>
      have z := g.new L (some_ne q) l2
      rw [h2] at z; cases z
  cases hf : f m with
  | false =>
    refine iteF ?_
    exact ⟨F3, xs, S2.grow g3, x2.trans g3.h, f2.trans g3.f, nw g3, lF g3, g3.h L _ h2, by rw [kept_no hf]; exact IsL.mono (k.at_mono g3.f (S2.bf' g3)) i2⟩
  | true =>
    refine iteT ?_
    refine he hf σ' F3 G' H3 (S2'.grow g3) _ fun y d4 F4 H4 p4 g4 i4 => ?_
    subst p4
    have g := g3.trans g4
    have S4 := S2.grow g
    refine ⟨xs, g.h L _ h2, sz_lt (by rw [i2.len]; have := kept_len m f v; omega), ?_⟩
    have keep : ∀ {X : Hp}, Ex X H4 → X L = none → Ex X (upd H4 L (.lst (xs ++ [y]))) := fun {X} ex hx a u q => by
      rw [upd_ne (fun w => by subst w; rw [hx] at q; cases q)]
      exact ex a u q
    refine ⟨F4, xs ++ [y], ⟨S4.len, keep S4.bh lB, keep S4.fh (lF g), S4.bf, fun j => keep (S4.gh j) (lG j), S4.gb, S4.gg, S4.sl⟩, ?_, f2.trans g.f, nw g, lF g, upd_same, ?_⟩
    · exact fun a u q => by
        rw [upd_ne (fun w => by subst w; rw [hL] at q; cases q)]
        exact (x2.trans g.h) a u q
    · rw [kept_yes hf]
      exact IsL.app (IsL.mono (k.at_mono g.f (S2.bf' g)) i2) (IsL.one (IsK.kd hk i4))
theorem Cs.start {F1 H1 : Hp} {f : Nat → Bool} {v : Nat → D} {L : Addr} (S : Sta K B Γ σ F1 G H1) (hL : H1 L = none) : Cs K B F1 Γ σ G H1 k f v L 0 (upd H1 L (.lst [])) := by
  have keep : ∀ {X : Hp}, Ex X H1 → Ex X (upd H1 L (.lst [])) := fun ex => ex.trans (Ex.new hL)
  exact ⟨F1, [], ⟨S.len, keep S.bh, keep S.fh, S.bf, fun j => keep (S.gh j), S.gb, S.gg, S.sl⟩, Ex.new hL, Ex.refl _, fun a z1 z2 => absurd z2 z1, none_of_ex S.fh hL, upd_same, .nil⟩
theorem wipe_set_self {σ : L2.St} {j : Nat} {x : Option V} : ∀ {vs : List Nat}, j ∈ vs → wipe ((wipe σ vs).set j x) vs = wipe σ vs := by
  intro vs hj
  refine List.ext_getElem? fun m => ?_
  by_cases hm : m ∈ vs
  · have none_at : ∀ (σ : L2.St) (vs : List Nat), m ∈ vs → (wipe σ vs)[m]? = if m < σ.length then some none else none := by
      intro σ vs
      induction vs with
      | nil => intro h; cases h
      | cons v vs ih =>
        intro h
        unfold L2.wipe
        by_cases e : m = v
        · subst e
          by_cases hl : m < σ.length
          · rw [List.getElem?_set_self (by rw [wipe_length]; exact hl), if_pos hl]
          · rw [List.getElem?_eq_none (by rw [List.length_set, wipe_length]; omega), if_neg hl]
        · rw [List.getElem?_set_ne (Ne.symm e)]
          rcases List.mem_cons.mp h with z | z
          · exact absurd z e
          · exact ih z
    rw [none_at _ _ hm, none_at _ _ hm, List.length_set, wipe_length]
  · rw [wipe_out hm, List.getElem?_set_ne (fun e : j = m => hm (by rw [← e]; exact hj))]
/-- [e for x in range(n) if t] -/
theorem en_lcR1 {n : Int} {vs : List Nat} (f : Nat → Bool) (v : Nat → D) (hk : k = .f ∨ k = .r) (h : EvA K B .h ta Γ [.i n]) (hn : -40000 ≤ n ∧ n ≤ 40000) (hj : j ∈ vs)
    (ht : ∀ m : Nat, (m : Int) < n → EvT K B tt ((wipeG Γ vs).set j (.f (.i (m : Int)))) (f m)) (he : ∀ m : Nat, (m : Int) < n → f m = true → Ev K B k te ((wipeG Γ vs).set j (.f (.i (m : Int)))) (v m)) :
    EvN K B k (tLc (iRng1 ta) (gName j) tt te vs) Γ (kept f v n.toNat) := fun σ F G H S Q q =>
  h σ F G H S _ fun us F1 H1 g1 i1 => by
    cases i1 with
    | cons a r =>
      cases r; cases a
      have S1 := S.grow g1
      have W1 := S1.wipe vs
      refine ⟨n, rfl, by omega, by omega, fun L hL => lc_range (lo := 0) (n := n.toNat) (Cs K B F1 (wipeG Γ vs) (wipe σ vs) G H1 k f v L) (Cs.start W1 hL) (fun m H' hm c => ?_) fun H' ⟨F', xs, S', x', f', n', l', h', i'⟩ => ?_⟩
      · have e0 : (0 : Int) + (m : Int) = (m : Int) := Int.zero_add _
        show wipe ((wipe σ vs).set j (some (.int ((0 : Int) + (m : Int))))) vs = wipe σ vs ∧ _
        refine ⟨wipe_set_self hj, ?_⟩
        show tt ((wipe σ vs).set j (some (.int ((0 : Int) + (m : Int))))) H' _
        rw [e0]
        exact Cs.turn hk W1 hL c (by omega) (fun F2 H2 S2 _ => .inr ⟨_, S2.put0 j (.int m) (.f (.i (m : Int))) fun σ' q => ⟨_, q, .v _⟩⟩) (ht m (by omega)) (fun hf => he m (by omega) hf)
      · refine q L xs F' H' (g1.trans ⟨f', x', S'.fh, n'⟩) (none_of_ex g1.h hL) l' h' i'
/-- [e for x in xs if t] -/
theorem en_lcL {k2 : Kd} {vs : List Nat} (f : Nat → Bool) (v : Nat → D) (hk : k = .f ∨ k = .r) (hk2 : k2 = .f ∨ k2 = .r) (h : Ev K B k2 tl Γ (.l ds)) (hn : ds.length ≤ 40000) (hj : j ∈ vs)
    (ht : ∀ (m : Nat) (x : D), ds[m]? = some x → EvT K B tt ((wipeG Γ vs).set j (Slot.of k2 x)) (f m)) (he : ∀ (m : Nat) (x : D), ds[m]? = some x → f m = true → Ev K B k te ((wipeG Γ vs).set j (Slot.of k2 x)) (v m)) :
    EvN K B k (tLc (iList K tl) (gName j) tt te vs) Γ (kept f v ds.length) := fun σ F G H S Q q =>
  h σ F G H S _ fun v1 d1 F1 H1 p1 g1 i1 => by
    subst p1
    obtain ⟨a, xs, rfl, s, r⟩ := IsK.lst hk2 i1
    have S1 := S.grow g1
    have W1 := S1.wipe vs
    have kh : ∀ {F2 G2 σ2 H2 Δ}, Sta K B Δ σ2 F2 G2 H2 → Ex (k2.at B F2) H2 := fun {F2 G2 σ2 H2 Δ} S2 => by
      rcases hk2 with hk | hk <;> subst hk
      · exact S2.fh
      · exact S2.rh
    refine ⟨a, rfl, ⟨xs, ex_l (kh S1) s⟩, fun L hL => lc_list (K := K) (a := a) (xs := xs) (Cs K B F1 (wipeG Γ vs) (wipe σ vs) G H1 k f v L) (Cs.start W1 hL) (fun m H' _ ⟨F', ys, S', x', f', _⟩ => ex_l (kh S') (ex_l (k2.at_mono f' S'.bf) s)) (fun m x H' hx c => ?_) fun H' ⟨F', ys, S', x', f', n', l', h', i'⟩ => ?_⟩
    · show wipe ((wipe σ vs).set j (some x)) vs = wipe σ vs ∧ tt ((wipe σ vs).set j (some x)) H' _
      refine ⟨wipe_set_self hj, ?_⟩
      obtain ⟨y, h1, h2⟩ := r.getV hx
      refine Cs.turn hk W1 hL c (by have := (List.getElem?_eq_some_iff.mp h1).1; omega) (fun F2 H2 S2 e2 => .inr ⟨_, S2.put0 j x (Slot.of k2 y) fun σ' q => ?_⟩) (ht m y h1) (fun hf => he m y h1 hf)
      have h2 := h2.mono (k2.at_mono e2 S2.bf)
      rcases hk2 with hk | hk <;> subst hk
      · exact ⟨x, q, h2⟩
      · exact ⟨x, q, h2⟩
    · rw [r.len] at i'
      exact q L ys F' H' (g1.trans ⟨f', x', S'.fh, n'⟩) (none_of_ex g1.h hL) l' h' i'
theorem et_yes : EvT K B tYes Γ true := fun σ F G H S Q q => q F H (Grow.refl S.fh)
end

end
section

/-- a def that may be called by its module's name -/
structure Cal (P : Program) (w : World) (K : PySem.W.Frag) (mg : Str → Option Value) (base : Heap) (x : Str) (k : Nat) (ps : List Str) (sp : Sp) : Prop where
  ex : ∃ (f : Addr) (fd : FuncData), FnOk P w K mg base CX0 k f fd ps sp ∧ Binds K fd ps [] ∧ mg x = some (.ref f) ∧ PySem.W.keepIn K (.ref f) = true
section
variable {X : Cx} {x : Str} {k : Nat} {ps : List Str} {sp : Sp} {e : Expr} {es : List Expr} {t : TA} {p pos : Pos}
theorem pe_cal (c : Cal X.prog X.w X.K X.mg X.base x k ps sp) (hr : Room k X.A) (hg : Gl X x) (ha : PA X (e :: es) t) (hdb : (x == ("__debug__" : Str)) = false := by decide)
    (he : starEach (e :: es) X.env = (false, eval e X.env) :: starEach es X.env := by rfl) (hpl : (backTo pos (starEach es X.env)).any (·.1) = false := by rfl) :
    PE X (.Call (.Name x p) (e :: es) [] pos) (tCall sp [] E0 t) := by
  obtain ⟨f, fd, F, b, m, kp⟩ := c.ex
  exact pe_call F hr hg m kp b .nil pass0 ha hdb he hpl
end
def rMulS : R2 := fun x y H Q => ∃ (s : Str) (i : Int), x = .str s ∧ y = .int i ∧ s.length ≤ 50000 ∧ i ≤ 300 ∧ -300 ≤ i ∧ Q (.str (Txt.mul s i)) H
theorem mulOk_small {s : Str} {i : Int} (h1 : s.length ≤ 50000) (h2 : i ≤ 300) (h3 : -300 ≤ i) : MulOk s i := by
  refine ⟨?_, fun hi _ => ?_, fun hi _ => ?_⟩
  · rw [Bool.or_eq_false_iff]
    exact ⟨decide_eq_false (by omega), decide_eq_false (by omega)⟩
  · have h4 : (2 ^ 63 - 1 : Int) / 300 ≤ (2 ^ 63 - 1 : Int) / i := by
      have h5 : (0 : Int) < i := by omega
      refine (Int.le_ediv_iff_mul_le h5).mpr ?_
      have h6 : (2 ^ 63 - 1 : Int) / 300 * i ≤ (2 ^ 63 - 1 : Int) / 300 * 300 := Int.mul_le_mul_of_nonneg_left h2 (by decide)
      exact Int.le_trans h6 (by decide)
    omega
  · have h5 : s.length * i.toNat ≤ 50000 * 300 := Nat.mul_le_mul h1 (by omega)
    unfold Builtin.Str.tooLong
    simp only [decide_eq_false_iff_not]
    have := sizeLine_eq
    omega

theorem op_mulS {X : Cx} : OpR X (binaryOp .Mult) rMulS := by
  intro pins s σ H x y v u Q I rx ry h
  obtain ⟨z, i, rfl, rfl, h1, h2, h3, q⟩ := h
  obtain ⟨t, rfl⟩ := rx
  obtain ⟨t', rfl⟩ := ry
  exact SB.mul (mulOk_small h1 h2 h3) fun t'' k => ⟨.str _, H, I.tok k, ⟨t'', rfl⟩, q⟩
/-- the built-in names that a text leaves as they are -/
structure Bt (mg : Str → Option Value) : Prop where
  b_len : mg "len" = none
  b_int : mg "int" = none
  b_str : mg "str" = none
  b_range : mg "range" = none
  b_abs : mg "abs" = none
  b_min : mg "min" = none
  b_list : mg "list" = none
  b_isinstance : mg "isinstance" = none
  b_sorted : mg "sorted" = none
  b_enumerate : mg "enumerate" = none
  b_zip : mg "zip" = none
  b_bool : mg "bool" = none
  b_dict : mg "dict" = none
  b_tuple : mg "tuple" = none
  b_max : mg "max" = none
  b_sum : mg "sum" = none
  b_all : mg "all" = none
  b_any : mg "any" = none
def rJoin (K : PySem.W.Frag) : V → List V → Hp → VK → Prop := fun x xs H Q => ∃ a p, ∃ ys : List Str, x = .str a ∧ xs = [.ref p] ∧ (SqL K H p (ys.map V.str) ∨ SqT K H p (ys.map V.str)) ∧
    (ys.map (·.length)).sum + ys.length * a.length ≤ 16777216 ∧ Q (.str (Txt.join a ys)) H

end
section
theorem at_map {α β : Type} [Inhabited α] {g : α → β} {xs : List α} {m : Nat} (h : m < xs.length) : atI (xs.map g) (m : Int) = some (g (xs.getD m default)) := by
  have e : (xs.map g)[m]? = some (g (xs.getD m default)) := by
    rw [List.getElem?_map, List.getD_eq_getElem?_getD, List.getElem?_eq_getElem h]
    rfl
  exact atI_nat e
theorem at_mapI {α β : Type} [Inhabited α] {g : α → β} {xs : List α} {i : Int} (h0 : 0 ≤ i) (h : i < xs.length) : atI (xs.map g) i = some (g (xs.getD i.toNat default)) := by
  obtain ⟨m, rfl⟩ : ∃ m : Nat, i = m := ⟨i.toNat, by omega⟩
  exact at_map (by omega)
def dBools (bs : List Bool) : D := .l (bs.map D.b)

theorem oks_map {α : Type} {n : Nat} {g : α → D} : ∀ {xs : List α}, (∀ x ∈ xs, D.ok n (g x) = true) → D.oks n (xs.map g) = true
  | [], _ => by rw [List.map_nil]; unfold D.oks; rfl
  | x :: xs, h => by
    rw [List.map_cons]
    unfold D.oks
    rw [h x List.mem_cons_self, oks_map fun y hy => h y (List.mem_cons_of_mem _ hy)]
    rfl
theorem txs_map {α : Type} {g : α → D} : ∀ {xs : List α}, (∀ x ∈ xs, D.tx (g x) = true) → D.txs (xs.map g) = true
  | [], _ => by rw [List.map_nil]; unfold D.txs; rfl
  | x :: xs, h => by
    rw [List.map_cons]
    unfold D.txs
    rw [h x List.mem_cons_self, txs_map fun y hy => h y (List.mem_cons_of_mem _ hy)]
    rfl
theorem ok_i {n : Nat} {i : Int} : D.ok n (.i i) = true := by cases n <;> rfl
theorem ok_b {n : Nat} {i : Bool} : D.ok n (.b i) = true := by cases n <;> rfl
theorem ok_s {n : Nat} {i : Str} : D.ok n (.s i) = true := by cases n <;> rfl
theorem tx_i {i : Int} : D.tx (.i i) = true := rfl
theorem tx_b {i : Bool} : D.tx (.b i) = true := rfl
theorem pl_ints {ns : List Int} : (dInts ns).pl = true := by
  unfold D.pl dInts
  have h1 : D.ok 9 (.l (ns.map D.i)) = true := by unfold D.ok; exact oks_map fun _ _ => ok_i
  have h2 : D.tx (.l (ns.map D.i)) = true := by unfold D.tx; exact txs_map fun _ _ => tx_i
  rw [h1, h2]
  rfl
theorem pl_bools {ns : List Bool} : (dBools ns).pl = true := by
  unfold D.pl dBools
  have h1 : D.ok 9 (.l (ns.map D.b)) = true := by unfold D.ok; exact oks_map fun _ _ => ok_b
  have h2 : D.tx (.l (ns.map D.b)) = true := by unfold D.tx; exact txs_map fun _ _ => tx_b
  rw [h1, h2]
  rfl


section
variable {K : PySem.W.Frag} {B Φ Φ' F H : Hp} {Γ Δ : Gm} {σ : L2.St} {G : Nat → Hp} {nx : L2.St → Hp → Prop} {D₀ : Ends} {t u tb tz : TS} {te tl tx : TE} {ta tr : TA} {tt : TT} {φ : D → Prop} {d : D} {ds es : List D} {k : Kd} {i j : Nat} {g : TG}
/-! ### a statement with the rest of its block behind it -/
theorem sq_setW (h : EvW K B .f te Γ φ) (n : ∀ d, φ d → StD K B Φ tz D₀ (Γ.set i (.f d))) : StD K B Φ (tSeq (tAsg te (gName i)) tz) D₀ Γ := sd_setW (D₀ := { D₀ with nx := tz D₀ }) h n
theorem sq_set (h : Ev K B .f te Γ d) (n : StD K B Φ tz D₀ (Γ.set i (.f d))) : StD K B Φ (tSeq (tAsg te (gName i)) tz) D₀ Γ := sd_set (D₀ := { D₀ with nx := tz D₀ }) h n
theorem sq_setRW (h : EvW K B .r te Γ φ) (n : ∀ d, φ d → StD K B Φ tz D₀ (Γ.set i (.r d))) : StD K B Φ (tSeq (tAsg te (gName i)) tz) D₀ Γ := sd_setRW (D₀ := { D₀ with nx := tz D₀ }) h n
theorem sq_setR (h : Ev K B .r te Γ d) (n : StD K B Φ tz D₀ (Γ.set i (.r d))) : StD K B Φ (tSeq (tAsg te (gName i)) tz) D₀ Γ := sd_setR (D₀ := { D₀ with nx := tz D₀ }) h n
theorem sq_setL (h : EvN K B k te Γ ds) (n : StD K B Φ tz D₀ (Γ.set i (.ol k ds))) : StD K B Φ (tSeq (tAsg te (gName i)) tz) D₀ Γ := sd_setL (D₀ := { D₀ with nx := tz D₀ }) h n
theorem sq_drop (h : EvW K B k te Γ φ) (n : StD K B Φ tz D₀ Γ) : StD K B Φ (tSeq (tDrop te) tz) D₀ Γ := sd_drop (D₀ := { D₀ with nx := tz D₀ }) h n
theorem sq_app (h : Γ[i]? = some (.ol k ds)) (hk : k = .f ∨ k = .r) (he : Ev K B k te Γ d) (hz : ds.length < 100000) (n : StD K B Φ tz D₀ (Γ.set i (.ol k (ds ++ [d])))) :
    StD K B Φ (tSeq (tDrop (tBM K "list" rAppend (tVar i) (tCons te tNil))) tz) D₀ Γ := sd_app (D₀ := { D₀ with nx := tz D₀ }) h hk he hz fun x p => by subst p; exact n
theorem sd_app1 (h : Γ[i]? = some (.ol k ds)) (hk : k = .f ∨ k = .r) (he : Ev K B k te Γ d) (hz : ds.length < 100000) (n : NxO K B Φ D₀.nx (Γ.set i (.ol k (ds ++ [d])))) :
    StD K B Φ (tDrop (tBM K "list" rAppend (tVar i) (tCons te tNil))) D₀ Γ := sd_app h hk he hz fun x p => by subst p; exact n
theorem sq_setI {z : Int} {m : Nat} (h : Γ[i]? = some (.ol k ds)) (hk : k = .f ∨ k = .r) (he : Ev K B k te Γ d) (hj : Ev K B .h tx Γ (.i z)) (hz : ixN ds.length z = some m) (n : StD K B Φ tz D₀ (Γ.set i (.ol k (ds.set m d)))) :
    StD K B Φ (tSeq (tAsg te (gSub (tVar i) tx rSetL)) tz) D₀ Γ := sd_setI (D₀ := { D₀ with nx := tz D₀ }) h hk he hj hz fun x p => by subst p; exact n
/-- if with a way out, then the rest -/
theorem sq_if {b : Bool} (h : EvT K B tt Γ b) (h1 : b = true → StD K B Φ t { D₀ with nx := tz D₀ } Γ) (h2 : b = false → StD K B Φ tz D₀ Γ) : StD K B Φ (tSeq (tIfS tt t tNext) tz) D₀ Γ := sd_if (D₀ := { D₀ with nx := tz D₀ }) h h1 h2
theorem sq_ife {b : Bool} (h : EvT K B tt Γ b) (h1 : b = true → StD K B Φ t { D₀ with nx := tz D₀ } Γ) (h2 : b = false → StD K B Φ u { D₀ with nx := tz D₀ } Γ) : StD K B Φ (tSeq (tIfS tt t u) tz) D₀ Γ := sd_if (D₀ := { D₀ with nx := tz D₀ }) h h1 h2
theorem sq_forR1 {n : Int} (h : EvA K B .h ta Γ [.i n]) (hn : -100000 ≤ n ∧ n ≤ 100000) (Iv : Nat → Gm → Prop) (h0 : ∃ Δ, Iv 0 Δ ∧ Le Γ Δ)
    (hs : ∀ (m : Nat) Δ, (m : Int) < n → Iv m Δ → StD K B Φ tb { D₀ with nx := StE K B Φ (Iv (m + 1)), ct := StE K B Φ (Iv (m + 1)), bk := tz D₀ } (Δ.set j (.f (.i (m : Int))))) (hd : ∀ Δ, Iv n.toNat Δ → StD K B Φ tz D₀ Δ) :
    StD K B Φ (tSeq (tFor (iRng1 ta) (gName j) tb) tz) D₀ Γ := sd_forR1 (D₀ := { D₀ with nx := tz D₀ }) h hn Iv h0 hs hd
theorem sq_forR2 {a n : Int} (h : EvA K B .h ta Γ [.i a, .i n]) (ha : -100000 ≤ a ∧ a ≤ 100000 ∧ -100000 ≤ n ∧ n ≤ 100000) (Iv : Nat → Gm → Prop) (h0 : ∃ Δ, Iv 0 Δ ∧ Le Γ Δ)
    (hs : ∀ (m : Nat) Δ, a + (m : Int) < n → Iv m Δ → StD K B Φ tb { D₀ with nx := StE K B Φ (Iv (m + 1)), ct := StE K B Φ (Iv (m + 1)), bk := tz D₀ } (Δ.set j (.f (.i (a + (m : Int)))))) (hd : ∀ Δ, Iv (n - a).toNat Δ → StD K B Φ tz D₀ Δ) :
    StD K B Φ (tSeq (tFor (iRng2 ta) (gName j) tb) tz) D₀ Γ := sd_forR2 (D₀ := { D₀ with nx := tz D₀ }) h ha Iv h0 hs hd
theorem sq_forL (hk : k = .f ∨ k = .r) (h : Ev K B k tl Γ (.l ds)) (Iv : Nat → Gm → Prop) (h0 : ∃ Δ, Iv 0 Δ ∧ Le Γ Δ)
    (hs : ∀ (Φ' : Hp) (m : Nat) (x : D) Δ, ds[m]? = some x → Iv m Δ → StD K B Φ' tb { D₀ with nx := StE K B Φ' (Iv (m + 1)), ct := StE K B Φ' (Iv (m + 1)), bk := tz D₀ } (Δ.set j (Slot.of k x))) (hd : ∀ Δ, Iv ds.length Δ → StD K B Φ tz D₀ Δ) :
    StD K B Φ (tSeq (tFor (iList K tl) (gName j) tb) tz) D₀ Γ := sd_forL (D₀ := { D₀ with nx := tz D₀ }) hk h Iv h0 hs hd
/-- the given pieces, for one state -/
theorem Ret.of {rt : VK} {d2 : D} (h : Ret K B rt d) (e : d = d2) : Ret K B rt d2 := by rw [← e]; exact h
end

section
variable {K : PySem.W.Frag} {B : Hp} {Γ : Gm} {k : Kd} {tr : TA} {ds : List D} {te : TE} {d : D}
theorem ev_lst (h : EvA K B .f tr Γ ds) (hl : ds.length ≤ 100000) : Ev K B .f (tLst tr) Γ (.l ds) := (en_lst h hl).fz
theorem ev_lstR (h : EvA K B .r tr Γ ds) (hl : ds.length ≤ 100000) : Ev K B .r (tLst tr) Γ (.l ds) := (en_lstR h hl).fzR
theorem ev_lstH (h : EvA K B .h tr Γ ds) (hl : ds.length ≤ 100000) : Ev K B .h (tLst tr) Γ (.l ds) := fun σ F G H S Q q =>
  h σ F G H S _ fun vs F1 H1 g1 i1 => ⟨by rw [IsL.len i1]; exact sz_of hl, fun p hp => q _ _ F1 _ rfl (g1.trans (Grow.heap g1.fh (Ex.new hp))) (.l (sq_of upd_same) (IsL.mono (Ex.new hp) i1))⟩
end

end
section
section
variable {K : PySem.W.Frag} {B Φ : Hp} {Γ : Gm} {k : Kd} {ta tb tc te tx : TE} {t u : TT} {φ ψ : D → Prop} {d e : D} {x y z : V} {ds es : List D} {tr : TA} {i : Nat} {D₀ : Ends} {tz : TS}
theorem Kd.at_f {F : Hp} : Kd.f.at B F = F := rfl
/-- a new list whose items are leaves -/
theorem en_leaf {te : TE} (φ : List V → Prop) (h : ∀ σ F G H, Sta K B Γ σ F G H → ∀ Q : VK, (∀ p vs H', φ vs → H p = none → Ex H H' → H' p = some (.lst vs) → Q (.ref p) H') → te σ H Q) : EvW K B .f te Γ (fun d => ∃ vs, φ vs ∧ d = .l (vs.map D.v)) := fun σ F G H S Q q =>
  h σ F G H S Q fun p vs H' hp h0 e hl => by
    have g1 : Grow F H F H' := Grow.heap S.fh e
    have hF : F p = none := none_of_ex S.fh h0
    exact q _ _ (upd F p (.lst vs)) H' ⟨vs, hp, rfl⟩ (g1.fz h0 hl hF) (.l (sq_of upd_same) (by simpa using IsL.leaves (g := fun x : V => x) (xs := vs)))
theorem en_listRg {n : Int} (h : Ev K B .h ta Γ (.i n)) (hn : -100000 ≤ n ∧ n ≤ 100000) : EvN K B .f (tLstRg (tRg1 ta)) Γ (((List.range n.toNat).map fun i : Nat => (i : Int)).map D.i) := fun σ F G H S Q q =>
  h σ F G H S _ fun v d F1 H1 p g1 i1 => by
    subst p; cases Is.leaf i1
    refine ⟨n, rfl, ⟨by omega, by omega, by omega, by omega, by omega⟩, fun a ha => q a (rgV 0 n) F1 _ (g1.trans (Grow.heap g1.fh (Ex.new ha))) (none_of_ex g1.h ha) (none_of_ex g1.fh ha) upd_same ?_⟩
    have e : rgV 0 n = ((List.range n.toNat).map fun i : Nat => (i : Int)).map V.int := by
      unfold rgV
      rw [List.map_map, Int.sub_zero]
      refine List.map_congr_left fun a _ => ?_
      show V.int (0 + (a : Int)) = V.int (a : Int)
      rw [Int.zero_add]
    rw [e]
    exact IsL.leaves
theorem ints_of {H : Hp} {p : V} {ns : List Int} (h : Is K H p (dInts ns)) : ∃ a, p = .ref a ∧ SqL K H a (ns.map V.int) := by
  unfold dInts at h
  cases h with
  | l s r =>
    have e := IsL.leavesV (g := V.int) r
    subst e
    exact ⟨_, rfl, s⟩
theorem strs_of {H : Hp} {p : V} {ns : List Str} (h : Is K H p (dStrs ns)) : ∃ a, p = .ref a ∧ SqL K H a (ns.map V.str) := by
  unfold dStrs at h
  cases h with
  | l s r =>
    have e := IsL.leavesV (g := V.str) r
    subst e
    exact ⟨_, rfl, s⟩
theorem ew_sorted {ns : List Int} (h : Ev K B .h ta Γ (dInts ns)) (hn : ns.length < 64) : EvW K B .f (tCB (rSorted K) (tCons ta tNil)) Γ (fun d => ∃ ms : List Int, ms.Perm ns ∧ ms.Pairwise (· ≤ ·) ∧ d = dInts ms) := fun σ F G H S Q q =>
  h σ F G H S _ fun v d F1 H1 p g1 i1 => by
    subst p
    obtain ⟨a, rfl, s⟩ := ints_of i1
    refine ⟨a, ns, rfl, s, hn, fun ms p h1 h2 h0 => ?_⟩
    have g2 := Grow.cell (o := .lst (ms.map V.int)) g1.fh h0
    exact q _ _ (upd F1 p _) _ ⟨ms, h1, h2, rfl⟩ (g1.trans g2) (.l (sq_of upd_same) IsL.leaves)
theorem ev_indexI {ns : List Int} {a : Int} (h : Ev K B .h ta Γ (dInts ns)) (hb : Ev K B .h tb Γ (.i a)) (hm : a ∈ ns) : Ev K B k (tBM K "list" (rIndex K) ta (tCons tb tNil)) Γ (.i ((ns.idxOf a : Nat) : Int)) := Ev.val fun σ F G H S Q q =>
  h σ F G H S _ fun v d F1 H1 p1 g1 i1 => by
    subst p1
    obtain ⟨p, rfl, s⟩ := ints_of i1
    refine ⟨.inl ⟨rfl, _, s⟩, hb σ F1 G H1 (S.grow g1) _ fun w d2 F2 H2 p2 g2 i2 => ?_⟩
    subst p2; cases Is.leaf i2
    have hlt : ns.idxOf a < ns.length := List.idxOf_lt_length_of_mem hm
    have hat : ns[ns.idxOf a]? = some a := by
      rw [List.getElem?_eq_getElem hlt, List.getElem_idxOf hlt]
    refine ⟨p, ns.map V.int, .int a, ns.idxOf a, .int a, rfl, rfl, ex_l g2.h s, rfl, ?_, by rw [List.getElem?_map, hat]; rfl, by show (a == a) = true; exact beq_self_eq_true a, fun m z hmj hz => ?_, q H2 (g1.h.trans g2.h)⟩
    · rw [List.all_map, List.all_eq_true]; exact fun _ _ => rfl
    · rw [List.getElem?_map] at hz
      cases e : ns[m]? with
      | none => rw [e] at hz; cases hz
      | some b =>
        rw [e] at hz; cases hz
        show (b == a) = false
        refine beq_eq_false_iff_ne.mpr fun z => ?_
        subst z
        obtain ⟨hl, hg⟩ := List.getElem?_eq_some_iff.mp e
        have hno := List.not_of_lt_findIdx (p := fun z => z == b) (xs := ns) (i := m) (show m < ns.findIdx (fun z => z == b) from hmj)
        rw [hg] at hno
        simp at hno
/-- list(x) -/
theorem en_list {d0 : D} (hk : k = .f ∨ k = .r) (h : Ev K B k ta Γ d0) (hd : d0.items = some ds) : EvN K B k (tCB (rListS K) (tCons ta tNil)) Γ ds := fun σ F G H S Q q =>
  h σ F G H S _ fun v d F1 H1 p1 g1 i1 => by
    subst p1
    have S1 := S.grow g1
    have kh : Ex (k.at B F1) H1 := by rcases hk with hk | hk <;> subst hk <;> first | exact S1.fh | exact S1.rh
    have i2 := IsK.kd hk i1
    have fin : ∀ (a : Addr) (xs : List V), (SqL K H1 a xs ∨ SqT K H1 a xs) → IsL K (k.at B F1) xs ds → rListS K [.ref a] H1 Q := fun a xs s r =>
      ⟨a, xs, rfl, s, fun l hl => q l xs F1 _ (g1.trans (Grow.heap g1.fh (Ex.new hl))) (none_of_ex g1.h hl) (none_of_ex g1.fh hl) upd_same r⟩
    cases i2 with
    | v x => cases hd
    | l s r => cases hd; exact fin _ _ (.inl (ex_l kh s)) r
    | t s r => cases hd; exact fin _ _ (.inr (ex_t kh s)) r
/-- list(x), the items leaves -/
theorem en_listV {vs : List V} {d0 : D} (h : Ev K B .h ta Γ d0) (hd : d0.items = some (vs.map D.v)) : EvN K B .f (tCB (rListS K) (tCons ta tNil)) Γ (vs.map D.v) := fun σ F G H S Q q =>
  h σ F G H S _ fun v d F1 H1 p1 g1 i1 => by
    subst p1
    have fin : ∀ (a : Addr) (xs : List V), (SqL K H1 a xs ∨ SqT K H1 a xs) → IsL K H1 xs (vs.map D.v) → rListS K [.ref a] H1 Q := fun a xs s r => by
      have e : xs = vs.map (fun x => x) := IsL.leavesV (g := fun x => x) (by simpa using r)
      rw [List.map_id'] at e
      subst e
      exact ⟨a, xs, rfl, s, fun l hl => q l xs F1 _ (g1.trans (Grow.heap g1.fh (Ex.new hl))) (none_of_ex g1.h hl) (none_of_ex g1.fh hl) upd_same (by show IsL K F1 xs (xs.map D.v); simpa using IsL.leaves (K := K) (H := F1) (g := fun x : V => x) (xs := xs))⟩
    cases i1 with
    | v x => cases hd
    | l s r => cases hd; exact fin _ _ (.inl s) r
    | t s r => cases hd; exact fin _ _ (.inr s) r
theorem ev_mulS {s : Str} {n : Int} (ha : Ev K B .h ta Γ (.s s)) (hb : Ev K B .h tb Γ (.i n)) (h : s.length ≤ 50000) (hn : -300 ≤ n ∧ n ≤ 300) : Ev K B k (tOp rMulS ta tb) Γ (.s (Txt.mul s n)) := ev_op ha hb fun x y H Q hx hy q => by
  cases hx; cases hy
  exact ⟨s, n, rfl, rfl, h, hn.2, hn.1, q⟩
theorem eo_no : ∀ {σ : L2.St} {H : Hp} {Q : Option Int → Hp → Prop}, Q none H → tNoPart σ H Q := fun h => h
/-- a slice's part -/
def EvO (K : PySem.W.Frag) (B : Hp) (to : TO) (Γ : Gm) (o : Option Int) : Prop :=
  ∀ σ F G H, Sta K B Γ σ F G H → ∀ Q : Option Int → Hp → Prop, (∀ F' H', Grow F H F' H' → Q o H') → to σ H Q
theorem eo_none : EvO K B tNoPart Γ none := fun σ F G H S Q q => q F H (Grow.refl S.fh)
theorem eo_some {n : Int} (h : Ev K B .h te Γ (.i n)) : EvO K B (tPart te) Γ (some n) := fun σ F G H S Q q =>
  h σ F G H S _ fun v d F1 H1 p g i => by
    subst p; cases Is.leaf i
    exact ⟨n, rfl, q F1 H1 g⟩
variable {tl th : TO} {lo hi : Option Int}
theorem ev_slS {s : Str} (ha : Ev K B .h ta Γ (.s s)) (hl : EvO K B tl Γ lo) (hh : EvO K B th Γ hi) (h : s.length ≤ 1000000) : Ev K B k (tSl rSlS ta tl th) Γ (.s (cutS s lo hi)) := Ev.val fun σ F G H S Q q =>
  ha σ F G H S _ fun v d F1 H1 p1 g1 i1 => hl σ F1 G H1 (S.grow g1) _ fun F2 H2 g2 => hh σ F2 G H2 ((S.grow g1).grow g2) _ fun F3 H3 g3 => by
    subst p1; cases Is.leaf i1
    exact ⟨s, rfl, Nat.le_trans h (by decide), q H3 ((g1.h.trans g2.h).trans g3.h)⟩
def cutD (ds : List D) (lo hi : Option Int) : List D := (ds.drop (HT.sIx ds.length 0 lo)).take (HT.sIx ds.length ds.length hi - HT.sIx ds.length 0 lo)
theorem IsL.cut {H : Hp} {xs : List V} (r : IsL K H xs ds) (lo hi : Option Int) : IsL K H (cutV xs lo hi) (cutD ds lo hi) := by
  unfold cutV cutD
  rw [r.len]
  exact (r.drop _).take _
theorem en_slL (hk : k = .f ∨ k = .r) (ha : Ev K B k ta Γ (.l ds)) (hl : EvO K B tl Γ lo) (hh : EvO K B th Γ hi) : EvN K B k (tSl (rSlL K) ta tl th) Γ (cutD ds lo hi) := fun σ F G H S Q q =>
  ha σ F G H S _ fun v d F1 H1 p1 g1 i1 => hl σ F1 G H1 (S.grow g1) _ fun F2 H2 g2 => hh σ F2 G H2 ((S.grow g1).grow g2) _ fun F3 H3 g3 => by
    subst p1
    obtain ⟨a, xs, rfl, s, r⟩ := IsK.lst hk i1
    have S3 := ((S.grow g1).grow g2).grow g3
    have g := (g1.trans g2).trans g3
    have ff : Ex (k.at B F1) (k.at B F3) := k.at_mono (g2.f.trans g3.f) S3.bf
    have kh : Ex (k.at B F3) H3 := by rcases hk with hk | hk <;> subst hk <;> first | exact S3.fh | exact S3.rh
    exact ⟨a, xs, rfl, ex_l kh (ex_l ff s), fun p hp => q p _ F3 _ (g.trans (Grow.heap g.fh (Ex.new hp))) (none_of_ex g.h hp) (none_of_ex g.fh hp) upd_same (IsL.cut (r.mono ff) lo hi)⟩
theorem ev_join {a : Str} {ys : List Str} (ha : Ev K B .h ta Γ (.s a)) (hb : Ev K B .h tb Γ (dStrs ys)) (h : (ys.map (·.length)).sum + ys.length * a.length ≤ 1000000) : Ev K B k (tM1 (rJoin K) ta tb) Γ (.s (Txt.join a ys)) := Ev.val fun σ F G H S Q q =>
  ha σ F G H S _ fun v d F1 H1 p1 g1 i1 => by
    subst p1; cases Is.leaf i1
    refine ⟨⟨a, rfl⟩, hb σ F1 G H1 (S.grow g1) _ fun w d2 F2 H2 p2 g2 i2 => ?_⟩
    subst p2
    obtain ⟨p, rfl, s⟩ := strs_of i2
    exact ⟨a, p, ys, rfl, rfl, .inl s, Nat.le_trans h (by decide), q H2 (g1.h.trans g2.h)⟩
theorem ev_inS {c : Nat} {s : Str} (ha : Ev K B .h ta Γ (.s ⟨#[c]⟩)) (hb : Ev K B .h tb Γ (.s s)) : Ev K B k (tOp rInS ta tb) Γ (.b (decide (c ∈ s.cps.toList))) := ev_op ha hb fun x y H Q hx hy q => by
  cases hx; cases hy; exact ⟨c, s, rfl, rfl, q⟩
theorem ev_notInS {c : Nat} {s : Str} (ha : Ev K B .h ta Γ (.s ⟨#[c]⟩)) (hb : Ev K B .h tb Γ (.s s)) : Ev K B k (tOp rNotInS ta tb) Γ (.b (!decide (c ∈ s.cps.toList))) := ev_op ha hb fun x y H Q hx hy q => by
  cases hx; cases hy; exact ⟨c, s, rfl, rfl, q⟩
theorem ev_isN {v : V} (ha : Ev K B .h ta Γ (.v v)) (hb : Ev K B .h tb Γ (.v .non)) : Ev K B k (tOp rIsN ta tb) Γ (.b (decide (v = .non))) := ev_op ha hb fun x y H Q hx hy q => by
  cases hx; cases hy; exact ⟨rfl, q⟩
theorem ev_notN {v : V} (ha : Ev K B .h ta Γ (.v v)) (hb : Ev K B .h tb Γ (.v .non)) : Ev K B k (tOp rNotN ta tb) Γ (.b (!decide (v = .non))) := ev_op ha hb fun x y H Q hx hy q => by
  cases hx; cases hy; exact ⟨rfl, q⟩
/-- in a list of leaves -/
theorem ev_in {v : V} {vs : List V} {d0 : D} {neg : Bool} (ha : Ev K B .h ta Γ (.v v)) (hb : Ev K B .h tb Γ d0) (hd : d0.items = some (vs.map D.v)) (hv : flatV v = true) (hvs : vs.all flatV = true) : Ev K B k (tOp (rIn K neg) ta tb) Γ (.b (if neg then !inV v vs else inV v vs)) := ev_op ha hb fun x y H Q hx hy q => by
  cases hx
  have fin : ∀ (a : Addr) (xs : List V), (SqL K H a xs ∨ SqT K H a xs) → IsL K H xs (vs.map D.v) → rIn K neg v (.ref a) H Q := fun a xs s r => by
    have e : xs = vs.map (fun x => x) := IsL.leavesV (g := fun x => x) (by simpa using r)
    rw [List.map_id'] at e
    subst e
    exact ⟨a, xs, rfl, s, hv, hvs, q⟩
  cases hy with
  | v x => cases hd
  | l s r => cases hd; exact fin _ _ (.inl s) r
  | t s r => cases hd; exact fin _ _ (.inr s) r
end

/-! ### a list of lists of leaves, owned -/
def O2at (rows : List (List V)) (v : V) (G : Hp) : Prop := ∃ (p : Addr) (ps : List Addr), v = .ref p ∧ G p = some (.lst (ps.map V.ref)) ∧ p ∉ ps ∧ ps.Nodup ∧ ps.length = rows.length ∧ ∀ (j : Nat) (a : Addr) (r : List V), ps[j]? = some a → rows[j]? = some r → G a = some (.lst r)
def O2 (rows : List (List V)) : Own := ⟨fun _ _ v G => O2at rows v G, fun _ _ h => h⟩
def d2 (rows : List (List V)) : D := .l (rows.map fun r => .l (r.map D.v))
section
variable {K : PySem.W.Frag} {B Φ F H : Hp} {Γ : Gm} {k : Kd} {ta tb tc te tx : TE} {d e : D} {x y z : V} {ds es : List D} {tr : TA} {i : Nat} {D₀ : Ends} {tz : TS} {rows : List (List V)} {σ : L2.St} {G : Nat → Hp}
theorem O2at.is {v : V} {G : Hp} (o : O2at rows v G) : Is K G v (d2 rows) := by
  obtain ⟨p, ps, rfl, h1, _, _, hl, h2⟩ := o
  refine .l (sq_of h1) ?_
  have key : ∀ (ps : List Addr) (rows : List (List V)), ps.length = rows.length → (∀ (j : Nat) (a : Addr) (r : List V), ps[j]? = some a → rows[j]? = some r → G a = some (.lst r)) → IsL K G (ps.map V.ref) (rows.map fun r => D.l (r.map D.v)) := by
    intro ps
    induction ps with
    | nil => intro rows hl _; cases rows with
      | nil => exact .nil
      | cons => cases hl
    | cons a ps ih => intro rows hl h; cases rows with
      | nil => cases hl
      | cons r rows =>
        exact .cons (.l (sq_of (h 0 a r rfl rfl)) (by simpa using IsL.leaves (K := K) (H := G) (g := fun x : V => x) (xs := r))) (ih rows (by simpa using hl) fun j a r h1 h2 => h (j + 1) a r (by simpa using h1) (by simpa using h2))
  exact key ps rows hl h2
theorem ev_o2 (h : Γ[i]? = some (.oo (O2 rows))) : Ev K B .h (tVar i) Γ (d2 rows) := fun σ F G H S Q q => by
  obtain ⟨v, h1, o⟩ := S.sl i _ h
  exact ⟨v, h1, q v _ F H rfl (Grow.refl S.fh) ((O2at.is o).mono (S.gh i))⟩
/-- x = []: a list of lists -/
theorem NxO.o2 {nx : L2.St → Hp → Prop} (i : Nat) (h : NxO K B Φ nx (Γ.set i (.oo (O2 [])))) (e : Γ[i]? = some (.ol .f [])) : NxO K B Φ nx Γ := fun σ H ⟨F, G, x, S⟩ => by
  obtain ⟨p, xs, h1, h2, h3⟩ := S.sl i _ e
  have hl : i < Γ.length := (List.getElem?_eq_some_iff.mp e).1
  refine h σ H ⟨F, G, x, by rw [List.length_set]; exact S.len, S.bh, S.fh, S.bf, S.gh, S.gb, S.gg, fun j s hs => ?_⟩
  by_cases hj : j = i
  · subst hj
    rw [List.getElem?_set_self hl] at hs
    cases hs
    cases h3
    exact ⟨.ref p, h1, p, [], rfl, h2, (fun z => nomatch z), List.nodup_nil, rfl, fun j a r z => by simp at z⟩
  · rw [List.getElem?_set_ne (Ne.symm hj)] at hs
    exact S.sl j s hs
theorem sq_o2 (h : EvN K B .f te Γ []) (n : StD K B Φ tz D₀ (Γ.set i (.oo (O2 [])))) (hl : i < Γ.length) : StD K B Φ (tSeq (tAsg te (gName i)) tz) D₀ Γ := by
  refine sq_setL h ?_
  refine NxO.o2 i ?_ (List.getElem?_set_self hl)
  rw [List.set_set]
  exact n
/-- the own heap of a slot replaced, the heap changed there alone -/
theorem Sta.own2 (S : Sta K B Γ σ F G H) (s : Slot) {g H' : Hp} (hg : Ex g H') (keep : ∀ a o, H a = some o → G i a = none → H' a = some o) (fresh : ∀ a, g a ≠ none → G i a ≠ none ∨ (B a = none ∧ F a = none ∧ ∀ l, G l a = none))
    (ok : SlotOk K B F g σ i s) : Sta K B (Γ.set i s) σ F (fun j => if j = i then g else G j) H' where
  len := by rw [List.length_set]; exact S.len
  bh := fun a o h => keep a o (S.bh a o h) (by
    cases q : G i a with
    | none => rfl
    | some w => have := (S.gb i a (some_ne q)).1; rw [this] at h; cases h)
  fh := fun a o h => keep a o (S.fh a o h) (by
    cases q : G i a with
    | none => rfl
    | some w => have := (S.gb i a (some_ne q)).2; rw [this] at h; cases h)
  bf := S.bf
  gh := fun j => by
    by_cases e : j = i
    · simp only [e, if_true]; exact hg
    · simp only [e, if_false]
      exact fun a o h => keep a o (S.gh j a o h) (S.gg j i a e (some_ne h))
  gb := fun j a z => by
    by_cases e : j = i
    · simp only [e, if_true] at z
      rcases fresh a z with q | q
      · exact S.gb i a q
      · exact ⟨q.1, q.2.1⟩
    · simp only [e, if_false] at z; exact S.gb j a z
  gg := fun j l a hjl z => by
    by_cases e : j = i
    · have el : l ≠ i := fun w => hjl (e.trans w.symm)
      simp only [e, if_true] at z
      simp only [el, if_false]
      rcases fresh a z with q | q
      · exact S.gg i l a (Ne.symm el) q
      · exact q.2.2 l
    · simp only [e, if_false] at z
      by_cases el : l = i
      · simp only [el, if_true]
        cases q : g a with
        | none => rfl
        | some o =>
          rcases fresh a (some_ne q) with w | w
          · exact absurd (S.gg j i a e z) w
          · exact absurd (w.2.2 j) z
      · simp only [el, if_false]; exact S.gg j l a hjl z
  sl := fun j s' hs => by
    by_cases e : j = i
    · subst e
      by_cases hl : j < Γ.length
      · rw [List.getElem?_set_self hl] at hs
        cases hs
        simp only [if_true]; exact ok
      · rw [List.getElem?_eq_none (by rw [List.length_set]; omega)] at hs
        cases hs
    · rw [List.getElem?_set_ne (Ne.symm e)] at hs
      simp only [e, if_false]
      exact S.sl j s' hs
/-- x.append([..]): a new row, owned with x -/
theorem sd_app2 {vs : List V} (h : Γ[i]? = some (.oo (O2 rows))) (he : EvN K B .f te Γ (vs.map D.v)) (hz : rows.length < 100000) (n : NxO K B Φ D₀.nx (Γ.set i (.oo (O2 (rows ++ [vs]))))) :
    StD K B Φ (tDrop (tBM K "list" rAppend (tVar i) (tCons te tNil))) D₀ Γ := fun σ H ⟨F, G, e, S⟩ => by
  obtain ⟨v, h1, p, ps, rfl, h2, hp, nd, hl, hr⟩ := S.sl i _ h
  refine ⟨_, h1, .inl ⟨rfl, _, sq_of (S.gh i p _ h2)⟩, ?_⟩
  refine he σ F G H S _ fun a xs F1 H1 g1 ha haF h3 i1 => ?_
  have S1 := S.grow g1
  have ex : xs = vs := by
    have e : xs = vs.map (fun x => x) := IsL.leavesV (g := fun x => x) (by simpa using i1)
    rw [List.map_id'] at e
    exact e
  subst ex
  have hap : a ≠ p := fun z => by
    subst z
    have := S.gh i a _ h2
    rw [ha] at this; cases this
  have haG : G i a = none := none_of_ex (S.gh i) ha
  have hmem : ∀ b ∈ ps, G i b ≠ none := fun b hb => by
    obtain ⟨j, hj⟩ := List.getElem?_of_mem hb
    have hjl : j < ps.length := (List.getElem?_eq_some_iff.mp hj).1
    exact some_ne (hr j b (rows[j]'(by omega)) hj (List.getElem?_eq_getElem (by omega)))
  have haps : a ∉ ps := fun z => hmem a z haG
  refine ⟨p, ps.map V.ref, .ref a, rfl, rfl, S1.gh i p _ h2, sz_lt (by rw [List.length_map, hl]; exact hz), n _ _ ⟨F1, _, e.trans g1.f, S1.own2 (i := i) (.oo (O2 (rows ++ [xs]))) (g := upd (upd (G i) a (.lst xs)) p (.lst ((ps ++ [a]).map V.ref))) ?_ ?_ ?_ ?_⟩⟩
  · rw [List.map_append]
    intro b o hb
    by_cases e1 : b = p
    · subst e1; rw [upd_same] at hb ⊢; exact hb
    · rw [upd_ne e1] at hb ⊢
      by_cases e2 : b = a
      · subst e2; rw [upd_same] at hb; cases hb; exact h3
      · rw [upd_ne e2] at hb
        exact S1.gh i b o hb
  · intro b o hb hn
    have e1 : b ≠ p := fun z => by subst z; rw [h2] at hn; cases hn
    rw [upd_ne e1]; exact hb
  · intro b hb
    by_cases e1 : b = p
    · subst e1; exact .inl (some_ne h2)
    · rw [upd_ne e1] at hb
      by_cases e2 : b = a
      · subst e2; exact .inr ⟨none_of_ex S.bh ha, haF, fun l => none_of_ex (S.gh l) ha⟩
      · rw [upd_ne e2] at hb; exact .inl hb
  · refine ⟨.ref p, h1, p, ps ++ [a], rfl, upd_same, ?_, ?_, by rw [List.length_append, List.length_append, hl]; rfl, fun j b r hb hr' => ?_⟩
    · intro z
      rcases List.mem_append.mp z with z | z
      · exact hp z
      · exact hap (List.mem_singleton.mp z).symm
    · exact List.nodup_append.mpr ⟨nd, (by simp), fun x hx y hy => by rw [List.mem_singleton.mp hy]; exact fun w => haps (w ▸ hx)⟩
    · by_cases hj : j < ps.length
      · rw [List.getElem?_append_left hj] at hb
        rw [List.getElem?_append_left (by omega)] at hr'
        have hb' := List.mem_of_getElem? hb
        have n1 : b ≠ p := fun w => hp (w ▸ hb')
        have n2 : b ≠ a := fun w => haps (w ▸ hb')
        rw [upd_ne n1, upd_ne n2]
        exact hr j b r hb hr'
      · have hj1 : j < (ps ++ [a]).length := (List.getElem?_eq_some_iff.mp hb).1
        rw [List.length_append, List.length_singleton] at hj1
        have hj2 : j = ps.length := by omega
        subst hj2
        rw [List.getElem?_append_right (Nat.le_refl _), Nat.sub_self] at hb
        rw [List.getElem?_append_right (by omega)] at hr'
        rw [show ps.length - rows.length = 0 by omega] at hr'
        cases hb; cases hr'
        rw [upd_ne hap]
        exact upd_same
theorem sq_app2 {vs : List V} (h : Γ[i]? = some (.oo (O2 rows))) (he : EvN K B .f te Γ (vs.map D.v)) (hz : rows.length < 100000) (n : StD K B Φ tz D₀ (Γ.set i (.oo (O2 (rows ++ [vs]))))) :
    StD K B Φ (tSeq (tDrop (tBM K "list" rAppend (tVar i) (tCons te tNil))) tz) D₀ Γ := sd_app2 (D₀ := { D₀ with nx := tz D₀ }) h he hz n
/-- x[a][b] = e -/
theorem sd_set2 {a b : Int} {m l : Nat} {w : V} {row : List V} (h : Γ[i]? = some (.oo (O2 rows))) (he : Ev K B .h te Γ (.v w)) (ha : Ev K B .h ta Γ (.i a)) (hb : Ev K B .h tb Γ (.i b)) (hm : ixN rows.length a = some m) (hr : rows[m]? = some row) (hl : ixN row.length b = some l)
    (n : NxO K B Φ D₀.nx (Γ.set i (.oo (O2 (rows.set m (row.set l w)))))) : StD K B Φ (tAsg te (gSub (tOp (rIx K) (tVar i) ta) tb rSetL)) D₀ Γ := fun σ H ⟨F, G, e, S⟩ => by
  refine he σ F G H S _ fun v d F1 H1 p1 g1 i1 => ?_
  subst p1; cases Is.leaf i1
  have S1 := S.grow g1
  obtain ⟨v, h1, p, ps, rfl, h2, hp, nd, hlen, hrr⟩ := S1.sl i _ h
  refine ⟨_, h1, ?_⟩
  refine ha σ F1 G H1 S1 _ fun v d F2 H2 p2 g2 i2 => ?_
  subst p2; cases Is.leaf i2
  have S2 := S1.grow g2
  have hmr : m < rows.length := (List.getElem?_eq_some_iff.mp hr).1
  obtain ⟨q0, hps⟩ : ∃ q0, ps[m]? = some q0 := ⟨_, List.getElem?_eq_getElem (by omega : m < ps.length)⟩
  have hrow := hrr m _ row hps hr
  refine .inl ⟨p, ps.map V.ref, a, .ref q0, rfl, rfl, sq_of (S2.gh i p _ h2), ?_, ?_⟩
  · unfold atI
    rw [List.length_map, hlen, hm]
    show (ps.map V.ref)[m]? = _
    rw [List.getElem?_map, hps]
    rfl
  refine hb σ F2 G H2 S2 _ fun v d F3 H3 p3 g3 i3 => ?_
  subst p3; cases Is.leaf i3
  have S3 := S2.grow g3
  have q := List.mem_of_getElem? hps
  have n1 : q0 ≠ p := fun w => hp (w ▸ q)
  refine ⟨q0, row, b, l, rfl, rfl, S3.gh i q0 _ hrow, hl, n _ _ ⟨F3, _, (e.trans g1.f).trans (g2.f.trans g3.f), S3.own2 (i := i) (.oo (O2 (rows.set m (row.set l w)))) (g := upd (G i) q0 (.lst (row.set l w))) ?_ ?_ ?_ ?_⟩⟩
  · intro c o hc
    by_cases e1 : c = q0
    · subst e1; rw [upd_same] at hc ⊢; exact hc
    · rw [upd_ne e1] at hc ⊢; exact S3.gh i c o hc
  · intro c o hc hn
    have e1 : c ≠ q0 := fun z => by subst z; rw [hrow] at hn; cases hn
    rw [upd_ne e1]; exact hc
  · intro c hc
    by_cases e1 : c = q0
    · subst e1; exact .inl (some_ne hrow)
    · rw [upd_ne e1] at hc; exact .inl hc
  · refine ⟨.ref p, h1, p, ps, rfl, by rw [upd_ne n1.symm]; exact h2, hp, nd, by rw [List.length_set]; exact hlen, fun j c r hc hr' => ?_⟩
    by_cases hj : j = m
    · subst hj
      rw [List.getElem?_set_self hmr] at hr'
      cases hr'
      rw [hps] at hc; cases hc
      exact upd_same
    · rw [List.getElem?_set_ne (Ne.symm hj)] at hr'
      have n2 : c ≠ q0 := fun z => by
        subst z
        exact hj (nd_ix nd hc hps)
      rw [upd_ne n2]
      exact hrr j c r hc hr'
theorem sq_set2 {a b : Int} {m l : Nat} {w : V} {row : List V} (h : Γ[i]? = some (.oo (O2 rows))) (he : Ev K B .h te Γ (.v w)) (ha : Ev K B .h ta Γ (.i a)) (hb : Ev K B .h tb Γ (.i b)) (hm : ixN rows.length a = some m) (hr : rows[m]? = some row) (hl : ixN row.length b = some l)
    (n : StD K B Φ tz D₀ (Γ.set i (.oo (O2 (rows.set m (row.set l w)))))) : StD K B Φ (tSeq (tAsg te (gSub (tOp (rIx K) (tVar i) ta) tb rSetL)) tz) D₀ Γ := sd_set2 (D₀ := { D₀ with nx := tz D₀ }) h he ha hb hm hr hl n
end

end
section
def oInts (tg : List (List Int)) : Own := O2 (tg.map (·.map V.int))
def oBools (fl : List (List Bool)) : Own := O2 (fl.map (·.map V.bl))
theorem d2_ints (tg : List (List Int)) : d2 (tg.map (·.map V.int)) = .l (tg.map dInts) := by
  unfold d2 dInts
  rw [List.map_map]
  congr 1
  refine List.map_congr_left fun r _ => ?_
  show D.l ((r.map V.int).map D.v) = D.l (r.map D.i)
  rw [List.map_map]; rfl
theorem d2_bools (tg : List (List Bool)) : d2 (tg.map (·.map V.bl)) = .l (tg.map dBools) := by
  unfold d2 dBools
  rw [List.map_map]
  congr 1
  refine List.map_congr_left fun r _ => ?_
  show D.l ((r.map V.bl).map D.v) = D.l (r.map D.b)
  rw [List.map_map]; rfl
section
variable {K : PySem.W.Frag} {B Φ F H : Hp} {Γ : Gm} {k : Kd} {ta tb tc te tx : TE} {d e : D} {ds es : List D} {i : Nat} {D₀ : Ends} {tz : TS} {tg : List (List Int)} {fl : List (List Bool)}
theorem ev_oI (h : Γ[i]? = some (.oo (oInts tg))) : Ev K B .h (tVar i) Γ (.l (tg.map dInts)) := by rw [← d2_ints]; exact ev_o2 h
theorem ev_oB (h : Γ[i]? = some (.oo (oBools fl))) : Ev K B .h (tVar i) Γ (.l (fl.map dBools)) := by rw [← d2_bools]; exact ev_o2 h
theorem ixN_in {n : Nat} {a : Int} (h0 : 0 ≤ a) (h : a < n) : ixN n a = some a.toNat := by
  unfold ixN
  rw [if_pos h0, if_pos h]
theorem getD_some {α : Type} {xs : List α} {m : Nat} {d : α} (h : m < xs.length) : xs[m]? = some (xs.getD m d) := by
  rw [List.getD_eq_getElem?_getD, List.getElem?_eq_getElem h]; rfl
theorem map_set2 {α : Type} (g : α → V) (rows : List (List α)) (m l : Nat) (x : α) (row : List α) : (rows.map (·.map g)).set m ((row.map g).set l (g x)) = (rows.set m (row.set l x)).map (·.map g) := by
  rw [List.map_set, List.map_set]
theorem sd_setI2 {a b x : Int} (h : Γ[i]? = some (.oo (oInts tg))) (he : Ev K B .h te Γ (.i x)) (ha : Ev K B .h ta Γ (.i a)) (hb : Ev K B .h tb Γ (.i b)) (h1 : 0 ≤ a) (h2 : a < tg.length) (h3 : 0 ≤ b) (h4 : b < (tg.getD a.toNat []).length)
    (n : NxO K B Φ D₀.nx (Γ.set i (.oo (oInts (tg.set a.toNat ((tg.getD a.toNat []).set b.toNat x)))))) : StD K B Φ (tAsg te (gSub (tOp (rIx K) (tVar i) ta) tb rSetL)) D₀ Γ := by
  refine sd_set2 (m := a.toNat) (l := b.toNat) (w := .int x) (row := (tg.getD a.toNat []).map V.int) h he ha hb (ixN_in h1 (by rw [List.length_map]; exact h2)) ?_ (ixN_in h3 (by rw [List.length_map]; exact h4)) ?_
  · rw [List.getElem?_map, getD_some (d := []) (by omega)]; rfl
  · rw [map_set2]; exact n
theorem sd_setB2 {a b : Int} {x : Bool} (h : Γ[i]? = some (.oo (oBools fl))) (he : Ev K B .h te Γ (.b x)) (ha : Ev K B .h ta Γ (.i a)) (hb : Ev K B .h tb Γ (.i b)) (h1 : 0 ≤ a) (h2 : a < fl.length) (h3 : 0 ≤ b) (h4 : b < (fl.getD a.toNat []).length)
    (n : NxO K B Φ D₀.nx (Γ.set i (.oo (oBools (fl.set a.toNat ((fl.getD a.toNat []).set b.toNat x)))))) : StD K B Φ (tAsg te (gSub (tOp (rIx K) (tVar i) ta) tb rSetL)) D₀ Γ := by
  refine sd_set2 (m := a.toNat) (l := b.toNat) (w := .bl x) (row := (fl.getD a.toNat []).map V.bl) h he ha hb (ixN_in h1 (by rw [List.length_map]; exact h2)) ?_ (ixN_in h3 (by rw [List.length_map]; exact h4)) ?_
  · rw [List.getElem?_map, getD_some (d := []) (by omega)]; rfl
  · rw [map_set2]; exact n
theorem sq_setI2 {a b x : Int} (h : Γ[i]? = some (.oo (oInts tg))) (he : Ev K B .h te Γ (.i x)) (ha : Ev K B .h ta Γ (.i a)) (hb : Ev K B .h tb Γ (.i b)) (h1 : 0 ≤ a) (h2 : a < tg.length) (h3 : 0 ≤ b) (h4 : b < (tg.getD a.toNat []).length)
    (n : StD K B Φ tz D₀ (Γ.set i (.oo (oInts (tg.set a.toNat ((tg.getD a.toNat []).set b.toNat x)))))) : StD K B Φ (tSeq (tAsg te (gSub (tOp (rIx K) (tVar i) ta) tb rSetL)) tz) D₀ Γ := sd_setI2 (D₀ := { D₀ with nx := tz D₀ }) h he ha hb h1 h2 h3 h4 n
theorem sq_setB2 {a b : Int} {x : Bool} (h : Γ[i]? = some (.oo (oBools fl))) (he : Ev K B .h te Γ (.b x)) (ha : Ev K B .h ta Γ (.i a)) (hb : Ev K B .h tb Γ (.i b)) (h1 : 0 ≤ a) (h2 : a < fl.length) (h3 : 0 ≤ b) (h4 : b < (fl.getD a.toNat []).length)
    (n : StD K B Φ tz D₀ (Γ.set i (.oo (oBools (fl.set a.toNat ((fl.getD a.toNat []).set b.toNat x)))))) : StD K B Φ (tSeq (tAsg te (gSub (tOp (rIx K) (tVar i) ta) tb rSetL)) tz) D₀ Γ := sd_setB2 (D₀ := { D₀ with nx := tz D₀ }) h he ha hb h1 h2 h3 h4 n
theorem sq_appI {r : List Int} (h : Γ[i]? = some (.oo (oInts tg))) (he : EvN K B .f te Γ (r.map D.i)) (hz : tg.length < 100000) (n : StD K B Φ tz D₀ (Γ.set i (.oo (oInts (tg ++ [r]))))) :
    StD K B Φ (tSeq (tDrop (tBM K "list" rAppend (tVar i) (tCons te tNil))) tz) D₀ Γ := by
  refine sq_app2 (vs := r.map V.int) h (by rw [List.map_map]; exact he) (by rw [List.length_map]; exact hz) ?_
  unfold oInts at n
  rw [List.map_append] at n
  exact n
theorem sd_appB {r : List Bool} (h : Γ[i]? = some (.oo (oBools fl))) (he : EvN K B .f te Γ (r.map D.b)) (hz : fl.length < 100000) (n : NxO K B Φ D₀.nx (Γ.set i (.oo (oBools (fl ++ [r]))))) :
    StD K B Φ (tDrop (tBM K "list" rAppend (tVar i) (tCons te tNil))) D₀ Γ := by
  refine sd_app2 (vs := r.map V.bl) h (by rw [List.map_map]; exact he) (by rw [List.length_map]; exact hz) ?_
  unfold oBools at n
  rw [List.map_append] at n
  exact n
end

/-! ### machines, as the laws make them -/
structure Mach where
  ls : Str
  tg : List (List Int)
  fl : List (List Bool)
  st : Int
def encM (m : Mach) : D := .l [.s m.ls, .l (m.tg.map dInts), .l (m.fl.map dBools), .i m.st]
def WT (n c : Nat) (tg : List (List Int)) : Prop := tg.length = n ∧ ∀ r ∈ tg, r.length = c ∧ ∀ x ∈ r, 0 ≤ x ∧ x < (n : Int)
def WB (n c : Nat) (fl : List (List Bool)) : Prop := fl.length = n ∧ ∀ r ∈ fl, r.length = c
/-- the letters -/
def alpha (c : Nat) : Str := cutS ("abcd" : Str) none (some (c : Int))
structure Mach.Wf (m : Mach) (n c : Nat) : Prop where
  n1 : 1 ≤ n
  n8 : n ≤ 8
  c1 : 1 ≤ c
  c4 : c ≤ 4
  ls : m.ls = alpha c
  tg : WT n c m.tg
  fl : WB n c m.fl
  st : 0 ≤ m.st ∧ m.st < n
theorem WT.row {n c : Nat} {tg : List (List Int)} (h : WT n c tg) {m : Nat} (hm : m < n) : (tg.getD m []).length = c ∧ ∀ x ∈ tg.getD m [], 0 ≤ x ∧ x < (n : Int) := by
  refine h.2 _ ?_
  have e := getD_some (xs := tg) (m := m) (d := []) (by rw [h.1]; exact hm)
  exact List.mem_of_getElem? e
theorem WB.row {n c : Nat} {tg : List (List Bool)} (h : WB n c tg) {m : Nat} (hm : m < n) : (tg.getD m []).length = c := by
  refine h.2 _ ?_
  have e := getD_some (xs := tg) (m := m) (d := []) (by rw [h.1]; exact hm)
  exact List.mem_of_getElem? e
theorem getD_mem {α : Type} {xs : List α} {m : Nat} {d : α} (h : m < xs.length) : xs.getD m d ∈ xs := List.mem_of_getElem? (getD_some h)
theorem WT.cell {n c : Nat} {tg : List (List Int)} (h : WT n c tg) {m l : Nat} (hm : m < n) (hl : l < c) : 0 ≤ (tg.getD m []).getD l 0 ∧ (tg.getD m []).getD l 0 < (n : Int) := by
  obtain ⟨h1, h2⟩ := h.row hm
  exact h2 _ (getD_mem (by rw [h1]; exact hl))
theorem WT.set {n c : Nat} {tg : List (List Int)} (h : WT n c tg) {m l : Nat} {x : Int} (hm : m < n) (hx : 0 ≤ x ∧ x < (n : Int)) : WT n c (tg.set m ((tg.getD m []).set l x)) := by
  refine ⟨by rw [List.length_set]; exact h.1, fun r hr => ?_⟩
  rcases List.mem_or_eq_of_mem_set hr with hr | hr
  · exact h.2 r hr
  · obtain ⟨h1, h2⟩ := h.row hm
    subst hr
    refine ⟨by rw [List.length_set]; exact h1, fun y hy => ?_⟩
    rcases List.mem_or_eq_of_mem_set hy with hy | hy
    · exact h2 y hy
    · rw [hy]; exact hx
theorem WB.set {n c : Nat} {tg : List (List Bool)} (h : WB n c tg) {m l : Nat} {x : Bool} (hm : m < n) : WB n c (tg.set m ((tg.getD m []).set l x)) := by
  refine ⟨by rw [List.length_set]; exact h.1, fun r hr => ?_⟩
  rcases List.mem_or_eq_of_mem_set hr with hr | hr
  · exact h.2 r hr
  · subst hr
    rw [List.length_set]; exact h.row hm

section
variable {K : PySem.W.Frag} {B Φ F H : Hp} {Γ : Gm} {k : Kd} {ta tr : TA} {tl te : TE} {tt : TT} {ds : List D} {i j : Nat} {vs : List Nat}
theorem range_map_kept (v : Nat → D) (n : Nat) : kept (fun _ => true) v n = (List.range n).map v := kept_all n v
theorem en_lcR {n : Int} (v : Nat → D) (hk : k = .f ∨ k = .r) (h : EvA K B .h ta Γ [.i n]) (hn : -40000 ≤ n ∧ n ≤ 40000) (hj : j ∈ vs) (he : ∀ m : Nat, (m : Int) < n → Ev K B k te ((wipeG Γ vs).set j (.f (.i (m : Int)))) (v m)) :
    EvN K B k (tLc (iRng1 ta) (gName j) tYes te vs) Γ ((List.range n.toNat).map v) := by
  rw [← kept_all]
  exact en_lcR1 (fun _ => true) v hk h hn hj (fun _ _ => et_yes) fun m hm _ => he m hm
theorem en_lcRI {n : Int} (f : Nat → Int) (h : EvA K B .h ta Γ [.i n]) (hn : -40000 ≤ n ∧ n ≤ 40000) (hj : j ∈ vs) (he : ∀ m : Nat, (m : Int) < n → Ev K B .f te ((wipeG Γ vs).set j (.f (.i (m : Int)))) (.i (f m))) :
    EvN K B .f (tLc (iRng1 ta) (gName j) tYes te vs) Γ (((List.range n.toNat).map f).map D.i) := by
  rw [List.map_map]
  exact en_lcR (fun m => .i (f m)) (.inl rfl) h hn hj he
theorem en_lcRB {n : Int} (f : Nat → Bool) (h : EvA K B .h ta Γ [.i n]) (hn : -40000 ≤ n ∧ n ≤ 40000) (hj : j ∈ vs) (he : ∀ m : Nat, (m : Int) < n → Ev K B .f te ((wipeG Γ vs).set j (.f (.i (m : Int)))) (.b (f m))) :
    EvN K B .f (tLc (iRng1 ta) (gName j) tYes te vs) Γ (((List.range n.toNat).map f).map D.b) := by
  rw [List.map_map]
  exact en_lcR (fun m => .b (f m)) (.inl rfl) h hn hj he
theorem getD_map {α β : Type} (f : α → β) (xs : List α) (v : Nat → β) (hv : ∀ m x, xs[m]? = some x → v m = f x) : (List.range xs.length).map v = xs.map f := by
  refine List.ext_getElem? fun m => ?_
  rw [List.getElem?_map, List.getElem?_map]
  by_cases hm : m < xs.length
  · rw [List.getElem?_range hm, List.getElem?_eq_getElem hm]
    exact congrArg some (hv m _ (List.getElem?_eq_getElem hm))
  · rw [List.getElem?_eq_none (by rw [List.length_range]; omega), List.getElem?_eq_none (by omega)]
    rfl
/-- [e for x in xs], a function of the item -/
theorem en_lcF {k2 : Kd} (f : D → D) (hk : k = .f ∨ k = .r) (hk2 : k2 = .f ∨ k2 = .r) (h : Ev K B k2 tl Γ (.l ds)) (hn : ds.length ≤ 40000) (hj : j ∈ vs) (he : ∀ x ∈ ds, Ev K B k te ((wipeG Γ vs).set j (Slot.of k2 x)) (f x)) :
    EvN K B k (tLc (iList K tl) (gName j) tYes te vs) Γ (ds.map f) := by
  have h0 := en_lcL (K := K) (B := B) (Γ := Γ) (te := te) (j := j) (vs := vs) (fun _ => true) (fun m => f (ds.getD m (.v .non))) hk hk2 h hn hj (fun _ _ _ => et_yes) (fun m x hx _ => by
    have e : ds.getD m (.v .non) = x := by rw [List.getD_eq_getElem?_getD, hx]; rfl
    rw [e]
    exact he x (List.mem_of_getElem? hx))
  rw [kept_all, getD_map f ds _ (fun m x hx => by rw [List.getD_eq_getElem?_getD, hx]; rfl)] at h0
  exact h0
theorem en_lcII {k2 : Kd} {ns : List Int} (f : Int → Int) (hk2 : k2 = .f ∨ k2 = .r) (h : Ev K B k2 tl Γ (dInts ns)) (hn : ns.length ≤ 40000) (hj : j ∈ vs) (he : ∀ x ∈ ns, Ev K B .f te ((wipeG Γ vs).set j (Slot.of k2 (.i x))) (.i (f x))) :
    EvN K B .f (tLc (iList K tl) (gName j) tYes te vs) Γ ((ns.map f).map D.i) := by
  have h0 := en_lcL (K := K) (B := B) (Γ := Γ) (te := te) (j := j) (vs := vs) (ds := ns.map D.i) (k2 := k2) (fun _ => true) (fun m => .i (f (ns.getD m 0))) (.inl rfl) hk2 h (by rw [List.length_map]; exact hn) hj (fun _ _ _ => et_yes) (fun m x hx _ => by
    rw [List.getElem?_map] at hx
    cases e : ns[m]? with
    | none => rw [e] at hx; cases hx
    | some y =>
      rw [e] at hx; cases hx
      have e2 : ns.getD m 0 = y := by rw [List.getD_eq_getElem?_getD, e]; rfl
      rw [e2]
      exact he y (List.mem_of_getElem? e))
  rw [kept_all, List.length_map, getD_map (fun x : Int => D.i (f x)) ns _ (fun m x hx => by rw [List.getD_eq_getElem?_getD, hx]; rfl)] at h0
  rw [List.map_map]
  exact h0
theorem en_lcIB {k2 : Kd} {ns : List Int} (f : Int → Bool) (hk2 : k2 = .f ∨ k2 = .r) (h : Ev K B k2 tl Γ (dInts ns)) (hn : ns.length ≤ 40000) (hj : j ∈ vs) (he : ∀ x ∈ ns, Ev K B .f te ((wipeG Γ vs).set j (Slot.of k2 (.i x))) (.b (f x))) :
    EvN K B .f (tLc (iList K tl) (gName j) tYes te vs) Γ ((ns.map f).map D.b) := by
  have h0 := en_lcL (K := K) (B := B) (Γ := Γ) (te := te) (j := j) (vs := vs) (ds := ns.map D.i) (k2 := k2) (fun _ => true) (fun m => .b (f (ns.getD m 0))) (.inl rfl) hk2 h (by rw [List.length_map]; exact hn) hj (fun _ _ _ => et_yes) (fun m x hx _ => by
    rw [List.getElem?_map] at hx
    cases e : ns[m]? with
    | none => rw [e] at hx; cases hx
    | some y =>
      rw [e] at hx; cases hx
      have e2 : ns.getD m 0 = y := by rw [List.getD_eq_getElem?_getD, e]; rfl
      rw [e2]
      exact he y (List.mem_of_getElem? e))
  rw [kept_all, List.length_map, getD_map (fun x : Int => D.b (f x)) ns _ (fun m x hx => by rw [List.getD_eq_getElem?_getD, hx]; rfl)] at h0
  rw [List.map_map]
  exact h0
/-- over an owned list of ints that stands meanwhile -/
theorem en_lcHI {ns : List Int} (f : Int → Int) (h : Ev K B .h tl Γ (dInts ns)) (hn : ns.length ≤ 40000) (hj : j ∈ vs) (he : ∀ x ∈ ns, Ev K B .f te ((wipeG Γ vs).set j (.f (.i x))) (.i (f x))) :
    EvN K B .f (tLc (iList K tl) (gName j) tYes te vs) Γ ((ns.map f).map D.i) := fun σ F G H S Q q =>
  h σ F G H S _ fun v1 d1 F1 H1 p1 g1 i1 => by
    subst p1
    obtain ⟨a, rfl, s⟩ := ints_of i1
    have S1 := S.grow g1
    have W1 := S1.wipe vs
    refine ⟨a, rfl, ⟨_, s⟩, fun L hL => lc_list (K := K) (a := a) (xs := ns.map V.int) (Cs K B F1 (wipeG Γ vs) (wipe σ vs) G H1 .f (fun _ => true) (fun m => .i (f (ns.getD m 0))) L) (Cs.start W1 hL) (fun m H' _ ⟨F', ys, S', x', _⟩ => ex_l x' s) (fun m x H' hx c => ?_) fun H' ⟨F', ys, S', x', f', n', l', h', i'⟩ => ?_⟩
    · show wipe ((wipe σ vs).set j (some x)) vs = wipe σ vs ∧ tYes ((wipe σ vs).set j (some x)) H' _
      refine ⟨wipe_set_self hj, ?_⟩
      rw [List.getElem?_map] at hx
      cases e : ns[m]? with
      | none => rw [e] at hx; cases hx
      | some y =>
        rw [e] at hx; cases hx
        have e2 : ns.getD m 0 = y := by rw [List.getD_eq_getElem?_getD, e]; rfl
        refine Cs.turn (.inl rfl) W1 hL c (by have := (List.getElem?_eq_some_iff.mp e).1; omega) (fun F2 H2 S2 _ => .inr ⟨_, S2.put0 j (.int y) (.f (.i y)) fun σ' q => ⟨_, q, .v _⟩⟩) et_yes (fun _ => by rw [e2]; exact he y (List.mem_of_getElem? e))
    · rw [List.length_map, kept_all, getD_map (fun x : Int => D.i (f x)) ns _ (fun m x hx => by rw [List.getD_eq_getElem?_getD, hx]; rfl)] at i'
      refine q L ys F' H' (g1.trans ⟨f', x', S'.fh, n'⟩) (none_of_ex g1.h hL) l' h' ?_
      rw [List.map_map]
      exact i'
end

end
section

/-! ### words: letters by their places -/
def lt (j : Nat) : Str := ⟨#[97 + j]⟩
def wd (js : List Nat) : Str := ⟨(js.map (97 + ·)).toArray⟩
theorem wd_len (js : List Nat) : (wd js).length = js.length := by unfold wd; show (js.map (97 + ·)).toArray.size = _; simp
theorem wd_cps (js : List Nat) : (wd js).cps.toList = js.map (97 + ·) := by unfold wd; simp
theorem wd_app (a b : List Nat) : wd a ++ wd b = wd (a ++ b) := by
  show (⟨(wd a).cps ++ (wd b).cps⟩ : Str) = _
  unfold wd
  simp
theorem wd_one (j : Nat) : wd [j] = lt j := by unfold wd lt; simp
theorem wd_inj {a b : List Nat} (h : wd a = wd b) : a = b := by
  have e : (wd a).cps.toList = (wd b).cps.toList := by rw [h]
  rw [wd_cps, wd_cps] at e
  exact List.map_inj_right (fun x y h => by omega) |>.mp e
theorem alpha_wd {c : Nat} (h : c ≤ 4) : alpha c = wd (List.range c) := by
  have : c = 0 ∨ c = 1 ∨ c = 2 ∨ c = 3 ∨ c = 4 := by omega
  rcases this with rfl | rfl | rfl | rfl | rfl <;> decide +kernel
theorem wd_at {js : List Nat} {m : Nat} (h : m < js.length) : atI (wd js).cps.toList (m : Int) = some (97 + js.getD m 0) := by
  rw [wd_cps]
  refine atI_nat ?_
  rw [List.getElem?_map, getD_some (d := 0) h]
  rfl
theorem wd_ok (js : List Nat) (h : ∀ j ∈ js, j < 1000) : PyData.strOk (wd js) = true := by
  unfold PyData.strOk wd
  simp only [List.all_toArray, List.all_map, List.all_eq_true]
  intro j hj
  have := h j hj
  show decide (97 + j < 1114112) = true
  exact decide_eq_true (by omega)

section
variable {K : PySem.W.Frag} {B Φ F H : Hp} {Γ Δ : Gm} {k : Kd} {ta tb tc te tl tx : TE} {tr : TA} {d e : D} {x y z : V} {ds es : List D} {i j : Nat} {D₀ : Ends} {t tz : TS} {tb' : TS} {σ : L2.St} {G : Nat → Hp} {φ : D → Prop}
/-- for c in text -/
theorem sd_forS {s : Str} (h : Ev K B .h tl Γ (.s s)) (Iv : Nat → Gm → Prop) (h0 : ∃ Δ, Iv 0 Δ ∧ Le Γ Δ)
    (hs : ∀ (m c : Nat) Δ, s.cps.toList[m]? = some c → Iv m Δ → StD K B Φ tb' { D₀ with nx := StE K B Φ (Iv (m + 1)), ct := StE K B Φ (Iv (m + 1)), bk := D₀.nx } (Δ.set j (.f (.s ⟨#[c]⟩)))) (hd : ∀ Δ, Iv s.length Δ → NxO K B Φ D₀.nx Δ) :
    StD K B Φ (tFor (iStr tl) (gName j) tb') D₀ Γ := fun σ H ⟨F, G, e, S⟩ =>
  h σ F G H S _ fun v d F1 H1 p1 g1 i1 => by
    subst p1; cases Is.leaf i1
    obtain ⟨Δ0, p0, l0⟩ := h0
    have hlen : s.length = s.cps.size := rfl
    refine ⟨s, rfl, fun m r σ H => r = s.length - m ∧ m ≤ s.length ∧ StE K B Φ (Iv m) σ H, ⟨s.length, by simp, Nat.zero_le _, Δ0, p0, F1, G, e.trans g1.f, (S.grow g1).le l0⟩, ?_⟩
    rintro m r σ' H' ⟨rfl, hm, Δ, p, F2, G2, e2, S2⟩
    by_cases hlt : m < s.length
    · refine .inr ⟨(show m < s.cps.size from hlt), StE K B Φ (Iv (m + 1)), fun σ2 H2 q => ⟨s.length - (m + 1), by omega, rfl, hlt, q⟩, fun x H3 y => ?_⟩
      obtain ⟨rfl, c, hc, rfl⟩ := y
      exact hs m c Δ (by rw [Array.getElem?_toList]; exact hc) p _ _ ⟨F2, _, e2, S2.put0 j (.str ⟨#[c]⟩) (.f (.s ⟨#[c]⟩)) fun σ' q => ⟨_, q, .v _⟩⟩
    · have e : m = s.length := by omega
      subst e
      exact .inl ⟨(show s.cps.size ≤ s.length from Nat.le_refl _), hd Δ p σ' H' ⟨F2, G2, e2, S2⟩⟩
theorem sq_forS {s : Str} (h : Ev K B .h tl Γ (.s s)) (Iv : Nat → Gm → Prop) (h0 : ∃ Δ, Iv 0 Δ ∧ Le Γ Δ)
    (hs : ∀ (m c : Nat) Δ, s.cps.toList[m]? = some c → Iv m Δ → StD K B Φ tb' { D₀ with nx := StE K B Φ (Iv (m + 1)), ct := StE K B Φ (Iv (m + 1)), bk := tz D₀ } (Δ.set j (.f (.s ⟨#[c]⟩)))) (hd : ∀ Δ, Iv s.length Δ → StD K B Φ tz D₀ Δ) :
    StD K B Φ (tSeq (tFor (iStr tl) (gName j) tb') tz) D₀ Γ := sd_forS (D₀ := { D₀ with nx := tz D₀ }) h Iv h0 hs hd
/-- for a, b in xs, a list of pairs -/
theorem sd_forL2 {a b : Nat} (hk : k = .f ∨ k = .r) (h : Ev K B k tl Γ (.l ds)) (hp : ∀ x ∈ ds, ∃ y z, x = .t [y, z]) (Iv : Nat → Gm → Prop) (h0 : ∃ Δ, Iv 0 Δ ∧ Le Γ Δ)
    (hs : ∀ (Φ' : Hp) (m : Nat) (y z : D) Δ, ds[m]? = some (.t [y, z]) → Iv m Δ → StD K B Φ' tb' { D₀ with nx := StE K B Φ' (Iv (m + 1)), ct := StE K B Φ' (Iv (m + 1)), bk := D₀.nx } ((Δ.set a (Slot.of k y)).set b (Slot.of k z))) (hd : ∀ Δ, Iv ds.length Δ → NxO K B Φ D₀.nx Δ) :
    StD K B Φ (tFor (iList K tl) (gTup K 2 (gCons (gName a) (gCons (gName b) gNil))) tb') D₀ Γ := fun σ H ⟨F, G, e, S⟩ =>
  h σ F G H S _ fun v d1 F1 H1 p1 g1 i1 => by
    subst p1
    obtain ⟨p, xs, rfl, s, r⟩ := IsK.lst hk i1
    have S1 := S.grow g1
    have kh : ∀ {F2 G2 σ2 H2 Δ}, Sta K B Δ σ2 F2 G2 H2 → Ex (k.at B F2) H2 := fun {F2 G2 σ2 H2 Δ} S2 => by
      rcases hk with hk | hk <;> subst hk
      · exact S2.fh
      · exact S2.rh
    obtain ⟨Δ0, p0, l0⟩ := h0
    refine ⟨p, rfl, ⟨xs, ex_l (kh S1) s⟩, for_list (K := K) (a := p) (xs := xs) (fun m => StE K B F1 (Iv m)) ⟨Δ0, p0, F1, G, Ex.refl _, S1.le l0⟩ (fun m σ' H' _ ⟨Δ, p, F2, G2, e2, S2⟩ => ex_l (kh S2) (ex_l (k.at_mono e2 S2.bf) s)) (fun m x σ' H' hx ⟨Δ, p, F2, G2, e2, S2⟩ => ?_) fun σ' H' ⟨Δ, p, F2, G2, e2, S2⟩ => ?_⟩
    · obtain ⟨y0, h1, h2⟩ := r.getV hx
      have h2 := h2.mono (k.at_mono e2 S2.bf)
      obtain ⟨y, z, rfl⟩ := hp y0 (List.mem_of_getElem? h1)
      cases h2 with
      | t st rt =>
        cases rt with
        | cons i1 rt =>
          cases rt with
          | cons i2 rt =>
            cases rt
            refine ⟨_, _, rfl, ex_t (kh S2) st, rfl, _, _, rfl, _, _, rfl, rfl, ?_⟩
            have ok : ∀ (w : D) (v : V), Is K (k.at B F2) v w → ∀ (q : Nat) (σ' : L2.St), σ'[q]? = some (some v) → SlotOk K B F2 H0 σ' q (Slot.of k w) := fun w v iw q σ' hq => by
              rcases hk with hk | hk <;> subst hk
              · exact ⟨v, hq, iw⟩
              · exact ⟨v, hq, iw⟩
            exact hs F1 m y z Δ h1 p _ _ ⟨F2, _, e2, (S2.put0 a _ (Slot.of k y) (ok y _ i1 a)).put0 b _ (Slot.of k z) (ok z _ i2 b)⟩
    · rw [r.len] at p
      exact hd Δ p σ' H' ⟨F2, G2, (e.trans g1.f).trans e2, S2⟩
theorem sq_forL2 {a b : Nat} (hk : k = .f ∨ k = .r) (h : Ev K B k tl Γ (.l ds)) (hp : ∀ x ∈ ds, ∃ y z, x = .t [y, z]) (Iv : Nat → Gm → Prop) (h0 : ∃ Δ, Iv 0 Δ ∧ Le Γ Δ)
    (hs : ∀ (Φ' : Hp) (m : Nat) (y z : D) Δ, ds[m]? = some (.t [y, z]) → Iv m Δ → StD K B Φ' tb' { D₀ with nx := StE K B Φ' (Iv (m + 1)), ct := StE K B Φ' (Iv (m + 1)), bk := tz D₀ } ((Δ.set a (Slot.of k y)).set b (Slot.of k z))) (hd : ∀ Δ, Iv ds.length Δ → StD K B Φ tz D₀ Δ) :
    StD K B Φ (tSeq (tFor (iList K tl) (gTup K 2 (gCons (gName a) (gCons (gName b) gNil))) tb') tz) D₀ Γ := sd_forL2 (D₀ := { D₀ with nx := tz D₀ }) hk h hp Iv h0 hs hd
/-- a, b = a pair -/
theorem sq_set2n {a b : Nat} (hk : k = .f ∨ k = .r) (h : Ev K B k te Γ (.t [d, e])) (n : StD K B Φ tz D₀ ((Γ.set a (Slot.of k d)).set b (Slot.of k e))) : StD K B Φ (tSeq (tAsg te (gTup K 2 (gCons (gName a) (gCons (gName b) gNil)))) tz) D₀ Γ := fun σ H ⟨F, G, x, S⟩ =>
  h σ F G H S _ fun v d1 F1 H1 p1 g1 i1 => by
    subst p1
    have S1 := S.grow g1
    have kh : Ex (k.at B F1) H1 := by rcases hk with hk | hk <;> subst hk <;> first | exact S1.fh | exact S1.rh
    have i1 := IsK.kd hk i1
    cases i1 with
    | t st rt =>
      cases rt with
      | cons i1 rt =>
        cases rt with
        | cons i2 rt =>
          cases rt
          refine ⟨_, _, rfl, ex_t kh st, rfl, _, _, rfl, _, _, rfl, rfl, ?_⟩
          have ok : ∀ (w : D) (v : V), Is K (k.at B F1) v w → ∀ (q : Nat) (σ' : L2.St), σ'[q]? = some (some v) → SlotOk K B F1 H0 σ' q (Slot.of k w) := fun w v iw q σ' hq => by
            rcases hk with hk | hk <;> subst hk
            · exact ⟨v, hq, iw⟩
            · exact ⟨v, hq, iw⟩
          exact n _ _ ⟨F1, _, x.trans g1.f, (S1.put0 a _ (Slot.of k d) (ok d _ i1 a)).put0 b _ (Slot.of k e) (ok e _ i2 b)⟩

/-! ### dicts whose keys are tuples, owned -/
def OdT (kvs : List (List Key × V)) : Own := ⟨fun _ _ v G => ∃ p, v = .ref p ∧ G p = some (.dT kvs) ∧ ∀ a, a ≠ p → G a = none, fun _ _ h => h⟩
theorem sq_dnewT (n : StD K B Φ tz D₀ (Γ.set i (.oo (OdT [])))) : StD K B Φ (tSeq (tAsg tDNewT (gName i)) tz) D₀ Γ := fun σ H ⟨F, G, e, S⟩ p hp => by
  have g2 := Grow.heap S.fh (Ex.new (o := .dT []) hp)
  exact n _ _ ⟨F, _, e, (S.grow g2).put i (.ref p) (.oo (OdT [])) (one p (.dT [])) (one_ex upd_same) (fun a z => by rw [one_ne z]; exact ⟨none_of_ex S.bh hp, none_of_ex S.fh hp⟩) (fun j a hj z => by rw [one_ne z]; exact none_of_ex (S.gh j) hp)
    fun σ' q => ⟨_, q, p, rfl, upd_same, fun a ha => upd_ne ha⟩⟩
def kD : Key → D
  | .inl i => .i i
  | .inr s => .s s
theorem kD_vals {H : Hp} : ∀ {vs : List V} {ks : List Key}, IsL K H vs (ks.map kD) → vs = ks.map kV
  | _, [], .nil => rfl
  | _, k :: _, .cons h r => by
    have e := kD_vals r
    subst e
    cases k <;> (cases Is.leaf h; rfl)
theorem ev_dinT {kvs : List (List Key × V)} {ks : List Key} (h : Γ[i]? = some (.oo (OdT kvs))) (ha : EvA K B .h tr Γ (ks.map kD)) (hl : ks.length ≤ 1000) : Ev K B k (tDIn (tTup tr) (tVar i)) Γ (.b (valV kvs ks).isSome) := Ev.val fun σ F G H S Q q =>
  ha σ F G H S _ fun vs F1 H1 g1 i1 => by
    have S1 := S.grow g1
    have e := kD_vals i1
    subst e
    refine ⟨by rw [List.length_map]; exact sz_of (by omega), fun p hp => ?_⟩
    obtain ⟨v, h1, a, rfl, h2, h3⟩ := S1.sl i _ h
    have hap : a ≠ p := fun z => by
      subst z
      have := S1.gh i a _ h2
      rw [hp] at this; cases this
    exact ⟨_, h1, a, _, rfl, DGet.t (by rw [upd_ne hap]; exact S1.gh i a _ h2) upd_same, q _ (g1.h.trans (Ex.new hp))⟩
theorem sd_dputT {kvs : List (List Key × V)} {ks : List Key} {w : V} (h : Γ[i]? = some (.oo (OdT kvs))) (he : Ev K B .h te Γ (.v w)) (ha : EvA K B .h tr Γ (ks.map kD)) (hl : ks.length ≤ 1000) (hz : kvs.length < 100000)
    (n : NxO K B Φ D₀.nx (Γ.set i (.oo (OdT (putK kvs ks w))))) : StD K B Φ (sDPut (tVar i) (tTup tr) te) D₀ Γ := fun σ H ⟨F, G, e, S⟩ =>
  he σ F G H S _ fun v d F1 H1 p1 g1 i1 => by
    subst p1; cases Is.leaf i1
    have S1 := S.grow g1
    obtain ⟨v, h1, a, rfl, h2, h3⟩ := S1.sl i _ h
    refine ⟨_, h1, ?_⟩
    refine ha σ F1 G H1 S1 _ fun vs F2 H2 g2 i2 => ?_
    have S2 := S1.grow g2
    have e2 := kD_vals i2
    subst e2
    refine ⟨by rw [List.length_map]; exact sz_of (by omega), fun p hp => ?_⟩
    have g3 := Grow.heap S2.fh (Ex.new (o := .tup (ks.map kV)) hp)
    have S3 := S2.grow g3
    refine ⟨a, _, rfl, DPut.t (S3.gh i a _ h2) upd_same (sz_lt hz), n _ _ ⟨F2, _, (e.trans g1.f).trans g2.f, S3.own2 (i := i) (.oo (OdT (putK kvs ks w))) (g := one a (.dT (putK kvs ks w))) ?_ ?_ ?_ ?_⟩⟩
    · exact one_ex upd_same
    · intro b o hb hn
      rw [upd_ne (fun z => by subst z; rw [h2] at hn; cases hn)]
      exact hb
    · intro b hb
      rw [one_ne hb]
      exact .inl (some_ne h2)
    · exact ⟨_, h1, a, rfl, upd_same, fun c hc => upd_ne hc⟩
/-- list(text) -/
def rListT : List V → Hp → VK → Prop := fun xs H Q => ∃ s : Str, xs = [.str s] ∧ s.length ≤ 100000 ∧ ∀ l, H l = none → Q (.ref l) (upd H l (.lst (s.cps.toList.map fun c => V.str ⟨#[c]⟩)))
theorem call_listT {X : Cx} (hc : X.calm = true) : CallR X (.type "list") rListT := by
  intro pins s σ H xs us Q I r h
  obtain ⟨z, e, hz, q⟩ := h
  subst e
  obtain ⟨u, eu, rx⟩ := vals1 r
  subst eu
  obtain ⟨t, rfl⟩ := rx
  refine call_list_str (I.ok.hd hc) z t (fun h' tk acc c' hk e' hi => ?_) (Nat.le_trans hz (by decide))
  have hv : Vals (z.cps.toList.map fun c => V.str ⟨#[c]⟩) acc.toList := by
    refine vals_of_at (by rw [List.length_map, Array.length_toList, Array.length_toList, hi.1]) fun j x u hx hu => ?_
    rw [Array.getElem?_toList] at hu
    obtain ⟨c, u', hc', rfl⟩ := hi.2 j u hu
    rw [List.getElem?_map, Array.getElem?_toList, hc'] at hx
    cases hx
    exact ⟨_, rfl⟩
  refine ⟨.ref s.heap.objs.size, upd H s.heap.objs.size (.lst (z.cps.toList.map fun c => V.str ⟨#[c]⟩)), I.laid hk (Nat.le_refl _) (show ObjOk X.prog X.w _ _ _ (.lst _) from ⟨?_, acc.toList, c', hv, ?_⟩), rfl, q _ (I.hok.fresh (Nat.le_refl _))⟩
  · rw [List.length_map, Array.length_toList]; exact Nat.le_trans hz (by decide)
  · rw [Array.toArray_toList]; exact e'
theorem en_listT {s : Str} (h : Ev K B .h ta Γ (.s s)) (hl : s.length ≤ 100000) : EvN K B .f (tCB rListT (tCons ta tNil)) Γ (s.cps.toList.map fun c => D.s ⟨#[c]⟩) := fun σ F G H S Q q =>
  h σ F G H S _ fun v d F1 H1 p g1 i1 => by
    subst p; cases Is.leaf i1
    exact ⟨s, rfl, hl, fun a ha => q a _ F1 _ (g1.trans (Grow.heap g1.fh (Ex.new ha))) (none_of_ex g1.h ha) (none_of_ex g1.fh ha) upd_same IsL.leaves⟩
/-- text.index(sign) -/
def rSIndex : V → List V → Hp → VK → Prop := fun x xs H Q => ∃ a b i rest, x = .str a ∧ xs = [.str b] ∧ Builtin.Str.occurrences a b 0 a.length 1 = i :: rest ∧ Q (.int (i : Nat)) H
theorem ev_sindex {a b : Str} {m : Nat} {rest : List Nat} (h : Ev K B .h ta Γ (.s a)) (hb : Ev K B .h tb Γ (.s b)) (ho : Builtin.Str.occurrences a b 0 a.length 1 = m :: rest) : Ev K B k (tBM K "str" rSIndex ta (tCons tb tNil)) Γ (.i (m : Int)) := Ev.val fun σ F G H S Q q =>
  h σ F G H S _ fun v d F1 H1 p1 g1 i1 => by
    subst p1; cases Is.leaf i1
    refine ⟨rfl, hb σ F1 G H1 (S.grow g1) _ fun w d2 F2 H2 p2 g2 i2 => ?_⟩
    subst p2; cases Is.leaf i2
    exact ⟨a, b, m, rest, rfl, rfl, ho, q H2 (g1.h.trans g2.h)⟩
end
theorem occ_abcd {j : Nat} (h : j < 4) : ∃ rest, Builtin.Str.occurrences ("abcd" : Str) (lt j) 0 ("abcd" : Str).length 1 = j :: rest := by
  have : j = 0 ∨ j = 1 ∨ j = 2 ∨ j = 3 := by omega
  rcases this with rfl | rfl | rfl | rfl <;> exact ⟨[], by decide +kernel⟩
theorem occ_alpha {c j : Nat} (hc : c ≤ 4) (h : j < c) : ∃ rest, Builtin.Str.occurrences (alpha c) (lt j) 0 (alpha c).length 1 = j :: rest := by
  have hc' : c = 1 ∨ c = 2 ∨ c = 3 ∨ c = 4 := by omega
  have hj : j = 0 ∨ j = 1 ∨ j = 2 ∨ j = 3 := by omega
  rcases hc' with rfl | rfl | rfl | rfl <;> rcases hj with rfl | rfl | rfl | rfl <;> first | (exfalso; omega) | exact ⟨[], by decide +kernel⟩

end
section

/-! ### calls of methods, makers, own operators -/
structure MCal (P : Program) (w : World) (K : PySem.W.Frag) (mg : Str → Option Value) (base : Heap) (C : Addr) (m : Str) (k : Nat) (ps : List Str) (sp : Sp) : Prop where
  ex : ∃ (f : Addr) (fd : FuncData), FnOk P w K mg base CX0 k f fd ps sp ∧ Binds K fd ps [] ∧ Meth K C m f
/-- a class made with positional arguments and keywords -/
structure KCal (P : Program) (w : World) (K : PySem.W.Frag) (mg : Str → Option Value) (base : Heap) (x : Str) (C : Addr) (k n : Nat) (ps ks : List Str) (sp : Sp) : Prop where
  ex : ∃ (f : Addr) (fd : FuncData) (g : List Value → List Value → List Value), FnOk P w K mg base CX0 k f fd ps sp ∧ KBn K fd ps (n + 1) ks g (fun vs zs => vs ++ zs) ∧ Mk K C f ∧ mg x = some (.ref C)
section
variable {X : Cx} {x m : Str} {k n : Nat} {ps ks : List Str} {sp : Sp} {e o : Expr} {es : List Expr} {kws : List Keyword} {t tk : TA} {ta tb : TE} {p pos apos : Pos} {C : Addr}
theorem pe_mcal {pl : Sem Bool} (he : PE X o ta) (c : Cls X.K C) (q : MCal X.prog X.w X.K X.mg X.base C m k ps sp) (hr : Room k X.A) (ha : PA X (e :: es) t)
    (hst : starEach (e :: es) X.env = (false, eval e X.env) :: starEach es X.env := by rfl) (hpl : (backTo pos (starEach es X.env)).any (·.1) = false := by rfl)
    (ht : eval (.Call (.Attribute o m apos) (e :: es) [] pos) X.env = (do
      let ov ← eval o X.env
      standAt apos.atName
      let (f, first) ← holding [ov] (getMethod ov m pl)
      callWith pos f first (backTo pos (starEach (e :: es) X.env)) (backToKw pos (keywordEach [] X.env))) := by rfl) :
    PE X (.Call (.Attribute o m apos) (e :: es) [] pos) (tMeth C m sp [] E0 ta t) := by
  obtain ⟨f, fd, F, b, hm⟩ := q.ex
  exact pe_meth he c hm F hr b .nil pass0 ha hst hpl ht
theorem pe_mcal0 {pl : Sem Bool} (he : PE X o ta) (c : Cls X.K C) (q : MCal X.prog X.w X.K X.mg X.base C m k ps sp) (hr : Room k X.A)
    (ht : eval (.Call (.Attribute o m apos) [] [] pos) X.env = (do
      let ov ← eval o X.env
      standAt apos.atName
      let (f, first) ← holding [ov] (getMethod ov m pl)
      callWith pos f first (backTo pos (starEach [] X.env)) (backToKw pos (keywordEach [] X.env))) := by rfl) :
    PE X (.Call (.Attribute o m apos) [] [] pos) (tMeth C m sp [] E0 ta tNil) := by
  obtain ⟨f, fd, F, b, hm⟩ := q.ex
  exact pe_meth0 he c hm F hr b .nil pass0 ht
theorem pe_kcal (q : KCal X.prog X.w X.K X.mg X.base x C k n ps ks sp) (hr : Room (k + 1) X.A) (hg : Gl X x) (ha : PA X (e :: es) t) (hkw : PK X kws tk)
    (hall : (backToKw pos (keywordEach kws X.env)).all (·.1.isSome) = true := by rfl) (hks : (backToKw pos (keywordEach kws X.env)).filterMap (·.1) = ks := by rfl) (hdb : (x == ("__debug__" : Str)) = false := by decide)
    (he : starEach (e :: es) X.env = (false, eval e X.env) :: starEach es X.env := by rfl) (hpl : ((backTo pos (starEach (e :: es) X.env)).any (·.1) || (backToKw pos (keywordEach kws X.env)).any (·.1.isNone)) = false := by rfl) :
    PE X (.Call (.Name x p) (e :: es) kws pos) (tMakeK C n ks.length sp (fun vs zs => vs ++ zs) E0 t tk) := by
  obtain ⟨f, fd, g, F, b, M, hm⟩ := q.ex
  exact pe_makeK M F hr hg hm b pass0 ha hkw hall hks hdb he hpl
/-- e in o, by the class's own __contains__ (a bool comes back) -/
def tInOwn (C : Addr) (sp : Sp) (ta tb : TE) : TE := fun σ H Q => ta σ H fun x H1 => tb σ H1 fun y H2 => ∃ a dx fs, y = .ref a ∧ H2 a = some (.ins C dx fs) ∧ sp [y, x] H2 (fun v H3 => ∃ b, v = .bl b ∧ Q (.bl b) H3) E0
theorem pe_inOwn (ha : PE X e ta) (hb : PE X o tb) (c : Cls X.K C) (q : MCal X.prog X.w X.K X.mg X.base C "__contains__" k ps sp) (hr : Room k X.A) (hm : behindInMarks .In o = false) :
    PE X (.Compare e [.In] [o] pos) (tInOwn C sp ta tb) := by
  obtain ⟨f, fd, F, b, hmt⟩ := q.ex
  refine ⟨fun pins s σ H Q I h => ?_⟩
  refine wpAny_Compare1 (binT ha hb I h fun v u s2 x y H2 I2 rx ry hq => ?_) hm
  obtain ⟨a, dx, fs, rfl, hi, q⟩ := hq
  obtain rfl : u = Value.ref a := ry
  obtain ⟨mA, O, _⟩ := ins_get I2.hok hi
  obtain ⟨od, J, _⟩ := O.look
  obtain ⟨mm, Fr⟩ := I2.fr
  refine PySem.W.in_K Fr I2.mod.kin J hmt.at_ hmt.fn ?_
  refine thn (run_fn (us := [.ref a, v]) (vs := [.ref a, x]) F hr b .nil pass0 I2 (.cons rfl (.cons rx .nil)) q) fun r s3 ⟨w, H3, I3, rw', b', ew, q3⟩ => ?_
  subst ew
  cases rw'
  exact wpAny_truthy_bool ⟨.bl b', H3, I3, rfl, q3⟩
/-- o[e], by the class's own __getitem__ -/
def tGetOwn (C : Addr) (sp : Sp) (ta tb : TE) : TE := fun σ H Q => ta σ H fun x H1 => tb σ H1 fun y H2 => ∃ a dx fs, x = .ref a ∧ H2 a = some (.ins C dx fs) ∧ sp [x, y] H2 Q E0
end

/-! ### wishes -/
def wfs (vf : V) (ls : Str) (n st : Int) (vt : V) : List (Str × V) := [("flags", vf), ("letters", .str ls), ("size", .int n), ("start", .int st), ("targets", vt)]
/-- a wish stands at p -/
def WishH (K : PySem.W.Frag) (C : Addr) (H : Hp) (p : Addr) (m : Mach) : Prop := ∃ dx vt vf, H p = some (.ins C dx (wfs vf m.ls (m.tg.length : Int) m.st vt)) ∧ Is K H vt (.l (m.tg.map dInts)) ∧ Is K H vf (.l (m.fl.map dBools))
theorem WishH.mono {K : PySem.W.Frag} {C : Addr} {H H' : Hp} {p : Addr} {m : Mach} (e : Ex H H') (h : WishH K C H p m) : WishH K C H' p m := by
  obtain ⟨dx, vt, vf, h1, h2, h3⟩ := h
  exact ⟨dx, vt, vf, e _ _ h1, h2.mono e, h3.mono e⟩
/-- a wish that is new and stays -/
def WishF (K : PySem.W.Frag) (C : Addr) (m : Mach) : Own := ⟨fun _ F v _ => ∃ p, v = .ref p ∧ WishH K C F p m, fun e _ ⟨p, h1, h2⟩ => ⟨p, h1, h2.mono e⟩⟩
structure WTxt (K : PySem.W.Frag) (C : Addr) : Prop where
  cl : Cls K C
  nF : NoAttr K C "flags"
  nL : NoAttr K C "letters"
  nS : NoAttr K C "size"
  nA : NoAttr K C "start"
  nT : NoAttr K C "targets"
/-- an expression that gives an owned thing, its own heap empty -/
def EvO1 (K : PySem.W.Frag) (B : Hp) (te : TE) (Γ : Gm) (A : Own) : Prop :=
  ∀ σ F G H, Sta K B Γ σ F G H → ∀ Q : VK, (∀ v F' H', Grow F H F' H' → A.A B F' v H0 → Q v H') → te σ H Q
/-- what may be given back: an owned thing that is new -/
def RetO (B : Hp) (rt : VK) (A : Own) : Prop := ∀ v N H', Ex B H' → (∀ a, N a ≠ none → B a = none) → Ex N H' → A.A B N v H0 → rt v H'
section
variable {K : PySem.W.Frag} {B Φ F H : Hp} {Γ : Gm} {k : Kd} {ta tb te tl tx : TE} {tr tk : TA} {d e : D} {ds es : List D} {i : Nat} {D₀ : Ends} {tz : TS} {σ : L2.St} {G : Nat → Hp} {C p : Addr} {m : Mach} {A : Own} {f : Str}
theorem sq_setO (h : EvO1 K B te Γ A) (n : StD K B Φ tz D₀ (Γ.set i (.oo A))) : StD K B Φ (tSeq (tAsg te (gName i)) tz) D₀ Γ := fun σ H ⟨F, G, e, S⟩ =>
  h σ F G H S _ fun v F1 H1 g1 a1 => n _ _ ⟨F1, _, e.trans g1.f, (S.grow g1).put0 i v (.oo A) fun σ' q => ⟨v, q, a1⟩⟩
theorem sd_retO (h : EvO1 K B te Γ A) (n : RetO B D₀.rt A) : StD K B Φ (tRet te) D₀ Γ := fun σ H ⟨F, G, e, S⟩ =>
  h σ F G H S _ fun v F1 H1 g1 a1 => n v F1 H1 (S.bh.trans g1.h) (S.bf' g1) g1.fh a1
/-- a field of an object that was handed in -/
theorem ev_fldB {dx : Addr} {fs : List (Str × V)} {v : V} (ho : B p = some (.ins C dx fs)) (ha : Ev K B .h ta Γ (.v (.ref p))) (hc : Cls K C) (hn : NoAttr K C f) (hl : fs.lookup f = some v) (hi : Is K B v d) : Ev K B .r (tFld K ta f) Γ d := fun σ F G H S Q q =>
  ha σ F G H S _ fun w d1 F1 H1 p1 g1 i1 => by
    subst p1; cases Is.leaf i1
    have S1 := S.grow g1
    exact ⟨p, C, dx, fs, v, rfl, S1.bh p _ ho, hc, hn, hl, q v _ F1 H1 rfl g1 (hi.mono (un_r S1.bf))⟩
theorem ev_fldBl {dx : Addr} {fs : List (Str × V)} {v : V} (ho : B p = some (.ins C dx fs)) (ha : Ev K B .h ta Γ (.v (.ref p))) (hc : Cls K C) (hn : NoAttr K C f) (hl : fs.lookup f = some v) : Ev K B k (tFld K ta f) Γ (.v v) :=
  Ev.leaf (EvW.h (ev_fldB ho ha hc hn hl (.v v)))
theorem wf_f {vf : V} {ls : Str} {n st : Int} {vt : V} : (wfs vf ls n st vt).lookup ("flags" : Str) = some vf := by unfold wfs; rw [List.lookup_cons]; rfl
theorem wf_l {vf : V} {ls : Str} {n st : Int} {vt : V} : (wfs vf ls n st vt).lookup ("letters" : Str) = some (.str ls) := by
  unfold wfs
  rw [List.lookup_cons, show (("letters" : Str) == "flags") = false by decide +kernel]
  rfl
theorem wf_s {vf : V} {ls : Str} {n st : Int} {vt : V} : (wfs vf ls n st vt).lookup ("size" : Str) = some (.int n) := by
  unfold wfs
  rw [List.lookup_cons, show (("size" : Str) == "flags") = false by decide +kernel]
  show List.lookup _ _ = _
  rw [List.lookup_cons, show (("size" : Str) == "letters") = false by decide +kernel]
  rfl
theorem wf_a {vf : V} {ls : Str} {n st : Int} {vt : V} : (wfs vf ls n st vt).lookup ("start" : Str) = some (.int st) := by
  unfold wfs
  rw [List.lookup_cons, show (("start" : Str) == "flags") = false by decide +kernel]
  show List.lookup _ _ = _
  rw [List.lookup_cons, show (("start" : Str) == "letters") = false by decide +kernel]
  show List.lookup _ _ = _
  rw [List.lookup_cons, show (("start" : Str) == "size") = false by decide +kernel]
  rfl
theorem wf_t {vf : V} {ls : Str} {n st : Int} {vt : V} : (wfs vf ls n st vt).lookup ("targets" : Str) = some vt := by
  unfold wfs
  rw [List.lookup_cons, show (("targets" : Str) == "flags") = false by decide +kernel]
  show List.lookup _ _ = _
  rw [List.lookup_cons, show (("targets" : Str) == "letters") = false by decide +kernel]
  show List.lookup _ _ = _
  rw [List.lookup_cons, show (("targets" : Str) == "size") = false by decide +kernel]
  show List.lookup _ _ = _
  rw [List.lookup_cons, show (("targets" : Str) == "start") = false by decide +kernel]
  rfl
theorem wf_no {vf : V} {ls : Str} {n st : Int} {vt : V} {f : Str} (h1 : (f == "flags") = false) (h2 : (f == "letters") = false) (h3 : (f == "size") = false) (h4 : (f == "start") = false) (h5 : (f == "targets") = false) : (wfs vf ls n st vt).lookup f = none := by
  unfold wfs
  simp only [List.lookup_cons, h1, h2, h3, h4, h5, List.lookup_nil]
theorem ev_wT (hw : WishH K C B p m) (T : WTxt K C) (ha : Ev K B .h ta Γ (.v (.ref p))) : Ev K B .r (tFld K ta "targets") Γ (.l (m.tg.map dInts)) := by
  obtain ⟨dx, vt, vf, h1, h2, h3⟩ := hw
  exact ev_fldB h1 ha T.cl T.nT wf_t h2
theorem ev_wF (hw : WishH K C B p m) (T : WTxt K C) (ha : Ev K B .h ta Γ (.v (.ref p))) : Ev K B .r (tFld K ta "flags") Γ (.l (m.fl.map dBools)) := by
  obtain ⟨dx, vt, vf, h1, h2, h3⟩ := hw
  exact ev_fldB h1 ha T.cl T.nF wf_f h3
theorem ev_wL (hw : WishH K C B p m) (T : WTxt K C) (ha : Ev K B .h ta Γ (.v (.ref p))) : Ev K B k (tFld K ta "letters") Γ (.s m.ls) := by
  obtain ⟨dx, vt, vf, h1, h2, h3⟩ := hw
  exact ev_fldBl h1 ha T.cl T.nL wf_l
theorem ev_wS (hw : WishH K C B p m) (T : WTxt K C) (ha : Ev K B .h ta Γ (.v (.ref p))) : Ev K B k (tFld K ta "size") Γ (.i (m.tg.length : Int)) := by
  obtain ⟨dx, vt, vf, h1, h2, h3⟩ := hw
  exact ev_fldBl h1 ha T.cl T.nS wf_s
theorem ev_wA (hw : WishH K C B p m) (T : WTxt K C) (ha : Ev K B .h ta Γ (.v (.ref p))) : Ev K B k (tFld K ta "start") Γ (.i m.st) := by
  obtain ⟨dx, vt, vf, h1, h2, h3⟩ := hw
  exact ev_fldBl h1 ha T.cl T.nA wf_a
/-- a call whose promise speaks of what is read and gives something new -/
theorem ew_call {sp : Sp} {φ : D → Prop} (ha : EvA K B .h tr Γ ds) (h : ∀ (vs : List V) (H : Hp) (Q : VK), IsL K H vs ds → (∀ d, φ d → Ret K H Q d) → sp vs H Q E0) : EvW K B .f (tCall sp [] E0 tr) Γ φ := fun σ F G H S Q q =>
  ha σ F G H S _ fun vs F1 H1 g1 i1 => by
    show sp (vs ++ []) H1 Q E0
    rw [List.append_nil]
    refine h vs H1 Q i1 fun d hd v N H' e1 e2 e3 e4 => ?_
    have g2 := Grow.add g1.fh e1 e2 e3
    exact q v d _ H' hd (g1.trans g2) (e4.mono un_l)
theorem ev_call {sp : Sp} (ha : EvA K B .h tr Γ ds) (h : ∀ (vs : List V) (H : Hp) (Q : VK), IsL K H vs ds → Ret K H Q d → sp vs H Q E0) : Ev K B .f (tCall sp [] E0 tr) Γ d :=
  ew_call ha fun vs H Q hv k => h vs H Q hv (k d rfl)
/-- a call that gives an owned thing -/
theorem eo_call {sp : Sp} (ha : EvA K B .h tr Γ ds) (hA : ∀ {B B' F N : Hp} {v : V}, A.A B' N v H0 → A.A B (un F N) v H0) (h : ∀ (vs : List V) (H : Hp) (Q : VK), IsL K H vs ds → RetO H Q A → sp vs H Q E0) : EvO1 K B (tCall sp [] E0 tr) Γ A := fun σ F G H S Q q =>
  ha σ F G H S _ fun vs F1 H1 g1 i1 => by
    show sp (vs ++ []) H1 Q E0
    rw [List.append_nil]
    refine h vs H1 Q i1 fun v N H' e1 e2 e3 e4 => ?_
    have g2 := Grow.add g1.fh e1 e2 e3
    exact q v _ H' (g1.trans g2) (hA e4)
theorem WishF.un {B B' F N : Hp} {v : V} (h : (WishF K C m).A B' N v H0) : (WishF K C m).A B (un F N) v H0 := by
  obtain ⟨p, e, h⟩ := h
  exact ⟨p, e, h.mono un_l⟩
/-- a method's call upon a wish in slot i -/
theorem ew_meth {sp : Sp} {φ : D → Prop} {mn : Str} (hi : Γ[i]? = some (.oo (WishF K C m))) (hno : ∀ {vf : V} {ls : Str} {n st : Int} {vt : V}, (wfs vf ls n st vt).lookup mn = none) (ha : EvA K B .h tr Γ ds)
    (h : ∀ (p : Addr) (vs : List V) (H : Hp) (Q : VK), WishH K C H p m → IsL K H vs ds → (∀ d, φ d → Ret K H Q d) → sp (.ref p :: vs) H Q E0) : EvW K B .f (tMeth C mn sp [] E0 (tVar i) tr) Γ φ := fun σ F G H S Q q => by
  obtain ⟨v, h1, p, rfl, hw⟩ := S.sl i _ hi
  have hw' := hw
  obtain ⟨dx, vt, vf, h2, h3, h4⟩ := hw
  refine ⟨_, h1, p, dx, _, rfl, S.fh p _ h2, hno, ?_⟩
  refine ha σ F G H S _ fun vs F1 H1 g1 i1 => ?_
  rw [List.append_nil]
  refine h p vs H1 Q (hw'.mono (g1.f.trans g1.fh)) i1 fun d hd v N H' e1 e2 e3 e4 => ?_
  exact q v d _ H' hd (g1.trans (Grow.add g1.fh e1 e2 e3)) (e4.mono un_l)
/-- x in wish -/
theorem ev_inOwn {sp : Sp} {b : Bool} (hi : Γ[i]? = some (.oo (WishF K C m))) (ha : Ev K B k ta Γ d)
    (h : ∀ (p : Addr) (x : V) (H : Hp) (Q : VK), WishH K C H p m → Is K H x d → (∀ H', Ex H H' → Q (.bl b) H') → sp [.ref p, x] H Q E0) {k2 : Kd} : Ev K B k2 (tInOwn C sp ta (tVar i)) Γ (.b b) := Ev.val fun σ F G H S Q q => by
  refine ha σ F G H S _ fun x d1 F1 H1 p1 g1 i1 => ?_
  subst p1
  have S1 := S.grow g1
  obtain ⟨v, h1, p, rfl, hw⟩ := S1.sl i _ hi
  have hw' := hw
  obtain ⟨dx, vt, vf, h2, h3, h4⟩ := hw
  refine ⟨_, h1, p, dx, _, rfl, S1.fh p _ h2, h p x H1 _ (hw'.mono S1.fh) (IsK.toH S1 i1) fun H' e => ⟨b, rfl, q H' (g1.h.trans e)⟩⟩

/-! ### a new object, in its __init__ -/
def minus (H : Hp) (x : Addr) : Hp := fun a => if a = x then none else H a
theorem minus_ex {H : Hp} {x : Addr} : Ex (minus H x) H := fun a o h => by
  unfold minus at h
  by_cases e : a = x
  · rw [if_pos e] at h; cases h
  · rw [if_neg e] at h; exact h
theorem minus_ne {H : Hp} {x a : Addr} (h : a ≠ x) : minus H x a = H a := by unfold minus; rw [if_neg h]
mutual
theorem Is.minus {H : Hp} {x C dx : Addr} {fs : List (Str × V)} (hx : H x = some (.ins C dx fs)) {v : V} {d : D} : Is K H v d → Is K (minus H x) v d
  | .v y => .v y
  | .l (a := a) s r => .l (by
      rcases s with (s | ⟨o, s⟩) | s
      · exact .inl (.inl (by rw [minus_ne (fun e => by subst e; rw [hx] at s; cases s)]; exact s))
      · exact .inl (.inr ⟨o, by rw [minus_ne (fun e => by subst e; rw [hx] at s; cases s)]; exact s⟩)
      · exact .inr s) (IsL.minus hx r)
  | .t (a := a) s r => .t (by
      rcases s with (s | ⟨o, s⟩) | s
      · exact .inl (.inl (by rw [minus_ne (fun e => by subst e; rw [hx] at s; cases s)]; exact s))
      · exact .inl (.inr ⟨o, by rw [minus_ne (fun e => by subst e; rw [hx] at s; cases s)]; exact s⟩)
      · exact .inr s) (IsL.minus hx r)
theorem IsL.minus {H : Hp} {x C dx : Addr} {fs : List (Str × V)} (hx : H x = some (.ins C dx fs)) {vs : List V} {ds : List D} : IsL K H vs ds → IsL K (NL.minus H x) vs ds
  | .nil => .nil
  | .cons h r => .cons (Is.minus hx h) (IsL.minus hx r)
end
/-- the attributes so far, new things -/
def FsOk (K : PySem.W.Frag) (F : Hp) : List (Str × V) → List (Str × D) → Prop
  | [], [] => True
  | (a, v) :: xs, (b, d) :: ys => a = b ∧ Is K F v d ∧ FsOk K F xs ys
  | _, _ => False
theorem FsOk.mono {F F' : Hp} (e : Ex F F') : ∀ {xs : List (Str × V)} {ys : List (Str × D)}, FsOk K F xs ys → FsOk K F' xs ys
  | [], [], _ => trivial
  | _ :: _, _ :: _, h => ⟨h.1, h.2.1.mono e, FsOk.mono e h.2.2⟩
  | [], _ :: _, h => h.elim
  | _ :: _, [], h => h.elim
theorem FsOk.snoc {F : Hp} {a : Str} {v : V} {d : D} (hv : Is K F v d) : ∀ {xs : List (Str × V)} {ys : List (Str × D)}, FsOk K F xs ys → FsOk K F (xs ++ [(a, v)]) (ys ++ [(a, d)])
  | [], [], _ => ⟨rfl, hv, trivial⟩
  | _ :: _, _ :: _, h => ⟨h.1, h.2.1, FsOk.snoc hv h.2.2⟩
  | [], _ :: _, h => h.elim
  | _ :: _, [], h => h.elim
theorem FsOk.names {F : Hp} : ∀ {xs : List (Str × V)} {ys : List (Str × D)}, FsOk K F xs ys → xs.map (·.1) = ys.map (·.1)
  | [], [], _ => rfl
  | _ :: _, _ :: _, h => by rw [List.map_cons, List.map_cons, h.1, FsOk.names h.2.2]
  | [], _ :: _, h => h.elim
  | _ :: _, [], h => h.elim
def InsO (K : PySem.W.Frag) (C p : Addr) (ys : List (Str × D)) : Own := ⟨fun _ F v G => ∃ dx xs, v = .ref p ∧ G p = some (.ins C dx xs) ∧ (∀ a, a ≠ p → G a = none) ∧ FsOk K F xs ys, fun e _ ⟨dx, xs, h1, h2, h3, h4⟩ => ⟨dx, xs, h1, h2, h3, h4.mono e⟩⟩
theorem putF_new {f : Str} {y : V} : ∀ {xs : List (Str × V)}, f ∉ xs.map (·.1) → putF f y xs = xs ++ [(f, y)]
  | [], _ => rfl
  | (a, v) :: xs, h => by
    rw [List.map_cons, List.mem_cons, not_or] at h
    show (if a = f then (a, y) :: xs else (a, v) :: putF f y xs) = _
    rw [if_neg (fun e => h.1 e.symm), putF_new h.2]
    rfl
theorem sd_fld0 {ys : List (Str × D)} (h : Γ[i]? = some (.oo (InsO K C p ys))) (hc : Cls K C) (hn : NoAttr K C f) (hf : f ∉ ys.map (·.1)) (hl : ys.length < 900) (he : Ev K B .f te Γ d) (n : NxO K B Φ D₀.nx (Γ.set i (.oo (InsO K C p (ys ++ [(f, d)]))))) :
    StD K B Φ (sFld K (tVar i) te f) D₀ Γ := fun σ H ⟨F, G, e, S⟩ =>
  he σ F G H S _ fun v d1 F1 H1 p1 g1 i1 => by
    subst p1
    have S1 := S.grow g1
    obtain ⟨w, h1, dx, xs, rfl, h2, h3, h4⟩ := S1.sl i _ h
    have hl2 : xs.length = ys.length := by have := congrArg List.length h4.names; simpa using this
    refine ⟨_, h1, p, C, dx, xs, rfl, S1.gh i p _ h2, hc, hn, by omega, n _ _ ⟨F1, _, e.trans g1.f, S1.own2 (i := i) (.oo (InsO K C p (ys ++ [(f, d1)]))) (g := one p (.ins C dx (xs ++ [(f, v)]))) ?_ ?_ ?_ ?_⟩⟩
    · rw [putF_new (by rw [h4.names]; exact hf)]
      exact one_ex upd_same
    · intro b o hb hn'
      rw [upd_ne (fun z => by subst z; rw [h2] at hn'; cases hn')]
      exact hb
    · intro b hb
      rw [one_ne hb]
      exact .inl (some_ne h2)
    · exact ⟨_, h1, dx, _, rfl, upd_same, fun a ha => upd_ne ha, h4.snoc i1⟩
theorem sq_fld0 {ys : List (Str × D)} (h : Γ[i]? = some (.oo (InsO K C p ys))) (hc : Cls K C) (hn : NoAttr K C f) (hf : f ∉ ys.map (·.1)) (hl : ys.length < 900) (he : Ev K B .f te Γ d) (n : StD K B Φ tz D₀ (Γ.set i (.oo (InsO K C p (ys ++ [(f, d)]))))) :
    StD K B Φ (tSeq (sFld K (tVar i) te f) tz) D₀ Γ := sd_fld0 (D₀ := { D₀ with nx := tz D₀ }) h hc hn hf hl he n
/-- the entry of an __init__ -/
theorem sd_startI {N : List Str} {vs : List V} {H : Hp} {x dx : Addr} {t : TS} (hx : H x = some (.ins C dx [])) (h : IsL K H vs ds) (hl : vs.length + 1 ≤ N.length)
    (b : StD K (minus H x) H0 t D₀ (.oo (InsO K C x []) :: (ds.map .r ++ List.replicate (N.length - (ds.length + 1)) .n))) : t D₀ (L2.start N (.ref x :: vs)) H := by
  have h' := h.minus hx
  have hlen := h.len
  refine b _ _ ⟨H0, fun j => if j = 0 then one x (.ins C dx []) else H0, Ex.refl _, ?_⟩
  refine ⟨?_, minus_ex, fun a o q => (nomatch q), fun a z => absurd rfl z, fun j => ?_, fun j a z => ?_, fun j l a hjl z => ?_, fun j s hs => ?_⟩
  · unfold L2.start
    simp only [List.length_append, List.length_map, List.length_replicate, List.length_cons]
    omega
  · by_cases e : j = 0
    · simp only [e, if_true]; exact one_ex hx
    · simp only [e, if_false]; exact fun a o q => (nomatch q)
  · by_cases e : j = 0
    · simp only [e, if_true] at z
      have := one_ne z
      subst this
      refine ⟨?_, rfl⟩
      unfold NL.minus
      rw [if_pos rfl]
    · simp only [e, if_false] at z; exact absurd rfl z
  · by_cases e : j = 0
    · have el : l ≠ 0 := fun w => hjl (e.trans w.symm)
      simp only [el, if_false]
    · simp only [e, if_false] at z; exact absurd rfl z
  · cases j with
    | zero =>
      simp only [List.getElem?_cons_zero] at hs
      cases hs
      exact ⟨.ref x, rfl, dx, [], rfl, upd_same, fun a ha => upd_ne ha, trivial⟩
    | succ j =>
      simp only [List.getElem?_cons_succ] at hs
      have hst : (L2.start N (.ref x :: vs))[j + 1]? = (vs.map some ++ List.replicate (N.length - (vs.length + 1)) none)[j]? := by
        unfold L2.start
        rfl
      by_cases hi : j < ds.length
      · rw [List.getElem?_append_left (by simpa using hi), List.getElem?_map] at hs
        cases e : ds[j]? with
        | none => rw [e] at hs; cases hs
        | some d =>
          rw [e] at hs
          cases hs
          obtain ⟨y, h1, h2⟩ := h'.get e
          refine ⟨y, ?_, h2.mono (fun a o q => q)⟩
          rw [hst, List.getElem?_append_left (by rw [List.length_map, hlen]; exact hi), List.getElem?_map, h1]
          rfl
      · rw [List.getElem?_append_right (by simpa using Nat.le_of_not_lt hi), List.getElem?_replicate] at hs
        split at hs
        · cases hs; trivial
        · cases hs
end

end
section
theorem pe_globI {X : Cx} {x : Str} {n : Int} {pos : Pos} (hg : Gl X x) (hm : ∃ t, X.mg x = some (.int n t)) (hd : (x == ("__debug__" : Str)) = false := by decide) : PE X (.Name x pos) (tC (.int n)) := by
  obtain ⟨t, h⟩ := hm
  exact pe_glob hg h ⟨t, rfl⟩ hd
section
variable {K : PySem.W.Frag} {B Φ F H : Hp} {Γ : Gm} {k : Kd} {ta tb te tl tx to : TE} {tr tk : TA} {d e : D} {ds es : List D} {i : Nat} {D₀ : Ends} {tz : TS} {σ : L2.St} {G : Nat → Hp} {C p : Addr} {m : Mach} {A : Own} {f : Str} {v : V} {φ : D → Prop}
/-- a constant that stands ahead of everything -/
theorem ev_cst (h : Is K H0 v d) : Ev K B k (tC v) Γ d := fun σ F G H S Q q => q v d F H rfl (Grow.refl S.fh) (by
  have hm : ∀ X : Hp, Is K X v d := fun X => h.mono (fun a o z => by cases z)
  cases k <;> exact hm _)
/-- a method of a wish that was handed in -/
theorem ew_methB {sp : Sp} {mn : Str} (hw : WishH K C B p m) (ho : Ev K B .h to Γ (.v (.ref p))) (hno : ∀ {vf : V} {ls : Str} {n st : Int} {vt : V}, (wfs vf ls n st vt).lookup mn = none) (ha : EvA K B .h tr Γ ds)
    (h : ∀ (vs : List V) (H : Hp) (Q : VK), WishH K C H p m → IsL K H vs ds → (∀ d, φ d → Ret K H Q d) → sp (.ref p :: vs) H Q E0) : EvW K B .f (tMeth C mn sp [] E0 to tr) Γ φ := fun σ F G H S Q q =>
  ho σ F G H S _ fun v d0 F0 Hx p0 g0 i0 => by
    subst p0; cases Is.leaf i0
    have S0 := S.grow g0
    have hw' := hw
    obtain ⟨dx, vt, vf, h2, h3, h4⟩ := hw
    refine ⟨p, dx, _, rfl, S0.bh p _ h2, hno, ?_⟩
    refine ha σ F0 G Hx S0 _ fun vs F1 H1 g1 i1 => ?_
    rw [List.append_nil]
    refine h vs H1 Q (hw'.mono (S0.bh.trans g1.h)) i1 fun d hd v N H' e1 e2 e3 e4 => ?_
    exact q v d _ H' hd ((g0.trans g1).trans (Grow.add g1.fh e1 e2 e3)) (e4.mono un_l)
theorem ev_methB {sp : Sp} {mn : Str} (hw : WishH K C B p m) (ho : Ev K B .h to Γ (.v (.ref p))) (hno : ∀ {vf : V} {ls : Str} {n st : Int} {vt : V}, (wfs vf ls n st vt).lookup mn = none) (ha : EvA K B .h tr Γ ds)
    (h : ∀ (vs : List V) (H : Hp) (Q : VK), WishH K C H p m → IsL K H vs ds → Ret K H Q d → sp (.ref p :: vs) H Q E0) : Ev K B .f (tMeth C mn sp [] E0 to tr) Γ d :=
  ew_methB hw ho hno ha fun vs H Q w i r => h vs H Q w i (r d rfl)
theorem ev_meth {sp : Sp} {mn : Str} (hi : Γ[i]? = some (.oo (WishF K C m))) (hno : ∀ {vf : V} {ls : Str} {n st : Int} {vt : V}, (wfs vf ls n st vt).lookup mn = none) (ha : EvA K B .h tr Γ ds)
    (h : ∀ (p : Addr) (vs : List V) (H : Hp) (Q : VK), WishH K C H p m → IsL K H vs ds → Ret K H Q d → sp (.ref p :: vs) H Q E0) : Ev K B .f (tMeth C mn sp [] E0 (tVar i) tr) Γ d :=
  ew_meth hi hno ha fun p vs H Q w i r => h p vs H Q w i (r d rfl)
/-- e in a wish that was handed in -/
theorem ev_inOwnB {sp : Sp} {b : Bool} (hw : WishH K C B p m) (ho : Ev K B .h to Γ (.v (.ref p))) (ha : Ev K B k ta Γ d)
    (h : ∀ (x : V) (H : Hp) (Q : VK), WishH K C H p m → Is K H x d → (∀ H', Ex H H' → Q (.bl b) H') → sp [.ref p, x] H Q E0) {k2 : Kd} : Ev K B k2 (tInOwn C sp ta to) Γ (.b b) := Ev.val fun σ F G H S Q q => by
  refine ha σ F G H S _ fun x d1 F1 H1 p1 g1 i1 => ?_
  subst p1
  have S1 := S.grow g1
  refine ho σ F1 G H1 S1 _ fun y d2 F2 H2 p2 g2 i2 => ?_
  subst p2; cases Is.leaf i2
  have S2 := S1.grow g2
  have hw' := hw
  obtain ⟨dx, vt, vf, h2, h3, h4⟩ := hw
  refine ⟨p, dx, _, rfl, S2.bh p _ h2, h x H2 _ (hw'.mono S2.bh) ((IsK.toH S1 i1).mono g2.h) fun H' e => ⟨b, rfl, q H' ((g1.h.trans g2.h).trans e)⟩⟩
theorem Grow.add' {F H B' N H' : Hp} (e : Ex F H) (h : Ex H B') (h' : Ex B' H') (n : ∀ a, N a ≠ none → B' a = none) (nh : Ex N H') : Grow F H (un F N) H' :=
  Grow.add e (h.trans h') (fun a z => none_of_ex h (n a z)) nh
/-- the end of an __init__ -/
def InitE (K : PySem.W.Frag) (C x : Addr) (H : Hp) (Q : VK) (P : Hp → Prop) : Prop := ∀ N H', Ex (minus H x) H' → (∀ a, N a ≠ none → minus H x a = none) → Ex N H' → P N → Q .non H'
/-- a wish is made -/
theorem eo_makeK {sp : Sp} {l n : Nat} (ha : EvA K B .h tr Γ ds) (hk : EvA K B .h tk Γ es) (hn : ds.length = n) (hl : es.length = l)
    (h : ∀ (x dx : Addr) (vs : List V) (H : Hp) (Q : VK), H x = some (.ins C dx []) → IsL K (minus H x) vs (ds ++ es) → InitE K C x H Q (fun N => WishH K C N x m) → sp (.ref x :: vs) H Q E0) :
    EvO1 K B (tMakeK C n l sp (fun vs zs => vs ++ zs) E0 tr tk) Γ (WishF K C m) := fun σ F G H S Q q =>
  ha σ F G H S _ fun vs F1 H1 g1 i1 => hk σ F1 G H1 (S.grow g1) _ fun zs F2 H2 g2 i2 => by
    have j1 : IsL K H2 vs ds := IsL.mono g2.h i1
    refine ⟨by rw [j1.len, hn], by rw [IsL.len i2, hl], fun x dx hx hdx hne => ?_⟩
    have e1 : Ex H2 (minus (upd (upd H2 dx (.own x)) x (.ins C dx [])) x) := fun a o z => by
      rw [minus_ne (fun w => by subst w; rw [hx] at z; cases z), upd_ne (fun w => by subst w; rw [hx] at z; cases z), upd_ne (fun w => by subst w; rw [hdx] at z; cases z)]
      exact z
    refine h x dx (vs ++ zs) _ _ upd_same ((j1.app i2).mono e1) fun N H' a1 a2 a3 a4 => ⟨rfl, ?_⟩
    have g3 := Grow.add' g2.fh e1 a1 a2 a3
    exact q (.ref x) _ H' ((g1.trans g2).trans g3) ⟨x, rfl, a4.mono un_l⟩
/-- the end of a wish's __init__: all fields are there -/
theorem init_end {Q : VK} {x : Addr} (hx : Γ[0]? = some (.oo (InsO K C x [("flags", .l (m.fl.map dBools)), ("letters", .s m.ls), ("size", .i (m.tg.length : Int)), ("start", .i m.st), ("targets", .l (m.tg.map dInts))])))
    (q : InitE K C x H Q (fun N => WishH K C N x m)) : NxO K (minus H x) H0 (fun _ H2 => Q .non H2) Γ := fun σ H2 ⟨F, G, e, S⟩ => by
  obtain ⟨v, h1, dx, xs, rfl, h2, h3, h4⟩ := S.sl 0 _ hx
  match xs, h4 with
  | [(a1, v1), (a2, v2), (a3, v3), (a4, v4), (a5, v5)], h4 =>
    obtain ⟨r1, i1, r2, i2, r3, i3, r4, i4, r5, i5, _⟩ := h4
    subst r1; subst r2; subst r3; subst r4; subst r5
    cases Is.leaf i2; cases Is.leaf i3; cases Is.leaf i4
    have gx : G 0 x ≠ none := some_ne h2
    have b0 := S.gb 0 x gx
    have ex : Ex F (un F (G 0)) := un_r fun a z => (S.gb 0 a z).2
    refine q (un F (G 0)) H2 S.bh (fun a z => ?_) (un_ex S.fh (S.gh 0)) ⟨dx, v5, v1, un_l x _ h2, i5.mono ex, i1.mono ex⟩
    unfold un at z
    cases w : G 0 a with
    | none => rw [w] at z; exact S.bf a z
    | some o => exact (S.gb 0 a (some_ne w)).1
  | [], h4 => exact h4.elim
  | [_], h4 => exact h4.2.2.elim
  | [_, _], h4 => exact h4.2.2.2.2.elim
  | [_, _, _], h4 => exact h4.2.2.2.2.2.2.elim
  | [_, _, _, _], h4 => exact h4.2.2.2.2.2.2.2.2.elim
  | _ :: _ :: _ :: _ :: _ :: _ :: _, h4 => exact h4.2.2.2.2.2.2.2.2.2.2.elim
/-- a raise that is not reached -/
theorem et_falseOr {t u : TT} {b : Bool} (h1 : EvT K B t Γ false) (h2 : EvT K B u Γ b) : EvT K B (tOr t u) Γ b := by
  have := et_or h1 (fun _ => h2)
  simpa using this
theorem sq_skip {tt : TT} {t : TS} (h : EvT K B tt Γ false) (n : StD K B Φ tz D₀ Γ) : StD K B Φ (tSeq (tIfS tt t tNext) tz) D₀ Γ := sq_if h (fun z => nomatch z) fun _ => n
theorem sd_skip {tt : TT} {t : TS} (h : EvT K B tt Γ false) (n : NxO K B Φ D₀.nx Γ) : StD K B Φ (tIfS tt t tNext) D₀ Γ := sd_if h (fun z => nomatch z) fun _ => n
end

end
section
namespace NE
open PySem PySem.Spec PyProof.Rows
/-! list(enumerate(text)), the text of signs below 128 -/
section
variable {prog : Program} {w : World} {A : Around} {E : Value → Shared → Prop} {s : Shared}
abbrev Asc : String := "str_ascii_iterator"
theorem en_next {u it T : Addr} {n c : Nat} {x : Str} {t : Tok} {old : Value} {f : Bool} {oT : Obj} {Q : Value → Shared → Prop}
    (hu : IsEnumHeld s.heap u it n old T f) (hT : s.heap.get? T = some oT) (nu : T ≠ u) (ni : T ≠ it) (hit : s.heap.IsStrIter it Asc x t n) (hx : x.cps[n]? = some c) (hne : u ≠ it)
    (hQ : ∀ h' tk k1 k2, IsEnumHeld h' u it ((n : Int) + 1) old T true → h'.IsStrIter it Asc x t (n + 1) → h'.get? s.heap.objs.size = some { cls := .type "tuple", data := .seq #[.int n k1, .str ⟨#[c]⟩ k2] } → h'.objs.size = s.heap.objs.size + 1 →
      (∀ b o, b ≠ u → b ≠ it → s.heap.get? b = some o → h'.get? b = some o) → Q (.ref s.heap.objs.size) { s with heap := h', toks := tk }) :
    wpAny (model prog w) A (Builtin.«enumerate.__next__» ⟨[.ref u], []⟩) (fun fin s' => ∃ v, fin = .done (.ret v) ∧ Q v s') E s := by
  obtain ⟨hp, ge, dr, tk, os⟩ := s
  show wpAny _ _ (field (.ref u) 2 >>= _) _ _ _
  refine wpAny_bind (wpAny_field hu rfl (x := .ref it) rfl ?_)
  refine wpAny_bind (wpAny_nextOf_ascii_item hit hx fun h1 hit1 sb1 => ?_)
  replace sb1 : Heap.SameBut it hp h1 := sb1
  have hu1 : IsEnumHeld h1 u it n old T f := (sb1.2 u hne).trans hu
  show wpAny _ _ (field (.ref u) 3 >>= _) _ _ ⟨h1, ge, dr, tk + 1, os⟩
  refine wpAny_bind (wpAny_field hu1 rfl (x := rawInt n) rfl ?_)
  show wpAny _ _ (field (.ref u) 4 >>= _) _ _ ⟨h1, ge, dr, tk + 1, os⟩
  refine wpAny_bind (wpAny_field hu1 rfl (x := .none) rfl ?_)
  show wpAny _ _ (mkInt n >>= _) _ _ ⟨h1, ge, dr, tk + 1, os⟩
  refine wpAny_bind (wpAny_mkInt ?_)
  show wpAny _ _ (setField (.ref u) 3 (rawInt ((n : Int) + 1)) >>= _) _ _ ⟨h1, ge, dr, tk + 1 + 1, os⟩
  refine wpAny_bind (wpAny_setField_rec hu1 (by simp) fun h2 hu2 sb2 => ?_)
  replace sb2 : Heap.SameBut u h1 h2 := sb2
  replace hu2 : IsEnumHeld h2 u it ((n : Int) + 1) old T f := hu2
  show wpAny _ _ (setField (.ref u) 4 .none >>= _) _ _ ⟨h2, ge, dr, tk + 1 + 1, os⟩
  refine wpAny_bind (wpAny_setField_rec hu2 (by simp) fun h3 hu3 sb3 => ?_)
  replace sb3 : Heap.SameBut u h2 h3 := sb3
  replace hu3 : IsEnumHeld h3 u it ((n : Int) + 1) old T f := hu3
  show wpAny _ _ (newTuple [.int n (tk + 1), .str ⟨#[c]⟩ tk] >>= _) _ _ ⟨h3, ge, dr, tk + 1 + 1, os⟩
  refine wpAny_bind (wpAny_newTuple ?_)
  have hz3 : h3.objs.size = hp.objs.size := by rw [sb3.1, sb2.1, sb1.1]
  have kp3 : ∀ b o, b ≠ u → b ≠ it → hp.get? b = some o → h3.get? b = some o := fun b o b1 b2 hb => sb3.extBut b o b1 (sb2.extBut b o b1 (sb1.extBut b o b2 hb))
  have hi3 : h3.IsStrIter it Asc x t (n + 1) := by
    obtain ⟨o, ho, r⟩ := hit1
    exact ⟨o, sb3.extBut it o (Ne.symm hne) (sb2.extBut it o (Ne.symm hne) ho), r⟩
  have ht4 : (h3.push { cls := .type "tuple", data := .seq #[.int n (tk + 1), .str ⟨#[c]⟩ tk] }).get? hp.objs.size = some { cls := .type "tuple", data := .seq #[.int n (tk + 1), .str ⟨#[c]⟩ tk] } := by
    rw [← hz3]; exact Heap.get?_push_size _ rfl
  have pk : ∀ b o, h3.get? b = some o → (h3.push { cls := .type "tuple", data := .seq #[.int n (tk + 1), .str ⟨#[c]⟩ tk] }).get? b = some o := fun b o hb => Heap.get?_push_of_some _ hb
  have hz4 : (h3.push { cls := .type "tuple", data := .seq #[.int n (tk + 1), .str ⟨#[c]⟩ tk] }).objs.size = hp.objs.size + 1 := by rw [Heap.size_push, hz3]
  have hul : u < hp.objs.size := Heap.lt_size hu
  have hu4 := pk u _ hu3
  have hT4 := pk T oT (kp3 T oT nu ni hT)
  have hi4 : (h3.push { cls := .type "tuple", data := .seq #[.int n (tk + 1), .str ⟨#[c]⟩ tk] }).IsStrIter it Asc x t (n + 1) := by
    obtain ⟨o, ho, r⟩ := hi3
    exact ⟨o, pk it o ho, r⟩
  have kp4 : ∀ b o, b ≠ u → b ≠ it → hp.get? b = some o → (h3.push { cls := .type "tuple", data := .seq #[.int n (tk + 1), .str ⟨#[c]⟩ tk] }).get? b = some o := fun b o b1 b2 hb => pk b o (kp3 b o b1 b2 hb)
  generalize h3.push { cls := .type "tuple", data := .seq #[.int n (tk + 1), .str ⟨#[c]⟩ tk] } = h4 at ht4 hz4 hu4 hT4 hi4 kp4
  show wpAny _ _ (Builtin.SmallTypes.ownedTupleIsFree (.ref u) >>= _) _ _ ⟨h4, ge, dr, tk + 1 + 1, os⟩
  rw [hz3]
  refine wpAny_bind (wpAny_tupleHeld_enum (s := ⟨h4, ge, dr, tk + 1 + 1, os⟩) hu4 hT4 fun h5 hu5 sb5 => ?_)
  replace sb5 : Heap.SameBut u h4 h5 := sb5
  simp only [Bool.false_eq_true, if_false]
  have hi5 : h5.IsStrIter it Asc x t (n + 1) := by
    obtain ⟨o, ho, r⟩ := hi4
    exact ⟨o, sb5.extBut it o (Ne.symm hne) ho, r⟩
  refine wpAny_pure ⟨_, rfl, hQ h5 _ _ _ hu5 hi5 (sb5.extBut _ _ (Nat.ne_of_gt hul) ht4) ?_ fun b o b1 b2 hb => sb5.extBut b o b1 (kp4 b o b1 b2 hb)⟩
  show h5.objs.size = hp.objs.size + 1
  rw [sb5.1, hz4]
theorem en_pyNext {u it T : Addr} {n c : Nat} {x : Str} {t : Tok} {old : Value} {f : Bool} {oT : Obj} {Q : Option Value → Shared → Prop}
    (hu : IsEnumHeld s.heap u it n old T f) (hT : s.heap.get? T = some oT) (nu : T ≠ u) (ni : T ≠ it) (hit : s.heap.IsStrIter it Asc x t n) (hx : x.cps[n]? = some c) (hne : u ≠ it)
    (hQ : ∀ h' tk k1 k2, IsEnumHeld h' u it ((n : Int) + 1) old T true → h'.IsStrIter it Asc x t (n + 1) → h'.get? s.heap.objs.size = some { cls := .type "tuple", data := .seq #[.int n k1, .str ⟨#[c]⟩ k2] } → h'.objs.size = s.heap.objs.size + 1 →
      (∀ b o, b ≠ u → b ≠ it → s.heap.get? b = some o → h'.get? b = some o) → Q (some (.ref s.heap.objs.size)) { s with heap := h', toks := tk }) :
    wpAny (model prog w) A (pyNext (.ref u)) Q E s := by
  have ty : s.TypeIs (.ref u) "enumerate" := ⟨_, hu, rfl⟩
  unfold pyNext
  refine wpAny_bind (wpAny_attempt (wpAny_callSpecial?_slot (name := Str.ofString "__next__") ty F.slot_enumerate_next ?_))
  exact wpAny_call_entry F.slot_enumerate_next ty F.entry_enumerate_next (en_next hu hT nu ni hit hx hne fun h' tk k1 k2 a b c d k => wpAny_pure (hQ h' tk k1 k2 a b c d k)) (F.args_enumerate_next_1 _)
theorem en_pyEnd {u it T : Addr} {n : Nat} {x : Str} {t : Tok} {old : Value} {f : Bool} {Q : Option Value → Shared → Prop} (hh : A.handled = none)
    (hu : IsEnumHeld s.heap u it n old T f) (hit : s.heap.IsStrIter it Asc x t n) (hx : x.cps[n]? = none) (hQ : ∀ h', Heap.ExtBut it s.heap h' → Q none { s with heap := h' }) : wpAny (model prog w) A (pyNext (.ref u)) Q E s := by
  have ty : s.TypeIs (.ref u) "enumerate" := ⟨_, hu, rfl⟩
  unfold pyNext
  refine wpAny_bind (wpAny_attempt (wpAny_callSpecial?_slot (name := Str.ofString "__next__") ty F.slot_enumerate_next ?_))
  refine wpAny_call_entry F.slot_enumerate_next ty F.entry_enumerate_next ?_ (F.args_enumerate_next_1 _)
  show wpAny _ _ (field (.ref u) 2 >>= _) _ _ _
  refine wpAny_bind (wpAny_field hu rfl (x := .ref it) rfl ?_)
  refine wpAny_bind (wpAny_nextOf_ascii_end hh hit hx fun h' y ex hy => ?_)
  obtain ⟨o, ho, hc⟩ := hy
  refine wpAny_bind (wpAny_isInstance (T := "StopIteration") (b := true) ⟨o, ho, hc⟩ isSubtype_stop ?_)
  exact wpAny_pure (hQ _ ex)
theorem far {N L : Nat} (h : L < N) (j : Nat) : N + j ≠ L := by omega
/-- what stands after i turns -/
structure EnS (x : Str) (t : Tok) (L u it N : Addr) (h0 : Heap) (i : Nat) (acc : Array Value) (s : Shared) : Prop where
  z : s.heap.objs.size = N + i
  e0 : i = 0 → IsEnum s.heap u it 0 .none
  e1 : 0 < i → ∃ old f, IsEnumHeld s.heap u it i old N f
  si : s.heap.IsStrIter it Asc x t i
  ls : ∃ c, s.heap.get? L = some { cls := .type "list", dict := none, data := .seq acc c, slots := #[] }
  ac : acc.toList = (List.range i).map fun j => Value.ref (N + j)
  tp : ∀ j, j < i → ∃ c k1 k2, x.cps[j]? = some c ∧ s.heap.get? (N + j) = some { cls := .type "tuple", data := .seq #[.int j k1, .str ⟨#[c]⟩ k2] }
  kp : ∀ b o, b ≠ L → b ≠ u → b ≠ it → h0.get? b = some o → s.heap.get? b = some o
theorem EnS.next {x : Str} {t : Tok} {L u it N : Addr} {h0 h' : Heap} {i c tk k1 k2 : Nat} {acc : Array Value} {s : Shared} (S : EnS x t L u it N h0 i acc s) (hc : x.cps[i]? = some c) (hL : L < N) (hu : u < N) (hi : it < N) (nLu : L ≠ u) (nLi : L ≠ it)
    (e : ∃ old f, IsEnumHeld h' u it ((i : Int) + 1) old N f) (hit : h'.IsStrIter it Asc x t (i + 1)) (ht : h'.get? s.heap.objs.size = some { cls := .type "tuple", data := .seq #[.int i k1, .str ⟨#[c]⟩ k2] }) (hz : h'.objs.size = s.heap.objs.size + 1)
    (k : ∀ b o, b ≠ u → b ≠ it → s.heap.get? b = some o → h'.get? b = some o) :
    EnS x t L u it N h0 (i + 1) (acc.push (.ref s.heap.objs.size)) { s with heap := h'.update L (Obj.mapSeq (·.push (.ref s.heap.objs.size))), toks := tk } := by
  obtain ⟨cc, hl⟩ := S.ls
  have hl' := k L _ nLu nLi hl
  have oth : ∀ b o, b ≠ L → h'.get? b = some o → (h'.update L (Obj.mapSeq (·.push (Value.ref s.heap.objs.size)))).get? b = some o := fun b o hb z => (Heap.get?_update_other _ _ (Ne.symm hb)).trans z
  have nN : ∀ j : Nat, N + j ≠ L := fun j => far hL j
  have nU : ∀ j : Nat, N + j ≠ u := fun j => far hu j
  have nI : ∀ j : Nat, N + j ≠ it := fun j => far hi j
  refine ⟨?_, fun z => absurd z (Nat.succ_ne_zero i), fun _ => ?_, ?_, ⟨_, Heap.get?_update_self _ hl' rfl⟩, ?_, fun j hj => ?_, fun b o b1 b2 b3 hb => oth b o b1 (k b o b2 b3 (S.kp b o b1 b2 b3 hb))⟩
  · show (h'.update L _).objs.size = _
    rw [Heap.size_update, hz, S.z]
    rfl
  · obtain ⟨old, f, e⟩ := e
    exact ⟨old, f, oth u _ (Ne.symm nLu) e⟩
  · obtain ⟨o, ho, r⟩ := hit
    exact ⟨o, oth it o (Ne.symm nLi) ho, r⟩
  · rw [Array.toList_push, S.ac, List.range_succ, List.map_append, S.z]
    rfl
  · by_cases hji : j = i
    · subst hji
      refine ⟨c, k1, k2, hc, ?_⟩
      rw [S.z] at ht
      exact oth _ _ (nN j) ht
    · obtain ⟨c', k1', k2', h1, h2⟩ := S.tp j (by omega)
      exact ⟨c', k1', k2', h1, oth _ _ (nN j) (k _ _ (nU j) (nI j) h2)⟩
/-- what stands at the end -/
structure EnF (x : Str) (L u it N : Addr) (h0 : Heap) (acc : Array Value) (h : Heap) : Prop where
  ls : ∃ c, h.get? L = some { cls := .type "list", dict := none, data := .seq acc c, slots := #[] }
  ac : acc.toList = (List.range x.cps.size).map fun j => Value.ref (N + j)
  tp : ∀ j, j < x.cps.size → ∃ c k1 k2, x.cps[j]? = some c ∧ h.get? (N + j) = some { cls := .type "tuple", data := .seq #[.int j k1, .str ⟨#[c]⟩ k2] }
  kp : ∀ b o, b ≠ L → b ≠ u → b ≠ it → h0.get? b = some o → h.get? b = some o
theorem en_loop {x : Str} {t : Tok} {L u it N : Addr} {h0 : Heap} {res : Value} {R : Result → Shared → Prop} (hh : A.handled = none) (hL : L < N) (hu : u < N) (hi : it < N) (nLu : L ≠ u) (nLi : L ≠ it) (nui : u ≠ it) (hx0 : 0 < x.cps.size) (hxs : x.cps.size ≤ 1000) :
    ∀ (k i : Nat) (s : Shared) (acc : Array Value), x.cps.size - i = k → i ≤ x.cps.size → EnS x t L u it N h0 i acc s →
    (∀ h' tk acc', EnF x L u it N h0 acc' h' → R (.ok (.ret res)) { s with heap := h', toks := tk }) →
    codeAny (model prog w) A (.builtin "list.extend.loop" ⟨[.ref L, .ref u, res], []⟩) R s := by
  intro k
  induction k with
  | zero =>
    intro i s acc hk hin S hR
    have e : i = x.cps.size := by omega
    subst e
    refine codeAny_builtin F.entry_extend_loop ?_
    rw [Around.under_plainId F.plain_extend_loop _]
    show wpAny _ A.in1 (pyNext (.ref u) >>= _) _ _ s
    obtain ⟨old, f, e1⟩ := S.e1 hx0
    have nI : ∀ j : Nat, N + j ≠ it := fun j => far hi j
    refine wpAny_bind (en_pyEnd hh e1 S.si (by simp) fun h' hk' => wpAny_pure ?_)
    refine hR h' s.toks acc ⟨?_, S.ac, fun j hj => ?_, fun b o b1 b2 b3 hb => hk' b o b3 (S.kp b o b1 b2 b3 hb)⟩
    · obtain ⟨c, hl⟩ := S.ls
      exact ⟨c, hk' L _ nLi hl⟩
    · obtain ⟨c, k1, k2, h1, h2⟩ := S.tp j hj
      exact ⟨c, k1, k2, h1, hk' _ _ (nI j) h2⟩
  | succ k ih =>
    intro i s acc hk hin S hR
    have hlt : i < x.cps.size := by omega
    obtain ⟨c, hc⟩ : ∃ c, x.cps[i]? = some c := ⟨_, Array.getElem?_eq_getElem hlt⟩
    refine codeAny_builtin F.entry_extend_loop ?_
    rw [Around.under_plainId F.plain_extend_loop _]
    show wpAny _ A.in1 (pyNext (.ref u) >>= _) _ _ s
    obtain ⟨cl, hl⟩ := S.ls
    have hsz : acc.size = i := by
      have := congrArg List.length S.ac
      simpa using this
    have go : ∀ h' tk k1 k2, (∃ old f, IsEnumHeld h' u it ((i : Int) + 1) old N f) → h'.IsStrIter it Asc x t (i + 1) → h'.get? s.heap.objs.size = some { cls := .type "tuple", data := .seq #[.int i k1, .str ⟨#[c]⟩ k2] } → h'.objs.size = s.heap.objs.size + 1 →
        (∀ b o, b ≠ u → b ≠ it → s.heap.get? b = some o → h'.get? b = some o) →
        wpAny (model prog w) A.in1 (updateSeq L (·.push (Value.ref s.heap.objs.size)) >>= fun _ => again (.builtin "list.extend.loop" ⟨[.ref L, .ref u, res], []⟩)) (fun fin s' => match fin with | .done f => R (.ok f) s' | .again c' => c'.quiet = true ∧ codeAny (model prog w) A c' R s') (fun e s' => R (.error e) s') { s with heap := h', toks := tk } := fun h' tk k1 k2 a b d z kp => by
      have S' := S.next (tk := tk) hc hL hu hi nLu nLi a b d z kp
      have hl' := kp L _ nLu nLi hl
      refine wpAny_bind (wpAny_updateSeq hl' rfl (wpAny_pure ⟨plainId_quiet F.plain_extend_loop _, ih (i + 1) _ _ (by omega) hlt S' fun h2 tk2 acc2 z2 => hR h2 tk2 acc2 z2⟩) ?_ ?_)
      · have := sizeLine_eq
        omega
      · show (acc.push (Value.ref s.heap.objs.size)).size ≤ sizeLine + 1
        rw [Array.size_push]
        have := sizeLine_eq
        omega
    by_cases h0 : i = 0
    · subst h0
      have he := S.e0 rfl
      refine wpAny_bind (wpAny_pyNext_enum_itemC (n := x.cps.size) (Draws.strAscii (A := A.in1.in1) hh it x t) he S.si hlt nui (fun z => nui (List.mem_singleton.mp z)) fun y h' tk hy ho hit ht hz kp => ?_)
      obtain ⟨c', k2, hc', rfl⟩ := hy
      have ec : c' = c := by rw [hc] at hc'; exact (Option.some.inj hc').symm
      subst ec
      have eN : s.heap.objs.size = N := S.z
      exact go h' (tk + 1) tk k2 ⟨_, false, by rw [eN] at ho; exact ho⟩ hit ht hz kp
    · obtain ⟨old, f, e1⟩ := S.e1 (by omega)
      obtain ⟨c0, q1, q2, _, hT⟩ := S.tp 0 (by omega)
      have nU : (N : Addr) ≠ u := Nat.ne_of_gt hu
      have nI : (N : Addr) ≠ it := Nat.ne_of_gt hi
      refine wpAny_bind (en_pyNext e1 hT nU nI S.si hc nui fun h' tk k1 k2 a b d z kp => ?_)
      exact go h' tk k1 k2 ⟨_, _, a⟩ b d z kp
theorem enum_no_len : typeLookup (.type "enumerate") "__len__" = pure none := by rw [typeLookup_type, builtinLookup_eq_fast]; kernel_rfl
theorem enum_no_hint : typeLookup (.type "enumerate") "__length_hint__" = pure none := by rw [typeLookup_type, builtinLookup_eq_fast]; kernel_rfl
theorem en_extend {x : Str} {t : Tok} {L u it : Addr} {res : Value} {c0 : Nat} {R : Result → Shared → Prop} (hh : A.handled = none) (nLu : L ≠ u) (nLi : L ≠ it) (nui : u ≠ it) (hx0 : 0 < x.cps.size) (hxs : x.cps.size ≤ 1000)
    (he : IsEnum s.heap u it 0 .none) (hit : s.heap.IsStrIter it Asc x t 0) (hS : s.heap.get? L = some { cls := .type "list", data := .seq #[] c0 })
    (hR : ∀ h' tk acc', EnF x L u it s.heap.objs.size s.heap acc' h' → R (.ok (.ret res)) { s with heap := h', toks := tk }) :
    wpAny (model prog w) A.in1 (Builtin.List.listExtendWith (.ref L) (.ref u) res)
      (fun fin s' => match fin with | .done f => R (.ok f) s' | .again c' => c'.quiet = true ∧ codeAny (model prog w) A c' R s') (fun e s' => R (.error e) s') s := by
  have hL : L < s.heap.objs.size := Heap.lt_size hS
  have hu : u < s.heap.objs.size := Heap.lt_size he
  have hi : it < s.heap.objs.size := by obtain ⟨o, ho, _⟩ := hit; exact Heap.lt_size ho
  have ty : s.TypeIs (.ref u) "enumerate" := ⟨_, he, rfl⟩
  unfold Builtin.List.listExtendWith
  refine wpAny_bind (wpAny_typeOf ty ?_)
  have q1 : Builtin.List.listSameRef (.ref L) (.ref u) = false := by simp [Builtin.List.listSameRef, nLu]
  have q2 : (Value.type "enumerate" == Value.type "list") = false := by decide
  have q3 : (Value.type "enumerate" == Value.type "tuple") = false := by decide
  simp only [q1, q2, q3, Bool.or_false, Bool.false_eq_true, if_false]
  refine wpAny_bind (wpAny_pyIter_enum he ?_)
  refine wpAny_bind (wpAny_holding ?_)
  unfold Builtin.List.listLengthHint
  refine wpAny_bind (wpAny_specialOf ty enum_no_len ?_)
  show wpAny _ A.in1 (specialOf (Value.ref u) (Str.ofString "__length_hint__") >>= _) _ _ _
  refine wpAny_bind (wpAny_specialOf ty enum_no_hint ?_)
  refine wpAny_pure ?_
  show wpAny _ A.in1 (rule "list.extend.makes-room" >>= fun _ => Builtin.List.listTouch (.ref L) >>= fun _ => again (.builtin "list.extend.loop" ⟨[.ref L, .ref u, res], []⟩)) _ _ _
  refine wpAny_bind (wpAny_rule (wpAny_bind ?_))
  show wpAny _ A.in1 (updateSeq L (·.push .none) >>= fun _ => updateSeq L (·.pop)) _ _ _
  refine wpAny_bind (wpAny_updateSeq hS rfl ?_)
  have hS2 := Heap.get?_update_self (Obj.mapSeq (·.push Value.none)) hS rfl
  refine wpAny_updateSeq hS2 rfl ?_
  have hS3 := Heap.get?_update_self (Obj.mapSeq (·.pop)) hS2 rfl
  have oth : ∀ b o, b ≠ L → s.heap.get? b = some o → ((s.heap.update L (Obj.mapSeq (·.push Value.none))).update L (Obj.mapSeq (·.pop))).get? b = some o :=
    fun b o hb z => (Heap.get?_update_other _ _ (Ne.symm hb)).trans ((Heap.get?_update_other _ _ (Ne.symm hb)).trans z)
  have hz : ((s.heap.update L (Obj.mapSeq (·.push Value.none))).update L (Obj.mapSeq (·.pop))).objs.size = s.heap.objs.size := by rw [Heap.size_update, Heap.size_update]
  refine wpAny_pure ⟨plainId_quiet F.plain_extend_loop _, en_loop (x := x) (t := t) (N := s.heap.objs.size) (h0 := s.heap) hh hL hu hi nLu nLi nui hx0 hxs x.cps.size 0 _ #[] rfl (Nat.zero_le _) ⟨hz, fun _ => oth u _ (Ne.symm nLu) he, fun z => absurd z (Nat.lt_irrefl 0), ?_, ⟨_, hS3⟩, rfl, fun j hj => absurd hj (Nat.not_lt_zero j), fun b o b1 _ _ hb => oth b o b1 hb⟩ fun h' tk acc' hF => hR h' tk acc' hF⟩
  obtain ⟨o, ho, r⟩ := hit
  exact ⟨o, oth it o (Ne.symm nLi) ho, r⟩
theorem call_list_enum {x : Str} {t : Tok} {u it : Addr} {Q : Value → Shared → Prop} (hh : A.handled = none) (nui : u ≠ it) (hx0 : 0 < x.cps.size) (hxs : x.cps.size ≤ 1000)
    (he : IsEnum s.heap u it 0 .none) (hit : s.heap.IsStrIter it Asc x t 0)
    (hQ : ∀ h' tk acc', EnF x s.heap.objs.size u it (s.heap.objs.size + 1) s.heap acc' h' → Q (.ref s.heap.objs.size) { s with heap := h', toks := tk }) :
    wpAny (model prog w) A (call (.type "list") [.ref u]) Q E s := by
  refine callType_codes (Q₁ := fun obj s1 => obj = .ref s.heap.objs.size ∧ s1 = { s with heap := s.heap.push { cls := .type "list", data := .seq #[] } }) F.called_list (F.typeCall_list_1 _) F.entry_list_init
    (code_list_new _ ⟨rfl, rfl⟩) fun obj s1 h1 => ?_
  obtain ⟨rfl, rfl⟩ := h1
  have hu : u < s.heap.objs.size := Heap.lt_size he
  have hi : it < s.heap.objs.size := by obtain ⟨o, ho, _⟩ := hit; exact Heap.lt_size ho
  have hS : (s.heap.push { cls := .type "list", data := .seq #[] }).get? s.heap.objs.size = some { cls := .type "list", data := .seq #[] } := Heap.get?_push_size _ rfl
  have pk : ∀ b o, s.heap.get? b = some o → (s.heap.push { cls := .type "list", data := .seq #[] }).get? b = some o := fun b o z => Heap.get?_push_of_some _ z
  have hz : (s.heap.push { cls := .type "list", data := .seq #[] }).objs.size = s.heap.objs.size + 1 := Heap.size_push ..
  refine ⟨⟨_, hS, rfl⟩, F.args_list_init_2 _ _, ?_⟩
  show wpAny _ _ (do let old ← Builtin.List.listItems (.ref s.heap.objs.size); Builtin.List.listUpdate (.ref s.heap.objs.size) (fun _ => #[]); letGo old.toList.reverse; Builtin.List.listExtendWith (.ref s.heap.objs.size) (.ref u) .none) _ _ _
  refine wpAny_bind ?_
  unfold Builtin.List.listItems
  refine wpAny_bind (wpAny_seqItems hS rfl (wpAny_pure ?_))
  show wpAny _ _ (updateSeq s.heap.objs.size (fun _ => #[]) >>= fun _ => letGo (#[] : Array Value).toList.reverse >>= fun _ => Builtin.List.listExtendWith (.ref s.heap.objs.size) (.ref u) .none) _ _ _
  refine wpAny_bind (wpAny_updateSeq hS rfl ?_)
  have hS2 := Heap.get?_update_self (Obj.mapSeq (fun _ => (#[] : Array Value))) hS rfl
  have oth : ∀ b o, b ≠ s.heap.objs.size → s.heap.get? b = some o → ((s.heap.push { cls := .type "list", data := .seq #[] }).update s.heap.objs.size (Obj.mapSeq (fun _ => (#[] : Array Value)))).get? b = some o :=
    fun b o hb z => (Heap.get?_update_other _ _ (Ne.symm hb)).trans (pk b o z)
  have hz2 : ((s.heap.push { cls := .type "list", data := .seq #[] }).update s.heap.objs.size (Obj.mapSeq (fun _ => (#[] : Array Value)))).objs.size = s.heap.objs.size + 1 := by rw [Heap.size_update, hz]
  refine wpAny_bind (wpAny_letGo ?_)
  refine en_extend (A := A.in1) (t := t) hh (Nat.ne_of_gt hu) (Nat.ne_of_gt hi) nui hx0 hxs (oth u _ (Nat.ne_of_lt hu) he) ?_ hS2 fun h' tk acc' hF => ⟨rfl, hQ h' tk acc' ?_⟩
  · obtain ⟨o, ho, r⟩ := hit
    exact ⟨o, oth it o (Nat.ne_of_lt hi) ho, r⟩
  · rw [hz2] at hF
    exact ⟨hF.ls, hF.ac, hF.tp, fun b o b1 b2 b3 hb => hF.kp b o b1 b2 b3 (oth b o b1 hb)⟩
end
end NE

end
section
open PySem L2 Evl PyProof.Rows
/-- the cells that list(enumerate(text)) lays -/
def enHn (H : Nat → Option HO) (L N n : Nat) (f : Nat → V) : Nat → Option HO := fun a => if a = L then some (.lst ((List.range n).map fun j => V.ref ((N + j : Nat) : Addr))) else if N ≤ a ∧ a < N + n then some (.tup [.int ((a - N : Nat) : Int), f (a - N)]) else H a
def enH (H : Hp) (L N n : Nat) (f : Nat → V) : Hp := enHn H L N n f
theorem enH_l {H : Hp} {L N n : Nat} {f : Nat → V} : enH H L N n f L = some (.lst ((List.range n).map fun j => V.ref ((N + j : Nat) : Addr))) := by
  show enHn H L N n f L = _
  unfold enHn
  rw [if_pos rfl]
theorem enH_t {H : Hp} {L N n : Nat} {f : Nat → V} {j : Nat} (hL : L < N) (hj : j < n) : enH H L N n f (N + j : Nat) = some (.tup [.int (j : Int), f j]) := by
  show enHn H L N n f (N + j) = _
  unfold enHn
  rw [if_neg (by omega), if_pos ⟨by omega, by omega⟩, show N + j - N = j by omega]
theorem enH_o {H : Hp} {L N n : Nat} {f : Nat → V} {a : Nat} (h : a < L) (hL : L < N) : enH H L N n f a = H a := by
  show enHn H L N n f a = _
  unfold enHn
  rw [if_neg (by omega), if_neg (by omega)]
theorem enH_n {H : Hp} {L N n : Nat} {f : Nat → V} {a : Nat} (h1 : a ≠ L) (h2 : ¬ (N ≤ a ∧ a < N + n)) : enH H L N n f a = H a := by
  show enHn H L N n f a = _
  unfold enHn
  rw [if_neg h1, if_neg h2]
def rEnS (s : Str) (H : Hp) (Q : VK) : Prop := s.cps.all (· < 128) = true ∧ 0 < s.cps.size ∧ s.cps.size ≤ 1000 ∧ ∀ (l : Addr) (T : Nat → Addr) (H2 : Hp), Ex H H2 → H l = none → H2 l = some (.lst ((List.range s.cps.size).map fun j => V.ref (T j))) →
  (∀ j, j < s.cps.size → H (T j) = none ∧ ∃ c, s.cps[j]? = some c ∧ H2 (T j) = some (.tup [.int (j : Int), .str ⟨#[c]⟩])) → Q (.ref l) H2
def tLstEnumS (ta : TE) : TE := fun σ H Q => ta σ H fun x H1 => ∃ s : Str, x = .str s ∧ rEnS s H1 Q
section
variable {X : Cx} {e : Expr} {ta : TE} {p p2 pos pos2 : Pos}
theorem enS_inv {pins : List (Addr × Obj)} {σ : L2.St} {H : Hp} {s : Shared} {x : Str} {L u it N : Nat} {acc : Array Value} {h0 h' : Heap} {tk : Nat} (I : Inv X pins σ H s) (hF : NE.EnF x L u it N h0 acc h') (k0 : ∀ b o, s.heap.get? b = some o → h0.get? b = some o)
    (hL : s.heap.objs.size ≤ L) (hu : s.heap.objs.size ≤ u) (hi : s.heap.objs.size ≤ it) (hN : L < N) (hxs : x.cps.size ≤ 1000) :
    Inv X pins σ (enH H L N x.cps.size fun j => .str ⟨#[x.cps.getD j 0]⟩) { s with heap := h', toks := tk } := by
  have fr : ∀ a : Nat, s.heap.objs.size ≤ a → H a = none := fun a ha => I.hok.fresh ha
  have ol : ∀ b o, s.heap.get? b = some o → (b : Nat) < L := fun b o hb => Nat.lt_of_lt_of_le (Heap.lt_size hb) hL
  have kp : ∀ b o, s.heap.get? b = some o → h'.get? b = some o := fun b o hb => hF.kp b o (Nat.ne_of_lt (Nat.lt_of_lt_of_le (Heap.lt_size hb) hL)) (Nat.ne_of_lt (Nat.lt_of_lt_of_le (Heap.lt_size hb) hu)) (Nat.ne_of_lt (Nat.lt_of_lt_of_le (Heap.lt_size hb) hi)) (k0 b o hb)
  have old : ∀ (b : Nat) o, H b = some o → enH H L N x.cps.size (fun j => .str ⟨#[x.cps.getD j 0]⟩) b = some o := fun b o hb => by
    have : b < L := by
      by_cases z : s.heap.objs.size ≤ b
      · rw [fr b z] at hb; cases hb
      · omega
    rw [enH_o this hN]; exact hb
  have sl := sizeLine_eq
  refine I.un ⟨fun b o q _ _ _ => kp b o q, fun b o q _ _ _ => ⟨o.slots, kp b o q⟩, fun b o q n _ => ?_, fun b o q _ => ⟨o, kp b o q⟩, fun b xs q => old b _ q, fun b o u q => old b _ q, fun b ps q => ⟨#[], by rw [old b _ q]; simp⟩⟩ ?_
  · exact (enH_o (ol b o q) hN).trans n
  · intro b u e
    by_cases hb : (b : Nat) = L
    · subst hb
      rw [enH_l] at e
      cases e
      obtain ⟨c, hl⟩ := hF.ls
      refine ⟨by rw [List.length_map, List.length_range, sl]; omega, acc.toList, c, ?_, by rw [Array.toArray_toList]; exact hl⟩
      rw [hF.ac]
      exact vals_of_at (by rw [List.length_map, List.length_map]) fun j y v h1 h2 => by
        rw [List.getElem?_map] at h1 h2
        cases q : (List.range x.cps.size)[j]? with
        | none => rw [q] at h1; cases h1
        | some m => rw [q] at h1 h2; cases h1; cases h2; rfl
    · by_cases hr : N ≤ (b : Nat) ∧ (b : Nat) < N + x.cps.size
      · obtain ⟨j, rfl⟩ : ∃ j : Nat, b = N + j := ⟨(b : Nat) - N, by have := hr.1; exact (Nat.add_sub_cancel' this).symm⟩
        have hj : j < x.cps.size := by have := hr.2; exact Nat.lt_of_add_lt_add_left this
        rw [enH_t hN hj] at e
        cases e
        obtain ⟨c, k1, k2, hc, ht⟩ := hF.tp j hj
        have ec : x.cps.getD j 0 = c := by rw [Array.getD_eq_getD_getElem?, hc]; rfl
        refine ⟨by show 2 ≤ sizeLine; rw [sl]; omega, [.int j k1, .str ⟨#[c]⟩ k2], .cons ⟨_, rfl⟩ (.cons ⟨k2, by rw [ec]⟩ .nil), ⟨_, ht, rfl, _, rfl⟩⟩
      · have eb : H b = some u := by
          rw [enH_n hb hr] at e
          exact e
        exact (I.hok b u eb).stay (fun c v _ q => kp c v q) (fun c q => old c _ q) fun c xs q => old c _ q
theorem pe_listEnumS (hg : Gl X "list") (hm : X.mg "list" = none) (hg2 : Gl X "enumerate") (hm2 : X.mg "enumerate" = none) (hc : X.calm = true) (he : PE X e ta) (na : starEach [.Call (.Name "enumerate" p2) [e] [] pos2] X.env = (false, eval (.Call (.Name "enumerate" p2) [e] [] pos2) X.env) :: starEach [] X.env := by rfl) (na2 : starEach [e] X.env = (false, eval e X.env) :: starEach [] X.env := by rfl) :
    PE X (.Call (.Name "list" p) [.Call (.Name "enumerate" p2) [e] [] pos2] [] pos) (tLstEnumS ta) := by
  refine ⟨fun pins s σ H Q I h => ?_⟩
  refine Call_ (ld_blt I hg hm boot_list (PyProof.Rows.callWith_type1 (args_cons ?_ na) na))
  refine Call_ (ld_blt I hg2 hm2 boot_enumerate (PyProof.Rows.callWith_type1 (args_cons (thn (he.run pins s σ H _ I h) fun v s1 ⟨x, H1, I1, rx, q⟩ => args_nil ?_) na2) na2))
  obtain ⟨z, rfl, ha, h0, hl, q⟩ := q
  obtain ⟨t, rfl⟩ := rx
  refine call_enumerate_str fun h2 hu hi hz k2 => args_nil ?_
  have et : strIterType z = "str_ascii_iterator" := by unfold strIterType; rw [if_pos ha]
  rw [et] at hi
  refine NE.call_list_enum (A := X.A) (I1.ok.hd hc) (Nat.succ_ne_self _) h0 hl hu hi fun h' tk acc hF => ?_
  have I2 := enS_inv (tk := tk) I1 hF k2 (by show s1.heap.objs.size ≤ h2.objs.size; omega) (Nat.le_succ _) (Nat.le_refl _) (Nat.lt_succ_self _) hl
  refine ⟨.ref h2.objs.size, _, I2, rfl, q h2.objs.size (fun j => h2.objs.size + 1 + j) _ (fun a o ea => ?_) (I1.hok.fresh (by show s1.heap.objs.size ≤ h2.objs.size; omega)) enH_l fun j hj => ⟨I1.hok.fresh (by show s1.heap.objs.size ≤ h2.objs.size + 1 + j; omega), z.cps.getD j 0, ?_, enH_t (Nat.lt_succ_self _) hj⟩⟩
  · exact (enH_o (Nat.lt_of_lt_of_le (I1.hok.lt ea) (by show s1.heap.objs.size ≤ h2.objs.size; omega)) (Nat.lt_succ_self _)).trans ea
  · rw [Array.getD_eq_getD_getElem?, Array.getElem?_eq_getElem hj]; rfl
end

end
section
section
variable {K : PySem.W.Frag} {B Φ F H : Hp} {Γ : Gm} {k : Kd} {ta tb te tl tx to : TE} {tr tk : TA} {tt : TT} {d e : D} {ds es : List D} {i : Nat} {D₀ : Ends} {tz : TS} {σ : L2.St} {G : Nat → Hp} {C p : Addr} {m : Mach} {A : Own} {f : Str} {v : V} {φ : D → Prop}
theorem ev_listEnumS {s : Str} (ha : Ev K B .h ta Γ (.s s)) (h1 : s.cps.all (· < 128) = true) (h2 : 0 < s.cps.size) (h3 : s.cps.size ≤ 1000) :
    Ev K B .f (tLstEnumS ta) Γ (.l ((List.range s.cps.size).map fun j : Nat => .t [.i (j : Int), .s ⟨#[s.cps.getD j 0]⟩])) := fun σ F G H S Q q =>
  ha σ F G H S _ fun v d F1 H1 p1 g1 i1 => by
    subst p1; cases Is.leaf i1
    refine ⟨s, rfl, h1, h2, h3, fun l T H2 e hl hl2 hT => ?_⟩
    classical
    let N : Hp := fun a => if a = l ∨ ∃ j, j < s.cps.size ∧ a = T j then H2 a else none
    have nh : Ex N H2 := fun a o z => by
      have z : (if a = l ∨ ∃ j, j < s.cps.size ∧ a = T j then H2 a else none) = some o := z
      split at z
      · exact z
      · cases z
    have nn : ∀ a, N a ≠ none → H1 a = none := fun a z => by
      have z : (if a = l ∨ ∃ j, j < s.cps.size ∧ a = T j then H2 a else none) ≠ none := z
      split at z
      · rename_i w
        rcases w with rfl | ⟨j, hj, rfl⟩
        · exact hl
        · exact (hT j hj).1
      · exact absurd rfl z
    have nl : N l = some (.lst ((List.range s.cps.size).map fun j => V.ref (T j))) := (if_pos (.inl rfl)).trans hl2
    have nt : ∀ j, j < s.cps.size → N (T j) = some (.tup [.int (j : Int), .str ⟨#[s.cps.getD j 0]⟩]) := fun j hj => by
      obtain ⟨_, c, hc, ht⟩ := hT j hj
      have ec : s.cps.getD j 0 = c := by rw [Array.getD_eq_getD_getElem?, hc]; rfl
      rw [ec]
      exact (if_pos (.inr ⟨j, hj, rfl⟩)).trans ht
    have g2 := Grow.add g1.fh e nn nh
    refine q (.ref l) _ _ H2 rfl (g1.trans g2) (Is.mono un_l (.l (sq_of nl) ?_))
    have key : ∀ js : List Nat, (∀ j ∈ js, j < s.cps.size) → IsL K N (js.map fun j => V.ref (T j)) (js.map fun j : Nat => D.t [.i (j : Int), .s ⟨#[s.cps.getD j 0]⟩]) := by
      intro js
      induction js with
      | nil => intro _; exact .nil
      | cons a js ih =>
        intro hj
        exact .cons (.t (st_of (nt a (hj a List.mem_cons_self))) (.cons (.v _) (.cons (.v _) .nil))) (ih fun j h => hj j (List.mem_cons_of_mem _ h))
    exact key _ fun j hj => List.mem_range.mp hj
/-! ### two fors -/
theorem wipe_in {x : Nat} : ∀ {vs : List Nat} {σ : L2.St}, x ∈ vs → (wipe σ vs)[x]? = if x < σ.length then some none else none
  | [], _, h => nomatch h
  | v :: vs, σ, h => by
    unfold L2.wipe
    by_cases e : x = v
    · subst e
      by_cases hl : x < σ.length
      · rw [List.getElem?_set_self (by rw [wipe_length]; exact hl), if_pos hl]
      · rw [List.getElem?_eq_none (by rw [List.length_set, wipe_length]; omega), if_neg hl]
    · rw [List.getElem?_set_ne (Ne.symm e)]
      rcases List.mem_cons.mp h with z | z
      · exact absurd z e
      · exact wipe_in z
theorem wipe_set {vs : List Nat} {σ : L2.St} {a : Nat} {x : Option V} (h : a ∈ vs) : wipe (σ.set a x) vs = wipe σ vs := by
  refine List.ext_getElem? fun y => ?_
  by_cases hy : y ∈ vs
  · rw [wipe_in hy, wipe_in hy, List.length_set]
  · rw [wipe_out hy, wipe_out hy, List.getElem?_set_ne (fun z : a = y => hy (z ▸ h))]
theorem wipe_wipe {vs : List Nat} {σ : L2.St} : wipe (wipe σ vs) vs = wipe σ vs := by
  refine List.ext_getElem? fun y => ?_
  by_cases hy : y ∈ vs
  · rw [wipe_in hy, wipe_in hy, wipe_length]
  · rw [wipe_out hy]
def CsL (K : PySem.W.Frag) (B F1 F0 : Hp) (Γ : Gm) (σ : L2.St) (G : Nat → Hp) (H1 : Hp) (k : Kd) (L : Addr) (es : List D) (H' : Hp) : Prop :=
  ∃ F' xs, Sta K B Γ σ F' G H' ∧ Ex H1 H' ∧ Ex F1 F' ∧ (∀ a, F' a ≠ none → F1 a = none → H1 a = none) ∧ F' L = none ∧ H' L = some (.lst xs) ∧ IsL K (k.at B F') xs es ∧ Ex F0 F'
theorem CsL.turn {F1 F0 H1 : Hp} {b : Bool} {d : D} {es' : List D} {L : Addr} {H' : Hp} {Γ' : Gm} {σ' : L2.St} (hk : k = .f ∨ k = .r) (S0 : Sta K B Γ σ F1 G H1) (hL : H1 L = none) (c : CsL K B F1 F0 Γ σ G H1 k L es H') (hm : es.length < 50000)
    (hS : ∀ F2 H2, Sta K B Γ σ F2 G H2 → Ex F0 F2 → ∃ G', Sta K B Γ' σ' F2 G' H2) (ht : EvT K B tt Γ' b) (he : b = true → Ev K B k te Γ' d) (hes : es' = if b = true then es ++ [d] else es) :
    tt σ' H' fun b' H3 => if b' = true then te σ' H3 fun y H4 => ∃ acc, H4 L = some (.lst acc) ∧ acc.length < sizeLine ∧ CsL K B F1 F0 Γ σ G H1 k L es' (upd H4 L (.lst (acc ++ [y]))) else CsL K B F1 F0 Γ σ G H1 k L es' H3 := by
  obtain ⟨F2, xs, S2, x2, f2, n2, l2, h2, i2, f0⟩ := c
  obtain ⟨G', S2'⟩ := hS F2 H' S2 f0
  have lB : B L = none := none_of_ex S0.bh hL
  have lG : ∀ j, G j L = none := fun j => none_of_ex (S0.gh j) hL
  refine ht σ' F2 G' H' S2' _ fun F3 H3 g3 => ?_
  have nw : ∀ {F4 H4 : Hp}, Grow F2 H' F4 H4 → ∀ a, F4 a ≠ none → F1 a = none → H1 a = none := fun {F4 H4} g a z1 z2 => by
    cases q : F2 a with
    | none => exact none_of_ex x2 (g.new a z1 q)
    | some o => exact n2 a (some_ne q) z2
  have lF : ∀ {F4 H4 : Hp}, Grow F2 H' F4 H4 → F4 L = none := fun {F4 H4} g => by
    cases q : F4 L with
    | none => rfl
    | some o =>
      have z := g.new L (some_ne q) l2
      rw [h2] at z; cases z
  cases b with
  | false =>
    subst hes
    exact iteF ⟨F3, xs, S2.grow g3, x2.trans g3.h, f2.trans g3.f, nw g3, lF g3, g3.h L _ h2, IsL.mono (k.at_mono g3.f (S2.bf' g3)) i2, f0.trans g3.f⟩
  | true =>
    subst hes
    refine iteT ?_
    refine he rfl σ' F3 G' H3 (S2'.grow g3) _ fun y d4 F4 H4 p4 g4 i4 => ?_
    subst p4
    have g := g3.trans g4
    have S4 := S2.grow g
    refine ⟨xs, g.h L _ h2, sz_lt (by rw [i2.len]; omega), ?_⟩
    have keep : ∀ {X : Hp}, Ex X H4 → X L = none → Ex X (upd H4 L (.lst (xs ++ [y]))) := fun {X} ex hx a u q => by
      rw [upd_ne (fun w => by subst w; rw [hx] at q; cases q)]
      exact ex a u q
    refine ⟨F4, xs ++ [y], ⟨S4.len, keep S4.bh lB, keep S4.fh (lF g), S4.bf, fun j => keep (S4.gh j) (lG j), S4.gb, S4.gg, S4.sl⟩, ?_, f2.trans g.f, nw g, lF g, upd_same, IsL.app (IsL.mono (k.at_mono g.f (S2.bf' g)) i2) (IsL.one (IsK.kd hk i4)), f0.trans g.f⟩
    exact fun a u q => by
      rw [upd_ne (fun w => by subst w; rw [hL] at q; cases q)]
      exact (x2.trans g.h) a u q
theorem CsL.start {F1 H1 : Hp} {L : Addr} (S : Sta K B Γ σ F1 G H1) (hL : H1 L = none) : CsL K B F1 F1 Γ σ G H1 k L [] (upd H1 L (.lst [])) := by
  have keep : ∀ {X : Hp}, Ex X H1 → Ex X (upd H1 L (.lst [])) := fun ex => ex.trans (Ex.new hL)
  exact ⟨F1, [], ⟨S.len, keep S.bh, keep S.fh, S.bf, fun j => keep (S.gh j), S.gb, S.gg, S.sl⟩, Ex.new hL, Ex.refl _, fun a z1 z2 => absurd z2 z1, none_of_ex S.fh hL, upd_same, .nil, Ex.refl _⟩
/-- what two fors give -/
def kept2 (f : Nat → Nat → Bool) (v : Nat → Nat → D) (n l : Nat) : List D := (List.range n).flatMap fun s => kept (f s) (v s) l
theorem kept2_zero (f : Nat → Nat → Bool) (v : Nat → Nat → D) (l : Nat) : kept2 f v 0 l = [] := rfl
theorem kept2_succ (f : Nat → Nat → Bool) (v : Nat → Nat → D) (n l : Nat) : kept2 f v (n + 1) l = kept2 f v n l ++ kept (f n) (v n) l := by
  unfold kept2
  rw [List.range_succ, List.flatMap_append]
  simp
theorem kept2_len (f : Nat → Nat → Bool) (v : Nat → Nat → D) (l : Nat) : ∀ n, (kept2 f v n l).length ≤ n * l
  | 0 => Nat.zero_le _
  | n + 1 => by
    have h1 := kept2_len f v l n
    have h2 := kept_len l (f n) (v n)
    rw [kept2_succ, List.length_append, Nat.succ_mul]
    omega
theorem kept_next (f : Nat → Bool) (v : Nat → D) (n : Nat) : kept f v (n + 1) = if f n = true then kept f v n ++ [v n] else kept f v n := by
  cases h : f n with
  | true => rw [kept_yes h]; rfl
  | false => rw [kept_no h]; rfl
/-- [e for x in range(n) for a, b in xs if t] -/
theorem en_lc2 {n : Nat} {k2 : Kd} {j a b : Nat} {vs vs1 : List Nat} (f : Nat → Nat → Bool) (v : Nat → Nat → D) (hk : k = .f ∨ k = .r) (hk2 : k2 = .f ∨ k2 = .r) (h : EvA K B .h tr Γ [.i (n : Int)]) (hn : n ≤ 200) (hl : ds.length ≤ 200) (hj : j ∈ vs) (ha : a ∈ vs1) (hb : b ∈ vs1) (hv : ∀ x ∈ vs1, x ∈ vs)
    (hds : ∀ s, s < n → Ev K B k2 tl ((wipeG Γ vs).set j (.f (.i (s : Int)))) (.l ds)) (hp : ∀ x ∈ ds, ∃ y z, x = .t [y, z])
    (ht : ∀ s m y z, s < n → ds[m]? = some (.t [y, z]) → EvT K B tt (((wipeG ((wipeG Γ vs).set j (.f (.i (s : Int)))) vs1).set a (Slot.of k2 y)).set b (Slot.of k2 z)) (f s m))
    (he : ∀ s m y z, s < n → ds[m]? = some (.t [y, z]) → f s m = true → Ev K B k te (((wipeG ((wipeG Γ vs).set j (.f (.i (s : Int)))) vs1).set a (Slot.of k2 y)).set b (Slot.of k2 z)) (v s m)) :
    EvN K B k (tLc2 (iRng1 tr) (gName j) tYes (iList K tl) (gTup K 2 (gCons (gName a) (gCons (gName b) gNil))) tt te vs vs1) Γ (kept2 f v n ds.length) := fun σ F G H S Q q =>
  h σ F G H S _ fun us F1 H1 g1 i1 => by
    cases i1 with
    | cons a1 r1 =>
      cases r1; cases a1
      have S1 := S.grow g1
      have W1 := S1.wipe vs
      refine ⟨(n : Int), rfl, by omega, by omega, fun L hL => ?_⟩
      refine ⟨fun s m Hx => m = n - s ∧ s ≤ n ∧ CsL K B F1 F1 (wipeG Γ vs) (wipe σ vs) G H1 k L (kept2 f v s ds.length) Hx, ⟨n, by simp, Nat.zero_le _, CsL.start W1 hL⟩, ?_⟩
      rintro s m Hx ⟨rfl, hs, c⟩
      by_cases hlt : s < n
      · refine .inr ⟨?_, fun H' => CsL K B F1 F1 (wipeG Γ vs) (wipe σ vs) G H1 k L (kept2 f v (s + 1) ds.length) H', fun H' c' => ⟨n - (s + 1), by omega, rfl, hlt, c'⟩, ?_⟩
        · show s < ((n : Int) - 0).toNat
          omega
        · intro x Hy hy
          obtain ⟨hy, rfl⟩ := hy
          subst hy
          have e0 : (0 : Int) + (s : Int) = (s : Int) := Int.zero_add _
          show wipe ((wipe σ vs).set j (some (.int ((0 : Int) + (s : Int))))) vs = wipe σ vs ∧ _
          refine ⟨wipe_set_self hj, ?_⟩
          unfold tYes
          show ite (true = true) _ _
          rw [if_pos rfl, e0]
          obtain ⟨F2, xs, S2, x2, f2, n2, l2, h2, i2, _⟩ := c
          have putj : ∀ {F' H' : Hp}, Sta K B (wipeG Γ vs) (wipe σ vs) F' G H' → ∃ G', Sta K B ((wipeG Γ vs).set j (.f (.i (s : Int)))) ((wipe σ vs).set j (some (.int (s : Int)))) F' G' H' := fun S' => ⟨_, S'.put0 j (.int s) (.f (.i (s : Int))) fun σ' z => ⟨_, z, .v _⟩⟩
          obtain ⟨G2, S2'⟩ := putj S2
          refine hds s hlt _ F2 G2 Hy S2' _ fun w d3 F3 H3 p3 g3 i3 => ?_
          subst p3
          obtain ⟨a0, ys, rfl, sq, r⟩ := IsK.lst hk2 i3
          have S3 := S2.grow g3
          have kh : ∀ {F4 G4 σ4 H4 Δ}, Sta K B Δ σ4 F4 G4 H4 → Ex (k2.at B F4) H4 := fun {F4 G4 σ4 H4 Δ} S4 => by
            rcases hk2 with z | z <;> subst z
            · exact S4.fh
            · exact S4.rh
          have lF3 : F3 L = none := by
            cases z : F3 L with
            | none => rfl
            | some o =>
              have z2 := g3.new L (some_ne z) l2
              rw [h2] at z2; cases z2
          have hbound : ∀ t, t ≤ ds.length → (kept2 f v s ds.length ++ kept (f s) (v s) t).length < 50000 := fun t ht => by
            have h1 := kept2_len f v ds.length s
            have h2 := kept_len t (f s) (v s)
            have h3 : s * ds.length ≤ 200 * 200 := Nat.mul_le_mul (by omega) hl
            rw [List.length_append]
            omega
          have c3 : CsL K B F1 F3 (wipeG Γ vs) (wipe σ vs) G H1 k L (kept2 f v s ds.length ++ kept (f s) (v s) 0) H3 := by
            rw [kept_zero, List.append_nil]
            refine ⟨F3, xs, S3, x2.trans g3.h, f2.trans g3.f, fun a z1 z2 => ?_, lF3, g3.h L _ h2, IsL.mono (k.at_mono g3.f (S2.bf' g3)) i2, Ex.refl _⟩
            cases z : F2 a with
            | none => exact none_of_ex x2 (g3.new a z1 z)
            | some o => exact n2 a (some_ne z) z2
          have sqAt : ∀ {es : List D} {Hz : Hp}, CsL K B F1 F3 (wipeG Γ vs) (wipe σ vs) G H1 k L es Hz → SqL K Hz a0 ys := fun {es Hz} ⟨F', _, S', _, _, _, _, _, _, ff⟩ => ex_l (kh S') (ex_l (k2.at_mono ff S'.bf) sq)
          refine ⟨a0, rfl, ⟨ys, ex_l (kh S3) sq⟩, fun t k' Hz => k' = ds.length - t ∧ t ≤ ds.length ∧ CsL K B F1 F3 (wipeG Γ vs) (wipe σ vs) G H1 k L (kept2 f v s ds.length ++ kept (f s) (v s) t) Hz, ⟨ds.length, by simp, Nat.zero_le _, c3⟩, ?_⟩
          rintro t k' Hz ⟨rfl, ht', c4⟩
          by_cases hl2 : t < ds.length
          · obtain ⟨y0, hy0⟩ : ∃ y0, ys[t]? = some y0 := ⟨_, List.getElem?_eq_getElem (by rw [r.len]; exact hl2)⟩
            refine .inr ⟨⟨ys, y0, sqAt c4, hy0⟩, fun H' => CsL K B F1 F3 (wipeG Γ vs) (wipe σ vs) G H1 k L (kept2 f v s ds.length ++ kept (f s) (v s) (t + 1)) H', fun H' c' => ⟨ds.length - (t + 1), by omega, rfl, hl2, c'⟩, ?_⟩
            intro x Hw hw
            obtain ⟨hw, hxs⟩ := hw
            subst hw
            have hx0 := hxs ys (sqAt c4)
            rw [hy0] at hx0
            cases hx0
            obtain ⟨dd, hdd, idd⟩ := r.getV hy0
            obtain ⟨y, z, rfl⟩ := hp dd (List.mem_of_getElem? hdd)
            cases idd with
            | t st rt =>
              cases rt with
              | cons iy rt =>
                cases rt with
                | cons iz rt =>
                  cases rt
                  have stw : Ex (k2.at B F3) Hw := by
                    obtain ⟨F4, xs4, S4, _, _, _, _, _, _, ff4⟩ := c4
                    exact (k2.at_mono ff4 S4.bf).trans (kh S4)
                  refine ⟨_, _, rfl, ex_t stw st, rfl, _, _, rfl, _, _, rfl, rfl, ?_⟩
                  refine ⟨by rw [wipe_set hb, wipe_set ha, wipe_wipe], ?_⟩
                  refine CsL.turn (b := f s t) (d := v s t) hk W1 hL c4 (hbound t (by omega)) (fun F5 H5 S5 e5 => ?_) (ht s t y z hlt hdd) (fun hf => he s t y z hlt hdd hf) ?_
                  · obtain ⟨G6, S6⟩ := putj S5
                    have S7 := S6.wipe vs1
                    have ok : ∀ (w : D) (vw : V), Is K (k2.at B F3) vw w → ∀ (q' : Nat) (σ' : L2.St), σ'[q']? = some (some vw) → SlotOk K B F5 H0 σ' q' (Slot.of k2 w) := fun w vw iw q' σ' hq => by
                      have iw' := iw.mono (k2.at_mono e5 S5.bf)
                      rcases hk2 with z | z <;> subst z
                      · exact ⟨vw, hq, iw'⟩
                      · exact ⟨vw, hq, iw'⟩
                    exact ⟨_, (S7.put0 a _ (Slot.of k2 y) (ok y _ iy a)).put0 b _ (Slot.of k2 z) (ok z _ iz b)⟩
                  · rw [kept_next]
                    split
                    · rw [List.append_assoc]
                    · rfl
          · have e : t = ds.length := by omega
            subst e
            refine .inl ⟨⟨ys, sqAt c4, by rw [r.len]; exact Nat.le_refl _⟩, ?_⟩
            rw [← kept2_succ] at c4
            obtain ⟨F', xs', a1, a2, a3, a4, a5, a6, a7, a8⟩ := c4
            exact ⟨F', xs', a1, a2, a3, a4, a5, a6, a7, a3⟩
      · have e : s = n := by omega
        subst e
        obtain ⟨F', xs, S', x', f', n', l', h', i', _⟩ := c
        refine .inl ⟨?_, q L xs F' Hx (g1.trans ⟨f', x', S'.fh, n'⟩) (none_of_ex g1.h hL) l' h' i'⟩
        show ((s : Int) - 0).toNat ≤ s
        omega
end

end
section
open PySem L2 Evl PyProof.Rows
/-- a method that an operator calls -/
structure GCal (P : Program) (w : World) (K : PySem.W.Frag) (mg : Str → Option Value) (base : Heap) (C : Addr) (m : Str) (k : Nat) (ps : List Str) (sp : Sp) : Prop where
  ex : ∃ (f : Addr) (fd : FuncData), FnOk P w K mg base CX0 k f fd ps sp ∧ Binds K fd ps [] ∧ Meth K C m f ∧ PySem.W.fnIn K f = true
theorem GCal.m {P : Program} {w : World} {K : PySem.W.Frag} {mg : Str → Option Value} {base : Heap} {C : Addr} {m : Str} {k : Nat} {ps : List Str} {sp : Sp} (q : GCal P w K mg base C m k ps sp) : MCal P w K mg base C m k ps sp := by
  obtain ⟨f, fd, h1, h2, h3, _⟩ := q.ex
  exact ⟨f, fd, h1, h2, h3⟩
/-- a property -/
structure PCal (P : Program) (w : World) (K : PySem.W.Frag) (mg : Str → Option Value) (base : Heap) (C : Addr) (m : Str) (k : Nat) (ps : List Str) (sp : Sp) : Prop where
  ex : ∃ (p f : Addr) (fd : FuncData), FnOk P w K mg base CX0 k f fd ps sp ∧ Binds K fd ps [] ∧ PropOf K C m p f
section
variable {X : Cx} {x m : Str} {k n : Nat} {ps ks : List Str} {sp : Sp} {e o : Expr} {ta tb : TE} {p pos apos : Pos} {C : Addr}
theorem pe_getOwn (ha : PE X o ta) (hb : PE X e tb) (c : Cls X.K C) (q : GCal X.prog X.w X.K X.mg X.base C "__getitem__" k ps sp) (hr : Room (k + 1) X.A) (hsl : ∀ a i, subscripted e true (.ref a) i = runValue (.builtin "lifetime.subscript" ⟨[.ref a, i], []⟩)) : PE X (.Subscript o e pos) (tGetOwn C sp ta tb) := by
  obtain ⟨f, fd, F, b, hmt, hfi⟩ := q.ex
  refine ⟨fun pins s σ H Q I h => ?_⟩
  refine Subscript_ (binT ha hb I h fun v u s2 x y H2 I2 rx ry hq => ?_)
  obtain ⟨a, dx, fs, rfl, hi, q⟩ := hq
  obtain rfl : v = Value.ref a := rx
  obtain ⟨mA, O, _⟩ := ins_get I2.hok hi
  obtain ⟨od, J, _⟩ := O.look
  obtain ⟨mm, Fr⟩ := I2.fr
  refine PySem.W.sub_K Fr I2.mod.kin J hmt.at_ hfi hmt.fn ?_ (hsl a u)
  have hl : ([Value.ref a, u] ++ []).length = ps.length := by
    rw [← F.len _ _ _ _ q]
    rfl
  refine wpAny_call (codeAny_mono (F.run X.A.in1 X.stack s2 H2 ⟨[.ref a, u], []⟩ [.ref a, u] [.ref a, y] Q E0 hr.in1 I2.env0.in1 (b s2 [.ref a, u] I2.kIn hl) (.cons rfl (.cons ry .nil)) q) fun r s' hq => ?_)
  cases r with
  | error er => exact False.elim hq
  | ok fl =>
    cases fl with
    | ret u2 => exact I2.after hq
    | next => exact False.elim hq
    | brk => exact False.elim hq
    | cont => exact False.elim hq
theorem pe_pcal (he : PE X o ta) (c : Cls X.K C) (q : PCal X.prog X.w X.K X.mg X.base C m k ps sp) (hr : Room (k + 1) X.A) (hab : attributeBase o m X.env (eval o X.env) = eval o X.env) : PE X (.Attribute o m pos) (tProp C sp [] E0 ta) := by
  obtain ⟨pp, f, fd, F, b, hp⟩ := q.ex
  exact pe_prop he c hp F hr b .nil pass0 hab
end
/-! ### readings -/
section
variable {K : PySem.W.Frag} {B Φ F H : Hp} {Γ : Gm} {k : Kd} {ta tb te tl tx to : TE} {tr tk : TA} {tt : TT} {d e : D} {ds es : List D} {i : Nat} {D₀ : Ends} {tz : TS} {σ : L2.St} {G : Nat → Hp} {C p : Addr} {m : Mach} {A : Own} {v : V} {φ : D → Prop}
/-- wish[e], the wish in slot i -/
theorem ev_getOwn {sp : Sp} (hi : Γ[i]? = some (.oo (WishF K C m))) (hb : Ev K B k tb Γ e) (h : ∀ (p : Addr) (y : V) (H : Hp) (Q : VK), WishH K C H p m → Is K H y e → Ret K H Q d → sp [.ref p, y] H Q E0) : Ev K B .f (tGetOwn C sp (tVar i) tb) Γ d := fun σ F G H S Q q => by
  obtain ⟨v, h1, p, rfl, hw⟩ := S.sl i _ hi
  refine ⟨_, h1, ?_⟩
  refine hb σ F G H S _ fun y d1 F1 H1 p1 g1 i1 => ?_
  subst p1
  have S1 := S.grow g1
  have hw1 := hw.mono (g1.f.trans g1.fh)
  have hw2 := hw1
  obtain ⟨dx, vt, vf, h2, h3, h4⟩ := hw1
  refine ⟨p, dx, _, rfl, h2, h p y H1 Q hw2 (IsK.toH S1 i1) fun v N H' e1 e2 e3 e4 => ?_⟩
  exact q v _ _ H' rfl (g1.trans (Grow.add g1.fh e1 e2 e3)) (e4.mono un_l)
theorem ev_getOwnB {sp : Sp} (hw : WishH K C B p m) (ho : Ev K B .h to Γ (.v (.ref p))) (hb : Ev K B k tb Γ e) (h : ∀ (y : V) (H : Hp) (Q : VK), WishH K C H p m → Is K H y e → Ret K H Q d → sp [.ref p, y] H Q E0) : Ev K B .f (tGetOwn C sp to tb) Γ d := fun σ F G H S Q q =>
  ho σ F G H S _ fun v d0 F0 Hx p0 g0 i0 => by
    subst p0; cases Is.leaf i0
    have S0 := S.grow g0
    refine hb σ F0 G Hx S0 _ fun y d1 F1 H1 p1 g1 i1 => ?_
    subst p1
    have S1 := S0.grow g1
    have hw1 := hw.mono S1.bh
    have hw2 := hw1
    obtain ⟨dx, vt, vf, h2, h3, h4⟩ := hw1
    refine ⟨p, dx, _, rfl, h2, h y H1 Q hw2 (IsK.toH S1 i1) fun v N H' e1 e2 e3 e4 => ?_⟩
    exact q v _ _ H' rfl ((g0.trans g1).trans (Grow.add g1.fh e1 e2 e3)) (e4.mono un_l)
/-- wish.name, a property -/
theorem ev_propB {sp : Sp} (hw : WishH K C B p m) (ho : Ev K B .h to Γ (.v (.ref p))) (h : ∀ (H : Hp) (Q : VK), WishH K C H p m → Ret K H Q d → sp [.ref p] H Q E0) : Ev K B .f (tProp C sp [] E0 to) Γ d := fun σ F G H S Q q =>
  ho σ F G H S _ fun v d0 F0 Hx p0 g0 i0 => by
    subst p0; cases Is.leaf i0
    have S0 := S.grow g0
    have hw1 := hw.mono S0.bh
    have hw2 := hw1
    obtain ⟨dx, vt, vf, h2, h3, h4⟩ := hw1
    refine ⟨p, dx, _, rfl, h2, h Hx Q hw2 fun v N H' e1 e2 e3 e4 => ?_⟩
    exact q v _ _ H' rfl (g0.trans (Grow.add g0.fh e1 e2 e3)) (e4.mono un_l)
theorem ev_prop {sp : Sp} (hi : Γ[i]? = some (.oo (WishF K C m))) (h : ∀ (p : Addr) (H : Hp) (Q : VK), WishH K C H p m → Ret K H Q d → sp [.ref p] H Q E0) : Ev K B .f (tProp C sp [] E0 (tVar i)) Γ d := fun σ F G H S Q q => by
  obtain ⟨v, h1, p, rfl, hw⟩ := S.sl i _ hi
  refine ⟨_, h1, ?_⟩
  have hw1 := hw.mono S.fh
  have hw2 := hw1
  obtain ⟨dx, vt, vf, h2, h3, h4⟩ := hw1
  refine ⟨p, dx, _, rfl, h2, h p H Q hw2 fun v N H' e1 e2 e3 e4 => ?_⟩
  exact q v _ _ H' rfl (Grow.add S.fh e1 e2 e3) (e4.mono un_l)
/-- isinstance(x, T) -/
def D.ty : D → Option String
  | .v .non => some "NoneType"
  | .v (.bl _) => some "bool"
  | .v (.int _) => some "int"
  | .v (.str _) => some "str"
  | .l _ => some "list"
  | .t _ => some "tuple"
  | _ => none
theorem Is.ty {H : Hp} {x : V} {d : D} {t : String} (h : Is K H x d) (e : d.ty = some t) : TyX K H x (.type t) := by
  cases h with
  | v x =>
    cases x <;> first | (cases e; done) | skip
    · cases e; exact .base .non
    · cases e; exact .base (.bl _)
    · cases e; exact .base (.int _)
    · cases e; exact .base (.str _)
  | l s r =>
    cases e
    rcases s with (s | ⟨o, s⟩) | ⟨o, its, n, h1, h2, h3, h4⟩
    · exact .base (.lst s)
    · exact .base (.frz s)
    · exact .kList h1 h2
  | t s r =>
    cases e
    rcases s with (s | ⟨o, s⟩) | ⟨o, its, n, h1, h2, h3⟩
    · exact .base (.tup s)
    · exact .fTuple s
    · exact .kTuple h1 h2
theorem ev_isi {t c : String} {r : Bool} (ha : Ev K B .h ta Γ d) (ht : d.ty = some t) (hr : kitB t c = some r) : Ev K B k (tCB (rIsi K) (tCons ta (tCons (tC (.ty c)) tNil))) Γ (.b r) := Ev.val fun σ F G H S Q q =>
  ha σ F G H S _ fun x d1 F1 H1 p1 g1 i1 => by
    subst p1
    have iH := i1
    exact ⟨x, .ty c, .type t, .type c, r, rfl, .ty c, Is.ty iH ht, kit_ty hr, q H1 g1.h⟩
/-- a new list is given back, nobody else's -/
def RetL (K : PySem.W.Frag) (B : Hp) (rt : VK) (ds : List D) : Prop := ∀ p xs N H', Ex B H' → (∀ a, N a ≠ none → B a = none) → Ex N H' → B p = none → N p = none → H' p = some (.lst xs) → IsL K N xs ds → rt (.ref p) H'
theorem sd_retN (h : EvN K B .f te Γ ds) (n : RetL K B D₀.rt ds) : StD K B Φ (tRet te) D₀ Γ := fun σ H ⟨F, G, e, S⟩ =>
  h σ F G H S _ fun p xs F1 H1 g1 h0 hf h1 i1 => n p xs F1 H1 (S.bh.trans g1.h) (S.bf' g1) g1.fh (none_of_ex S.bh h0) hf h1 i1
theorem RetL.en {Q : VK} (g : Grow F H F H) (q : ∀ p xs F' H', Grow F H F' H' → H p = none → F' p = none → H' p = some (.lst xs) → IsL K F' xs ds → Q (.ref p) H') : RetL K H Q ds := fun p xs N H' e1 e2 e3 e4 e5 e6 e7 => by
  refine q p xs (un F N) H' (Grow.add g.fh e1 e2 e3) e4 ?_ e6 (e7.mono un_l)
  unfold un
  rw [e5]
  exact none_of_ex g.fh e4
theorem en_prop {sp : Sp} (hi : Γ[i]? = some (.oo (WishF K C m))) (h : ∀ (p : Addr) (H : Hp) (Q : VK), WishH K C H p m → RetL K H Q ds → sp [.ref p] H Q E0) : EvN K B .f (tProp C sp [] E0 (tVar i)) Γ ds := fun σ F G H S Q q => by
  obtain ⟨v, h1, p, rfl, hw⟩ := S.sl i _ hi
  refine ⟨_, h1, ?_⟩
  have hw1 := hw.mono S.fh
  have hw2 := hw1
  obtain ⟨dx, vt, vf, h2, h3, h4⟩ := hw1
  exact ⟨p, dx, _, rfl, h2, h p H Q hw2 (RetL.en (Grow.refl S.fh) q)⟩
theorem RetL.r {rt : VK} (h : Ret K B rt (.l ds)) : RetL K B rt ds := fun p xs N H' e1 e2 e3 e4 e5 e6 e7 =>
  h (.ref p) (upd N p (.lst xs)) H' e1 (fun a z => by
    by_cases w : a = p
    · subst w; exact e4
    · rw [upd_ne w] at z; exact e2 a z) (fun a o z => by
    by_cases w : a = p
    · subst w; rw [upd_same] at z; rw [e6]; exact z
    · rw [upd_ne w] at z; exact e3 a o z) (.l (sq_of upd_same) (e7.mono (Ex.new e5)))
end

end
local macro_rules | `(tactic| walk_at "sd") => `(tactic| first
  | rfl
  | assumption
  | ((try dsimp only); omega)
  | (simp only [CMul, CDiv, CPow, List.length_cons, List.length_nil, List.length_map, List.length_append, List.length_range, List.length_replicate]; omega)
  | skip)
local macro_rules | `(tactic| walk_at "le") => `(tactic| ((try simp only [List.length_cons, List.length_nil, List.length_map, List.length_append, List.length_range, List.length_replicate]); first
  | omega
  | assumption
  | (apply Int.emod_nonneg; omega)
  | (apply Int.emod_lt_of_pos; omega)
  | skip))
local macro_rules | `(tactic| walk_at "at") => `(tactic| first
  | rfl
  | (apply at_map; walk_at "le")
  | (apply at_mapI <;> walk_at "le")
  | skip)
local macro_rules | `(tactic| walk_at "go") => `(tactic| first
  | walk_at "ev"
  | (show D.items _ = _; rfl)
  | (show atI _ _ = _; walk_at "at")
  | (show D.pl _ = true; walk_at "pl")
  | walk_at "sd")
local macro_rules | `(tactic| walk_at "pl") => `(tactic| first
  | rfl
  | exact pl_ints
  | exact pl_bools
  | (simp [D.pl, D.ok, D.oks, D.tx, D.txs, PyData.strOk]; done)
  | skip)
local macro_rules | `(tactic| walk_at "ev") => `(tactic| first
  | exact ev_c
  | exact ev_var rfl
  | exact ea_nil
  | exact ev_oI rfl
  | exact ev_oB rfl
  | (apply ea_cons <;> walk_at "go")
  | (apply ev_I0 <;> walk_at "go")
  | (apply ev_I <;> walk_at "go")
  | (apply ev_neg <;> walk_at "go")
  | (with_reducible apply Ev.leaf (k := .f); apply ev_ix <;> walk_at "go")
  | (apply ev_ix (k := .r) <;> walk_at "go")
  | (apply ev_ix (k := .h) <;> walk_at "go")
  | (apply ev_len <;> walk_at "go")
  | (apply ev_int <;> walk_at "go")
  | (apply ev_abs <;> walk_at "go")
  | (apply ev_min <;> walk_at "go")
  | (apply ev_max <;> walk_at "go")
  | (apply ev_str <;> walk_at "go")
  | (apply ev_addS <;> walk_at "go")
  | (apply ev_eq <;> walk_at "go")
  | (apply ev_ne <;> walk_at "go")
  | (apply ev_chain <;> walk_at "go")
  | (apply ev_tup <;> walk_at "go")
  | (apply ev_tupR <;> walk_at "go")
  | (apply ev_tupH <;> walk_at "go")
  | (apply en_lst <;> walk_at "go")
  | (apply ev_lst <;> walk_at "go")
  | (apply ev_lstR <;> walk_at "go")
  | (apply ev_lstH <;> walk_at "go")
  | (apply ev_notV <;> walk_at "go")
  | (apply et_test <;> walk_at "go")
  | (apply et_B <;> walk_at "go")
  | (apply et_not <;> walk_at "go")
  | (apply en_listRg <;> walk_at "go")
  | (apply ev_mulS <;> walk_at "go")
  | (apply ev_slS <;> walk_at "go")
  | exact eo_none
  | (apply eo_some <;> walk_at "go")
  | (apply ev_isN <;> walk_at "go")
  | (apply ev_notN <;> walk_at "go")
  | (apply et_and; (focus walk_at "go"); (intro _; walk_at "go"))
  | (apply et_or; (focus walk_at "go"); (intro _; walk_at "go"))
  | (apply ev_andV; (focus walk_at "go"); (intro _; walk_at "go"))
  | (apply ev_orV; (focus walk_at "go"); (intro _; walk_at "go"))
  | exact et_yes)

def t_law_draws (K : PySem.W.Frag) : TS := tSeq (tIfS (tTest (tOp (rEqD K) (tVar 0) (tLst (tNil)))) (tRet (tLc (iRng1 (tCons (tVar 2) (tNil))) (gName 6) (tYes) (tC (.int 0)) [6])) (tNext)) (
    tSeq (tAsg (tCB rInt1 (tCons (tOp (rIx K) (tVar 0) (tOp (rI (fun _ j => 0 < j) fun i j => .int (i % j)) (tCB rInt1 (tCons (tVar 1) (tNil))) (tCB (rLenG K) (tCons (tVar 0) (tNil))))) (tNil))) (gName 3)) (
    tCut (tIfS (tTest (tOp (rI0 fun i j => .bl (decide (j ≤ i))) (tVar 1) (tCB (rLenG K) (tCons (tVar 0) (tNil))))) (tAsg (tOp (rI0 fun i j => .int (i + j)) (tOp (rI (fun _ j => 0 < j) fun i j => .int (i % j)) (tVar 3) (tC (.int 9973))) (tOp (rI CMul fun i j => .int (i * j)) (tC (.int 7)) (tVar 1))) (gName 3)) (tNext)) (
    tSeq (tAsg (tCB rAbs (tCons (tVar 3) (tNil))) (gName 4)) (
    tSeq (tAsg (tLst (tNil)) (gName 5)) (
    tSeq (tFor (iRng1 (tCons (tVar 2) (tNil))) (gName 6) (tIfS (tTest (tOp (rI0 fun i j => .bl (decide (j ≤ i))) (tCB rAbs (tCons (tVar 3) (tNil))) (tOp (rI CPow fun i j => .int (i ^ j.toNat)) (tC (.int 10)) (tC (.int 18))))) (tSeq (tDrop (tBM K "list" rAppend (tVar 5) (tCons (tOp (rI (fun _ j => 0 < j) fun i j => .int (i % j)) (tVar 4) (tC (.int 5040))) (tNil)))) (
    tAsg (tOp (rI CDiv fun i j => .int (i / j)) (tVar 4) (tC (.int 5040))) (gName 4))) (tSeq (tAsg (tOp (rI (fun _ j => 0 < j) fun i j => .int (i % j)) (tOp (rI0 fun i j => .int (i + j)) (tOp (rI0 fun i j => .int (i + j)) (tOp (rI CMul fun i j => .int (i * j)) (tOp (rI (fun _ j => 0 < j) fun i j => .int (i % j)) (tVar 3) (tC (.int 9973))) (tC (.int 37))) (tOp (rI CMul fun i j => .int (i * j)) (tVar 6) (tC (.int 101)))) (tC (.int 11))) (tC (.int 997))) (gName 7)) (
    tDrop (tBM K "list" rAppend (tVar 5) (tCons (tOp (rI (fun _ j => 0 < j) fun i j => .int (i % j)) (tOp (rI (fun _ j => 0 < j) fun i j => .int (i % j)) (tOp (rI0 fun i j => .int (i + j)) (tOp (rI0 fun i j => .int (i + j)) (tOp (rI CMul fun i j => .int (i * j)) (tOp (rI CMul fun i j => .int (i * j)) (tC (.int 3)) (tVar 7)) (tVar 7)) (tVar 7)) (tC (.int 577))) (tC (.int 7919))) (tC (.int 5040))) (tNil))))))) (
    tRet (tVar 5)))))))
def sp_law_draws (K : PySem.W.Frag) : Sp := fun vs H Q _ => ∃ (ns : List Int) (k n : Int), IsL K H vs [dInts ns, .i k, .i n] ∧ ns.length ≤ 63 ∧ 0 ≤ k ∧ k ≤ 1000 ∧ 0 ≤ n ∧ n ≤ 1000 ∧
  ∀ row : List Int, (row.length : Int) = n → (∀ x ∈ row, 0 ≤ x ∧ x < 5040) → Ret K H Q (dInts row)
theorem rd_law_draws {K : PySem.W.Frag} {vs : List V} {H : Hp} {Q : VK} {E : XK} (h : sp_law_draws K vs H Q E) : t_law_draws K { nx := fun _ H2 => Q .non H2, rt := Q } (L2.start ["_law_script", "_law_k", "_law_many", "_law_cell", "_law_left", "_law_row", "_law_i", "_law_x"] vs) H := by
  obtain ⟨ns, k, n, hv, hns, hk0, hk, hn0, hn, q⟩ := h
  refine sd_start hv (by rw [hv.len]; exact (by decide : 3 ≤ 8)) ?_
  show StD K H H0 _ _ [.r (dInts ns), .r (.i k), .r (.i n), .n, .n, .n, .n, .n]
  unfold t_law_draws
  apply sq_if
  · walk_at "ev"
  · intro _
    refine sd_ret (EvN.fz (en_lcR1 (fun _ => true) (fun _ => .i 0) (.inl rfl) (by walk_at "ev") (by omega) (by decide) (fun _ _ => et_yes) (fun _ _ _ => by walk_at "ev"))) ?_
    have e : D.l (kept (fun _ => true) (fun _ => D.i 0) n.toNat) = dInts ((List.range n.toNat).map fun _ => 0) := by
      rw [kept_all]; unfold dInts; rw [List.map_map]; rfl
    rw [e]
    refine q _ (by rw [List.length_map, List.length_range]; omega) fun x hx => ?_
    obtain ⟨_, _, rfl⟩ := List.mem_map.mp hx
    omega
  · intro hne
    have h0 : 0 < ns.length := by
      cases ns with
      | nil => exact absurd hne (by decide)
      | cons a b => exact Nat.succ_pos _
    apply sq_set
    · walk_at "ev"
    generalize ns.getD (k % (ns.map D.i).length).toNat default = c0
    refine sd_cut (Mid := fun Δ => ∃ c : Int, Δ = [.r (dInts ns), .r (.i k), .r (.i n), .f (.i c), .n, .n, .n, .n]) ?_ ?_
    · apply sd_if
      · walk_at "ev"
      · intro _
        apply sd_set
        · walk_at "ev"
        · exact NxO.ste ⟨_, rfl⟩ (Le.refl _)
      · intro _
        exact NxO.ste ⟨_, rfl⟩ (Le.refl _)
    rintro Δ ⟨c, rfl⟩
    apply sq_set
    · walk_at "ev"
    apply sq_setL
    · walk_at "ev"
    apply sq_forR1 (Iv := fun m Δ => ∃ (l : Int) (row : List Int), 0 ≤ l ∧ row.length = m ∧ (∀ x ∈ row, 0 ≤ x ∧ x < 5040) ∧ Δ = [.r (dInts ns), .r (.i k), .r (.i n), .f (.i c), .f (.i l), .ol .f (row.map D.i), .n, .n])
    · walk_at "ev"
    · omega
    · refine ⟨_, ⟨(if c < 0 then -c else c), [], by split <;> omega, rfl, (fun _ h => nomatch h), rfl⟩, Le.refl _⟩
    · rintro m Δ hm ⟨l, row, hl, hlen, hrow, rfl⟩
      have app : ∀ (r : Int), 0 ≤ r → r < 5040 → ∀ x ∈ row ++ [r], 0 ≤ x ∧ x < 5040 := fun r h1 h2 x hx => by
        rcases List.mem_append.mp hx with h | h
        · exact hrow x h
        · rw [List.mem_singleton.mp h]; exact ⟨h1, h2⟩
      apply sd_if
      · walk_at "ev"
      · intro _
        apply sq_app rfl (.inl rfl)
        · walk_at "ev"
        · walk_at "sd"
        apply sd_set
        · walk_at "ev"
        refine NxO.ste ⟨l / 5040, row ++ [l % 5040], by omega, by rw [List.length_append, hlen]; rfl, app _ (by omega) (by omega), rfl⟩ ?_
        rw [List.map_append]
        exact Le.s (Le.s (Le.s (Le.s (Le.s (Le.s (Le.n (Le.n Le.nil)))))))
      · intro _
        apply sq_set
        · walk_at "ev"
        apply sd_app1 rfl (.inl rfl)
        · walk_at "ev"
        · walk_at "sd"
        generalize hx : (c % 9973 * 37 + (m : Int) * 101 + 11) % 997 = x
        refine NxO.ste ⟨l, row ++ [(3 * x * x + x + 577) % 7919 % 5040], hl, by rw [List.length_append, hlen]; rfl, app _ (by omega) (by omega), rfl⟩ ?_
        rw [List.map_append]
        exact Le.s (Le.s (Le.s (Le.s (Le.s (Le.s (Le.n (Le.n Le.nil)))))))
    · rintro Δ ⟨l, row, hl, hlen, hrow, rfl⟩
      exact sd_retL rfl (q row (by omega) hrow)
def t_law_machine (K : PySem.W.Frag) : TS := tSeq (tAsg (tOp (rI0 fun i j => .int (i + j)) (tC (.int 1)) (tOp (rI (fun _ j => 0 < j) fun i j => .int (i % j)) (tCB rInt1 (tCons (tOp (rIx K) (tVar 0) (tC (.int 0))) (tNil))) (tCB rMin2 (tCons (tCB rInt1 (tCons (tVar 1) (tNil))) (tCons (tOp (rIx K) (tLst (tCons (tC (.int 4)) (tCons (tC (.int 5)) (tCons (tC (.int 6)) (tCons (tC (.int 8)) (tNil)))))) (tOp (rI (fun _ j => 0 < j) fun i j => .int (i % j)) (tOp (rI CDiv fun i j => .int (i / j)) (tCB rInt1 (tCons (tOp (rIx K) (tVar 0) (tC (.int 0))) (tNil))) (tC (.int 840))) (tC (.int 4)))) (tNil)))))) (gName 2)) (
    tSeq (tAsg (tOp (rI0 fun i j => .int (i + j)) (tC (.int 1)) (tOp (rI (fun _ j => 0 < j) fun i j => .int (i % j)) (tCB rInt1 (tCons (tOp (rIx K) (tVar 0) (tC (.int 1))) (tNil))) (tC (.int 4)))) (gName 3)) (
    tSeq (tAsg (tOp (rI (fun _ j => 0 < j) fun i j => .int (i % j)) (tCB rInt1 (tCons (tOp (rIx K) (tVar 0) (tC (.int 2))) (tNil))) (tC (.int 4))) (gName 4)) (
    tSeq (tAsg (tOp (rI (fun _ j => 0 < j) fun i j => .int (i % j)) (tOp (rI CDiv fun i j => .int (i / j)) (tCB rInt1 (tCons (tOp (rIx K) (tVar 0) (tC (.int 2))) (tNil))) (tC (.int 4))) (tC (.int 7))) (gName 5)) (
    tSeq (tAsg (tLst (tNil)) (gName 6)) (
    tSeq (tAsg (tLst (tNil)) (gName 7)) (
    tSeq (tFor (iRng1 (tCons (tVar 2) (tNil))) (gName 8) (tSeq (tAsg (tLc (iRng1 (tCons (tVar 3) (tNil))) (gName 9) (tYes) (tCB rInt1 (tCons (tOp (rIx K) (tVar 0) (tOp (rI0 fun i j => .int (i + j)) (tOp (rI0 fun i j => .int (i + j)) (tC (.int 4)) (tOp (rI CMul fun i j => .int (i * j)) (tC (.int 4)) (tVar 8))) (tVar 9))) (tNil))) [9]) (gName 14)) (
    tSeq (tDrop (tBM K "list" rAppend (tVar 6) (tCons (tLc (iList K (tVar 14)) (gName 19) (tYes) (tOp (rI (fun _ j => 0 < j) fun i j => .int (i % j)) (tCB rInt1 (tCons (tVar 19) (tNil))) (tVar 2)) [19]) (tNil)))) (
    tDrop (tBM K "list" rAppend (tVar 7) (tCons (tLc (iList K (tVar 14)) (gName 19) (tYes) (tOp (rI0 fun i j => .bl (decide (i < j))) (tOp (rI CDiv fun i j => .int (i / j)) (tVar 19) (tC (.int 840))) (tVar 5)) [19]) (tNil))))))) (
    tSeq (tFor (iRng1 (tCons (tVar 3) (tNil))) (gName 9) (tSeq (tAsg (tCB (rSorted K) (tCons (tLc (iRng1 (tCons (tVar 2) (tNil))) (gName 8) (tYes) (tCB rInt1 (tCons (tOp (rIx K) (tOp (rIx K) (tVar 6) (tVar 8)) (tVar 9)) (tNil))) [8]) (tNil))) (gName 15)) (
    tSeq (tAsg (tOp (rI (fun _ j => 0 < j) fun i j => .int (i % j)) (tCB rInt1 (tCons (tOp (rIx K) (tVar 0) (tOp (rI0 fun i j => .int (i + j)) (tC (.int 36)) (tVar 9))) (tNil))) (tOp (rI0 fun i j => .int (i + j)) (tVar 2) (tC (.int 1)))) (gName 16)) (
    tSeq (tFor (iRng1 (tCons (tVar 2) (tNil))) (gName 8) (tIfS (tAnd (tTest (tOp (rNeD K) (tVar 4) (tC (.int 2)))) (tTest (tOp (rI0 fun i j => .bl (decide (j < i))) (tOp (rIx K) (tVar 15) (tVar 8)) (tVar 8)))) (tAsg (tCB rMin2 (tCons (tCB rInt1 (tCons (tVar 16) (tNil))) (tCons (tVar 8) (tNil)))) (gName 16)) (tNext))) (
    tFor (iRng1 (tCons (tVar 2) (tNil))) (gName 8) (tIfS (tTest (tOp (rI0 fun i j => .bl (decide (j < i))) (tVar 4) (tC (.int 0)))) (tSeq (tAsg (tOp (rIx K) (tVar 15) (tVar 8)) (gSub (tOp (rIx K) (tVar 6) (tVar 8)) (tVar 9) rSetL)) (
    tAsg (tOp (rI0 fun i j => .bl (decide (j ≤ i))) (tVar 8) (tVar 16)) (gSub (tOp (rIx K) (tVar 7) (tVar 8)) (tVar 9) rSetL))) (tNext))))))) (
    tSeq (tAsg (tOp (rI (fun _ j => 0 < j) fun i j => .int (i % j)) (tCB rInt1 (tCons (tOp (rIx K) (tVar 0) (tC (.int 48))) (tNil))) (tVar 2)) (gName 8)) (
    tSeq (tAsg (tOp (rI (fun _ j => 0 < j) fun i j => .int (i % j)) (tCB rInt1 (tCons (tOp (rIx K) (tVar 0) (tC (.int 49))) (tNil))) (tVar 3)) (gName 9)) (
    tCut (tIfS (tAnd (tTest (tOp (rEqD K) (tVar 4) (tC (.int 3)))) (tTest (tOp (rEqD K) (tOp (rI (fun _ j => 0 < j) fun i j => .int (i % j)) (tCB rInt1 (tCons (tOp (rIx K) (tVar 0) (tC (.int 50))) (tNil))) (tC (.int 2))) (tC (.int 0))))) (tAsg (tNotV (tOp (rIx K) (tOp (rIx K) (tVar 7) (tVar 8)) (tVar 9))) (gSub (tOp (rIx K) (tVar 7) (tVar 8)) (tVar 9) rSetL)) (tNext)) (
    tCut (tIfS (tAnd (tTest (tOp (rEqD K) (tVar 4) (tC (.int 3)))) (tTest (tOp (rEqD K) (tOp (rI (fun _ j => 0 < j) fun i j => .int (i % j)) (tCB rInt1 (tCons (tOp (rIx K) (tVar 0) (tC (.int 50))) (tNil))) (tC (.int 2))) (tC (.int 1))))) (tAsg (tOp (rI (fun _ j => 0 < j) fun i j => .int (i % j)) (tOp (rI CDiv fun i j => .int (i / j)) (tCB rInt1 (tCons (tOp (rIx K) (tVar 0) (tC (.int 50))) (tNil))) (tC (.int 2))) (tVar 2)) (gSub (tOp (rIx K) (tVar 6) (tVar 8)) (tVar 9) rSetL)) (tNext)) (
    tSeq (tAsg (tLstRg (tRg1 (tVar 2))) (gName 10)) (
    tSeq (tFor (iRng1 (tCons (tVar 2) (tNil))) (gName 8) (tSeq (tAsg (tOp (rI0 fun i j => .int (i + j)) (tVar 8) (tOp (rI (fun _ j => 0 < j) fun i j => .int (i % j)) (tCB rInt1 (tCons (tOp (rIx K) (tVar 0) (tOp (rI0 fun i j => .int (i + j)) (tC (.int 40)) (tVar 8))) (tNil))) (tOp (rI0 fun i j => .int (i - j)) (tVar 2) (tVar 8)))) (gName 17)) (
    tSeq (tAsg (tOp (rIx K) (tVar 10) (tVar 8)) (gName 18)) (
    tSeq (tAsg (tOp (rIx K) (tVar 10) (tVar 17)) (gSub (tVar 10) (tVar 8) rSetL)) (
    tAsg (tVar 18) (gSub (tVar 10) (tVar 17) rSetL)))))) (
    tSeq (tAsg (tLc (iRng1 (tCons (tVar 2) (tNil))) (gName 8) (tYes) (tBM K "list" (rIndex K) (tVar 10) (tCons (tVar 8) (tNil))) [8]) (gName 11)) (
    tSeq (tAsg (tLc (iRng1 (tCons (tVar 2) (tNil))) (gName 8) (tYes) (tLc (iList K (tOp (rIx K) (tVar 6) (tOp (rIx K) (tVar 11) (tVar 8)))) (gName 17) (tYes) (tOp (rIx K) (tVar 10) (tVar 17)) [17]) [8]) (gName 12)) (
    tSeq (tAsg (tLc (iRng1 (tCons (tVar 2) (tNil))) (gName 8) (tYes) (tCB (rListS K) (tCons (tOp (rIx K) (tVar 7) (tOp (rIx K) (tVar 11) (tVar 8))) (tNil))) [8]) (gName 13)) (
    tRet (tLst (tCons (tSl rSlS (tC (.str ("abcd" : Str))) (tNoPart) (tPart (tVar 3))) (tCons (tVar 12) (tCons (tVar 13) (tCons (tOp (rIx K) (tVar 10) (tOp (rI (fun _ j => 0 < j) fun i j => .int (i % j)) (tCB rInt1 (tCons (tOp (rIx K) (tVar 0) (tC (.int 3))) (tNil))) (tVar 2))) (tNil)))))))))))))))))))))))
def sp_law_machine (K : PySem.W.Frag) : Sp := fun vs H Q _ => ∃ (row : List Int) (top : Int), IsL K H vs [dInts row, .i top] ∧ 51 ≤ row.length ∧ row.length ≤ 1000 ∧ (∀ x ∈ row, 0 ≤ x ∧ x < 5040) ∧ 1 ≤ top ∧ top ≤ 8 ∧
  ∀ (m : Mach) (n c : Nat), m.Wf n c → (n : Int) ≤ top → Ret K H Q (encM m)
theorem lit4 {z : Int} (h0 : 0 ≤ z) (h : z < 4) : ∃ y : Int, 4 ≤ y ∧ y ≤ 8 ∧ atI [D.v (.int 4), D.v (.int 5), D.v (.int 6), D.v (.int 8)] z = some (.i y) := by
  have : z = 0 ∨ z = 1 ∨ z = 2 ∨ z = 3 := by omega
  rcases this with rfl | rfl | rfl | rfl
  · exact ⟨4, by omega, by omega, rfl⟩
  · exact ⟨5, by omega, by omega, rfl⟩
  · exact ⟨6, by omega, by omega, rfl⟩
  · exact ⟨8, by omega, by omega, rfl⟩
theorem swap_perm {xs : List Int} {i j : Nat} (hi : i < xs.length) (hj : j < xs.length) : ((xs.set i (xs.getD j default)).set j (xs.getD i default)).Perm xs := by
  have h1 : ∀ (ys : List Int), ys.length = xs.length → (∀ a : Int, ys.count a = xs.count a) → ys.Perm xs := fun ys _ h => List.perm_iff_count.mpr h
  refine h1 _ (by rw [List.length_set, List.length_set]) fun a => ?_
  have ei : xs.getD i default = xs[i] := by rw [List.getD_eq_getElem?_getD, List.getElem?_eq_getElem hi]; rfl
  have ej : xs.getD j default = xs[j] := by rw [List.getD_eq_getElem?_getD, List.getElem?_eq_getElem hj]; rfl
  rw [ei, ej]
  by_cases hij : i = j
  · subst hij
    rw [List.set_set, List.set_getElem_self]
  · rw [List.count_set (by rw [List.length_set]; exact hj), List.count_set hi, List.getElem_set_ne hij]
    have hp : ∀ k (hk : k < xs.length), xs[k] = a → 0 < xs.count a := fun k hk e => List.count_pos_iff.mpr (e ▸ List.getElem_mem hk)
    by_cases e1 : xs[i] = a
    · have p1 := hp i hi e1
      by_cases e2 : xs[j] = a
      · simp only [e1, e2, beq_self_eq_true, if_true]; omega
      · have f2 : (xs[j] == a) = false := beq_eq_false_iff_ne.mpr e2
        simp only [e1, f2, beq_self_eq_true, if_true, Bool.false_eq_true, if_false]; omega
    · have f1 : (xs[i] == a) = false := beq_eq_false_iff_ne.mpr e1
      by_cases e2 : xs[j] = a
      · have p2 := hp j hj e2
        simp only [f1, e2, beq_self_eq_true, if_true, Bool.false_eq_true, if_false]; omega
      · have f2 : (xs[j] == a) = false := beq_eq_false_iff_ne.mpr e2
        simp only [f1, f2, Bool.false_eq_true, if_false]; omega
theorem emod_in {a b : Int} (h : 0 < b) : 0 ≤ a % b ∧ a % b < b := ⟨Int.emod_nonneg a (by omega), Int.emod_lt_of_pos a h⟩
abbrev GM (row : List Int) (top N C mode share : Int) (tg : List (List Int)) (fl : List (List Bool)) (s8 s9 s10 s11 s12 s13 s14 s15 s16 s17 s18 s19 : Slot) : Gm :=
  [.r (dInts row), .r (.i top), .f (.i N), .f (.i C), .f (.i mode), .f (.i share), .oo (oInts tg), .oo (oBools fl), s8, s9, s10, s11, s12, s13, s14, s15, s16, s17, s18, s19]
theorem rd_law_machine {K : PySem.W.Frag} {vs : List V} {H : Hp} {Q : VK} {E : XK} (h : sp_law_machine K vs H Q E) : t_law_machine K { nx := fun _ H2 => Q .non H2, rt := Q }
    (L2.start ["_law_row", "_law_top", "_law_size", "_law_many", "_law_mode", "_law_share", "_law_targets", "_law_marks", "_law_s", "_law_c", "_law_names", "_law_places", "_law_moved", "_law_flags", "_law_cells", "_law_column", "_law_bar", "_law_t", "_law_kept", "_law_cell"] vs) H := by
  obtain ⟨row, top, hv, hl1, hl2, hrow, ht1, ht2, q⟩ := h
  refine sd_start hv (by rw [hv.len]; exact (by decide : 2 ≤ 20)) ?_
  show StD K H H0 _ _ [.r (dInts row), .r (.i top), .n, .n, .n, .n, .n, .n, .n, .n, .n, .n, .n, .n, .n, .n, .n, .n, .n, .n]
  have hr : ∀ k : Nat, 0 ≤ row.getD k default ∧ row.getD k default < 5040 := fun k => by
    by_cases hk : k < row.length
    · exact hrow _ (getD_mem hk)
    · rw [List.getD_eq_getElem?_getD, List.getElem?_eq_none (by omega)]
      exact ⟨by decide, by decide⟩
  unfold t_law_machine
  -- size
  refine sq_setW (φ := fun d => ∃ n : Int, d = .i n ∧ 1 ≤ n ∧ n ≤ 8 ∧ n ≤ top) ?_ ?_
  · obtain ⟨y, hy1, hy2, hy⟩ := lit4 (z := row.getD (0 : Int).toNat default / 840 % 4) (by omega) (by omega)
    apply EvW.imp
    · apply ev_I0
      · walk_at "ev"
      · apply ev_I
        · walk_at "ev"
        · apply ev_min
          · walk_at "ev"
          · apply ev_ix
            · walk_at "ev"
            · walk_at "ev"
            · rfl
            · exact hy
        · show (0 : Int) < if y < top then y else top
          split <;> omega
    · rintro _ rfl
      refine ⟨_, rfl, ?_⟩
      have h1 : (0 : Int) < if y < top then y else top := by split <;> omega
      have h2 : (if y < top then y else top) ≤ 8 ∧ (if y < top then y else top) ≤ top := by split <;> omega
      have h3 := emod_in (a := row.getD 0 default) h1
      show 1 ≤ 1 + row.getD 0 default % (if y < top then y else top) ∧ 1 + row.getD 0 default % (if y < top then y else top) ≤ 8 ∧ 1 + row.getD 0 default % (if y < top then y else top) ≤ top
      omega
  rintro _ ⟨n, rfl, hn1, hn8, hnt⟩
  -- many
  refine sq_setW (φ := fun d => ∃ n : Int, d = .i n ∧ 1 ≤ n ∧ n ≤ 4) ?_ ?_
  · apply EvW.imp
    · walk_at "ev"
    · rintro _ rfl
      exact ⟨_, rfl, by omega, by omega⟩
  rintro _ ⟨c, rfl, hc1, hc4⟩
  -- mode, share
  refine sq_setW (φ := fun d => ∃ n : Int, d = .i n) ?_ ?_
  · apply EvW.imp
    · walk_at "ev"
    · rintro _ rfl
      exact ⟨_, rfl⟩
  rintro _ ⟨mode, rfl⟩
  refine sq_setW (φ := fun d => ∃ n : Int, d = .i n) ?_ ?_
  · apply EvW.imp
    · walk_at "ev"
    · rintro _ rfl
      exact ⟨_, rfl⟩
  rintro _ ⟨share, rfl⟩
  refine sq_o2 (by walk_at "ev") ?_ (by simp)
  refine sq_o2 (by walk_at "ev") ?_ (by simp)
  obtain ⟨N, rfl⟩ : ∃ N : Nat, n = N := ⟨n.toNat, by omega⟩
  obtain ⟨C, rfl⟩ : ∃ C : Nat, c = C := ⟨c.toNat, by omega⟩
  -- the rows
  apply sq_forR1 (Iv := fun m Δ => ∃ (tg : List (List Int)) (fl : List (List Bool)), tg.length = m ∧ (∀ r ∈ tg, r.length = C ∧ ∀ x ∈ r, 0 ≤ x ∧ x < (N : Int)) ∧ WB m C fl ∧
    Δ = [.r (dInts row), .r (.i top), .f (.i N), .f (.i C), .f (.i mode), .f (.i share), .oo (oInts tg), .oo (oBools fl), .n, .n, .n, .n, .n, .n, .n, .n, .n, .n, .n, .n])
  · walk_at "ev"
  · omega
  · exact ⟨_, ⟨[], [], rfl, (fun _ h => nomatch h), ⟨rfl, fun _ h => nomatch h⟩, rfl⟩, Le.refl _⟩
  · rintro m Δ hm ⟨tg, fl, htl, htg, hfl, rfl⟩
    refine sq_set (EvN.fz (en_lcRI (fun k => row.getD (4 + 4 * (m : Int) + (k : Int)).toNat default) (by walk_at "ev") (by omega) (by decide) fun k hk => by
      apply ev_int
      apply Ev.leaf
      apply ev_ix
      · walk_at "ev"
      · apply ev_I0
        · apply ev_I0
          · walk_at "ev"
          · apply ev_I
            · walk_at "ev"
            · walk_at "ev"
            · exact .inl ⟨by omega, by omega⟩
        · walk_at "ev"
      · rfl
      · exact at_mapI (by omega) (by omega))) ?_
    generalize hcells : (List.range (C : Int).toNat).map (fun k : Nat => row.getD (4 + 4 * (m : Int) + (k : Int)).toNat default) = cells
    have hcl : cells.length = C := by rw [← hcells, List.length_map, List.length_range]; omega
    refine sq_appI (r := cells.map fun x => x % (N : Int)) rfl (en_lcII (fun x => x % (N : Int)) (.inl rfl) (by exact ev_var rfl) (by omega) (by decide) fun x hx => by
      apply ev_I
      · walk_at "ev"
      · walk_at "ev"
      · show (0 : Int) < N
        omega) (by omega) ?_
    refine sd_appB (r := cells.map fun x => decide (x / 840 < share)) rfl (en_lcIB (fun x => decide (x / 840 < share)) (.inl rfl) (by exact ev_var rfl) (by omega) (by decide) fun x hx => by walk_at "ev") (by rw [hfl.1]; omega) ?_
    refine NxO.ste ⟨tg ++ [cells.map fun x => x % (N : Int)], fl ++ [cells.map fun x => decide (x / 840 < share)], by rw [List.length_append, htl]; rfl, fun r hr => ?_, ⟨by rw [List.length_append, hfl.1]; rfl, fun r hr => ?_⟩, rfl⟩ ?_
    · rcases List.mem_append.mp hr with hr | hr
      · exact htg r hr
      · rw [List.mem_singleton.mp hr]
        refine ⟨by rw [List.length_map, hcl], fun x hx => ?_⟩
        obtain ⟨y, _, rfl⟩ := List.mem_map.mp hx
        exact emod_in (by omega)
    · rcases List.mem_append.mp hr with hr | hr
      · exact hfl.2 r hr
      · rw [List.mem_singleton.mp hr, List.length_map, hcl]
    · exact Le.s (Le.s (Le.s (Le.s (Le.s (Le.s (Le.s (Le.s (Le.n (Le.n (Le.n (Le.n (Le.n (Le.n (Le.n (Le.n (Le.n (Le.n (Le.n (Le.n Le.nil)))))))))))))))))))
  rintro Δ ⟨tg, fl, htl, htg, hfl, rfl⟩
  have hN : (N : Int).toNat = N := by omega
  rw [hN] at htl hfl
  have hwt : WT N C tg := ⟨htl, htg⟩
  clear htl htg
  -- the columns
  apply sq_forR1 (Iv := fun m Δ => ∃ (tg : List (List Int)) (fl : List (List Bool)), WT N C tg ∧ WB N C fl ∧ Δ = GM row top N C mode share tg fl .n .n .n .n .n .n .n .n .n .n .n .n)
  · walk_at "ev"
  · omega
  · exact ⟨_, ⟨tg, fl, hwt, hfl, rfl⟩, Le.refl _⟩
  · clear hfl hwt tg fl
    rintro m Δ hm ⟨tg, fl, hwt, hfl, rfl⟩
    have hmC : m < C := by omega
    refine sq_setW (φ := fun d => ∃ col : List Int, d = dInts col ∧ col.length = N ∧ ∀ x ∈ col, 0 ≤ x ∧ x < (N : Int)) ?_ ?_
    · refine EvW.imp (ew_sorted (ns := (List.range (N : Int).toNat).map fun s => (tg.getD s []).getD m 0) (EvW.h (EvN.fz (en_lcRI (fun s => (tg.getD s []).getD m 0) (by walk_at "ev") (by omega) (by decide) fun s hs => ?_))) ?_) ?_
      · apply ev_int
        apply Ev.leaf
        apply ev_ix
        · apply ev_ix
          · exact ev_oI rfl
          · walk_at "ev"
          · rfl
          · exact at_map (by rw [hwt.1]; omega)
        · walk_at "ev"
        · rfl
        · exact at_map (by
            have := (hwt.row (m := s) (by omega)).1
            show m < (tg.getD s []).length
            omega)
      · rw [List.length_map, List.length_range]; omega
      · rintro _ ⟨ms, h1, h2, rfl⟩
        refine ⟨ms, rfl, ?_, fun x hx => ?_⟩
        · rw [h1.length_eq, List.length_map, List.length_range]; omega
        · have hx' := h1.mem_iff.mp hx
          obtain ⟨s, hs, rfl⟩ := List.mem_map.mp hx'
          rw [List.mem_range] at hs
          exact hwt.cell (by omega) hmC
    rintro _ ⟨col, rfl, hcl, hcol⟩
    refine sq_setW (φ := fun d => ∃ b : Int, d = .i b) ?_ ?_
    · apply EvW.imp
      · apply ev_I
        · walk_at "ev"
        · walk_at "ev"
        · show (0 : Int) < (N : Int) + 1
          omega
      · rintro _ rfl
        exact ⟨_, rfl⟩
    rintro _ ⟨b, rfl⟩
    apply sq_forR1 (Iv := fun s Δ => ∃ b : Int, Δ = GM row top N C mode share tg fl .n (.f (.i m)) .n .n .n .n .n (.f (dInts col)) (.f (.i b)) .n .n .n)
    · walk_at "ev"
    · omega
    · exact ⟨_, ⟨b, rfl⟩, Le.refl _⟩
    · clear b
      rintro s Δ hs ⟨b, rfl⟩
      apply sd_if
      · walk_at "ev"
      · intro _
        apply sd_set
        · walk_at "ev"
        exact NxO.ste ⟨_, rfl⟩ (Le.s (Le.s (Le.s (Le.s (Le.s (Le.s (Le.s (Le.s (Le.n (Le.refl _))))))))))
      · intro _
        exact NxO.ste ⟨_, rfl⟩ (Le.s (Le.s (Le.s (Le.s (Le.s (Le.s (Le.s (Le.s (Le.n (Le.refl _))))))))))
    clear b
    rintro Δ ⟨b, rfl⟩
    apply sd_forR1 (Iv := fun s Δ => ∃ (tg : List (List Int)) (fl : List (List Bool)), WT N C tg ∧ WB N C fl ∧ Δ = GM row top N C mode share tg fl .n (.f (.i m)) .n .n .n .n .n (.f (dInts col)) (.f (.i b)) .n .n .n)
    · walk_at "ev"
    · omega
    · exact ⟨_, ⟨tg, fl, hwt, hfl, rfl⟩, Le.refl _⟩
    · clear hfl hwt tg fl
      rintro s Δ hs ⟨tg, fl, hwt, hfl, rfl⟩
      have hsN : s < N := by omega
      have hr1 := (hwt.row hsN).1
      have hr2 := hfl.row hsN
      apply sd_if
      · walk_at "ev"
      · intro _
        refine sq_setI2 (x := col.getD s default) rfl ?_ ?_ ?_ (a := s) (b := m) (by omega) (by rw [hwt.1]; omega) (by omega) ?_ ?_
        · apply Ev.leaf
          apply ev_ix
          · walk_at "ev"
          · walk_at "ev"
          · rfl
          · exact at_map (by omega)
        · walk_at "ev"
        · walk_at "ev"
        · show (m : Int) < ((tg.getD s []).length : Int)
          omega
        refine sd_setB2 (x := decide (b ≤ (s : Int))) rfl ?_ ?_ ?_ (a := s) (b := m) (by omega) (by rw [hfl.1]; omega) (by omega) ?_ ?_
        · walk_at "ev"
        · walk_at "ev"
        · walk_at "ev"
        · show (m : Int) < ((fl.getD s []).length : Int)
          omega
        refine NxO.ste ⟨_, _, hwt.set (l := m) hsN (hcol _ (getD_mem (d := default) (m := s) (by omega))), hfl.set (l := m) (x := decide (b ≤ (s : Int))) hsN, rfl⟩ ?_
        · exact Le.s (Le.s (Le.s (Le.s (Le.s (Le.s (Le.s (Le.s (Le.n (Le.refl _)))))))))
      · intro _
        exact NxO.ste ⟨tg, fl, hwt, hfl, rfl⟩ (Le.s (Le.s (Le.s (Le.s (Le.s (Le.s (Le.s (Le.s (Le.n (Le.refl _))))))))))
    clear hfl hwt tg fl
    rintro Δ ⟨tg, fl, hwt, hfl, rfl⟩
    exact NxO.ste ⟨tg, fl, hwt, hfl, rfl⟩ (Le.s (Le.s (Le.s (Le.s (Le.s (Le.s (Le.s (Le.s (Le.n (Le.n (Le.n (Le.n (Le.n (Le.n (Le.n (Le.n (Le.n (Le.refl _))))))))))))))))))
  clear hfl hwt tg fl
  rintro Δ ⟨tg, fl, hwt, hfl, rfl⟩
  -- one change
  refine sq_setW (φ := fun d => ∃ s : Nat, d = .i s ∧ s < N) ?_ ?_
  · apply EvW.imp
    · apply ev_I
      · walk_at "ev"
      · walk_at "ev"
      · show (0 : Int) < N
        omega
    · rintro _ rfl
      have h3 := emod_in (a := row.getD 48 default) (b := (N : Int)) (by omega)
      exact ⟨(row.getD 48 default % (N : Int)).toNat, by rw [Int.toNat_of_nonneg h3.1] <;> rfl, by omega⟩
  rintro _ ⟨s, rfl, hs⟩
  refine sq_setW (φ := fun d => ∃ s : Nat, d = .i s ∧ s < C) ?_ ?_
  · apply EvW.imp
    · apply ev_I
      · walk_at "ev"
      · walk_at "ev"
      · show (0 : Int) < C
        omega
    · rintro _ rfl
      have h3 := emod_in (a := row.getD 49 default) (b := (C : Int)) (by omega)
      exact ⟨(row.getD 49 default % (C : Int)).toNat, by rw [Int.toNat_of_nonneg h3.1] <;> rfl, by omega⟩
  rintro _ ⟨l, rfl, hl⟩
  have hr1 := (hwt.row hs).1
  have hr2 := hfl.row hs
  refine sd_cut (Mid := fun Δ => ∃ fl : List (List Bool), WB N C fl ∧ Δ = GM row top N C mode share tg fl (.f (.i s)) (.f (.i l)) .n .n .n .n .n .n .n .n .n .n) ?_ ?_
  · apply sd_if
    · walk_at "ev"
    · intro _
      refine sd_setB2 (x := !((fl.getD s default).getD l default)) rfl ?_ ?_ ?_ (a := s) (b := l) (by omega) (by rw [hfl.1]; omega) (by omega) ?_ ?_
      · apply ev_notV
        apply Ev.leaf
        apply ev_ix
        · apply ev_ix
          · exact ev_oB rfl
          · walk_at "ev"
          · rfl
          · exact at_map (by rw [hfl.1]; omega)
        · walk_at "ev"
        · rfl
        · exact at_map (by show l < (fl.getD s []).length; omega)
      · walk_at "ev"
      · walk_at "ev"
      · show (l : Int) < ((fl.getD s []).length : Int)
        omega
      exact NxO.ste ⟨_, hfl.set (l := l) (x := !((fl.getD s default).getD l default)) hs, rfl⟩ (Le.refl _)
    · intro _
      exact NxO.ste ⟨fl, hfl, rfl⟩ (Le.refl _)
  clear hr2 hfl fl
  rintro Δ ⟨fl, hfl, rfl⟩
  refine sd_cut (Mid := fun Δ => ∃ tg : List (List Int), WT N C tg ∧ Δ = GM row top N C mode share tg fl (.f (.i s)) (.f (.i l)) .n .n .n .n .n .n .n .n .n .n) ?_ ?_
  · apply sd_if
    · walk_at "ev"
    · intro _
      refine sd_setI2 rfl ?_ ?_ ?_ (a := s) (b := l) (x := row.getD 50 default / 2 % (N : Int)) (by omega) (by rw [hwt.1]; omega) (by omega) ?_ ?_
      · apply ev_I
        · walk_at "ev"
        · walk_at "ev"
        · show (0 : Int) < N
          omega
      · walk_at "ev"
      · walk_at "ev"
      · show (l : Int) < ((tg.getD s []).length : Int)
        omega
      exact NxO.ste ⟨_, hwt.set (l := l) hs (emod_in (by omega)), rfl⟩ (Le.refl _)
    · intro _
      exact NxO.ste ⟨tg, hwt, rfl⟩ (Le.refl _)
  clear hr1 hwt tg
  rintro Δ ⟨tg, hwt, rfl⟩
  -- the names
  refine sq_setL (en_listRg (by walk_at "ev") (by omega)) ?_
  apply sq_forR1 (Iv := fun m Δ => ∃ nm : List Int, nm.Perm ((List.range N).map fun i : Nat => (i : Int)) ∧ Δ = GM row top N C mode share tg fl .n (.f (.i l)) (.ol .f (nm.map D.i)) .n .n .n .n .n .n .n .n .n)
  · walk_at "ev"
  · omega
  · exact ⟨_, ⟨(List.range N).map fun i : Nat => (i : Int), List.Perm.refl _, rfl⟩, Le.s (Le.s (Le.s (Le.s (Le.s (Le.s (Le.s (Le.s (Le.n (Le.refl _)))))))))⟩
  · rintro m Δ hm ⟨nm, hnm, rfl⟩
    have hln : nm.length = N := by rw [hnm.length_eq, List.length_map, List.length_range]
    refine sq_setW (φ := fun d => ∃ t : Nat, d = .i t ∧ t < N) ?_ ?_
    · apply EvW.imp
      · apply ev_I0
        · walk_at "ev"
        · apply ev_I
          · apply ev_int
            apply Ev.leaf
            apply ev_ix
            · walk_at "ev"
            · walk_at "ev"
            · rfl
            · exact at_mapI (by omega) (by omega)
          · walk_at "ev"
          · show (0 : Int) < (N : Int) - (m : Int)
            omega
      · rintro _ rfl
        have h3 := emod_in (a := row.getD (40 + (m : Int)).toNat default) (b := (N : Int) - (m : Int)) (by omega)
        exact ⟨((m : Int) + row.getD (40 + (m : Int)).toNat default % ((N : Int) - (m : Int))).toNat, by rw [Int.toNat_of_nonneg (by omega)], by omega⟩
    rintro _ ⟨t, rfl, ht⟩
    apply sq_set (d := .i (nm.getD m default))
    · apply Ev.leaf
      apply ev_ix
      · walk_at "ev"
      · walk_at "ev"
      · rfl
      · exact at_map (by omega)
    refine sq_setI (m := m) (d := .i (nm.getD t default)) rfl (.inl rfl) ?_ (by walk_at "ev") (by rw [List.length_map]; exact ixN_in (by omega) (by omega)) ?_
    · apply Ev.leaf
      apply ev_ix
      · walk_at "ev"
      · walk_at "ev"
      · rfl
      · exact at_map (by omega)
    refine sd_setI (m := t) (φ := fun d => d = .i (nm.getD m default)) rfl (.inl rfl) (by walk_at "ev") (by walk_at "ev") (by rw [List.length_set, List.length_map]; exact ixN_in (by omega) (by omega)) ?_
    rintro _ rfl
    rw [← List.map_set, ← List.map_set]
    refine NxO.ste ⟨(nm.set m (nm.getD t default)).set t (nm.getD m default), ?_, rfl⟩ (Le.s (Le.s (Le.s (Le.s (Le.s (Le.s (Le.s (Le.s (Le.n (Le.s (Le.s (Le.n (Le.n (Le.n (Le.n (Le.n (Le.n (Le.n (Le.n (Le.n (Le.refl _)))))))))))))))))))))
    exact (swap_perm (by omega) (by omega)).trans hnm
  rintro Δ ⟨nm, hnm, rfl⟩
  have hln : nm.length = N := by rw [hnm.length_eq, List.length_map, List.length_range]
  have hmem : ∀ x ∈ nm, 0 ≤ x ∧ x < (N : Int) := fun x hx => by
    obtain ⟨y, hy, rfl⟩ := List.mem_map.mp (hnm.mem_iff.mp hx)
    rw [List.mem_range] at hy
    exact ⟨by omega, by omega⟩
  have hin : ∀ s : Nat, s < N → (s : Int) ∈ nm := fun s hs => hnm.mem_iff.mpr (List.mem_map.mpr ⟨s, List.mem_range.mpr hs, rfl⟩)
  have hix : ∀ s : Nat, s < N → nm.idxOf (s : Int) < N := fun s hs => by rw [← hln]; exact List.idxOf_lt_length_of_mem (hin s hs)
  -- places
  refine sq_set (EvN.fz (en_lcRI (fun s => ((nm.idxOf (s : Int) : Nat) : Int)) (by walk_at "ev") (by omega) (by decide) fun s hs => ?_)) ?_
  · apply ev_indexI (ns := nm)
    · exact ev_var rfl
    · walk_at "ev"
    · exact hin s (by omega)
  rw [hN]
  have hpl : ∀ s : Nat, s < N → ((List.range N).map fun s : Nat => ((nm.idxOf (s : Int) : Nat) : Int)).getD s default = ((nm.idxOf (s : Int) : Nat) : Int) := fun s hs => by
    rw [List.getD_eq_getElem?_getD, List.getElem?_map, List.getElem?_range hs]; rfl
  have hll : ((List.range N).map fun s : Nat => ((nm.idxOf (s : Int) : Nat) : Int)).length = N := by rw [List.length_map, List.length_range]
  generalize (List.range N).map (fun s : Nat => ((nm.idxOf (s : Int) : Nat) : Int)) = pl at hpl hll
  -- moved
  refine sq_set (EvN.fz (en_lcR (fun s => .l (((tg.getD (nm.idxOf (s : Int)) []).map fun t => nm.getD t.toNat default).map D.i)) (.inl rfl) (by walk_at "ev") (by omega) (by decide) fun s hs => ?_)) ?_
  · have hs' : s < N := by omega
    obtain ⟨hw1, hw2⟩ := hwt.row (hix s hs')
    refine EvN.fz (en_lcHI (fun t => nm.getD t.toNat default) ?_ (by omega) (by decide) fun x hx => ?_)
    · apply ev_ix
      · exact ev_oI rfl
      · apply ev_ix
        · walk_at "ev"
        · walk_at "ev"
        · rfl
        · exact (at_map (g := D.i) (by omega)).trans (by rw [hpl s hs'])
      · rfl
      · exact at_map (by rw [hwt.1]; exact hix s hs')
    · have hx' := hw2 x hx
      apply Ev.leaf
      apply ev_ix
      · exact ev_var rfl
      · walk_at "ev"
      · rfl
      · exact at_mapI (by omega) (by omega)
  -- flags
  refine sq_set (EvN.fz (en_lcR (fun s => .l ((fl.getD (nm.idxOf (s : Int)) []).map D.b)) (.inl rfl) (by walk_at "ev") (by omega) (by decide) fun s hs => ?_)) ?_
  · have hs' : s < N := by omega
    have e : (fl.getD (nm.idxOf (s : Int)) []).map D.b = ((fl.getD (nm.idxOf (s : Int)) []).map V.bl).map D.v := by rw [List.map_map]; rfl
    rw [e]
    refine EvN.fz (en_listV (d0 := dBools (fl.getD (nm.idxOf (s : Int)) [])) ?_ (by unfold dBools; rw [e]; rfl))
    apply ev_ix
    · exact ev_oB rfl
    · apply ev_ix
      · walk_at "ev"
      · walk_at "ev"
      · rfl
      · exact (at_map (g := D.i) (by omega)).trans (by rw [hpl s hs'])
    · rfl
    · exact at_map (by rw [hfl.1]; exact hix s hs')
  rw [hN]
  have hst : 0 ≤ row.getD 3 default % (N : Int) ∧ row.getD 3 default % (N : Int) < (N : Int) := emod_in (by omega)
  refine sd_ret (d := encM ⟨alpha C, (List.range N).map fun s : Nat => (tg.getD (nm.idxOf (s : Int)) []).map fun t => nm.getD t.toNat default, (List.range N).map fun s : Nat => fl.getD (nm.idxOf (s : Int)) [], nm.getD (row.getD 3 default % (N : Int)).toNat default⟩) ?_ ?_
  · unfold encM
    apply ev_lst
    · apply ea_cons
      · unfold alpha
        apply ev_slS
        · walk_at "ev"
        · walk_at "ev"
        · walk_at "ev"
        · exact (by decide : (4 : Nat) ≤ 1000000)
      · apply ea_cons
        · exact Ev.of (ev_var rfl) (by rw [List.map_map]; rfl)
        · apply ea_cons
          · exact Ev.of (ev_var rfl) (by rw [List.map_map]; rfl)
          · apply ea_cons
            · apply Ev.leaf
              apply ev_ix
              · exact ev_var rfl
              · apply ev_I
                · walk_at "ev"
                · walk_at "ev"
                · show (0 : Int) < N
                  omega
              · rfl
              · exact at_mapI hst.1 (by rw [hln]; exact hst.2)
            · exact ea_nil
    · exact (by decide : (4 : Nat) ≤ 100000)
  · refine q _ N C ⟨by omega, by omega, by omega, by omega, rfl, ⟨by simp, fun r hr => ?_⟩, ⟨by simp, fun r hr => ?_⟩, ?_⟩ (by omega)
    · obtain ⟨s, hs, rfl⟩ := List.mem_map.mp hr
      rw [List.mem_range] at hs
      obtain ⟨hw1, hw2⟩ := hwt.row (hix s hs)
      refine ⟨by rw [List.length_map]; exact hw1, fun x hx => ?_⟩
      obtain ⟨t, ht, rfl⟩ := List.mem_map.mp hx
      have := hw2 t ht
      exact hmem _ (getD_mem (by omega))
    · obtain ⟨s, hs, rfl⟩ := List.mem_map.mp hr
      rw [List.mem_range] at hs
      exact hfl.row (hix s hs)
    · exact hmem _ (getD_mem (by omega))
/-! ### machines: laps -/
def cellT (m : Mach) (s : Int) (j : Nat) : Int := (m.tg.getD s.toNat default).getD j default
def cellF (m : Mach) (s : Int) (j : Nat) : Bool := (m.fl.getD s.toNat default).getD j default
def stepM (m : Mach) (q : Int × Bool) (j : Nat) : Int × Bool := (cellT m q.1 j, q.2 || cellF m q.1 j)
def lapM (m : Mach) (s : Int) (js : List Nat) : Int × Bool := js.foldl (stepM m) (s, false)
theorem Mach.Wf.cellT {m : Mach} {n c : Nat} (h : m.Wf n c) {s : Int} {j : Nat} (h0 : 0 ≤ s) (h1 : s < n) (hj : j < c) : 0 ≤ NL.cellT m s j ∧ NL.cellT m s j < n := h.tg.cell (by omega) hj
theorem lapM_in {m : Mach} {n c : Nat} (h : m.Wf n c) : ∀ {js : List Nat} {q : Int × Bool}, (∀ j ∈ js, j < c) → 0 ≤ q.1 ∧ q.1 < n → 0 ≤ (js.foldl (stepM m) q).1 ∧ (js.foldl (stepM m) q).1 < n
  | [], _, _, hq => hq
  | j :: js, q, hj, hq => lapM_in h (js := js) (fun x hx => hj x (List.mem_cons_of_mem _ hx)) (h.cellT hq.1 hq.2 (hj j List.mem_cons_self))
theorem lapM_st {m : Mach} {n c : Nat} (h : m.Wf n c) {js : List Nat} {s : Int} (hj : ∀ j ∈ js, j < c) (hs : 0 ≤ s ∧ s < n) : 0 ≤ (lapM m s js).1 ∧ (lapM m s js).1 < n := lapM_in h hj hs
theorem take_succ_getD {js : List Nat} {k : Nat} (h : k < js.length) : js.take (k + 1) = js.take k ++ [js.getD k 0] := by
  rw [List.take_succ, getD_some (d := 0) h]; rfl
theorem lapM_take {m : Mach} {s : Int} {js : List Nat} {k : Nat} (h : k < js.length) : lapM m s (js.take (k + 1)) = stepM m (lapM m s (js.take k)) (js.getD k 0) := by
  unfold lapM
  rw [take_succ_getD h, List.foldl_append]
  rfl
theorem wd_char {js : List Nat} {k c : Nat} (h : (wd js).cps.toList[k]? = some c) : k < js.length ∧ (⟨#[c]⟩ : Str) = lt (js.getD k 0) := by
  rw [wd_cps, List.getElem?_map] at h
  cases e : js[k]? with
  | none => rw [e] at h; cases h
  | some j =>
    rw [e] at h
    have hl := (List.getElem?_eq_some_iff.mp e).1
    have e2 : js.getD k 0 = j := by rw [List.getD_eq_getElem?_getD, e]; rfl
    refine ⟨hl, ?_⟩
    rw [e2]
    cases h
    rfl
theorem alpha_len {c : Nat} (h : c ≤ 4) : (alpha c).length = c := by rw [alpha_wd h, wd_len, List.length_range]
theorem alpha_in {c j : Nat} (h : c ≤ 4) (hj : j < c) : (97 + j) ∈ (alpha c).cps.toList := by
  rw [alpha_wd h, wd_cps]
  exact List.mem_map.mpr ⟨j, List.mem_range.mpr hj, rfl⟩
theorem lt_in {js : List Nat} {c : Nat} (hj : ∀ j ∈ js, j < c) {k : Nat} (h : k < js.length) : js.getD k 0 < c := hj _ (getD_mem h)
section
variable {K : PySem.W.Frag} {B : Hp} {Γ : Gm} {k : Kd} {to ts tj te : TE} {C p : Addr} {m : Mach} {n c : Nat} {s : Int} {j : Nat}
theorem ev_wTT (hw : WishH K C B p m) (T : WTxt K C) (ho : Ev K B .h to Γ (.v (.ref p))) (hs : Ev K B .h ts Γ (.i s)) (hj : Ev K B .h tj Γ (.i (j : Int))) (hm : m.Wf n c) (h0 : 0 ≤ s) (h1 : s < n) (h2 : j < c) :
    Ev K B k (tOp (rIx K) (tOp (rIx K) (tFld K to "targets") ts) tj) Γ (.i (cellT m s j)) := by
  apply Ev.leaf
  exact ev_ix (k := .h) (EvW.h (ev_ix (k := .r) (ev_wT hw T ho) hs rfl (at_mapI h0 (by rw [hm.tg.1]; exact h1)))) hj rfl (at_map (Nat.lt_of_lt_of_eq h2 (hm.tg.row (m := s.toNat) (by omega)).1.symm))
theorem ev_wFF (hw : WishH K C B p m) (T : WTxt K C) (ho : Ev K B .h to Γ (.v (.ref p))) (hs : Ev K B .h ts Γ (.i s)) (hj : Ev K B .h tj Γ (.i (j : Int))) (hm : m.Wf n c) (h0 : 0 ≤ s) (h1 : s < n) (h2 : j < c) :
    Ev K B k (tOp (rIx K) (tOp (rIx K) (tFld K to "flags") ts) tj) Γ (.b (cellF m s j)) := by
  apply Ev.leaf
  exact ev_ix (k := .h) (EvW.h (ev_ix (k := .r) (ev_wF hw T ho) hs rfl (at_mapI h0 (by rw [hm.fl.1]; exact h1)))) hj rfl (at_map (Nat.lt_of_lt_of_eq h2 (hm.fl.row (m := s.toNat) (by omega)).symm))
theorem ev_m0 (he : Ev K B .h te Γ (encM m)) : Ev K B k (tOp (rIx K) te (tC (.int 0))) Γ (.s m.ls) := by
  apply Ev.leaf
  exact ev_ix (k := .h) he ev_c rfl rfl
theorem ev_m1 (he : Ev K B k te Γ (encM m)) : Ev K B k (tOp (rIx K) te (tC (.int 1))) Γ (.l (m.tg.map dInts)) := ev_ix he ev_c rfl rfl
theorem ev_m2 (he : Ev K B k te Γ (encM m)) : Ev K B k (tOp (rIx K) te (tC (.int 2))) Γ (.l (m.fl.map dBools)) := ev_ix he ev_c rfl rfl
theorem ev_m3 (he : Ev K B .h te Γ (encM m)) : Ev K B k (tOp (rIx K) te (tC (.int 3))) Γ (.i m.st) := by
  apply Ev.leaf
  exact ev_ix (k := .h) he ev_c rfl rfl
theorem ev_mTT (he : Ev K B .h te Γ (encM m)) (hs : Ev K B .h ts Γ (.i s)) (hj : Ev K B .h tj Γ (.i (j : Int))) (hm : m.Wf n c) (h0 : 0 ≤ s) (h1 : s < n) (h2 : j < c) :
    Ev K B k (tOp (rIx K) (tOp (rIx K) (tOp (rIx K) te (tC (.int 1))) ts) tj) Γ (.i (cellT m s j)) := by
  apply Ev.leaf
  refine ev_ix (k := .h) (ev_ix (k := .h) (ev_m1 he) hs rfl (at_mapI h0 (by rw [hm.tg.1]; exact h1))) hj rfl (at_map (Nat.lt_of_lt_of_eq h2 (hm.tg.row (m := s.toNat) (by omega)).1.symm))
theorem ev_mFF (he : Ev K B .h te Γ (encM m)) (hs : Ev K B .h ts Γ (.i s)) (hj : Ev K B .h tj Γ (.i (j : Int))) (hm : m.Wf n c) (h0 : 0 ≤ s) (h1 : s < n) (h2 : j < c) :
    Ev K B k (tOp (rIx K) (tOp (rIx K) (tOp (rIx K) te (tC (.int 2))) ts) tj) Γ (.b (cellF m s j)) := by
  apply Ev.leaf
  refine ev_ix (k := .h) (ev_ix (k := .h) (ev_m2 he) hs rfl (at_mapI h0 (by rw [hm.fl.1]; exact h1))) hj rfl (at_map (Nat.lt_of_lt_of_eq h2 (hm.fl.row (m := s.toNat) (by omega)).symm))
end
/-! ### Wish.lap -/
def t_Wish_lap (K : PySem.W.Frag) (C_Wish : Addr) : TS := tSeq (tAsg (tC (.bl false)) (gName 3)) (
    tSeq (tFor (iStr (tVar 2)) (gName 4) (tSeq (tIfS (tTest (tOp rNotInS (tVar 4) (tFld K (tVar 0) ("letters" : Str)))) (tNever) (tNext)) (
    tSeq (tAsg (tBM K "str" rSIndex (tFld K (tVar 0) ("letters" : Str)) (tCons (tVar 4) (tNil))) (gName 5)) (
    tSeq (tAsg (tOrV (tVar 3) (tOp (rIx K) (tOp (rIx K) (tFld K (tVar 0) ("flags" : Str)) (tVar 1)) (tVar 5))) (gName 3)) (
    tAsg (tOp (rIx K) (tOp (rIx K) (tFld K (tVar 0) ("targets" : Str)) (tVar 1)) (tVar 5)) (gName 1)))))) (
    tRet (tTup (tCons (tVar 1) (tCons (tVar 3) (tNil))))))
def sp_Wish_lap (K : PySem.W.Frag) (C_Wish : Addr) : Sp := fun vs H Q _ => ∃ (p : Addr) (m : Mach) (n c : Nat) (s : Int) (js : List Nat), IsL K H vs [.v (.ref p), .i s, .s (wd js)] ∧ WishH K C_Wish H p m ∧ m.Wf n c ∧ 0 ≤ s ∧ s < n ∧ (∀ j ∈ js, j < c) ∧ js.length ≤ 10000 ∧
  Ret K H Q (.t [.i (lapM m s js).1, .b (lapM m s js).2])
theorem rd_Wish_lap {K : PySem.W.Frag} {C_Wish : Addr} {vs : List V} {H : Hp} {Q : VK} {E : XK} (T : WTxt K C_Wish) (h : sp_Wish_lap K C_Wish vs H Q E) : t_Wish_lap K C_Wish { nx := fun _ H2 => Q .non H2, rt := Q } (L2.start ["self", "state", "word", "seen", "letter", "column"] vs) H := by
  obtain ⟨p, m, n, c, s, js, hv, hw, hm, hs0, hs1, hj, hl, q⟩ := h
  refine sd_start hv (by rw [hv.len]; exact (by decide : 3 ≤ 6)) ?_
  show StD K H H0 _ _ [.r (.v (.ref p)), .r (.i s), .r (.s (wd js)), .n, .n, .n]
  unfold t_Wish_lap
  apply sq_set
  · walk_at "ev"
  apply sq_forS (Iv := fun k Δ => Δ = [.r (.v (.ref p)), .r (.i (lapM m s (js.take k)).1), .r (.s (wd js)), .f (.b (lapM m s (js.take k)).2), .n, .n])
  · walk_at "ev"
  · exact ⟨_, rfl, Le.refl _⟩
  · rintro k ch Δ hk rfl
    obtain ⟨hkl, e⟩ := wd_char hk
    rw [e]
    have hjk := lt_in hj hkl
    have hst := lapM_st hm (js := js.take k) (s := s) (fun j h => hj j (List.mem_of_mem_take h)) ⟨hs0, hs1⟩
    obtain ⟨rest, ho⟩ := occ_alpha hm.c4 hjk
    apply sq_skip
    · apply et_test
      refine Ev.of (ev_notInS (c := 97 + js.getD k 0) (s := m.ls) (ev_var rfl) (ev_wL hw T (ev_var rfl))) ?_
      rw [decide_eq_true (by rw [hm.ls]; exact alpha_in hm.c4 hjk)]
      rfl
    apply sq_set
    · exact ev_sindex (ev_wL hw T (ev_var rfl)) (ev_var rfl) (by rw [hm.ls]; exact ho)
    apply sq_set
    · exact ev_orV (ev_var rfl) (fun _ => ev_wFF hw T (ev_var rfl) (ev_var rfl) (ev_var rfl) hm hst.1 hst.2 hjk)
    apply sd_set
    · exact ev_wTT hw T (ev_var rfl) (ev_var rfl) (ev_var rfl) hm hst.1 hst.2 hjk
    refine NxO.ste rfl ?_
    rw [lapM_take hkl]
    exact .s (.fr (.s (.s (.n (.n .nil)))))
  · rintro Δ rfl
    rw [List.take_of_length_le (by rw [wd_len]; exact Nat.le_refl _)]
    refine sd_ret (ev_tup (ea_cons (Ev.leaf (ev_var rfl)) (ea_cons (Ev.leaf (ev_var rfl)) ea_nil)) (by decide : 2 ≤ 100000)) q
/-! ### Wish.reach -/
def t_Wish_reach (K : PySem.W.Frag) (C_Wish : Addr) : TS := tRet (tOp (rIx K) (tMeth C_Wish "lap" (sp_Wish_lap K C_Wish) [] E0 (tVar 0) (tCons (tFld K (tVar 0) ("start" : Str)) (tCons (tVar 1) (tNil)))) (tC (.int 0)))
def sp_Wish_reach (K : PySem.W.Frag) (C_Wish : Addr) : Sp := fun vs H Q _ => ∃ (p : Addr) (m : Mach) (n c : Nat) (js : List Nat), IsL K H vs [.v (.ref p), .s (wd js)] ∧ WishH K C_Wish H p m ∧ m.Wf n c ∧ (∀ j ∈ js, j < c) ∧ js.length ≤ 10000 ∧
  Ret K H Q (.i (lapM m m.st js).1)
theorem rd_Wish_reach {K : PySem.W.Frag} {C_Wish : Addr} {vs : List V} {H : Hp} {Q : VK} {E : XK} (T : WTxt K C_Wish) (h : sp_Wish_reach K C_Wish vs H Q E) : t_Wish_reach K C_Wish { nx := fun _ H2 => Q .non H2, rt := Q } (L2.start ["self", "word"] vs) H := by
  obtain ⟨p, m, n, c, js, hv, hw, hm, hj, hl, q⟩ := h
  refine sd_start hv (by rw [hv.len]; exact (by decide : 2 ≤ 2)) ?_
  show StD K H H0 _ _ [.r (.v (.ref p)), .r (.s (wd js))]
  unfold t_Wish_reach
  refine sd_ret ?_ q
  apply Ev.leaf
  refine ev_ix (k := .h) (EvW.h (ev_methB (d := .t [.i (lapM m m.st js).1, .b (lapM m m.st js).2]) hw (ev_var rfl) (wf_no (by decide +kernel) (by decide +kernel) (by decide +kernel) (by decide +kernel) (by decide +kernel)) (ea_cons (ev_wA hw T (ev_var rfl)) (ea_cons (ev_var rfl) ea_nil)) fun vs H Q w i r => ?_)) ev_c rfl rfl
  exact ⟨p, m, n, c, m.st, js, .cons (.v _) i, w, hm, hm.st.1, hm.st.2, hj, hl, r⟩
/-! ### Wish.__contains__ -/
def its (m : Mach) (v : List Nat) : Nat → Int → Int
  | 0, s => s
  | k + 1, s => (lapM m (its m v k s) v).1
theorem its_in {m : Mach} {n c : Nat} (h : m.Wf n c) {v : List Nat} (hv : ∀ j ∈ v, j < c) {s : Int} (hs : 0 ≤ s ∧ s < n) : ∀ k, 0 ≤ its m v k s ∧ its m v k s < n
  | 0 => hs
  | k + 1 => lapM_st h hv (its_in h hv hs k)
def goodM (m : Mach) (v : List Nat) (n : Nat) (s : Int) : Bool := (List.range n).any fun i => (lapM m (its m v (n + i) s) v).2
theorem any_range_succ (f : Nat → Bool) (k : Nat) : (List.range (k + 1)).any f = ((List.range k).any f || f k) := by
  rw [List.range_succ, List.any_append]
  simp
theorem contains_any {f : Nat → Bool} {n : Nat} : ∀ k, (List.range k).any (fun i => f i && decide (n ≤ i)) = (List.range (k - n)).any fun i => f (n + i)
  | 0 => by rw [Nat.zero_sub]; rfl
  | k + 1 => by
    rw [any_range_succ, contains_any k]
    by_cases h : n ≤ k
    · rw [decide_eq_true h, Nat.succ_sub h, any_range_succ, show n + (k - n) = k by omega, Bool.and_true]
    · rw [decide_eq_false h, Nat.sub_eq_zero_of_le (by omega), Nat.sub_eq_zero_of_le (by omega)]
      simp
def t_Wish_contains (K : PySem.W.Frag) (C_Wish : Addr) : TS := tSeq (tAsg (tVar 1) (gTup K 2 (gCons (gName 5) (gCons (gName 6) (gNil))))) (
    tSeq (tIfS (tTest (tOp (rEqD K) (tVar 6) (tC (.str ("" : Str))))) (tNever) (tNext)) (
    tSeq (tAsg (tMeth C_Wish "reach" (sp_Wish_reach K C_Wish) [] E0 (tVar 0) (tCons (tVar 5) (tNil))) (gName 2)) (
    tSeq (tAsg (tC (.bl false)) (gName 3)) (
    tSeq (tFor (iRng1 (tCons (tOp (rI CMul fun i j => .int (i * j)) (tC (.int 2)) (tFld K (tVar 0) ("size" : Str))) (tNil))) (gName 4) (tSeq (tAsg (tMeth C_Wish "lap" (sp_Wish_lap K C_Wish) [] E0 (tVar 0) (tCons (tVar 2) (tCons (tVar 6) (tNil)))) (gTup K 2 (gCons (gName 2) (gCons (gName 7) (gNil))))) (
    tAsg (tOrV (tVar 3) (tAndV (tVar 7) (tOp (rI0 fun i j => .bl (decide (j ≤ i))) (tVar 4) (tFld K (tVar 0) ("size" : Str))))) (gName 3)))) (
    tRet (tVar 3))))))
def sp_Wish_contains (K : PySem.W.Frag) (C_Wish : Addr) : Sp := fun vs H Q _ => ∃ (p : Addr) (m : Mach) (n c : Nat) (u v : List Nat), IsL K H vs [.v (.ref p), .t [.s (wd u), .s (wd v)]] ∧ WishH K C_Wish H p m ∧ m.Wf n c ∧ (∀ j ∈ u, j < c) ∧ u.length ≤ 10000 ∧ (∀ j ∈ v, j < c) ∧ v.length ≤ 10000 ∧ v ≠ [] ∧
  Ret K H Q (.b (goodM m v n (lapM m m.st u).1))
theorem pl_s {js : List Nat} {c : Nat} (h : ∀ j ∈ js, j < c) (hc : c ≤ 4) : (D.s (wd js)).pl = true := by
  unfold D.pl
  have h1 : D.ok 9 (.s (wd js)) = true := ok_s
  have h2 : D.tx (.s (wd js)) = true := by unfold D.tx; exact wd_ok js fun j hj => by have := h j hj; omega
  rw [h1, h2]; rfl
theorem eqD_s (a b : Str) : eqD (.s a) (.s b) = (a == b) := rfl
theorem wd_ne_nil {v : List Nat} (h : v ≠ []) : (wd v == ("" : Str)) = false := by
  refine beq_eq_false_iff_ne.mpr fun e => h ?_
  have e2 : (wd v).cps.toList = ("" : Str).cps.toList := by rw [e]
  rw [wd_cps, show ("" : Str).cps.toList = [] by decide +kernel] at e2
  exact List.map_eq_nil_iff.mp e2
theorem rd_Wish_contains {K : PySem.W.Frag} {C_Wish : Addr} {vs : List V} {H : Hp} {Q : VK} {E : XK} (T : WTxt K C_Wish) (h : sp_Wish_contains K C_Wish vs H Q E) : t_Wish_contains K C_Wish { nx := fun _ H2 => Q .non H2, rt := Q } (L2.start ["self", "lasso", "state", "seen", "count", "stem", "loop", "marked"] vs) H := by
  obtain ⟨p, m, n, c, u, v, hv, hw, hm, hju, hlu, hjv, hlv, hne, q⟩ := h
  refine sd_start hv (by rw [hv.len]; exact (by decide : 2 ≤ 8)) ?_
  show StD K H H0 _ _ [.r (.v (.ref p)), .r (.t [.s (wd u), .s (wd v)]), .n, .n, .n, .n, .n, .n]
  unfold t_Wish_contains
  have n8 := hm.n8
  apply sq_set2n (.inr rfl : Kd.r = .f ∨ Kd.r = .r)
  · exact ev_var rfl
  apply sq_skip
  · apply et_test
    refine Ev.of (ev_eq (ev_var rfl) ev_c (pl_s hjv hm.c4) (by decide +kernel)) ?_
    rw [eqD_s, wd_ne_nil hne]
  apply sq_set
  · refine ev_methB (d := .i (lapM m m.st u).1) hw (ev_var rfl) (wf_no (by decide +kernel) (by decide +kernel) (by decide +kernel) (by decide +kernel) (by decide +kernel)) (ea_cons (ev_var rfl) ea_nil) fun vs H Q w i r => ?_
    exact ⟨p, m, n, c, u, .cons (.v _) i, w, hm, hju, hlu, r⟩
  apply sq_set
  · walk_at "ev"
  have hu := lapM_st hm hju hm.st
  generalize hs0 : (lapM m m.st u).1 = s0 at *
  apply sq_forR1 (n := 2 * (n : Int)) (Iv := fun k Δ => Δ = [.r (.v (.ref p)), .r (.t [.s (wd u), .s (wd v)]), .r (.i (its m v k s0)), .f (.b ((List.range k).any fun i => (lapM m (its m v i s0) v).2 && decide (n ≤ i))), .n, .r (.s (wd u)), .r (.s (wd v)), .n])
  · refine ea_cons (Ev.of (ev_I (i := 2) (j := (n : Int)) ev_c (Ev.of (ev_wS hw T (ev_var rfl)) (by rw [hm.tg.1])) ?_) rfl) ea_nil
    exact .inl ⟨by decide, by decide⟩
  · omega
  · exact ⟨_, rfl, .s (.s (.fr (.s (.s (.s (.s (.s .nil)))))))⟩
  · rintro k Δ hk rfl
    have hst := its_in hm hjv hu k
    apply sq_set2n (.inl rfl : Kd.f = .f ∨ Kd.f = .r)
    · refine ev_methB (d := .t [.i (lapM m (its m v k s0) v).1, .b (lapM m (its m v k s0) v).2]) hw (ev_var rfl) (wf_no (by decide +kernel) (by decide +kernel) (by decide +kernel) (by decide +kernel) (by decide +kernel)) (ea_cons (ev_var rfl) (ea_cons (ev_var rfl) ea_nil)) fun vs H Q w i r => ?_
      exact ⟨p, m, n, c, _, v, .cons (.v _) i, w, hm, hst.1, hst.2, hjv, hlv, r⟩
    apply sd_set
    · exact ev_orV (ev_var rfl) (fun _ => ev_andV (ev_var rfl) (fun _ => ev_I0 (ev_var rfl) (Ev.of (ev_wS hw T (ev_var rfl)) (by rw [hm.tg.1]))))
    refine NxO.ste rfl ?_
    rw [any_range_succ, show decide ((n : Int) ≤ (k : Int)) = decide (n ≤ k) from decide_eq_decide.mpr (by omega)]
    exact .s (.s (.fr (.s (.n (.s (.s (.n .nil)))))))
  · rintro Δ rfl
    refine sd_ret (ev_var rfl) (q.of ?_)
    rw [show (2 * (n : Int)).toNat = 2 * n by omega, contains_any, show 2 * n - n = n by omega]
    rfl
/-! ### flag_table -/
theorem eqD_i (a b : Int) : eqD (.i a) (.i b) = (a == b) := rfl
theorem eqD_b (a b : Bool) : eqD (.b a) (.b b) = (a == b) := rfl
theorem putK_len' {κ : Type} [DecidableEq κ] (c : List (κ × V)) (k : κ) (x : V) : (putK c k x).length ≤ c.length + 1 := by
  unfold putK
  split
  · rw [List.length_map]; omega
  · rw [List.length_append]; exact Nat.le_refl _
def dPairs (ps : List (Nat × Nat)) : D := .l (ps.map fun p => .t [.i (p.1 : Int), .s (lt p.2)])
def flagsOf (ps : List (Nat × Nat)) (n c : Nat) : List (List Bool) := (List.range n).map fun s => (List.range c).map fun j => decide ((s, j) ∈ ps)
theorem lt_inj {a b : Nat} (h : lt a = lt b) : a = b := by
  unfold lt at h
  have e : (#[97 + a] : Array Nat) = #[97 + b] := by injection h
  have e2 : 97 + a = 97 + b := by simpa using e
  omega
theorem alpha_chars {c : Nat} (h : c ≤ 4) : ((alpha c).cps.toList.map fun x => D.s ⟨#[x]⟩) = (List.range c).map fun j => D.s (lt j) := by
  rw [alpha_wd h, wd_cps, List.map_map]; rfl
theorem inV_lt {c j : Nat} (h : j < c) : inV (.str (lt j)) ((List.range c).map fun j => V.str (lt j)) = true := by
  unfold inV
  rw [List.any_eq_true]
  exact ⟨.str (lt j), List.mem_map.mpr ⟨j, List.mem_range.mpr h, rfl⟩, by show (lt j == lt j) = true; exact beq_self_eq_true _⟩
abbrev kSL (s j : Nat) : List Key := [.inl (s : Int), .inr (lt j)]
theorem kSL_inj {s j s' j' : Nat} : kSL s j = kSL s' j' ↔ (s, j) = (s', j') := by
  constructor
  · intro h
    simp only [kSL, List.cons.injEq, Sum.inl.injEq, Sum.inr.injEq, and_true] at h
    rw [Prod.mk.injEq]
    exact ⟨by omega, lt_inj h.2⟩
  · intro h
    rw [Prod.mk.injEq] at h
    rw [h.1, h.2]
def t_flag_table (K : PySem.W.Frag) : TS := tSeq (tAsg (tCB rListT (tCons (tVar 0) (tNil))) (gName 3)) (
    tSeq (tAsg tDNewT (gName 4)) (
    tSeq (tFor (iList K (tVar 2)) (gTup K 2 (gCons (gName 5) (gCons (gName 6) (gNil)))) (tSeq (tIfS (tOr (tNot (tTest (tChain (rI0 fun i j => .bl (decide (i ≤ j))) (rI0 fun i j => .bl (decide (i < j))) (tC (.int 0)) (tVar 5) (tVar 1)))) (tTest (tOp (rIn K true) (tVar 6) (tVar 3)))) (tNever) (tNext)) (
    sDPut (tVar 4) (tTup (tCons (tVar 5) (tCons (tVar 6) (tNil)))) (tC (.bl true))))) (
    tRet (tLc (iRng1 (tCons (tVar 1) (tNil))) (gName 5) (tYes) (tLc (iList K (tVar 3)) (gName 6) (tYes) (tDIn (tTup (tCons (tVar 5) (tCons (tVar 6) (tNil)))) (tVar 4)) [6]) [5]))))
def sp_flag_table (K : PySem.W.Frag) : Sp := fun vs H Q _ => ∃ (n c : Nat) (ps : List (Nat × Nat)), IsL K H vs [.s (alpha c), .i (n : Int), dPairs ps] ∧ n ≤ 64 ∧ c ≤ 4 ∧ ps.length ≤ 10000 ∧ (∀ p ∈ ps, p.1 < n ∧ p.2 < c) ∧
  Ret K H Q (.l ((flagsOf ps n c).map dBools))
theorem rd_flag_table {K : PySem.W.Frag} {vs : List V} {H : Hp} {Q : VK} {E : XK}  (h : sp_flag_table K vs H Q E) : t_flag_table K { nx := fun _ H2 => Q .non H2, rt := Q } (L2.start ["letters", "size", "pairs", "known", "marked", "state", "letter"] vs) H := by
  obtain ⟨n, c, ps, hv, hn, hc, hl, hp, q⟩ := h
  refine sd_start hv (by rw [hv.len]; exact (by decide : 3 ≤ 7)) ?_
  show StD K H H0 _ _ [.r (.s (alpha c)), .r (.i (n : Int)), .r (dPairs ps), .n, .n, .n, .n]
  unfold t_flag_table
  apply sq_set
  · exact Ev.of (EvN.fz (en_listT (ev_var rfl) (by rw [alpha_len hc]; omega))) (by rw [alpha_chars hc])
  apply sq_dnewT
  apply sq_forL2 (ds := ps.map fun p => .t [.i (p.1 : Int), .s (lt p.2)]) (k := .r) (Iv := fun m Δ => ∃ kvs : List (List Key × V), (∀ s j : Nat, (valV kvs (kSL s j)).isSome = decide ((s, j) ∈ ps.take m)) ∧ kvs.length ≤ m ∧ Δ = [.r (.s (alpha c)), .r (.i (n : Int)), .r (dPairs ps), .f (.l ((List.range c).map fun j => D.s (lt j))), .oo (OdT kvs), .n, .n])
  · exact .inr rfl
  · exact ev_var rfl
  · rintro x hx
    obtain ⟨p, _, rfl⟩ := List.mem_map.mp hx
    exact ⟨_, _, rfl⟩
  · refine ⟨_, ⟨[], fun s j => ?_, Nat.le_refl _, rfl⟩, Le.refl _⟩
    rw [List.take_zero]; rfl
  · rintro Φ' m y z Δ hm ⟨kvs, hk, hkl, rfl⟩
    rw [List.getElem?_map] at hm
    cases e : ps[m]? with
    | none => rw [e] at hm; cases hm
    | some p =>
      rw [e] at hm
      cases hm
      obtain ⟨s, j⟩ := p
      have hml : m < ps.length := (List.getElem?_eq_some_iff.mp e).1
      obtain ⟨hs, hj⟩ := hp _ (List.mem_of_getElem? e)
      apply sq_skip
      · apply et_falseOr
        · refine EvT.of (et_not (et_test (ev_chain ev_c (ev_var rfl) (ev_var rfl)))) ?_
          have h1 : (0 : Int) ≤ (s : Int) := by omega
          have h2 : (s : Int) < (n : Int) := by have : s < n := hs; omega
          show (!(decide ((0 : Int) ≤ (s : Int)) && decide ((s : Int) < (n : Int)))) = false
          rw [decide_eq_true h1, decide_eq_true h2]; rfl
        · apply et_test
          refine Ev.of (ev_in (v := .str (lt j)) (vs := (List.range c).map fun j => V.str (lt j)) (neg := true) (ev_var rfl) (ev_var rfl) (by rw [List.map_map]; rfl) rfl ?_) ?_
          · rw [List.all_map, List.all_eq_true]; exact fun _ _ => rfl
          · rw [inV_lt hj]; rfl
      apply sd_dputT (kvs := kvs) (ks := kSL s j) (w := .bl true)
      · rfl
      · exact ev_c
      · exact ea_cons (Ev.leaf (ev_var rfl)) (ea_cons (Ev.leaf (ev_var rfl)) ea_nil)
      · exact (by decide : 2 ≤ 1000)
      · omega
      refine NxO.ste ⟨putK kvs (kSL s j) (.bl true), fun s' j' => ?_, ?_, rfl⟩ (.s (.s (.s (.s (.s (.n (.n .nil)))))))
      · rw [valV_put, List.take_succ, e]
        by_cases w : kSL s' j' = kSL s j
        · rw [if_pos w]
          have w2 := kSL_inj.mp w
          rw [w2]
          exact (decide_eq_true (List.mem_append_right _ (List.mem_singleton.mpr rfl))).symm
        · rw [if_neg w, hk]
          refine decide_eq_decide.mpr ⟨fun z => List.mem_append_left _ z, fun z => ?_⟩
          rcases List.mem_append.mp z with z | z
          · exact z
          · exact absurd (kSL_inj.mpr (List.mem_singleton.mp z)) w
      · have := putK_len' kvs (kSL s j) (.bl true)
        omega
  · rintro Δ ⟨kvs, hk, hkl, rfl⟩
    rw [List.length_map, List.take_length] at hk
    have e : D.l ((flagsOf ps n c).map dBools) = D.l ((List.range (n : Int).toNat).map fun s => dBools ((List.range c).map fun j => decide ((s, j) ∈ ps))) := by
      unfold flagsOf
      rw [List.map_map]; rfl
    rw [e] at q
    refine sd_ret (EvN.fz (en_lcR (fun s => dBools ((List.range c).map fun j => decide ((s, j) ∈ ps))) (.inl rfl) (ea_cons (ev_var rfl) ea_nil) (by omega) (by decide) fun s hs => ?_)) q
    have e2 : dBools ((List.range c).map fun j => decide ((s, j) ∈ ps)) = .l (kept (fun _ => true) (fun j => .b (decide ((s, j) ∈ ps))) ((List.range c).map fun j => D.s (lt j)).length) := by
      rw [kept_all, List.length_map, List.length_range]
      unfold dBools
      rw [List.map_map]; rfl
    rw [e2]
    refine EvN.fz (en_lcL (k2 := .f) (fun _ => true) _ (.inl rfl) (.inl rfl) (ev_var rfl) (by rw [List.length_map, List.length_range]; omega) (by decide) (fun _ _ _ => et_yes) fun j x hx _ => ?_)
    rw [List.getElem?_map] at hx
    have hjc : j < c := by
      cases ej : (List.range c)[j]? with
      | none => rw [ej] at hx; cases hx
      | some w => have := (List.getElem?_eq_some_iff.mp ej).1; rwa [List.length_range] at this
    rw [List.getElem?_range hjc] at hx
    cases hx
    rw [← hk s j]
    exact ev_dinT (kvs := kvs) (ks := kSL s j) rfl (ea_cons (Ev.leaf (ev_var rfl)) (ea_cons (Ev.leaf (ev_var rfl)) ea_nil)) (by decide : 2 ≤ 1000)
/-! ### Wish.__init__ -/
def t_Wish_init (K : PySem.W.Frag) (C_Wish c_ALPHABETS : Addr) : TS := tSeq (tAsg (tCB (rLenG K) (tCons (tVar 2) (tNil))) (gName 5)) (
    tSeq (tIfS (tOr (tTest (tOp (rIn K true) (tVar 1) (tC (.ref c_ALPHABETS)))) (tOr (tNot (tTest (tChain (rI0 fun i j => .bl (decide (i ≤ j))) (rI0 fun i j => .bl (decide (i ≤ j))) (tC (.int 1)) (tVar 5) (tC (.int 8))))) (tNot (tTest (tChain (rI0 fun i j => .bl (decide (i ≤ j))) (rI0 fun i j => .bl (decide (i < j))) (tC (.int 0)) (tVar 4) (tVar 5)))))) (tNever) (tNext)) (
    tSeq (tFor (iList K (tVar 2)) (gName 6) (tSeq (tIfS (tTest (tOp (rNeD K) (tCB (rLenG K) (tCons (tVar 6) (tNil))) (tCB (rLenG K) (tCons (tVar 1) (tNil))))) (tNever) (tNext)) (
    tFor (iList K (tVar 6)) (gName 7) (tIfS (tNot (tTest (tChain (rI0 fun i j => .bl (decide (i ≤ j))) (rI0 fun i j => .bl (decide (i < j))) (tC (.int 0)) (tVar 7) (tVar 5)))) (tNever) (tNext))))) (
    tSeq (sFld K (tVar 0) (tCall (sp_flag_table K) [] E0 (tCons (tVar 1) (tCons (tVar 5) (tCons (tVar 3) (tNil))))) ("flags" : Str)) (
    tSeq (sFld K (tVar 0) (tVar 1) ("letters" : Str)) (
    tSeq (sFld K (tVar 0) (tVar 5) ("size" : Str)) (
    tSeq (sFld K (tVar 0) (tVar 4) ("start" : Str)) (
    sFld K (tVar 0) (tLc (iList K (tVar 2)) (gName 6) (tYes) (tCB (rListS K) (tCons (tVar 6) (tNil))) [6]) ("targets" : Str))))))))
def sp_Wish_init (K : PySem.W.Frag) (C_Wish : Addr) : Sp := fun vs H Q _ => ∃ (x dx : Addr) (us : List V) (n c : Nat) (tg : List (List Int)) (ps : List (Nat × Nat)) (st : Int), vs = .ref x :: us ∧ H x = some (.ins C_Wish dx []) ∧ IsL K (minus H x) us [.s (alpha c), .l (tg.map dInts), dPairs ps, .i st] ∧
  1 ≤ n ∧ n ≤ 8 ∧ 1 ≤ c ∧ c ≤ 4 ∧ WT n c tg ∧ 0 ≤ st ∧ st < n ∧ ps.length ≤ 1000 ∧ (∀ p ∈ ps, p.1 < n ∧ p.2 < c) ∧ InitE K C_Wish x H Q (fun N => WishH K C_Wish N x ⟨alpha c, tg, flagsOf ps n c, st⟩)
def alphs : List Str := [alpha 1, alpha 2, alpha 3, alpha 4]
theorem inV_alpha {c : Nat} (h1 : 1 ≤ c) (h4 : c ≤ 4) : inV (.str (alpha c)) (alphs.map V.str) = true := by
  have : c = 1 ∨ c = 2 ∨ c = 3 ∨ c = 4 := by omega
  rcases this with rfl | rfl | rfl | rfl <;> decide +kernel
theorem rd_Wish_init {K : PySem.W.Frag} {C_Wish c_ALPHABETS : Addr} {vs : List V} {H : Hp} {Q : VK} {E : XK} (T : WTxt K C_Wish) (hA : Is K H0 (.ref c_ALPHABETS) (.t (alphs.map D.s))) (h : sp_Wish_init K C_Wish vs H Q E) : t_Wish_init K C_Wish c_ALPHABETS { nx := fun _ H2 => Q .non H2, rt := Q } (L2.start ["self", "letters", "targets", "marks", "start", "size", "row", "target"] vs) H := by
  obtain ⟨x, dx, us, n, c, tg, ps, st, rfl, hx, hv, n1, n8, c1, c4, htg, st0, st1, hpl, hp, q⟩ := h
  have hv' : IsL K H us [.s (alpha c), .l (tg.map dInts), dPairs ps, .i st] := IsL.mono minus_ex hv
  refine sd_startI hx hv' (by rw [hv.len]; exact (by decide : 5 ≤ 8)) ?_
  show StD K (minus H x) H0 _ _ [.oo (InsO K C_Wish x []), .r (.s (alpha c)), .r (.l (tg.map dInts)), .r (dPairs ps), .r (.i st), .n, .n, .n]
  unfold t_Wish_init
  have lt' : tg.length = n := htg.1
  apply sq_set
  · exact ev_len (ev_var rfl) rfl
  rw [List.length_map, lt']
  apply sq_skip
  · apply et_falseOr
    · apply et_test
      refine Ev.of (ev_in (v := .str (alpha c)) (vs := alphs.map V.str) (neg := true) (ev_var rfl) (ev_cst hA) (by rw [List.map_map]; rfl) rfl (by decide +kernel)) ?_
      rw [inV_alpha c1 c4]; rfl
    · apply et_falseOr
      · refine EvT.of (et_not (et_test (ev_chain ev_c (ev_var rfl) ev_c))) ?_
        show (!(decide ((1 : Int) ≤ (n : Int)) && decide ((n : Int) ≤ 8))) = false
        rw [decide_eq_true (by omega), decide_eq_true (by omega)]; rfl
      · refine EvT.of (et_not (et_test (ev_chain ev_c (ev_var rfl) (ev_var rfl)))) ?_
        show (!(decide ((0 : Int) ≤ st) && decide (st < (n : Int)))) = false
        rw [decide_eq_true (by omega), decide_eq_true (by omega)]; rfl
  apply sq_forL (k := .r) (Iv := fun m Δ => Δ = [.oo (InsO K C_Wish x []), .r (.s (alpha c)), .r (.l (tg.map dInts)), .r (dPairs ps), .r (.i st), .f (.i (n : Int)), .n, .n])
  · exact .inr rfl
  · exact ev_var rfl
  · exact ⟨_, rfl, Le.refl _⟩
  · rintro Φ' m y Δ hm rfl
    obtain ⟨r, hr, rfl⟩ := List.mem_map.mp (List.mem_of_getElem? hm)
    obtain ⟨hrl, hrc⟩ := htg.2 r hr
    apply sq_skip
    · apply et_test
      refine Ev.of (ev_ne (ev_len (ev_var rfl) rfl) (ev_lenS (ev_var rfl) (by rw [alpha_len c4]; omega)) rfl rfl) ?_
      rw [List.length_map, hrl, alpha_len c4]
      rw [eqD_i, beq_self_eq_true]; rfl
    apply sd_forL (k := .r) (Iv := fun m Δ => Δ = [.oo (InsO K C_Wish x []), .r (.s (alpha c)), .r (.l (tg.map dInts)), .r (dPairs ps), .r (.i st), .f (.i (n : Int)), .n, .n])
    · exact .inr rfl
    · exact ev_var rfl
    · exact ⟨_, rfl, .s (.s (.s (.s (.s (.s (.n (.n .nil)))))))⟩
    · rintro Φ'' m' z Δ hz rfl
      obtain ⟨t, ht, rfl⟩ := List.mem_map.mp (List.mem_of_getElem? hz)
      have := hrc t ht
      apply sd_skip
      · refine EvT.of (et_not (et_test (ev_chain ev_c (ev_var rfl) (ev_var rfl)))) ?_
        show (!(decide ((0 : Int) ≤ t) && decide (t < (n : Int)))) = false
        rw [decide_eq_true this.1, decide_eq_true this.2]; rfl
      · exact NxO.ste rfl (.s (.s (.s (.s (.s (.s (.n (.n .nil))))))))
    · rintro Δ rfl
      exact NxO.ste rfl (.s (.s (.s (.s (.s (.s (.n (.n .nil))))))))
  · rintro Δ rfl
    apply sq_fld0
    · rfl
    · exact T.cl
    · exact T.nF
    · exact fun z => nomatch z
    · exact (by decide : 0 < 900)
    · refine ev_call (ds := [.s (alpha c), .i (n : Int), dPairs ps]) (d := .l ((flagsOf ps n c).map dBools)) (ea_cons (ev_var rfl) (ea_cons (ev_var rfl) (ea_cons (ev_var rfl) ea_nil))) fun vs H Q hv r => ?_
      exact ⟨n, c, ps, hv, by omega, c4, by omega, hp, r⟩
    apply sq_fld0
    · rfl
    · exact T.cl
    · exact T.nL
    · show _ ∉ (["flags"] : List Str)
      decide +kernel
    · exact (by decide : 1 < 900)
    · exact Ev.leaf (ev_var rfl)
    apply sq_fld0
    · rfl
    · exact T.cl
    · exact T.nS
    · show _ ∉ (["flags", "letters"] : List Str)
      decide +kernel
    · exact (by decide : 2 < 900)
    · exact ev_var rfl
    apply sq_fld0
    · rfl
    · exact T.cl
    · exact T.nA
    · show _ ∉ (["flags", "letters", "size"] : List Str)
      decide +kernel
    · exact (by decide : 3 < 900)
    · exact Ev.leaf (ev_var rfl)
    apply sd_fld0 (d := .l (tg.map dInts))
    · rfl
    · exact T.cl
    · exact T.nT
    · show _ ∉ (["flags", "letters", "size", "start"] : List Str)
      decide +kernel
    · exact (by decide : 4 < 900)
    · have e : D.l (tg.map dInts) = .l (kept (fun _ => true) (fun m => dInts (tg.getD m [])) (tg.map dInts).length) := by
        rw [kept_all, List.length_map, getD_map (fun r : List Int => dInts r) tg _ (fun m x hx => by rw [List.getD_eq_getElem?_getD, hx]; rfl)]
      refine Ev.of ?_ e.symm
      refine EvN.fz (en_lcL (k2 := .r) (fun _ => true) _ (.inl rfl) (.inr rfl) (ev_var rfl) (by rw [List.length_map]; omega) (by decide) (fun _ _ _ => et_yes) fun m y hy _ => ?_)
      rw [List.getElem?_map] at hy
      cases em : tg[m]? with
      | none => rw [em] at hy; cases hy
      | some r =>
        rw [em] at hy; cases hy
        rw [show tg.getD m [] = r by rw [List.getD_eq_getElem?_getD, em]; rfl]
        have w := EvN.fz (en_listV (K := K) (B := minus H x) (Γ := (wipeG [.oo (InsO K C_Wish x [("flags", D.l ((flagsOf ps n c).map dBools)), ("letters", .s (alpha c)), ("size", .i (n : Int)), ("start", .i st)]), .r (.s (alpha c)), .r (.l (tg.map dInts)), .r (dPairs ps), .r (.i st), .f (.i (n : Int)), .n, .n] [6]).set 6 (Slot.of .r (dInts r))) (ta := tVar 6) (vs := r.map V.int) (d0 := dInts r) (ev_var rfl) (by unfold dInts; rw [List.map_map]; rfl))
        rw [List.map_map] at w
        exact w
    refine init_end (m := ⟨alpha c, tg, flagsOf ps n c, st⟩) ?_ q
    rw [← lt']
    rfl
/-! ### words -/
theorem sum_ones : ∀ n : Nat, (List.replicate n 1).sum = n
  | 0 => rfl
  | n + 1 => by rw [List.replicate_succ, List.sum_cons, sum_ones n]; omega
theorem join_lts : ∀ js : List Nat, Txt.join "" (js.map lt) = wd js := by
  intro js
  rw [TL.join_eq]
  have key : ∀ js : List Nat, (Str.join "" (js.map lt)).cps.toList = (wd js).cps.toList := by
    intro js
    induction js with
    | nil => rfl
    | cons a js ih =>
      cases js with
      | nil => rw [wd_cps]; rfl
      | cons b js =>
        show ((lt a ++ "" ++ Str.join "" ((b :: js).map lt) : Str)).cps.toList = _
        have e : ∀ x y : Str, (x ++ y).cps.toList = x.cps.toList ++ y.cps.toList := fun x y => by
          show (x.cps ++ y.cps).toList = _
          simp
        rw [e, e, ih, wd_cps, wd_cps, show ("" : Str).cps.toList = [] by decide +kernel]
        rfl
  have h := key js
  have : (Str.join "" (js.map lt)).cps = (wd js).cps := Array.toList_inj.mp h
  cases hs : Str.join "" (js.map lt) with
  | mk x => rw [hs] at this; cases hw : wd js with
    | mk y => rw [hw] at this; simp only at this; rw [this]
theorem wd_tail (v : List Nat) (h : v ≠ []) : cutS (wd v) (some 1) none = wd v.tail := by
  cases v with
  | nil => exact absurd rfl h
  | cons a v =>
    unfold cutS
    rw [wd_len, HT.sIx_none, show HT.sIx (a :: v).length 0 (some 1) = 1 from (HT.sIx_nat _ _ 1).trans (by simp), wd_cps]
    show (⟨_⟩ : Str) = ⟨_⟩
    congr 1
    congr 1
    simp only [List.map_cons, List.drop_succ_cons, List.drop_zero, List.tail_cons]
    exact List.take_of_length_le (by simp)
theorem wd_take (v : List Nat) (k : Nat) : cutS (wd v) none (some (k : Int)) = wd (v.take k) := by
  unfold cutS
  rw [wd_len, HT.sIx_none, HT.sIx_nat, wd_cps]
  show (⟨_⟩ : Str) = ⟨_⟩
  congr 1
  congr 1
  rw [List.drop_zero, Nat.sub_zero, List.map_take]
  by_cases h : k ≤ v.length
  · rw [Nat.min_eq_left h]
  · rw [Nat.min_eq_right (by omega), List.take_of_length_le (by simp), List.take_of_length_le (by simp; omega)]
theorem wd_mul (v : List Nat) (k : Nat) (hk : 2 ≤ k) (hv : v ≠ []) : Txt.mul (wd v) (k : Int) = wd (List.replicate k v).flatten := by
  unfold Txt.mul
  rw [if_neg (by omega), if_neg]
  · rw [Int.toNat_natCast]
    have key : ∀ (k : Nat) (acc : Array Nat), (List.replicate k (wd v).cps).foldl (· ++ ·) acc = acc ++ (wd (List.replicate k v).flatten).cps := by
      intro k
      induction k with
      | zero => intro acc; rw [show (List.replicate 0 (wd v).cps) = [] from rfl]; unfold wd; simp
      | succ k ih =>
        intro acc
        rw [List.replicate_succ, List.foldl_cons, ih, List.replicate_succ, List.flatten_cons, Array.append_assoc]
        congr 1
        unfold wd
        simp
    rw [key k #[]]
    unfold wd
    simp
  · rw [wd_len, Bool.or_eq_true]
    rintro (h | h)
    · have := beq_iff_eq.mp h; omega
    · have := beq_iff_eq.mp h
      exact hv (List.length_eq_zero_iff.mp this)
theorem wd_c0 {v : List Nat} {m : Nat} (h : m < v.length) : (⟨#[97 + v.getD m 0]⟩ : Str) = wd [v.getD m 0] := by rw [wd_one]; rfl
theorem alpha_at {c j : Nat} (hc : c ≤ 4) (h : j < c) : atI (alpha c).cps.toList (j : Int) = some (97 + j) := by
  have w := wd_at (js := List.range c) (m := j) (by rw [List.length_range]; exact h)
  rw [alpha_wd hc, w]
  congr 1
  rw [List.getD_eq_getElem?_getD, List.getElem?_range h]
  rfl
theorem alpha_atI {c : Nat} {i : Int} (hc : c ≤ 4) (h0 : 0 ≤ i) (h : i < c) : atI (alpha c).cps.toList i = some (97 + i.toNat) := by
  obtain ⟨j, rfl⟩ : ∃ j : Nat, i = j := ⟨i.toNat, by omega⟩
  exact alpha_at hc (by omega)
/-! ### _law_word -/
def t_law_word (K : PySem.W.Frag) : TS := tSeq (tAsg (tOp (rI (fun _ j => 0 < j) fun i j => .int (i % j)) (tCB rInt1 (tCons (tOp (rIx K) (tVar 0) (tC (.int 0))) (tNil))) (tOp (rI0 fun i j => .int (i + j)) (tVar 2) (tC (.int 1)))) (gName 3)) (
    tRet (tM1 (rJoin K) (tC (.str ("" : Str))) (tLc (iRng1 (tCons (tVar 3) (tNil))) (gName 4) (tYes) (tOp (rIx K) (tVar 1) (tOp (rI (fun _ j => 0 < j) fun i j => .int (i % j)) (tCB rInt1 (tCons (tOp (rIx K) (tVar 0) (tOp (rI0 fun i j => .int (i + j)) (tC (.int 1)) (tVar 4))) (tNil))) (tCB (rLenG K) (tCons (tVar 1) (tNil))))) [4])))
def sp_law_word (K : PySem.W.Frag) : Sp := fun vs H Q _ => ∃ (row : List Int) (c top : Nat), IsL K H vs [dInts row, .s (alpha c), .i (top : Int)] ∧ 1 ≤ c ∧ c ≤ 4 ∧ top ≤ 1000 ∧ top + 1 ≤ row.length ∧
  ∀ js : List Nat, js.length ≤ top → (∀ j ∈ js, j < c) → Ret K H Q (.s (wd js))
theorem rd_law_word {K : PySem.W.Frag} {vs : List V} {H : Hp} {Q : VK} {E : XK}  (h : sp_law_word K vs H Q E) : t_law_word K { nx := fun _ H2 => Q .non H2, rt := Q } (L2.start ["_law_row", "_law_letters", "_law_top", "_law_size", "_law_k"] vs) H := by
  obtain ⟨row, c, top, hv, hc1, hc4, ht, hl, q⟩ := h
  refine sd_start hv (by rw [hv.len]; exact (by decide : 3 ≤ 5)) ?_
  show StD K H H0 _ _ [.r (dInts row), .r (.s (alpha c)), .r (.i (top : Int)), .n, .n]
  unfold t_law_word
  apply sq_set (d := .i (row.getD 0 default % ((top : Int) + 1)))
  · refine ev_I (ev_int (ev_ix (k := .h) (ev_var rfl) ev_c rfl (at_map (m := 0) (by omega)))) (ev_I0 (ev_var rfl) ev_c) ?_
    show (0 : Int) < (top : Int) + 1
    omega
  have hz := emod_in (a := row.getD 0 default) (b := (top : Int) + 1) (by omega)
  generalize row.getD 0 default % ((top : Int) + 1) = z at hz
  let f : Nat → Nat := fun k => (row.getD (1 + k) default % (c : Int)).toNat
  have hf : ∀ k, f k < c := fun k => by
    have := emod_in (a := row.getD (1 + k) default) (b := (c : Int)) (by omega)
    show (row.getD (1 + k) default % (c : Int)).toNat < c
    omega
  refine sd_ret ?_ (q ((List.range z.toNat).map f) (by rw [List.length_map, List.length_range]; omega) fun j hj => ?_)
  · have hd : Ev K H .f (tLc (iRng1 (tCons (tVar 3) tNil)) (gName 4) tYes (tOp (rIx K) (tVar 1) (tOp (rI (fun _ j => 0 < j) fun i j => .int (i % j)) (tCB rInt1 (tCons (tOp (rIx K) (tVar 0) (tOp (rI0 fun i j => .int (i + j)) (tC (.int 1)) (tVar 4))) tNil)) (tCB (rLenG K) (tCons (tVar 1) tNil)))) [4])
        [.r (dInts row), .r (.s (alpha c)), .r (.i (top : Int)), .f (.i z), .n] (dStrs ((List.range z.toNat).map fun k => lt (f k))) := by
      unfold dStrs
      rw [List.map_map]
      refine EvN.fz (en_lcR (fun k => .s (lt (f k))) (.inl rfl) (ea_cons (ev_var rfl) ea_nil) (by omega) (by decide) fun k hk => ?_)
      have hk2 := emod_in (a := row.getD (1 + k) default) (b := (c : Int)) (by omega)
      apply ev_ixS (s := alpha c) (i := row.getD (1 + k) default % (c : Int)) (c := 97 + f k)
      · exact ev_var rfl
      · refine Ev.of (ev_I (ev_int (ev_ix (k := .h) (ev_var rfl) (Ev.of (ev_I0 (g := fun i j => .int (i + j)) (i := 1) (j := (k : Int)) ev_c (ev_var rfl)) (by rw [show (1 : Int) + (k : Int) = ((1 + k : Nat) : Int) by omega])) rfl (at_map (m := 1 + k) (by omega)))) (ev_lenS (ev_var rfl) (by rw [alpha_len hc4]; omega)) ?_) ?_
        · rw [alpha_len hc4]
          show (0 : Int) < (c : Int)
          omega
        · rw [alpha_len hc4]
      · rw [alpha_len hc4]; omega
      · exact alpha_atI hc4 hk2.1 hk2.2
    have w := ev_join (K := K) (B := H) (k := .f) (a := "") (ev_c (x := .str "")) (EvW.h hd) (by
      rw [List.map_map, show ((fun x : Str => x.length) ∘ fun k => lt (f k)) = fun _ => 1 from rfl, show ("" : Str).length = 0 by decide +kernel, Nat.mul_zero, List.map_const', sum_ones, List.length_range]
      omega)
    rw [show ((List.range z.toNat).map fun k => lt (f k)) = ((List.range z.toNat).map f).map lt by rw [List.map_map]; rfl, join_lts] at w
    exact w
  · obtain ⟨k, _, rfl⟩ := List.mem_map.mp hj
    exact hf k
/-! ### _law_pairs -/
def t_law_pairs (K : PySem.W.Frag) : TS := tSeq (tAsg (tLst (tNil)) (gName 1)) (
    tSeq (tFor (iRng1 (tCons (tCB (rLenG K) (tCons (tOp (rIx K) (tVar 0) (tC (.int 1))) (tNil))) (tNil))) (gName 2) (tFor (iRng1 (tCons (tCB (rLenG K) (tCons (tOp (rIx K) (tVar 0) (tC (.int 0))) (tNil))) (tNil))) (gName 3) (tIfS (tB (tOp (rIx K) (tOp (rIx K) (tOp (rIx K) (tVar 0) (tC (.int 2))) (tVar 2)) (tVar 3))) (tDrop (tBM K "list" rAppend (tVar 1) (tCons (tTup (tCons (tVar 2) (tCons (tOp (rIx K) (tOp (rIx K) (tVar 0) (tC (.int 0))) (tVar 3)) (tNil)))) (tNil)))) (tNext)))) (
    tRet (tVar 1)))
def PairsOf (m : Mach) (n c : Nat) (ps : List (Nat × Nat)) : Prop := ∀ s j : Nat, (s, j) ∈ ps ↔ s < n ∧ j < c ∧ cellF m (s : Int) j = true
/-- the marked transitions, in order -/
def pairsL (m : Mach) (n c : Nat) : List (Nat × Nat) := (List.range n).flatMap fun (s : Nat) => ((List.range c).filter fun (j : Nat) => cellF m (s : Int) j).map fun (j : Nat) => (s, j)
def pairsM (m : Mach) (n c : Nat) : List D := kept2 (fun s j => cellF m (s : Int) j) (fun s j => .t [.i (s : Int), .s (lt j)]) n c
theorem pairsM_eq (m : Mach) (n c : Nat) : D.l (pairsM m n c) = dPairs (pairsL m n c) := by
  unfold dPairs pairsM pairsL kept2 kept
  rw [List.map_flatMap]
  congr 2
  funext s
  rw [List.map_map]
  rfl
theorem pairsL_of (m : Mach) (n c : Nat) : PairsOf m n c (pairsL m n c) := fun s j => by
  unfold pairsL
  rw [List.mem_flatMap]
  constructor
  · rintro ⟨s', h1, h2⟩
    obtain ⟨j', h3, h4⟩ := List.mem_map.mp h2
    rw [List.mem_filter, List.mem_range] at h3
    rw [Prod.mk.injEq] at h4
    obtain ⟨rfl, rfl⟩ := h4
    exact ⟨List.mem_range.mp h1, h3.1, h3.2⟩
  · rintro ⟨h1, h2, h3⟩
    exact ⟨s, List.mem_range.mpr h1, List.mem_map.mpr ⟨j, List.mem_filter.mpr ⟨List.mem_range.mpr h2, h3⟩, rfl⟩⟩
theorem pairsM_len (m : Mach) {n c : Nat} (hn : n ≤ 8) (hc : c ≤ 4) : (pairsM m n c).length ≤ 32 := by
  have h1 := kept2_len (fun s j => cellF m (s : Int) j) (fun s j => D.t [.i (s : Int), .s (lt j)]) c n
  have h2 : n * c ≤ 8 * 4 := Nat.mul_le_mul hn hc
  unfold pairsM
  omega
theorem pairsL_len (m : Mach) {n c : Nat} (hn : n ≤ 8) (hc : c ≤ 4) : (pairsL m n c).length ≤ 32 := by
  have e := pairsM_eq m n c
  unfold dPairs at e
  have e2 : pairsM m n c = (pairsL m n c).map fun p => D.t [.i (p.1 : Int), .s (lt p.2)] := by injection e
  have h := pairsM_len m hn hc
  rw [e2, List.length_map] at h
  exact h
def sp_law_pairs (K : PySem.W.Frag) : Sp := fun vs H Q _ => ∃ (m : Mach) (n c : Nat), IsL K H vs [encM m] ∧ m.Wf n c ∧ Ret K H Q (.l (pairsM m n c))
theorem rd_law_pairs {K : PySem.W.Frag} {vs : List V} {H : Hp} {Q : VK} {E : XK}  (h : sp_law_pairs K vs H Q E) : t_law_pairs K { nx := fun _ H2 => Q .non H2, rt := Q } (L2.start ["_law_m", "_law_pairs_here", "_law_s", "_law_c"] vs) H := by
  obtain ⟨m, n, c, hv, hm, q⟩ := h
  refine sd_start hv (by rw [hv.len]; exact (by decide : 1 ≤ 4)) ?_
  show StD K H H0 _ _ [.r (encM m), .n, .n, .n]
  unfold t_law_pairs
  have n8 := hm.n8
  have c4 := hm.c4
  let f : Nat → Nat → Bool := fun s j => cellF m (s : Int) j
  let v : Nat → Nat → D := fun s j => .t [.i (s : Int), .s (lt j)]
  have hb : ∀ s k, s < n → k ≤ c → (kept2 f v s c ++ kept (f s) (v s) k).length < 100000 := fun s k hs hk => by
    have h1 := kept2_len f v c s
    have h2 := kept_len k (f s) (v s)
    have h3 : s * c ≤ 8 * 4 := Nat.mul_le_mul (by omega) c4
    rw [List.length_append]
    omega
  apply sq_setL (ds := []) (k := .f)
  · exact en_lst ea_nil (Nat.zero_le _)
  apply sq_forR1 (n := (n : Int)) (Iv := fun s Δ => Δ = [.r (encM m), .ol .f (kept2 f v s c), .n, .n])
  · refine ea_cons (Ev.of (ev_len (ev_m1 (k := .h) (ev_var rfl)) rfl) ?_) ea_nil
    rw [List.length_map, hm.tg.1]
  · omega
  · exact ⟨_, rfl, Le.refl _⟩
  · rintro s Δ hs rfl
    apply sd_forR1 (n := (c : Int)) (Iv := fun k Δ => Δ = [.r (encM m), .ol .f (kept2 f v s c ++ kept (f s) (v s) k), .f (.i (s : Int)), .n])
    · refine ea_cons (Ev.of (ev_lenS (ev_m0 (ev_var rfl)) (by rw [hm.ls, alpha_len c4]; omega)) ?_) ea_nil
      rw [hm.ls, alpha_len c4]
    · omega
    · refine ⟨_, rfl, ?_⟩
      rw [kept_zero, List.append_nil]
      exact .s (.s (.s (.n .nil)))
    · rintro k Δ hk rfl
      apply sd_if (b := cellF m (s : Int) k)
      · exact et_B (ev_mFF (ev_var rfl) (ev_var rfl) (ev_var rfl) hm (by omega) hs (by omega))
      · intro hbt
        apply sd_app1 rfl (.inl rfl)
        · refine ev_tup (ea_cons (ev_var rfl) (ea_cons (d := .s (lt k)) ?_ ea_nil)) (by decide : 2 ≤ 100000)
          apply ev_ixS (s := alpha c) (i := (k : Int)) (c := 97 + k)
          · rw [← hm.ls]; exact ev_m0 (ev_var rfl)
          · exact ev_var rfl
          · rw [alpha_len c4]; omega
          · exact alpha_at c4 (by omega)
        · exact hb s k (by omega) (by omega)
        refine NxO.ste rfl ?_
        rw [kept_next, if_pos (show f s k = true from hbt), List.append_assoc]
        exact .s (.s (.s (.n .nil)))
      · intro hbf
        refine NxO.ste rfl ?_
        rw [kept_next, if_neg (show ¬ f s k = true by rw [show f s k = false from hbf]; decide)]
        exact .s (.s (.s (.n .nil)))
    · rintro Δ rfl
      refine NxO.ste rfl ?_
      rw [Int.toNat_natCast, kept2_succ]
      exact .s (.s (.n (.n .nil)))
  · rintro Δ rfl
    rw [Int.toNat_natCast]
    exact sd_retL rfl q
section
variable {K : PySem.W.Frag} {B : Hp} {Γ : Gm} {te : TE} {m : Mach} {n c : Nat}
theorem ev_pairs (he : Ev K B .h te Γ (encM m)) (hm : m.Wf n c) : Ev K B .f (tCall (sp_law_pairs K) [] E0 (tCons te tNil)) Γ (.l (pairsM m n c)) := ev_call (ea_cons he ea_nil) fun vs H Q hv r => ⟨m, n, c, hv, hm, r⟩
end
theorem flagsOf_eq {m : Mach} {n c : Nat} (hm : m.Wf n c) {ps : List (Nat × Nat)} (h : PairsOf m n c ps) : flagsOf ps n c = m.fl := by
  unfold flagsOf
  refine List.ext_getElem? fun s => ?_
  rw [List.getElem?_map]
  by_cases hs : s < n
  · rw [List.getElem?_range hs]
    have e := getD_some (xs := m.fl) (m := s) (d := default) (by rw [hm.fl.1]; exact hs)
    rw [e]
    show some _ = some _
    congr 1
    have hrl : (m.fl.getD s default).length = c := hm.fl.row hs
    refine List.ext_getElem? fun j => ?_
    rw [List.getElem?_map]
    by_cases hj : j < c
    · rw [List.getElem?_range hj, getD_some (xs := m.fl.getD s default) (m := j) (d := default) (by rw [hrl]; exact hj)]
      show some _ = some _
      congr 1
      have e2 : cellF m (s : Int) j = (m.fl.getD s default).getD j default := by unfold cellF; rw [Int.toNat_natCast]
      rw [← e2]
      cases hb : cellF m (s : Int) j with
      | true => exact decide_eq_true ((h s j).mpr ⟨hs, hj, hb⟩)
      | false => exact decide_eq_false fun z => by rw [((h s j).mp z).2.2] at hb; cases hb
    · rw [List.getElem?_eq_none (by rw [List.length_range]; omega), List.getElem?_eq_none (by rw [hrl]; omega)]
      rfl
  · rw [List.getElem?_eq_none (by rw [List.length_range]; omega), List.getElem?_eq_none (by rw [hm.fl.1]; omega)]
    rfl
/-! ### _law_lap -/
def t_law_lap (K : PySem.W.Frag) : TS := tSeq (tAsg (tC (.bl false)) (gName 3)) (
    tSeq (tFor (iStr (tVar 2)) (gName 4) (tSeq (tAsg (tBM K "str" rSIndex (tC (.str ("abcd" : Str))) (tCons (tVar 4) (tNil))) (gName 5)) (
    tSeq (tAsg (tOrV (tVar 3) (tOp (rIx K) (tOp (rIx K) (tOp (rIx K) (tVar 0) (tC (.int 2))) (tVar 1)) (tVar 5))) (gName 3)) (
    tAsg (tOp (rIx K) (tOp (rIx K) (tOp (rIx K) (tVar 0) (tC (.int 1))) (tVar 1)) (tVar 5)) (gName 1))))) (
    tRet (tLst (tCons (tVar 1) (tCons (tVar 3) (tNil))))))
def sp_law_lap (K : PySem.W.Frag) : Sp := fun vs H Q _ => ∃ (m : Mach) (n c : Nat) (s : Int) (js : List Nat), IsL K H vs [encM m, .i s, .s (wd js)] ∧ m.Wf n c ∧ 0 ≤ s ∧ s < n ∧ (∀ j ∈ js, j < c) ∧ js.length ≤ 10000 ∧
  Ret K H Q (.l [.i (lapM m s js).1, .b (lapM m s js).2])
theorem rd_law_lap {K : PySem.W.Frag} {vs : List V} {H : Hp} {Q : VK} {E : XK}  (h : sp_law_lap K vs H Q E) : t_law_lap K { nx := fun _ H2 => Q .non H2, rt := Q } (L2.start ["_law_m", "_law_state", "_law_word_here", "_law_seen", "_law_letter", "_law_c"] vs) H := by
  obtain ⟨m, n, c, s, js, hv, hm, hs0, hs1, hj, hl, q⟩ := h
  refine sd_start hv (by rw [hv.len]; exact (by decide : 3 ≤ 6)) ?_
  show StD K H H0 _ _ [.r (encM m), .r (.i s), .r (.s (wd js)), .n, .n, .n]
  unfold t_law_lap
  apply sq_set
  · walk_at "ev"
  apply sq_forS (Iv := fun k Δ => Δ = [.r (encM m), .r (.i (lapM m s (js.take k)).1), .r (.s (wd js)), .f (.b (lapM m s (js.take k)).2), .n, .n])
  · walk_at "ev"
  · exact ⟨_, rfl, Le.refl _⟩
  · rintro k ch Δ hk rfl
    obtain ⟨hkl, e⟩ := wd_char hk
    rw [e]
    have hjk := lt_in hj hkl
    have c4 := hm.c4
    have hst := lapM_st hm (js := js.take k) (s := s) (fun j h => hj j (List.mem_of_mem_take h)) ⟨hs0, hs1⟩
    obtain ⟨rest, ho⟩ := occ_abcd (j := js.getD k 0) (by omega)
    apply sq_set
    · exact ev_sindex ev_c (ev_var rfl) ho
    apply sq_set
    · exact ev_orV (ev_var rfl) (fun _ => ev_mFF (ev_var rfl) (ev_var rfl) (ev_var rfl) hm hst.1 hst.2 hjk)
    apply sd_set
    · exact ev_mTT (ev_var rfl) (ev_var rfl) (ev_var rfl) hm hst.1 hst.2 hjk
    refine NxO.ste rfl ?_
    rw [lapM_take hkl]
    exact .s (.fr (.s (.s (.n (.n .nil)))))
  · rintro Δ rfl
    rw [List.take_of_length_le (by rw [wd_len]; exact Nat.le_refl _)]
    refine sd_ret (ev_lst (ea_cons (Ev.leaf (ev_var rfl)) (ea_cons (Ev.leaf (ev_var rfl)) ea_nil)) (by decide : 2 ≤ 100000)) q
section
variable {K : PySem.W.Frag} {B : Hp} {Γ : Gm} {k : Kd} {te ts tw : TE} {m : Mach} {n c : Nat} {s : Int} {js : List Nat}
theorem ev_lap (he : Ev K B .h te Γ (encM m)) (hs : Ev K B .h ts Γ (.i s)) (hw : Ev K B .h tw Γ (.s (wd js))) (hm : m.Wf n c) (h0 : 0 ≤ s) (h1 : s < n) (hj : ∀ j ∈ js, j < c) (hl : js.length ≤ 10000) :
    Ev K B .f (tCall (sp_law_lap K) [] E0 (tCons te (tCons ts (tCons tw tNil)))) Γ (.l [.i (lapM m s js).1, .b (lapM m s js).2]) :=
  ev_call (ea_cons he (ea_cons hs (ea_cons hw ea_nil))) fun vs H Q hv r => ⟨m, n, c, s, js, hv, hm, h0, h1, hj, hl, r⟩
end
/-! ### _law_good -/
def t_law_good (K : PySem.W.Frag) : TS := tSeq (tAsg (tOp (rIx K) (tCall (sp_law_lap K) [] E0 (tCons (tVar 0) (tCons (tVar 1) (tCons (tVar 2) (tNil))))) (tC (.int 0))) (gName 1)) (
    tSeq (tFor (iRng1 (tCons (tCB (rLenG K) (tCons (tOp (rIx K) (tVar 0) (tC (.int 1))) (tNil))) (tNil))) (gName 4) (tAsg (tOp (rIx K) (tCall (sp_law_lap K) [] E0 (tCons (tVar 0) (tCons (tVar 1) (tCons (tVar 3) (tNil))))) (tC (.int 0))) (gName 1))) (
    tSeq (tAsg (tC (.bl false)) (gName 5)) (
    tSeq (tFor (iRng1 (tCons (tCB (rLenG K) (tCons (tOp (rIx K) (tVar 0) (tC (.int 1))) (tNil))) (tNil))) (gName 4) (tSeq (tAsg (tCall (sp_law_lap K) [] E0 (tCons (tVar 0) (tCons (tVar 1) (tCons (tVar 3) (tNil))))) (gName 6)) (
    tSeq (tAsg (tOp (rIx K) (tVar 6) (tC (.int 0))) (gName 1)) (
    tAsg (tOrV (tVar 5) (tOp (rIx K) (tVar 6) (tC (.int 1)))) (gName 5))))) (
    tRet (tVar 5)))))
def sp_law_good (K : PySem.W.Frag) : Sp := fun vs H Q _ => ∃ (m : Mach) (n c : Nat) (s : Int) (u v : List Nat), IsL K H vs [encM m, .i s, .s (wd u), .s (wd v)] ∧ m.Wf n c ∧ 0 ≤ s ∧ s < n ∧ (∀ j ∈ u, j < c) ∧ u.length ≤ 10000 ∧ (∀ j ∈ v, j < c) ∧ v.length ≤ 10000 ∧
  Ret K H Q (.b (goodM m v n (lapM m s u).1))
theorem rd_law_good {K : PySem.W.Frag} {vs : List V} {H : Hp} {Q : VK} {E : XK}  (h : sp_law_good K vs H Q E) : t_law_good K { nx := fun _ H2 => Q .non H2, rt := Q } (L2.start ["_law_m", "_law_state", "_law_stem", "_law_loop", "_law_k", "_law_seen", "_law_told"] vs) H := by
  obtain ⟨m, n, c, s, u, v, hv, hm, hs0, hs1, hju, hlu, hjv, hlv, q⟩ := h
  refine sd_start hv (by rw [hv.len]; exact (by decide : 4 ≤ 7)) ?_
  show StD K H H0 _ _ [.r (encM m), .r (.i s), .r (.s (wd u)), .r (.s (wd v)), .n, .n, .n]
  unfold t_law_good
  have n8 := hm.n8
  have hln : ∀ {Γ : Gm}, Γ[0]?.bind (Slot.get .h) = some (encM m) → EvA K H .h (tCons (tCB (rLenG K) (tCons (tOp (rIx K) (tVar 0) (tC (.int 1))) tNil)) tNil) Γ [.i (n : Int)] := fun h => by
    refine ea_cons (Ev.of (ev_len (ev_m1 (k := .h) (ev_var h)) rfl) ?_) ea_nil
    rw [List.length_map, hm.tg.1]
  apply sq_set (d := .i (lapM m s u).1)
  · apply Ev.leaf
    exact ev_ix (k := .h) (EvW.h (ev_lap (ev_var rfl) (ev_var rfl) (ev_var rfl) hm hs0 hs1 hju hlu)) ev_c rfl rfl
  have hu := lapM_st hm hju ⟨hs0, hs1⟩
  generalize hsu : (lapM m s u).1 = s0 at *
  have hi := its_in hm hjv hu
  apply sq_forR1 (n := (n : Int)) (Iv := fun k Δ => Δ = [.r (encM m), .f (.i (its m v k s0)), .r (.s (wd u)), .r (.s (wd v)), .n, .n, .n])
  · exact hln rfl
  · omega
  · exact ⟨_, rfl, Le.refl _⟩
  · rintro k Δ hk rfl
    apply sd_set (d := .i (its m v (k + 1) s0))
    · apply Ev.leaf
      exact ev_ix (k := .h) (EvW.h (ev_lap (ev_var rfl) (ev_var rfl) (ev_var rfl) hm (hi k).1 (hi k).2 hjv hlv)) ev_c rfl rfl
    exact NxO.ste rfl (.s (.s (.s (.s (.n (.s (.s .nil)))))))
  rintro Δ rfl
  rw [Int.toNat_natCast]
  apply sq_set
  · exact ev_c
  apply sq_forR1 (n := (n : Int)) (Iv := fun k Δ => Δ = [.r (encM m), .f (.i (its m v (n + k) s0)), .r (.s (wd u)), .r (.s (wd v)), .n, .f (.b ((List.range k).any fun i => (lapM m (its m v (n + i) s0) v).2)), .n])
  · exact hln rfl
  · omega
  · exact ⟨_, rfl, .s (.s (.s (.s (.n (.s (.s .nil))))))⟩
  · rintro k Δ hk rfl
    apply sq_set
    · exact ev_lap (ev_var rfl) (ev_var rfl) (ev_var rfl) hm (hi (n + k)).1 (hi (n + k)).2 hjv hlv
    apply sq_set (d := .i (its m v (n + (k + 1)) s0))
    · apply Ev.leaf
      exact ev_ix (k := .h) (ev_var rfl) ev_c rfl rfl
    apply sd_set
    · exact ev_orV (b := (lapM m (its m v (n + k) s0) v).2) (ev_var rfl) (fun _ => ev_ix (k := .h) (ev_var rfl) ev_c rfl rfl)
    refine NxO.ste rfl ?_
    rw [any_range_succ]
    exact .s (.s (.s (.s (.n (.s (.n .nil))))))
  · rintro Δ rfl
    rw [Int.toNat_natCast]
    exact sd_ret (ev_var rfl) q
section
variable {K : PySem.W.Frag} {B : Hp} {Γ : Gm} {k : Kd} {te ts tu tw : TE} {m : Mach} {n c : Nat} {s : Int} {u v : List Nat}
theorem ev_good (he : Ev K B .h te Γ (encM m)) (hs : Ev K B .h ts Γ (.i s)) (hu : Ev K B .h tu Γ (.s (wd u))) (hw : Ev K B .h tw Γ (.s (wd v))) (hm : m.Wf n c) (h0 : 0 ≤ s) (h1 : s < n) (hju : ∀ j ∈ u, j < c) (hlu : u.length ≤ 10000) (hj : ∀ j ∈ v, j < c) (hl : v.length ≤ 10000) :
    Ev K B k (tCall (sp_law_good K) [] E0 (tCons te (tCons ts (tCons tu (tCons tw tNil))))) Γ (.b (goodM m v n (lapM m s u).1)) :=
  Ev.leaf (EvW.h (ev_call (ea_cons he (ea_cons hs (ea_cons hu (ea_cons hw ea_nil)))) fun vs H Q hv r => ⟨m, n, c, s, u, v, hv, hm, h0, h1, hju, hlu, hj, hl, r⟩))
end
/-! ### _law_made -/
def t_law_made (K : PySem.W.Frag) (C_Wish : Addr) : TS := tRet (tMakeK C_Wish 3 (["start"] : List Str).length (sp_Wish_init K C_Wish) (fun vs zs => vs ++ zs) E0 (tCons (tOp (rIx K) (tVar 0) (tC (.int 0))) (tCons (tLc (iList K (tOp (rIx K) (tVar 0) (tC (.int 1)))) (gName 1) (tYes) (tCB (rListS K) (tCons (tVar 1) (tNil))) [1]) (tCons (tCall (sp_law_pairs K) [] E0 (tCons (tVar 0) (tNil))) (tNil)))) (tCons (tOp (rIx K) (tVar 0) (tC (.int 3))) (tNil)))
def sp_law_made (K : PySem.W.Frag) (C_Wish : Addr) : Sp := fun vs H Q _ => ∃ (m : Mach) (n c : Nat), IsL K H vs [encM m] ∧ m.Wf n c ∧ RetO H Q (WishF K C_Wish m)
theorem lc_copies {K : PySem.W.Frag} {B : Hp} {Γ : Gm} {tl : TE} {j : Nat} {m : Mach} {n c : Nat} (hl : Ev K B .r tl Γ (.l (m.tg.map dInts))) (hm : m.Wf n c) (hv : ∀ x, (((wipeG Γ [j]).set j (.r x))[j]?.bind (Slot.get .h)) = some x) :
    Ev K B .f (tLc (iList K tl) (gName j) tYes (tCB (rListS K) (tCons (tVar j) tNil)) [j]) Γ (.l (m.tg.map dInts)) := by
  have n8 := hm.n8
  have e : D.l (m.tg.map dInts) = .l (kept (fun _ => true) (fun i => dInts (m.tg.getD i [])) (m.tg.map dInts).length) := by
    rw [kept_all, List.length_map, getD_map (fun r : List Int => dInts r) m.tg _ (fun i x hx => by rw [List.getD_eq_getElem?_getD, hx]; rfl)]
  refine Ev.of ?_ e.symm
  refine EvN.fz (en_lcL (k2 := .r) (fun _ => true) _ (.inl rfl) (.inr rfl) hl (by rw [List.length_map, hm.tg.1]; omega) (List.mem_singleton.mpr rfl) (fun _ _ _ => et_yes) fun i y hy _ => ?_)
  rw [List.getElem?_map] at hy
  cases em : m.tg[i]? with
  | none => rw [em] at hy; cases hy
  | some r =>
    rw [em] at hy; cases hy
    rw [show m.tg.getD i [] = r by rw [List.getD_eq_getElem?_getD, em]; rfl]
    have w := EvN.fz (en_listV (K := K) (B := B) (Γ := (wipeG Γ [j]).set j (Slot.of .r (dInts r))) (ta := tVar j) (vs := r.map V.int) (d0 := dInts r) (ev_var (hv _)) (by unfold dInts; rw [List.map_map]; rfl))
    rw [List.map_map] at w
    exact w
theorem rd_law_made {K : PySem.W.Frag} {C_Wish : Addr} {vs : List V} {H : Hp} {Q : VK} {E : XK}  (h : sp_law_made K C_Wish vs H Q E) : t_law_made K C_Wish { nx := fun _ H2 => Q .non H2, rt := Q } (L2.start ["_law_m", "_law_row"] vs) H := by
  obtain ⟨m, n, c, hv, hm, q⟩ := h
  refine sd_start hv (by rw [hv.len]; exact (by decide : 1 ≤ 2)) ?_
  show StD K H H0 _ _ [.r (encM m), .n]
  unfold t_law_made
  -- the pairs are not known ahead: by cases on what the call gives
  intro σ Hx ⟨F, G, e, S⟩
  refine ev_m0 (k := .h) (ev_var rfl) σ F G Hx S _ fun v1 d1 F1 H1 p1 g1 i1 => ?_
  refine (lc_copies (ev_m1 (ev_var rfl)) hm (fun _ => rfl)) σ F1 G H1 (S.grow g1) _ fun v2 d2 F2 H2 p2 g2 i2 => ?_
  refine (ev_pairs (ev_var rfl) hm) σ F2 G H2 ((S.grow g1).grow g2) _ fun v3 d3 F3 H3 p3 g3 i3 => ?_
  rw [pairsM_eq] at p3
  subst p3
  have hps := pairsL_of m n c
  have hpl := pairsL_len m hm.n8 hm.c4
  generalize pairsL m n c = ps at *
  subst p1; subst p2
  have S3 := ((S.grow g1).grow g2).grow g3
  refine ev_m3 (k := .h) (ev_var rfl) σ F3 G H3 S3 _ fun v4 d4 F4 H4 p4 g4 i4 => ?_
  subst p4
  cases Is.leaf i1; cases Is.leaf i4
  have S4 := S3.grow g4
  have j2 : Is K H4 v2 (.l (m.tg.map dInts)) := (Is.mono g2.fh i2).mono (g3.h.trans g4.h)
  have j3 : Is K H4 v3 (dPairs ps) := (Is.mono g3.fh i3).mono g4.h
  refine ⟨rfl, rfl, fun x dx hx hdx hne => ?_⟩
  have e1 : Ex H4 (minus (upd (upd H4 dx (.own x)) x (.ins C_Wish dx [])) x) := fun a o z => by
    rw [minus_ne (fun w => by subst w; rw [hx] at z; cases z), upd_ne (fun w => by subst w; rw [hx] at z; cases z), upd_ne (fun w => by subst w; rw [hdx] at z; cases z)]
    exact z
  have hst := hm.st
  refine ⟨x, dx, _, n, c, m.tg, ps, m.st, rfl, upd_same, ?_, hm.n1, hm.n8, hm.c1, hm.c4, hm.tg, hst.1, hst.2, by omega, fun p hp => ?_, ?_⟩
  · show IsL K _ [.str m.ls, v2, v3, .int m.st] _
    rw [hm.ls]
    exact IsL.mono e1 (.cons (.v _) (.cons j2 (.cons j3 (.cons (.v _) .nil))))
  · obtain ⟨s, j⟩ := p
    obtain ⟨a, b, _⟩ := (hps s j).mp hp
    exact ⟨a, b⟩
  · intro N H' a1 a2 a3 a4
    refine ⟨rfl, ?_⟩
    have em : (⟨alpha c, m.tg, flagsOf ps n c, m.st⟩ : Mach) = m := by
      rw [flagsOf_eq hm hps, ← hm.ls]
    rw [em] at a4
    have gAll := ((g1.trans g2).trans g3).trans g4
    have g5 := Grow.add' g4.fh e1 a1 a2 a3
    exact q (.ref x) N H' (S4.bh.trans (e1.trans a1)) (fun a z => none_of_ex S4.bh (none_of_ex e1 (a2 a z))) a3 ⟨x, rfl, a4⟩
/-! ### calls with arguments that are not known ahead -/
def EvAW (K : PySem.W.Frag) (B : Hp) (ta : TA) (Γ : Gm) (φ : List D → Prop) : Prop :=
  ∀ σ F G H, Sta K B Γ σ F G H → ∀ Q : List V → Hp → Prop, (∀ vs ds F' H', φ ds → Grow F H F' H' → IsL K H' vs ds → Q vs H') → ta σ H Q
section
variable {K : PySem.W.Frag} {B : Hp} {Γ : Gm} {k : Kd} {te ta tb to : TE} {tr : TA} {φ ψ χ : D → Prop} {Ψ : List D → Prop} {d : D} {ds : List D} {C p : Addr} {m : Mach} {i : Nat}
theorem eaw_nil : EvAW K B tNil Γ (fun ds => ds = []) := fun σ F G H S Q q => q [] [] F H rfl (Grow.refl S.fh) .nil
theorem eaw_cons (h : EvW K B .h te Γ φ) (r : EvAW K B tr Γ Ψ) : EvAW K B (tCons te tr) Γ (fun ds => ∃ d es, ds = d :: es ∧ φ d ∧ Ψ es) := fun σ F G H S Q q =>
  h σ F G H S _ fun v d F1 H1 p1 g1 i1 => r σ F1 G H1 (S.grow g1) _ fun vs es F2 H2 p2 g2 i2 => q (v :: vs) (d :: es) F2 H2 ⟨d, es, rfl, p1, p2⟩ (g1.trans g2) (.cons (Is.mono g2.h i1) i2)
theorem ew_callW {sp : Sp} (ha : EvAW K B tr Γ Ψ) (h : ∀ (ds : List D) (vs : List V) (H : Hp) (Q : VK), Ψ ds → IsL K H vs ds → (∀ d, φ d → Ret K H Q d) → sp vs H Q E0) : EvW K B .f (tCall sp [] E0 tr) Γ φ := fun σ F G H S Q q =>
  ha σ F G H S _ fun vs ds F1 H1 p1 g1 i1 => by
    show sp (vs ++ []) H1 Q E0
    rw [List.append_nil]
    refine h ds vs H1 Q p1 i1 fun d hd v N H' e1 e2 e3 e4 => ?_
    exact q v d _ H' hd (g1.trans (Grow.add g1.fh e1 e2 e3)) (e4.mono un_l)
theorem ew_addS (ha : EvW K B .h ta Γ φ) (hb : EvW K B .h tb Γ ψ) (h : ∀ a b, φ a → ψ b → ∃ s t : Str, a = .s s ∧ b = .s t ∧ s.length + t.length ≤ 1000000 ∧ χ (.s (s ++ t))) : EvW K B k (tOp rAddS2 ta tb) Γ χ := fun σ F G H S Q q =>
  ha σ F G H S _ fun x a F1 H1 p1 g1 i1 => hb σ F1 G H1 (S.grow g1) _ fun y b F2 H2 p2 g2 i2 => by
    obtain ⟨s, t, rfl, rfl, hl, hc⟩ := h a b p1 p2
    cases Is.leaf i1; cases Is.leaf i2
    exact ⟨s, t, rfl, rfl, Nat.le_trans hl (by decide), q _ _ F2 H2 hc (g1.trans g2) IsK.leaf⟩
/-- a wish as the first argument -/
theorem ev_callW0 {sp : Sp} (hi : Γ[i]? = some (.oo (WishF K C m))) (ha : EvA K B .h tr Γ ds) (h : ∀ (p : Addr) (vs : List V) (H : Hp) (Q : VK), WishH K C H p m → IsL K H vs ds → Ret K H Q d → sp (.ref p :: vs) H Q E0) : Ev K B .f (tCall sp [] E0 (tCons (tVar i) tr)) Γ d := fun σ F G H S Q q => by
  obtain ⟨v, h1, p, rfl, hw⟩ := S.sl i _ hi
  refine ⟨_, h1, ?_⟩
  refine ha σ F G H S _ fun vs F1 H1 g1 i1 => ?_
  show sp ((.ref p :: vs) ++ []) H1 Q E0
  rw [List.append_nil]
  refine h p vs H1 Q (hw.mono (g1.f.trans g1.fh)) i1 fun v N H' e1 e2 e3 e4 => ?_
  exact q v _ _ H' rfl (g1.trans (Grow.add g1.fh e1 e2 e3)) (e4.mono un_l)
end
theorem pl_b (b : Bool) : (D.b b).pl = true := by cases b <;> rfl
theorem pl_i (i : Int) : (D.i i).pl = true := rfl
/-! ### _law_asked -/
section
variable {K : PySem.W.Frag} {B : Hp} {Γ : Gm} {k : Kd} {to tu tw : TE} {C p : Addr} {m : Mach} {n c i : Nat} {u v : List Nat}
theorem ev_hasB (hw : WishH K C B p m) (ho : Ev K B .h to Γ (.v (.ref p))) (hu : Ev K B .h tu Γ (.s (wd u))) (hv : Ev K B .h tw Γ (.s (wd v))) (hm : m.Wf n c) (hju : ∀ j ∈ u, j < c) (hlu : u.length ≤ 10000) (hj : ∀ j ∈ v, j < c) (hl : v.length ≤ 10000) (hne : v ≠ []) :
    Ev K B k (tInOwn C (sp_Wish_contains K C) (tTup (tCons tu (tCons tw tNil))) to) Γ (.b (goodM m v n (lapM m m.st u).1)) :=
  ev_inOwnB (k := .h) (d := .t [.s (wd u), .s (wd v)]) hw ho (ev_tupH (ea_cons hu (ea_cons hv ea_nil)) (by decide : 2 ≤ 100000)) fun x H Q w i q =>
    ⟨p, m, n, c, u, v, .cons (.v _) (.cons i .nil), w, hm, hju, hlu, hj, hl, hne, fun v N H' e1 _ _ i => by cases Is.leaf i; exact q H' e1⟩
theorem ev_has (hi : Γ[i]? = some (.oo (WishF K C m))) (hu : Ev K B .h tu Γ (.s (wd u))) (hv : Ev K B .h tw Γ (.s (wd v))) (hm : m.Wf n c) (hju : ∀ j ∈ u, j < c) (hlu : u.length ≤ 10000) (hj : ∀ j ∈ v, j < c) (hl : v.length ≤ 10000) (hne : v ≠ []) :
    Ev K B k (tInOwn C (sp_Wish_contains K C) (tTup (tCons tu (tCons tw tNil))) (tVar i)) Γ (.b (goodM m v n (lapM m m.st u).1)) :=
  ev_inOwn (k := .h) (d := .t [.s (wd u), .s (wd v)]) hi (ev_tupH (ea_cons hu (ea_cons hv ea_nil)) (by decide : 2 ≤ 100000)) fun p x H Q w i q =>
    ⟨p, m, n, c, u, v, .cons (.v _) (.cons i .nil), w, hm, hju, hlu, hj, hl, hne, fun v N H' e1 _ _ i => by cases Is.leaf i; exact q H' e1⟩
theorem et_same {te tf : TE} {x : Bool} (h1 : Ev K B .h te Γ (.b x)) (h2 : Ev K B .h tf Γ (.b x)) : EvT K B (tTest (tOp (rNeD K) te tf)) Γ false := by
  apply et_test
  refine Ev.of (ev_ne h1 h2 (pl_b x) (pl_b x)) ?_
  rw [eqD_b, beq_self_eq_true]; rfl
theorem et_sameI {te tf : TE} {x : Int} (h1 : Ev K B .h te Γ (.i x)) (h2 : Ev K B .h tf Γ (.i x)) : EvT K B (tTest (tOp (rNeD K) te tf)) Γ false := by
  apply et_test
  refine Ev.of (ev_ne h1 h2 (pl_i x) (pl_i x)) ?_
  rw [eqD_i, beq_self_eq_true]; rfl
end
/-! ### Wish.column, wish[..], marked, marks -/
def t_Wish_column (K : PySem.W.Frag) (C_Wish : Addr) : TS := tSeq (tAsg (tCB rListT (tCons (tFld K (tVar 0) ("letters" : Str)) (tNil))) (gName 3)) (
    tSeq (tIfS (tOr (tNot (tTest (tChain (rI0 fun i j => .bl (decide (i ≤ j))) (rI0 fun i j => .bl (decide (i < j))) (tC (.int 0)) (tVar 1) (tFld K (tVar 0) ("size" : Str))))) (tTest (tOp (rIn K true) (tVar 2) (tVar 3)))) (tNever) (tNext)) (
    tRet (tBM K "list" (rIndex K) (tVar 3) (tCons (tVar 2) (tNil)))))
def sp_Wish_column (K : PySem.W.Frag) (C_Wish : Addr) : Sp := fun vs H Q _ => ∃ (p : Addr) (m : Mach) (n c : Nat) (s : Int) (j : Nat), IsL K H vs [.v (.ref p), .i s, .s (lt j)] ∧ WishH K C_Wish H p m ∧ m.Wf n c ∧ 0 ≤ s ∧ s < n ∧ j < c ∧ Ret K H Q (.i (j : Int))
theorem idx_lt {c j : Nat} (h : j < c) : ∀ {K : PySem.W.Frag} {B : Hp} {Γ : Gm} {k : Kd} {ta tb : TE}, Ev K B .h ta Γ (.l ((List.range c).map fun j => D.s (lt j))) → Ev K B .h tb Γ (.s (lt j)) → Ev K B k (tBM K "list" (rIndex K) ta (tCons tb tNil)) Γ (.i (j : Int)) := fun {K B Γ k ta tb} ha hb => Ev.val fun σ F G H S Q q =>
  ha σ F G H S _ fun v d F1 H1 p1 g1 i1 => by
    subst p1
    have hs : Is K H1 v (dStrs ((List.range c).map lt)) := by
      unfold dStrs
      rw [List.map_map]; exact i1
    obtain ⟨p, rfl, s⟩ := strs_of hs
    refine ⟨.inl ⟨rfl, _, s⟩, hb σ F1 G H1 (S.grow g1) _ fun w d2 F2 H2 p2 g2 i2 => ?_⟩
    subst p2; cases Is.leaf i2
    refine ⟨p, ((List.range c).map lt).map V.str, .str (lt j), j, .str (lt j), rfl, rfl, ex_l g2.h s, rfl, ?_, ?_, beq_self_eq_true _, fun m z hmj hz => ?_, q H2 (g1.h.trans g2.h)⟩
    · rw [List.all_map, List.all_eq_true]; exact fun _ _ => rfl
    · rw [List.map_map, List.getElem?_map, List.getElem?_range h]; rfl
    · rw [List.map_map, List.getElem?_map, List.getElem?_range (by omega)] at hz
      cases hz
      exact beq_eq_false_iff_ne.mpr fun e => by have := lt_inj e; omega
theorem rd_Wish_column {K : PySem.W.Frag} {C_Wish : Addr} {vs : List V} {H : Hp} {Q : VK} {E : XK} (T : WTxt K C_Wish) (h : sp_Wish_column K C_Wish vs H Q E) : t_Wish_column K C_Wish { nx := fun _ H2 => Q .non H2, rt := Q } (L2.start ["self", "state", "letter", "known"] vs) H := by
  obtain ⟨p, m, n, c, s, j, hv, hw, hm, h0, h1, hj, q⟩ := h
  refine sd_start hv (by rw [hv.len]; exact (by decide : 3 ≤ 4)) ?_
  show StD K H H0 _ _ [.r (.v (.ref p)), .r (.i s), .r (.s (lt j)), .n]
  unfold t_Wish_column
  have c4 := hm.c4
  apply sq_set (d := .l ((List.range c).map fun j => D.s (lt j)))
  · refine Ev.of (EvN.fz (en_listT (ev_wL hw T (ev_var rfl)) (by rw [hm.ls, alpha_len c4]; omega))) ?_
    rw [hm.ls, alpha_chars c4]
  apply sq_skip
  · apply et_falseOr
    · refine EvT.of (et_not (et_test (ev_chain ev_c (ev_var rfl) (ev_wS hw T (ev_var rfl))))) ?_
      show (!(decide ((0 : Int) ≤ s) && decide (s < (m.tg.length : Int)))) = false
      rw [decide_eq_true h0, decide_eq_true (by rw [hm.tg.1]; exact h1)]; rfl
    · apply et_test
      refine Ev.of (ev_in (v := .str (lt j)) (vs := (List.range c).map fun j => V.str (lt j)) (neg := true) (ev_var rfl) (ev_var rfl) (by rw [List.map_map]; rfl) rfl ?_) ?_
      · rw [List.all_map, List.all_eq_true]; exact fun _ _ => rfl
      · rw [inV_lt hj]; rfl
  exact sd_ret (idx_lt hj (ev_var rfl) (ev_var rfl)) q
section
variable {K : PySem.W.Frag} {B : Hp} {Γ : Gm} {k : Kd} {to ts tl : TE} {C p : Addr} {m : Mach} {n c : Nat} {s : Int} {j : Nat}
theorem ev_columnB (hw : WishH K C B p m) (ho : Ev K B .h to Γ (.v (.ref p))) (hs : Ev K B .h ts Γ (.i s)) (hl : Ev K B .h tl Γ (.s (lt j))) (hm : m.Wf n c) (h0 : 0 ≤ s) (h1 : s < n) (hj : j < c) : Ev K B .f (tMeth C "column" (sp_Wish_column K C) [] E0 to (tCons ts (tCons tl tNil))) Γ (.i (j : Int)) :=
  ev_methB hw ho (wf_no (by decide +kernel) (by decide +kernel) (by decide +kernel) (by decide +kernel) (by decide +kernel)) (ea_cons hs (ea_cons hl ea_nil)) fun vs H Q w i r => ⟨p, m, n, c, s, j, .cons (.v _) i, w, hm, h0, h1, hj, r⟩
end
def t_Wish_getitem (K : PySem.W.Frag) (C_Wish : Addr) : TS := tSeq (tAsg (tVar 1) (gTup K 2 (gCons (gName 3) (gCons (gName 4) (gNil))))) (
    tSeq (tAsg (tMeth C_Wish "column" (sp_Wish_column K C_Wish) [] E0 (tVar 0) (tCons (tVar 3) (tCons (tVar 4) (tNil)))) (gName 2)) (
    tRet (tOp (rIx K) (tOp (rIx K) (tFld K (tVar 0) ("targets" : Str)) (tVar 3)) (tVar 2))))
def sp_Wish_getitem (K : PySem.W.Frag) (C_Wish : Addr) : Sp := fun vs H Q _ => ∃ (p : Addr) (m : Mach) (n c : Nat) (s : Int) (j : Nat), IsL K H vs [.v (.ref p), .t [.i s, .s (lt j)]] ∧ WishH K C_Wish H p m ∧ m.Wf n c ∧ 0 ≤ s ∧ s < n ∧ j < c ∧ Ret K H Q (.i (cellT m s j))
theorem rd_Wish_getitem {K : PySem.W.Frag} {C_Wish : Addr} {vs : List V} {H : Hp} {Q : VK} {E : XK} (T : WTxt K C_Wish) (h : sp_Wish_getitem K C_Wish vs H Q E) : t_Wish_getitem K C_Wish { nx := fun _ H2 => Q .non H2, rt := Q } (L2.start ["self", "at", "column", "state", "letter"] vs) H := by
  obtain ⟨p, m, n, c, s, j, hv, hw, hm, h0, h1, hj, q⟩ := h
  refine sd_start hv (by rw [hv.len]; exact (by decide : 2 ≤ 5)) ?_
  show StD K H H0 _ _ [.r (.v (.ref p)), .r (.t [.i s, .s (lt j)]), .n, .n, .n]
  unfold t_Wish_getitem
  apply sq_set2n (.inr rfl : Kd.r = .f ∨ Kd.r = .r)
  · exact ev_var rfl
  apply sq_set
  · exact ev_columnB hw (ev_var rfl) (ev_var rfl) (ev_var rfl) hm h0 h1 hj
  exact sd_ret (ev_wTT hw T (ev_var rfl) (ev_var rfl) (ev_var rfl) hm h0 h1 hj) q
def t_Wish_marked (K : PySem.W.Frag) (C_Wish : Addr) : TS := tSeq (tAsg (tMeth C_Wish "column" (sp_Wish_column K C_Wish) [] E0 (tVar 0) (tCons (tVar 1) (tCons (tVar 2) (tNil)))) (gName 3)) (
    tRet (tOp (rIx K) (tOp (rIx K) (tFld K (tVar 0) ("flags" : Str)) (tVar 1)) (tVar 3)))
def sp_Wish_marked (K : PySem.W.Frag) (C_Wish : Addr) : Sp := fun vs H Q _ => ∃ (p : Addr) (m : Mach) (n c : Nat) (s : Int) (j : Nat), IsL K H vs [.v (.ref p), .i s, .s (lt j)] ∧ WishH K C_Wish H p m ∧ m.Wf n c ∧ 0 ≤ s ∧ s < n ∧ j < c ∧ Ret K H Q (.b (cellF m s j))
theorem rd_Wish_marked {K : PySem.W.Frag} {C_Wish : Addr} {vs : List V} {H : Hp} {Q : VK} {E : XK} (T : WTxt K C_Wish) (h : sp_Wish_marked K C_Wish vs H Q E) : t_Wish_marked K C_Wish { nx := fun _ H2 => Q .non H2, rt := Q } (L2.start ["self", "state", "letter", "column"] vs) H := by
  obtain ⟨p, m, n, c, s, j, hv, hw, hm, h0, h1, hj, q⟩ := h
  refine sd_start hv (by rw [hv.len]; exact (by decide : 3 ≤ 4)) ?_
  show StD K H H0 _ _ [.r (.v (.ref p)), .r (.i s), .r (.s (lt j)), .n]
  unfold t_Wish_marked
  apply sq_set
  · exact ev_columnB hw (ev_var rfl) (ev_var rfl) (ev_var rfl) hm h0 h1 hj
  exact sd_ret (ev_wFF hw T (ev_var rfl) (ev_var rfl) (ev_var rfl) hm h0 h1 hj) q
def t_Wish_marks (K : PySem.W.Frag) (C_Wish : Addr) : TS := tSeq (tAsg (tLstEnumS (tFld K (tVar 0) ("letters" : Str))) (gName 1)) (
    tRet (tLc2 (iRng1 (tCons (tFld K (tVar 0) ("size" : Str)) (tNil))) (gName 2) (tYes) (iList K (tVar 1)) (gTup K 2 (gCons (gName 3) (gCons (gName 4) (gNil)))) (tB (tOp (rIx K) (tOp (rIx K) (tFld K (tVar 0) ("flags" : Str)) (tVar 2)) (tVar 3))) (tTup (tCons (tVar 2) (tCons (tVar 4) (tNil)))) [2, 3, 4] [3, 4]))
def sp_Wish_marks (K : PySem.W.Frag) (C_Wish : Addr) : Sp := fun vs H Q _ => ∃ (p : Addr) (m : Mach) (n c : Nat), IsL K H vs [.v (.ref p)] ∧ WishH K C_Wish H p m ∧ m.Wf n c ∧ RetL K H Q (pairsM m n c)
theorem alpha_asc {c : Nat} (h : c ≤ 4) : (alpha c).cps.all (· < 128) = true := by
  have : c = 0 ∨ c = 1 ∨ c = 2 ∨ c = 3 ∨ c = 4 := by omega
  rcases this with rfl | rfl | rfl | rfl | rfl <;> decide +kernel
theorem alpha_size {c : Nat} (h : c ≤ 4) : (alpha c).cps.size = c := alpha_len h
theorem rd_Wish_marks {K : PySem.W.Frag} {C_Wish : Addr} {vs : List V} {H : Hp} {Q : VK} {E : XK} (T : WTxt K C_Wish) (h : sp_Wish_marks K C_Wish vs H Q E) : t_Wish_marks K C_Wish { nx := fun _ H2 => Q .non H2, rt := Q } (L2.start ["self", "columns", "state", "k", "letter"] vs) H := by
  obtain ⟨p, m, n, c, hv, hw, hm, q⟩ := h
  refine sd_start hv (by rw [hv.len]; exact (by decide : 1 ≤ 5)) ?_
  show StD K H H0 _ _ [.r (.v (.ref p)), .n, .n, .n, .n]
  unfold t_Wish_marks
  have c1 := hm.c1
  have c4 := hm.c4
  have n8 := hm.n8
  apply sq_set (d := .l ((List.range c).map fun j : Nat => .t [.i (j : Int), .s (lt j)]))
  · refine Ev.of (ev_listEnumS (ev_wL hw T (ev_var rfl)) (by rw [hm.ls]; exact alpha_asc c4) (by rw [hm.ls, alpha_size c4]; omega) (by rw [hm.ls, alpha_size c4]; omega)) ?_
    rw [hm.ls, alpha_size c4]
    congr 1
    refine List.map_congr_left fun j hj => ?_
    rw [List.mem_range] at hj
    have e : (alpha c).cps.getD j 0 = 97 + j := by
      have h1 : (alpha c).cps.toList[j]? = some (97 + j) := by
        rw [alpha_wd c4, wd_cps, List.getElem?_map, List.getElem?_range hj]; rfl
      rw [Array.getElem?_toList] at h1
      rw [Array.getD_eq_getD_getElem?, h1]; rfl
    rw [e]; rfl
  refine sd_retN (ds := kept2 (fun s j => cellF m (s : Int) j) (fun s j => .t [.i (s : Int), .s (lt j)]) n ((List.range c).map fun j : Nat => D.t [.i (j : Int), .s (lt j)]).length) ?_ ?_
  · refine en_lc2 (k2 := .f) (ds := (List.range c).map fun j : Nat => .t [.i (j : Int), .s (lt j)]) _ _ (.inl rfl) (.inl rfl) (ea_cons (Ev.of (ev_wS hw T (ev_var rfl)) (by rw [hm.tg.1])) ea_nil) (by omega) (by rw [List.length_map, List.length_range]; omega) (by decide) (by decide) (by decide) (by decide) (fun s hs => ev_var rfl) (fun x hx => ?_) (fun s j y z hs hd => ?_) (fun s j y z hs hd _ => ?_)
    · obtain ⟨j, _, rfl⟩ := List.mem_map.mp hx
      exact ⟨_, _, rfl⟩
    · have hjc : j < c := by
        have := (List.getElem?_eq_some_iff.mp hd).1
        rwa [List.length_map, List.length_range] at this
      rw [List.getElem?_map, List.getElem?_range hjc] at hd
      cases hd
      exact et_B (ev_wFF hw T (ev_var rfl) (ev_var rfl) (ev_var rfl) hm (by omega) (by omega) hjc)
    · have hjc : j < c := by
        have := (List.getElem?_eq_some_iff.mp hd).1
        rwa [List.length_map, List.length_range] at this
      rw [List.getElem?_map, List.getElem?_range hjc] at hd
      cases hd
      exact ev_tup (ea_cons (ev_var rfl) (ea_cons (ev_var rfl) ea_nil)) (by decide : 2 ≤ 100000)
  · rw [List.length_map, List.length_range]
    exact q
/-! ### _law_is_int -/
def t_law_is_int (K : PySem.W.Frag) : TS := tRet (tAndV (tCB (rIsi K) (tCons (tVar 0) (tCons (tC (.ty "int")) (tNil)))) (tNotV (tCB (rIsi K) (tCons (tVar 0) (tCons (tC (.ty "bool")) (tNil))))))
/-- asked of a number here -/
def sp_law_is_int (K : PySem.W.Frag) : Sp := fun vs H Q _ => ∃ i : Int, IsL K H vs [.i i] ∧ Ret K H Q (.b true)
theorem rd_law_is_int {K : PySem.W.Frag} {vs : List V} {H : Hp} {Q : VK} {E : XK}  (h : sp_law_is_int K vs H Q E) : t_law_is_int K { nx := fun _ H2 => Q .non H2, rt := Q } (L2.start ["_law_x"] vs) H := by
  obtain ⟨i, hv, q⟩ := h
  refine sd_start hv (by rw [hv.len]; exact (by decide : 1 ≤ 1)) ?_
  show StD K H H0 _ _ [.r (.i i)]
  unfold t_law_is_int
  exact sd_ret (ev_andV (a := true) (b := true) (ev_isi (t := "int") (c := "int") (ev_var rfl) rfl (by decide +kernel)) fun _ => ev_notV (a := false) (ev_isi (t := "int") (c := "bool") (ev_var rfl) rfl (by decide +kernel))) q
section
variable {K : PySem.W.Frag} {B : Hp} {Γ : Gm} {te : TE} {i : Int}
theorem et_isint (he : Ev K B .h te Γ (.i i)) : EvT K B (tNot (tB (tCall (sp_law_is_int K) [] E0 (tCons te tNil)))) Γ false :=
  EvT.of (et_not (et_B (EvW.h (ev_call (d := .b true) (ea_cons he ea_nil) fun vs H Q hv r => ⟨i, hv, r⟩)))) rfl
end
/-! ### _law_fits -/
def t_law_fits (K : PySem.W.Frag) (C_Wish : Addr) : TS := tSeq (tIfS (tOr (tNot (tB (tCB (rIsi K) (tCons (tFld K (tVar 0) ("letters" : Str)) (tCons (tC (.ty "str")) (tNil)))))) (tTest (tOp (rNeD K) (tFld K (tVar 0) ("letters" : Str)) (tOp (rIx K) (tVar 1) (tC (.int 0)))))) (tRet (tC (.bl false))) (tNext)) (
    tSeq (tIfS (tOr (tNot (tB (tCall (sp_law_is_int K) [] E0 (tCons (tFld K (tVar 0) ("size" : Str)) (tNil))))) (tTest (tOp (rNeD K) (tFld K (tVar 0) ("size" : Str)) (tCB (rLenG K) (tCons (tOp (rIx K) (tVar 1) (tC (.int 1))) (tNil)))))) (tRet (tC (.bl false))) (tNext)) (
    tSeq (tIfS (tOr (tNot (tB (tCall (sp_law_is_int K) [] E0 (tCons (tFld K (tVar 0) ("start" : Str)) (tNil))))) (tTest (tOp (rNeD K) (tFld K (tVar 0) ("start" : Str)) (tOp (rIx K) (tVar 1) (tC (.int 3)))))) (tRet (tC (.bl false))) (tNext)) (
    tSeq (tFor (iRng1 (tCons (tCB (rLenG K) (tCons (tOp (rIx K) (tVar 1) (tC (.int 1))) (tNil))) (tNil))) (gName 2) (tFor (iRng1 (tCons (tCB (rLenG K) (tCons (tOp (rIx K) (tVar 1) (tC (.int 0))) (tNil))) (tNil))) (gName 3) (tSeq (tAsg (tGetOwn C_Wish (sp_Wish_getitem K C_Wish) (tVar 0) (tTup (tCons (tVar 2) (tCons (tOp (rIx K) (tOp (rIx K) (tVar 1) (tC (.int 0))) (tVar 3)) (tNil))))) (gName 4)) (
    tSeq (tAsg (tMeth C_Wish "marked" (sp_Wish_marked K C_Wish) [] E0 (tVar 0) (tCons (tVar 2) (tCons (tOp (rIx K) (tOp (rIx K) (tVar 1) (tC (.int 0))) (tVar 3)) (tNil)))) (gName 5)) (
    tSeq (tIfS (tOr (tNot (tB (tCall (sp_law_is_int K) [] E0 (tCons (tVar 4) (tNil))))) (tTest (tOp (rNeD K) (tVar 4) (tOp (rIx K) (tOp (rIx K) (tOp (rIx K) (tVar 1) (tC (.int 1))) (tVar 2)) (tVar 3))))) (tRet (tC (.bl false))) (tNext)) (
    tIfS (tOr (tNot (tB (tCB (rIsi K) (tCons (tVar 5) (tCons (tC (.ty "bool")) (tNil)))))) (tTest (tOp (rNeD K) (tVar 5) (tOp (rIx K) (tOp (rIx K) (tOp (rIx K) (tVar 1) (tC (.int 2))) (tVar 2)) (tVar 3))))) (tRet (tC (.bl false))) (tNext))))))) (
    tRet (tC (.bl true))))))
def sp_law_fits (K : PySem.W.Frag) (C_Wish : Addr) : Sp := fun vs H Q _ => ∃ (p : Addr) (m : Mach) (n c : Nat), IsL K H vs [.v (.ref p), encM m] ∧ WishH K C_Wish H p m ∧ m.Wf n c ∧ Ret K H Q (.b true)
theorem pl_alpha {c : Nat} (h : c ≤ 4) : (D.s (alpha c)).pl = true := by
  have : c = 0 ∨ c = 1 ∨ c = 2 ∨ c = 3 ∨ c = 4 := by omega
  rcases this with rfl | rfl | rfl | rfl | rfl <;> decide +kernel
theorem rd_law_fits {K : PySem.W.Frag} {C_Wish : Addr} {vs : List V} {H : Hp} {Q : VK} {E : XK} (T : WTxt K C_Wish) (h : sp_law_fits K C_Wish vs H Q E) : t_law_fits K C_Wish { nx := fun _ H2 => Q .non H2, rt := Q } (L2.start ["_law_wish", "_law_m", "_law_s", "_law_c", "_law_target", "_law_marked"] vs) H := by
  obtain ⟨p, m, n, c, hv, hw, hm, q⟩ := h
  refine sd_start hv (by rw [hv.len]; exact (by decide : 2 ≤ 6)) ?_
  show StD K H H0 _ _ [.r (.v (.ref p)), .r (encM m), .n, .n, .n, .n]
  unfold t_law_fits
  have n8 := hm.n8
  have c4 := hm.c4
  have hl0 : ∀ {Γ : Gm}, Γ[1]?.bind (Slot.get .h) = some (encM m) → Ev K H .h (tCB (rLenG K) (tCons (tOp (rIx K) (tVar 1) (tC (.int 1))) tNil)) Γ (.i (m.tg.length : Int)) := fun h =>
    Ev.of (ev_len (ev_m1 (k := .h) (ev_var h)) rfl) (by rw [List.length_map])
  have hl1 : ∀ {Γ : Gm}, Γ[1]?.bind (Slot.get .h) = some (encM m) → Ev K H .h (tCB (rLenG K) (tCons (tOp (rIx K) (tVar 1) (tC (.int 0))) tNil)) Γ (.i (c : Int)) := fun h =>
    Ev.of (ev_lenS (ev_m0 (ev_var h)) (by rw [hm.ls, alpha_len c4]; omega)) (by rw [hm.ls, alpha_len c4])
  have hlt : ∀ {Γ : Gm} {j : Nat}, Γ[1]?.bind (Slot.get .h) = some (encM m) → Γ[3]?.bind (Slot.get .h) = some (.i (j : Int)) → j < c → Ev K H .h (tOp (rIx K) (tOp (rIx K) (tVar 1) (tC (.int 0))) (tVar 3)) Γ (.s (lt j)) := fun {Γ j} h1 h3 hj => by
    apply ev_ixS (s := alpha c) (i := (j : Int)) (c := 97 + j)
    · rw [← hm.ls]; exact ev_m0 (ev_var h1)
    · exact ev_var h3
    · rw [alpha_len c4]; omega
    · exact alpha_at c4 hj
  apply sq_skip
  · apply et_falseOr
    · refine EvT.of (et_not (et_B (ev_isi (d := .s m.ls) (t := "str") (c := "str") (r := true) (ev_wL hw T (ev_var rfl)) rfl (by decide +kernel)))) rfl
    · apply et_test
      refine Ev.of (ev_ne (ev_wL hw T (ev_var rfl)) (ev_m0 (ev_var rfl)) (by rw [hm.ls]; exact pl_alpha c4) (by rw [hm.ls]; exact pl_alpha c4)) ?_
      rw [eqD_s, beq_self_eq_true]; rfl
  apply sq_skip
  · exact et_falseOr (et_isint (ev_wS hw T (ev_var rfl))) (et_sameI (ev_wS hw T (ev_var rfl)) (hl0 rfl))
  apply sq_skip
  · exact et_falseOr (et_isint (ev_wA hw T (ev_var rfl))) (et_sameI (ev_wA hw T (ev_var rfl)) (ev_m3 (ev_var rfl)))
  apply sq_forR1 (n := (m.tg.length : Int)) (Iv := fun s Δ => Δ = [.r (.v (.ref p)), .r (encM m), .n, .n, .n, .n])
  · exact ea_cons (hl0 rfl) ea_nil
  · rw [hm.tg.1]; omega
  · exact ⟨_, rfl, Le.refl _⟩
  · rintro s Δ hs rfl
    rw [hm.tg.1] at hs
    apply sd_forR1 (n := (c : Int)) (Iv := fun k Δ => Δ = [.r (.v (.ref p)), .r (encM m), .f (.i (s : Int)), .n, .n, .n])
    · exact ea_cons (hl1 rfl) ea_nil
    · omega
    · exact ⟨_, rfl, Le.refl _⟩
    · rintro j Δ hj rfl
      have hj' : j < c := by omega
      apply sq_set (d := .i (cellT m (s : Int) j))
      · refine ev_getOwnB (k := .h) (e := .t [.i (s : Int), .s (lt j)]) hw (ev_var rfl) (ev_tupH (ea_cons (ev_var rfl) (ea_cons (hlt rfl rfl hj') ea_nil)) (by decide : 2 ≤ 100000)) fun y H Q w i r => ?_
        exact ⟨p, m, n, c, s, j, .cons (.v _) (.cons i .nil), w, hm, by omega, hs, hj', r⟩
      apply sq_set (d := .b (cellF m (s : Int) j))
      · refine ev_methB hw (ev_var rfl) (wf_no (by decide +kernel) (by decide +kernel) (by decide +kernel) (by decide +kernel) (by decide +kernel)) (ea_cons (ev_var rfl) (ea_cons (hlt rfl rfl hj') ea_nil)) fun vs H Q w i r => ?_
        exact ⟨p, m, n, c, s, j, .cons (.v _) i, w, hm, by omega, hs, hj', r⟩
      apply sq_skip
      · exact et_falseOr (et_isint (ev_var rfl)) (et_sameI (ev_var rfl) (ev_mTT (ev_var rfl) (ev_var rfl) (ev_var rfl) hm (by omega) hs hj'))
      apply sd_skip
      · exact et_falseOr (EvT.of (et_not (et_B (ev_isi (d := .b (cellF m (s : Int) j)) (t := "bool") (c := "bool") (r := true) (ev_var rfl) rfl (by decide +kernel)))) rfl) (et_same (ev_var rfl) (ev_mFF (ev_var rfl) (ev_var rfl) (ev_var rfl) hm (by omega) hs hj'))
      exact NxO.ste rfl (.s (.s (.s (.n (.n (.n .nil))))))
    · rintro Δ rfl
      exact NxO.ste rfl (.s (.s (.n (.n (.n (.n .nil))))))
  · rintro Δ rfl
    exact sd_ret ev_c q
/-! ### _law_fits_marks -/
def t_law_fits_marks (K : PySem.W.Frag) : TS := tSeq (tIfS (tNot (tB (tCB (rIsi K) (tCons (tVar 0) (tCons (tC (.ty "list")) (tNil)))))) (tRet (tC (.bl false))) (tNext)) (
    tSeq (tFor (iList K (tVar 0)) (gName 2) (tIfS (tOr (tNot (tB (tCB (rIsi K) (tCons (tVar 2) (tCons (tC (.ty "tuple")) (tNil)))))) (tOr (tTest (tOp (rNeD K) (tCB (rLenG K) (tCons (tVar 2) (tNil))) (tC (.int 2)))) (tNot (tB (tCall (sp_law_is_int K) [] E0 (tCons (tOp (rIx K) (tVar 2) (tC (.int 0))) (tNil))))))) (tRet (tC (.bl false))) (tNext))) (
    tRet (tOp (rEqD K) (tVar 0) (tCall (sp_law_pairs K) [] E0 (tCons (tVar 1) (tNil))))))
theorem eqD_self {d : D} (h : d.pl = true) : eqD d d = true := by
  unfold D.pl at h
  rw [Bool.and_eq_true] at h
  exact PySem.SeqAt.eqv_refl _ (D.lay h.1 h.2).1
def sp_law_fits_marks (K : PySem.W.Frag) : Sp := fun vs H Q _ => ∃ (m : Mach) (n c : Nat), IsL K H vs [.l (pairsM m n c), encM m] ∧ m.Wf n c ∧ Ret K H Q (.b true)
theorem pairsM_mem {m : Mach} {n c : Nat} {x : D} (h : x ∈ pairsM m n c) : ∃ s j : Nat, j < c ∧ x = .t [.i (s : Int), .s (lt j)] := by
  have e := pairsM_eq m n c
  unfold dPairs at e
  have e2 : pairsM m n c = (pairsL m n c).map fun p => D.t [.i (p.1 : Int), .s (lt p.2)] := by injection e
  rw [e2] at h
  obtain ⟨p, hp, rfl⟩ := List.mem_map.mp h
  obtain ⟨s, j⟩ := p
  exact ⟨s, j, (((pairsL_of m n c) s j).mp hp).2.1, rfl⟩
theorem pl_lt {j : Nat} (h : j < 1000) : PyData.strOk (lt j) = true := by
  rw [← wd_one]
  exact wd_ok [j] fun x hx => by rw [List.mem_singleton.mp hx]; exact h
theorem pl_pairsM {m : Mach} {n c : Nat} (hc : c ≤ 4) : (D.l (pairsM m n c)).pl = true := by
  have key : ∀ xs : List D, (∀ x ∈ xs, ∃ s j : Nat, j < c ∧ x = .t [.i (s : Int), .s (lt j)]) → D.oks 8 xs = true ∧ D.txs xs = true := by
    intro xs
    induction xs with
    | nil => intro _; exact ⟨by unfold D.oks; rfl, by unfold D.txs; rfl⟩
    | cons x xs ih =>
      intro h
      obtain ⟨s, j, hj, rfl⟩ := h x List.mem_cons_self
      obtain ⟨h1, h2⟩ := ih fun y hy => h y (List.mem_cons_of_mem _ hy)
      have hk : PyData.strOk (lt j) = true := pl_lt (by omega)
      refine ⟨?_, ?_⟩
      · unfold D.oks
        rw [h1, Bool.and_true]
        rfl
      · unfold D.txs
        rw [h2, Bool.and_true]
        show (true && (PyData.strOk (lt j) && true)) = true
        rw [hk]; rfl
  obtain ⟨h1, h2⟩ := key (pairsM m n c) fun x hx => pairsM_mem hx
  unfold D.pl
  have a : D.ok 9 (.l (pairsM m n c)) = true := by unfold D.ok; exact h1
  have b : D.tx (.l (pairsM m n c)) = true := by unfold D.tx; exact h2
  rw [a, b]; rfl
theorem rd_law_fits_marks {K : PySem.W.Frag} {vs : List V} {H : Hp} {Q : VK} {E : XK}  (h : sp_law_fits_marks K vs H Q E) : t_law_fits_marks K { nx := fun _ H2 => Q .non H2, rt := Q } (L2.start ["_law_told", "_law_m", "_law_pair"] vs) H := by
  obtain ⟨m, n, c, hv, hm, q⟩ := h
  refine sd_start hv (by rw [hv.len]; exact (by decide : 2 ≤ 3)) ?_
  show StD K H H0 _ _ [.r (.l (pairsM m n c)), .r (encM m), .n]
  unfold t_law_fits_marks
  have c4 := hm.c4
  apply sq_skip
  · refine EvT.of (et_not (et_B (ev_isi (t := "list") (c := "list") (r := true) (ev_var rfl) rfl (by decide +kernel)))) rfl
  apply sq_forL (k := .r) (Iv := fun _ Δ => Δ = [.r (.l (pairsM m n c)), .r (encM m), .n])
  · exact .inr rfl
  · exact ev_var rfl
  · exact ⟨_, rfl, Le.refl _⟩
  · rintro Φ' i x Δ hx rfl
    obtain ⟨s, j, hj, rfl⟩ := pairsM_mem (List.mem_of_getElem? hx)
    apply sd_skip
    · apply et_falseOr
      · exact EvT.of (et_not (et_B (ev_isi (t := "tuple") (c := "tuple") (r := true) (ev_var rfl) rfl (by decide +kernel)))) rfl
      · apply et_falseOr
        · exact et_sameI (x := 2) (Ev.of (ev_len (ds := [.i (s : Int), .s (lt j)]) (ev_var rfl) rfl) rfl) ev_c
        · exact et_isint (i := (s : Int)) (ev_ix (k := .h) (ev_var rfl) ev_c rfl rfl)
    exact NxO.ste rfl (.s (.s (.n .nil)))
  · rintro Δ rfl
    refine sd_ret (Ev.of (ev_eq (ev_var rfl) (EvW.h (ev_pairs (ev_var rfl) hm)) (pl_pairsM c4) (pl_pairsM c4)) ?_) q
    rw [eqD_self (pl_pairsM c4)]
/-! ### law k01 -/
def t_law (K : PySem.W.Frag) (C_Wish : Addr) : TS := tSeq (tAsg (tCall (sp_law_machine K) [] E0 (tCons (tCall (sp_law_draws K) [] E0 (tCons (tVar 0) (tCons (tC (.int 0)) (tCons (tC (.int 51)) (tNil))))) (tCons (tC (.int 8)) (tNil)))) (gName 1)) (
    tSeq (tAsg (tCall (sp_law_made K C_Wish) [] E0 (tCons (tVar 1) (tNil))) (gName 2)) (
    tSeq (tAsg (tCall (sp_law_word K) [] E0 (tCons (tCall (sp_law_draws K) [] E0 (tCons (tVar 0) (tCons (tC (.int 1)) (tCons (tC (.int 41)) (tNil))))) (tCons (tOp (rIx K) (tVar 1) (tC (.int 0))) (tCons (tC (.int 40)) (tNil))))) (gName 3)) (
    tSeq (tIfS (tNot (tB (tCall (sp_law_fits K C_Wish) [] E0 (tCons (tVar 2) (tCons (tVar 1) (tNil)))))) (tRet (tC (.bl false))) (tNext)) (
    tSeq (tFor (iRng1 (tCons (tOp (rI0 fun i j => .int (i + j)) (tCB (rLenG K) (tCons (tVar 3) (tNil))) (tC (.int 1))) (tNil))) (gName 4) (tSeq (tAsg (tMeth C_Wish "reach" (sp_Wish_reach K C_Wish) [] E0 (tVar 2) (tCons (tSl rSlS (tVar 3) (tNoPart) (tPart (tVar 4))) (tNil))) (gName 7)) (
    tIfS (tOr (tNot (tB (tCall (sp_law_is_int K) [] E0 (tCons (tVar 7) (tNil))))) (tTest (tOp (rNeD K) (tVar 7) (tOp (rIx K) (tCall (sp_law_lap K) [] E0 (tCons (tVar 1) (tCons (tOp (rIx K) (tVar 1) (tC (.int 3))) (tCons (tSl rSlS (tVar 3) (tNoPart) (tPart (tVar 4))) (tNil))))) (tC (.int 0)))))) (tRet (tC (.bl false))) (tNext)))) (
    tSeq (tAsg (tSl rSlS (tOp rMulS (tOp rAddS2 (tVar 3) (tOp (rIx K) (tVar 1) (tC (.int 0)))) (tC (.int 300))) (tNoPart) (tPart (tC (.int 300)))) (gName 5)) (
    tSeq (tIfS (tTest (tOp (rNeD K) (tMeth C_Wish "reach" (sp_Wish_reach K C_Wish) [] E0 (tVar 2) (tCons (tVar 5) (tNil))) (tOp (rIx K) (tCall (sp_law_lap K) [] E0 (tCons (tVar 1) (tCons (tOp (rIx K) (tVar 1) (tC (.int 3))) (tCons (tVar 5) (tNil))))) (tC (.int 0))))) (tRet (tC (.bl false))) (tNext)) (
    tSeq (tAsg (tProp C_Wish (sp_Wish_marks K C_Wish) [] E0 (tVar 2)) (gName 6)) (
    tSeq (tIfS (tNot (tB (tCall (sp_law_fits_marks K) [] E0 (tCons (tVar 6) (tCons (tVar 1) (tNil)))))) (tRet (tC (.bl false))) (tNext)) (
    tSeq (tDrop (tBM K "list" rAppend (tVar 6) (tCons (tTup (tCons (tC (.int 0)) (tCons (tC (.str ("a" : Str))) (tNil)))) (tNil)))) (
    tRet (tAndV (tCall (sp_law_fits_marks K) [] E0 (tCons (tProp C_Wish (sp_Wish_marks K C_Wish) [] E0 (tVar 2)) (tCons (tVar 1) (tNil)))) (tCall (sp_law_fits K C_Wish) [] E0 (tCons (tVar 2) (tCons (tVar 1) (tNil)))))))))))))))
def sp_law (K : PySem.W.Frag) (C_Wish : Addr) : Sp := fun vs H Q _ => ∃ ns : List Int, IsL K H vs [dInts ns] ∧ ns.length ≤ 63 ∧ ∀ H', Q (.bl true) H'
theorem rd_law {K : PySem.W.Frag} {C_Wish : Addr} {vs : List V} {H : Hp} {Q : VK} {E : XK} (T : WTxt K C_Wish) (h : sp_law K C_Wish vs H Q E) : t_law K C_Wish { nx := fun _ H2 => Q .non H2, rt := Q } (L2.start ["_law_script", "_law_m", "_law_wish", "_law_word_here", "_law_k", "_law_longest", "_law_told", "_law_state"] vs) H := by
  obtain ⟨ns, hv, hl, q⟩ := h
  refine sd_start hv (by rw [hv.len]; exact (by decide : 1 ≤ 8)) ?_
  show StD K H H0 _ _ [.r (dInts ns), .n, .n, .n, .n, .n, .n, .n]
  unfold t_law
  have draws : ∀ {Γ : Gm} {tk : TE} {k : Int} (n : Int), Γ[0]? = some (.r (dInts ns)) → Ev K H .h tk Γ (.i k) → 0 ≤ k → k ≤ 1000 → 0 ≤ n → n ≤ 1000 →
      EvW K H .f (tCall (sp_law_draws K) [] E0 (tCons (tVar 0) (tCons tk (tCons (tC (.int n)) tNil)))) Γ (fun d => ∃ row : List Int, (row.length : Int) = n ∧ (∀ x ∈ row, 0 ≤ x ∧ x < 5040) ∧ d = dInts row) := fun n h0 hk k0 k1 n0 n1 =>
    ew_call (ea_cons (ev_var (by rw [h0]; rfl)) (ea_cons hk (ea_cons ev_c ea_nil))) fun vs H Q hv r => ⟨ns, _, n, hv, hl, k0, k1, n0, n1, fun row h1 h2 => r _ ⟨row, h1, h2, rfl⟩⟩
  apply sq_setW (φ := fun d => ∃ (m : Mach) (n c : Nat), m.Wf n c ∧ d = encM m)
  · refine ew_callW (eaw_cons (EvW.h (draws (k := 0) 51 rfl ev_c (by omega) (by omega) (by omega) (by omega))) (eaw_cons (ev_c (x := .int 8)) eaw_nil)) fun ds vs H Q hd hv r => ?_
    obtain ⟨_, _, rfl, ⟨row, h1, h2, rfl⟩, _, _, rfl, rfl, rfl⟩ := hd
    exact ⟨row, 8, hv, by omega, by omega, h2, by omega, by omega, fun m n c hm _ => r _ ⟨m, n, c, hm, rfl⟩⟩
  rintro _ ⟨m, n, c, hm, rfl⟩
  have n8 := hm.n8
  have c1 := hm.c1
  have c4 := hm.c4
  have st := hm.st
  apply sq_setO (A := WishF K C_Wish m)
  · exact eo_call (ea_cons (ev_var rfl) ea_nil) WishF.un fun vs H Q hv r => ⟨m, n, c, hv, hm, r⟩
  apply sq_setW (φ := fun d => ∃ u : List Nat, u.length ≤ 40 ∧ (∀ j ∈ u, j < c) ∧ d = .s (wd u))
  · refine ew_callW (eaw_cons (EvW.h (draws (k := 1) 41 rfl ev_c (by omega) (by omega) (by omega) (by omega))) (eaw_cons (ev_m0 (k := .h) (ev_var rfl)) (eaw_cons (ev_c (x := .int 40)) eaw_nil))) fun ds vs H Q hd hv r => ?_
    obtain ⟨_, _, rfl, ⟨row, h1, h2, rfl⟩, _, _, rfl, rfl, _, _, rfl, rfl, rfl⟩ := hd
    exact ⟨row, c, 40, by rw [← hm.ls]; exact hv, c1, c4, by omega, by omega, fun js h3 h4 => r _ ⟨js, h3, h4, rfl⟩⟩
  rintro _ ⟨u, hlu, hju, rfl⟩
  have fits : ∀ {Γ : Gm}, Γ[2]? = some (.oo (WishF K C_Wish m)) → Γ[1]?.bind (Slot.get .h) = some (encM m) → Ev K H .h (tCall (sp_law_fits K C_Wish) [] E0 (tCons (tVar 2) (tCons (tVar 1) tNil))) Γ (.b true) := fun h2 h1 =>
    EvW.h (ev_callW0 h2 (ea_cons (ev_var h1) ea_nil) fun p vs H Q w i r => ⟨p, m, n, c, .cons (.v _) i, w, hm, r⟩)
  have reach : ∀ {Γ : Gm} {tw : TE} {js : List Nat}, Γ[2]? = some (.oo (WishF K C_Wish m)) → Ev K H .h tw Γ (.s (wd js)) → (∀ j ∈ js, j < c) → js.length ≤ 10000 → Ev K H .f (tMeth C_Wish "reach" (sp_Wish_reach K C_Wish) [] E0 (tVar 2) (tCons tw tNil)) Γ (.i (lapM m m.st js).1) := fun h2 hw hj hl =>
    ev_meth h2 (wf_no (by decide +kernel) (by decide +kernel) (by decide +kernel) (by decide +kernel) (by decide +kernel)) (ea_cons hw ea_nil) fun p vs H Q w i r => ⟨p, m, n, c, _, .cons (.v _) i, w, hm, hj, hl, r⟩
  apply sq_skip
  · exact EvT.of (et_not (et_B (fits rfl rfl))) rfl
  apply sq_forR1 (n := (u.length : Int) + 1) (Iv := fun _ Δ => Δ = [.r (dInts ns), .f (encM m), .oo (WishF K C_Wish m), .f (.s (wd u)), .n, .n, .n, .n])
  · exact ea_cons (ev_I0 (g := fun i j => .int (i + j)) (i := (u.length : Int)) (j := 1) (Ev.of (ev_lenS (ev_var rfl) (by rw [wd_len]; omega)) (by rw [wd_len])) ev_c) ea_nil
  · omega
  · exact ⟨_, rfl, Le.refl _⟩
  · rintro k Δ hk rfl
    have hj : ∀ j ∈ u.take k, j < c := fun j h => hju j (List.mem_of_mem_take h)
    have hl : (u.take k).length ≤ 10000 := by rw [List.length_take]; omega
    have sl : ∀ {Γ : Gm}, Γ[3]?.bind (Slot.get .h) = some (.s (wd u)) → Γ[4]?.bind (Slot.get .h) = some (.i (k : Int)) → Ev K H .h (tSl rSlS (tVar 3) tNoPart (tPart (tVar 4))) Γ (.s (wd (u.take k))) := fun h3 h4 =>
      Ev.of (ev_slS (ev_var h3) eo_none (eo_some (ev_var h4)) (by rw [wd_len]; omega)) (by rw [wd_take])
    apply sq_set
    · exact reach rfl (sl rfl rfl) hj hl
    apply sd_skip
    · refine et_falseOr (et_isint (ev_var rfl)) (et_sameI (ev_var rfl) ?_)
      exact ev_ix (k := .h) (EvW.h (ev_lap (ev_var rfl) (ev_m3 (ev_var rfl)) (sl rfl rfl) hm st.1 st.2 hj hl)) ev_c rfl rfl
    exact NxO.ste rfl (.s (.s (.s (.s (.n (.n (.n (.n .nil))))))))
  rintro Δ rfl
  have hjL : ∀ j ∈ (List.replicate 300 (u ++ List.range c)).flatten.take 300, j < c := fun j hj => by
    obtain ⟨l, h1, h2⟩ := List.mem_flatten.mp (List.mem_of_mem_take hj)
    rw [(List.mem_replicate.mp h1).2] at h2
    rcases List.mem_append.mp h2 with h | h
    · exact hju j h
    · exact List.mem_range.mp h
  have hLl : ((List.replicate 300 (u ++ List.range c)).flatten.take 300).length ≤ 300 := List.length_take_le _ _
  have hne : u ++ List.range c ≠ [] := fun z => by
    have := congrArg List.length z
    rw [List.length_append, List.length_range] at this
    simp at this
    omega
  have hul : (u ++ List.range c).length ≤ 44 := by rw [List.length_append, List.length_range]; omega
  apply sq_set (d := .s (wd ((List.replicate 300 (u ++ List.range c)).flatten.take 300)))
  · have h1 : ∀ {Γ : Gm}, Γ[3]?.bind (Slot.get .h) = some (.s (wd u)) → Γ[1]?.bind (Slot.get .h) = some (encM m) → Ev K H .h (tOp rAddS2 (tVar 3) (tOp (rIx K) (tVar 1) (tC (.int 0)))) Γ (.s (wd (u ++ List.range c))) := fun h3 h1 => by
      rw [← wd_app, ← alpha_wd c4, ← hm.ls]
      exact ev_addS (ev_var h3) (ev_m0 (ev_var h1)) (by rw [wd_len, hm.ls, alpha_len c4]; omega)
    refine Ev.of (ev_slS (s := wd (List.replicate 300 (u ++ List.range c)).flatten) (Ev.of (ev_mulS (h1 rfl rfl) ev_c (by rw [wd_len]; omega) (by omega)) (by rw [show ((300 : Int)) = ((300 : Nat) : Int) from rfl, wd_mul _ 300 (by omega) hne])) eo_none (eo_some ev_c) ?_) ?_
    · rw [wd_len, List.length_flatten, List.map_replicate, List.sum_replicate_nat]
      have : 300 * (u ++ List.range c).length ≤ 300 * 44 := Nat.mul_le_mul_left _ hul
      omega
    · rw [show ((300 : Int)) = ((300 : Nat) : Int) from rfl, wd_take]
  apply sq_skip
  · exact et_sameI (EvW.h (reach rfl (ev_var rfl) hjL (by omega))) (ev_ix (k := .h) (EvW.h (ev_lap (ev_var rfl) (ev_m3 (ev_var rfl)) (ev_var rfl) hm st.1 st.2 hjL (by omega))) ev_c rfl rfl)
  have mk : ∀ {Γ : Gm}, Γ[2]? = some (.oo (WishF K C_Wish m)) → EvN K H .f (tProp C_Wish (sp_Wish_marks K C_Wish) [] E0 (tVar 2)) Γ (pairsM m n c) := fun h2 =>
    en_prop h2 fun p H Q w r => ⟨p, m, n, c, .cons (.v _) .nil, w, hm, r⟩
  apply sq_setL
  · exact mk rfl
  apply sq_skip
  · refine EvT.of (et_not (et_B (EvW.h (ev_call (d := .b true) (ea_cons (ev_var rfl) (ea_cons (ev_var rfl) ea_nil)) fun vs H Q hv r => ⟨m, n, c, hv, hm, r⟩)))) rfl
  have hpl := pairsM_len m n8 c4
  apply sq_app rfl (.inl rfl)
  · exact ev_tup (ea_cons ev_c (ea_cons ev_c ea_nil)) (by decide : 2 ≤ 100000)
  · omega
  refine sd_ret (ev_andV (a := true) (b := true) (EvW.h (ev_call (d := .b true) (ea_cons (EvW.h (EvN.fz (mk rfl))) (ea_cons (ev_var rfl) ea_nil)) fun vs H Q hv r => ⟨m, n, c, hv, hm, r⟩)) fun _ => fits rfl rfl) ?_
  exact fun v N H' _ _ _ i => by cases Is.leaf i; exact q H'

/-! ### the derivations -/
def top (i : Nat) : Stmt := PySem.Challenge.pw_noteless_k01_words_lead_to_states.main.body.getD i (.Pass ⟨0, 0, 0, 0⟩)
abbrev s_law_draws : Stmt := top 25
abbrev N_law_draws : List Str := ["_law_script", "_law_k", "_law_many", "_law_cell", "_law_left", "_law_row", "_law_i", "_law_x"]
theorem sc_law_draws : FnScope N_law_draws ["_law_script", "_law_k", "_law_many"] (defScope s_law_draws) := ⟨rfl, rfl, rfl, by decide +kernel, rfl, by decide +kernel, by decide +kernel⟩
section
variable {P : Program} {w : World} {K : PySem.W.Frag} {mg : Str → Option Value} {base : Heap}
theorem ok_law_draws { f_law_draws : Addr} {fd_law_draws : FuncData} (F_law_draws : Fun K "_law_draws" "_law_draws" s_law_draws f_law_draws fd_law_draws) (T : Bt mg)   : FnOk P w K mg base CX0 1 f_law_draws fd_law_draws ["_law_script", "_law_k", "_law_many"] (sp_law_draws K) := by
  refine F_law_draws.ok sc_law_draws (fun vs H Q E h => by obtain ⟨_, _, _, hv, _⟩ := h; exact hv.len) (fun cdv A outer s H vs Q E hr h => ?_)
  have hu := hu_of hr
  exact ⟨t_law_draws K, pss_cons (ps_if (pt_cmpR (op_eqD hr.units) (pv 0) (pe_lst (pa_nil)) (nomark _)) (pss_one (ps_ret (pe_lc (own := [(("_law_i" : Str), 6)]) (g := gName 6) (by rfl) sc_law_draws.nd (pi_range1 (by rfl) T.b_range (pa_cons (pv 2) (pa_nil))) (blkOk_by (own := [(("_law_i" : Str), 6)]) (N := N_law_draws) (sc := defScope s_law_draws) (by decide +kernel)) (fun _ _ _ _ _ => pg_name (i := 6) sc_law_draws.nd rfl (Or.inl rfl)) (fun _ _ _ _ _ => pts_nil) (fun _ _ _ _ _ => pe_int)))) (pss_nil)) (
    pss_cons (ps_set (i := 3) sc_law_draws.nd rfl (Or.inl rfl) (pe_callTy call_int1 (by rfl) T.b_int (by decide +kernel) (pa_cons (pe_ix ix_seq (pv 0) (pe_op op_mod (pe_callTy call_int1 (by rfl) T.b_int (by decide +kernel) (pa_cons (pv 1) (pa_nil))) (pe_callB call_lenG (by rfl) T.b_len (by decide +kernel) (pa_cons (pv 0) (pa_nil)))) (fun _ _ => rfl)) (pa_nil)))) (
    pss_cut (ps_if (pt_cmpR op_ge (pv 1) (pe_callB call_lenG (by rfl) T.b_len (by decide +kernel) (pa_cons (pv 0) (pa_nil))) (nomark _)) (pss_one (ps_set (i := 3) sc_law_draws.nd rfl (Or.inl rfl) (pe_op op_add (pe_op op_mod (pv 3) (pe_int)) (pe_op op_mul (pe_int) (pv 1))))) (pss_nil)) (
    pss_cons (ps_set (i := 4) sc_law_draws.nd rfl (Or.inl rfl) (pe_callB call_abs (by rfl) T.b_abs (by decide +kernel) (pa_cons (pv 3) (pa_nil)))) (
    pss_cons (ps_set (i := 5) sc_law_draws.nd rfl (Or.inl rfl) (pe_lst (pa_nil))) (
    pss_cons (ps_for PassesOwn.never rfl (pi_range1 (by rfl) T.b_range (pa_cons (pv 2) (pa_nil))) (pg_name (i := 6) sc_law_draws.nd rfl (Or.inl rfl)) (pss_one (ps_if (pt_cmpR op_ge (pe_callB call_abs (by rfl) T.b_abs (by decide +kernel) (pa_cons (pv 3) (pa_nil))) (pe_op op_pow (pe_int) (pe_int)) (nomark _)) (pss_cons (ps_expr (pe_bm PySem.F.plainAttrs_list PySem.F.slot_list_append PySem.F.type_list_append mt_append (pv 5) (pa_cons (pe_op op_mod (pv 4) (pe_int)) (pa_nil)))) (
    pss_one (ps_set (i := 4) sc_law_draws.nd rfl (Or.inl rfl) (pe_op op_fdiv (pv 4) (pe_int))))) (pss_cons (ps_set (i := 7) sc_law_draws.nd rfl (Or.inl rfl) (pe_op op_mod (pe_op op_add (pe_op op_add (pe_op op_mul (pe_op op_mod (pv 3) (pe_int)) (pe_int)) (pe_op op_mul (pv 6) (pe_int))) (pe_int)) (pe_int))) (
    pss_one (ps_expr (pe_bm PySem.F.plainAttrs_list PySem.F.slot_list_append PySem.F.type_list_append mt_append (pv 5) (pa_cons (pe_op op_mod (pe_op op_mod (pe_op op_add (pe_op op_add (pe_op op_mul (pe_op op_mul (pe_int) (pv 7)) (pv 7)) (pv 7)) (pe_int)) (pe_int)) (pe_int)) (pa_nil))))))))) (
    pss_one (ps_ret (pv 5)))))))), rd_law_draws h⟩
end
abbrev s_law_machine : Stmt := top 26
abbrev N_law_machine : List Str := ["_law_row", "_law_top", "_law_size", "_law_many", "_law_mode", "_law_share", "_law_targets", "_law_marks", "_law_s", "_law_c", "_law_names", "_law_places", "_law_moved", "_law_flags", "_law_cells", "_law_column", "_law_bar", "_law_t", "_law_kept", "_law_cell"]
theorem sc_law_machine : FnScope N_law_machine ["_law_row", "_law_top"] (defScope s_law_machine) := ⟨rfl, rfl, rfl, by decide +kernel, rfl, by decide +kernel, by decide +kernel⟩
section
variable {P : Program} {w : World} {K : PySem.W.Frag} {mg : Str → Option Value} {base : Heap}
theorem ok_law_machine { f_law_machine : Addr} {fd_law_machine : FuncData} (F_law_machine : Fun K "_law_machine" "_law_machine" s_law_machine f_law_machine fd_law_machine) (T : Bt mg)   : FnOk P w K mg base CX0 1 f_law_machine fd_law_machine ["_law_row", "_law_top"] (sp_law_machine K) := by
  refine F_law_machine.ok sc_law_machine (fun vs H Q E h => by obtain ⟨_, _, hv, _⟩ := h; exact hv.len) (fun cdv A outer s H vs Q E hr h => ?_)
  have hu := hu_of hr
  exact ⟨t_law_machine K, pss_cons (ps_set (i := 2) sc_law_machine.nd rfl (Or.inr rfl) (pe_op op_add (pe_int) (pe_op op_mod (pe_callTy call_int1 (by rfl) T.b_int (by decide +kernel) (pa_cons (pe_ix ix_seq (pv 0) (pe_int) (fun _ _ => rfl)) (pa_nil))) (pe_callB (call_min2 rfl) (by rfl) T.b_min (by decide +kernel) (pa_cons (pe_callTy call_int1 (by rfl) T.b_int (by decide +kernel) (pa_cons (pv 1) (pa_nil))) (pa_cons (pe_ix ix_seq (pe_lst (pa_cons (pe_int) (pa_cons (pe_int) (pa_cons (pe_int) (pa_cons (pe_int) (pa_nil)))))) (pe_op op_mod (pe_op op_fdiv (pe_callTy call_int1 (by rfl) T.b_int (by decide +kernel) (pa_cons (pe_ix ix_seq (pv 0) (pe_int) (fun _ _ => rfl)) (pa_nil))) (pe_int)) (pe_int)) (fun _ _ => rfl)) (pa_nil))))))) (
    pss_cons (ps_set (i := 3) sc_law_machine.nd rfl (Or.inl rfl) (pe_op op_add (pe_int) (pe_op op_mod (pe_callTy call_int1 (by rfl) T.b_int (by decide +kernel) (pa_cons (pe_ix ix_seq (pv 0) (pe_int) (fun _ _ => rfl)) (pa_nil))) (pe_int)))) (
    pss_cons (ps_set (i := 4) sc_law_machine.nd rfl (Or.inl rfl) (pe_op op_mod (pe_callTy call_int1 (by rfl) T.b_int (by decide +kernel) (pa_cons (pe_ix ix_seq (pv 0) (pe_int) (fun _ _ => rfl)) (pa_nil))) (pe_int))) (
    pss_cons (ps_set (i := 5) sc_law_machine.nd rfl (Or.inr rfl) (pe_op op_mod (pe_op op_fdiv (pe_callTy call_int1 (by rfl) T.b_int (by decide +kernel) (pa_cons (pe_ix ix_seq (pv 0) (pe_int) (fun _ _ => rfl)) (pa_nil))) (pe_int)) (pe_int))) (
    pss_cons (ps_set (i := 6) sc_law_machine.nd rfl (Or.inr rfl) (pe_lst (pa_nil))) (
    pss_cons (ps_set (i := 7) sc_law_machine.nd rfl (Or.inr rfl) (pe_lst (pa_nil))) (
    pss_cons (ps_for PassesOwn.never rfl (pi_range1 (by rfl) T.b_range (pa_cons (pv 2) (pa_nil))) (pg_name (i := 8) sc_law_machine.nd rfl (Or.inr rfl)) (pss_cons (ps_setLc (i := 14) (own := [(("_law_c" : Str), 9)]) (g := gName 9) (by rfl) sc_law_machine.nd rfl rfl (sw_true rfl rfl rfl (by decide +kernel)) (pi_range1 (by rfl) T.b_range (pa_cons (pv 3) (pa_nil))) (blkOk_by (own := [(("_law_c" : Str), 9)]) (N := N_law_machine) (sc := defScope s_law_machine) (by decide +kernel)) (fun _ _ _ _ _ => pg_name (i := 9) sc_law_machine.nd rfl (Or.inl rfl)) (fun _ _ _ _ _ => pts_nil) (fun _ _ _ _ _ => pe_callTy call_int1 (by rfl) T.b_int (by decide +kernel) (pa_cons (pe_ix ix_seq (pv 0) (pe_op op_add (pe_op op_add (pe_int) (pe_op op_mul (pe_int) (pv 8))) (pv 9)) (fun _ _ => rfl)) (pa_nil)))) (
    pss_cons (ps_expr (pe_bm PySem.F.plainAttrs_list PySem.F.slot_list_append PySem.F.type_list_append mt_append (pv 6) (pa_cons (pe_lc (own := [(("_law_cell" : Str), 19)]) (g := gName 19) (by rfl) sc_law_machine.nd (pi_list (pv 14)) (blkOk_by (own := [(("_law_cell" : Str), 19)]) (N := N_law_machine) (sc := defScope s_law_machine) (by decide +kernel)) (fun _ _ _ _ _ => pg_name (i := 19) sc_law_machine.nd rfl (Or.inl rfl)) (fun _ _ _ _ _ => pts_nil) (fun _ _ _ _ _ => pe_op op_mod (pe_callTy call_int1 (by rfl) T.b_int (by decide +kernel) (pa_cons (pv 19) (pa_nil))) (pv 2))) (pa_nil)))) (
    pss_one (ps_expr (pe_bm PySem.F.plainAttrs_list PySem.F.slot_list_append PySem.F.type_list_append mt_append (pv 7) (pa_cons (pe_lc (own := [(("_law_cell" : Str), 19)]) (g := gName 19) (by rfl) sc_law_machine.nd (pi_list (pv 14)) (blkOk_by (own := [(("_law_cell" : Str), 19)]) (N := N_law_machine) (sc := defScope s_law_machine) (by decide +kernel)) (fun _ _ _ _ _ => pg_name (i := 19) sc_law_machine.nd rfl (Or.inl rfl)) (fun _ _ _ _ _ => pts_nil) (fun _ _ _ _ _ => pe_cmpR op_lt (pe_op op_fdiv (pv 19) (pe_int)) (pv 5) (nomark _))) (pa_nil)))))))) (
    pss_cons (ps_for PassesOwn.never rfl (pi_range1 (by rfl) T.b_range (pa_cons (pv 3) (pa_nil))) (pg_name (i := 9) sc_law_machine.nd rfl (Or.inr rfl)) (pss_cons (ps_set (i := 15) sc_law_machine.nd rfl (Or.inl rfl) (pe_callB cr_sorted (by rfl) T.b_sorted (by decide +kernel) (pa_cons (pe_lc (own := [(("_law_s" : Str), 8)]) (g := gName 8) (by rfl) sc_law_machine.nd (pi_range1 (by rfl) T.b_range (pa_cons (pv 2) (pa_nil))) (blkOk_by (own := [(("_law_s" : Str), 8)]) (N := N_law_machine) (sc := defScope s_law_machine) (by decide +kernel)) (fun _ _ _ _ _ => pg_name (i := 8) sc_law_machine.nd rfl (Or.inl rfl)) (fun _ _ _ _ _ => pts_nil) (fun _ _ _ _ _ => pe_callTy call_int1 (by rfl) T.b_int (by decide +kernel) (pa_cons (pe_ix ix_seq (pe_ix ix_seq (pv 6) (pv 8) (fun _ _ => rfl)) (pv 9) (fun _ _ => rfl)) (pa_nil)))) (pa_nil)))) (
    pss_cons (ps_set (i := 16) sc_law_machine.nd rfl (Or.inl rfl) (pe_op op_mod (pe_callTy call_int1 (by rfl) T.b_int (by decide +kernel) (pa_cons (pe_ix ix_seq (pv 0) (pe_op op_add (pe_int) (pv 9)) (fun _ _ => rfl)) (pa_nil))) (pe_op op_add (pv 2) (pe_int)))) (
    pss_cons (ps_for PassesOwn.never rfl (pi_range1 (by rfl) T.b_range (pa_cons (pv 2) (pa_nil))) (pg_name (i := 8) sc_law_machine.nd rfl (Or.inr rfl)) (pss_one (ps_if (PW.pt (pw_and (pt_cmpR (op_neD hr.units) (pv 4) (pe_int) (nomark _)) (pw_and1 (pt_cmpR op_gt (pe_ix ix_seq (pv 15) (pv 8) (fun _ _ => rfl)) (pv 8) (nomark _))))) (pss_one (ps_set (i := 16) sc_law_machine.nd rfl (Or.inl rfl) (pe_callB (call_min2 rfl) (by rfl) T.b_min (by decide +kernel) (pa_cons (pe_callTy call_int1 (by rfl) T.b_int (by decide +kernel) (pa_cons (pv 16) (pa_nil))) (pa_cons (pv 8) (pa_nil)))))) (pss_nil)))) (
    pss_one (ps_for PassesOwn.never rfl (pi_range1 (by rfl) T.b_range (pa_cons (pv 2) (pa_nil))) (pg_name (i := 8) sc_law_machine.nd rfl (Or.inr rfl)) (pss_one (ps_if (pt_cmpR op_gt (pv 4) (pe_int) (nomark _)) (pss_cons (ps_asg (pe_ix ix_seq (pv 15) (pv 8) (fun _ _ => rfl)) (pg_sub (pe_ix ix_seq (pv 6) (pv 8) (fun _ _ => rfl)) (pv 9) set_list)) (
    pss_one (ps_asg (pe_cmpR op_ge (pv 8) (pv 16) (nomark _)) (pg_sub (pe_ix ix_seq (pv 7) (pv 8) (fun _ _ => rfl)) (pv 9) set_list)))) (pss_nil))))))))) (
    pss_cons (ps_set (i := 8) sc_law_machine.nd rfl (Or.inr rfl) (pe_op op_mod (pe_callTy call_int1 (by rfl) T.b_int (by decide +kernel) (pa_cons (pe_ix ix_seq (pv 0) (pe_int) (fun _ _ => rfl)) (pa_nil))) (pv 2))) (
    pss_cons (ps_set (i := 9) sc_law_machine.nd rfl (Or.inr rfl) (pe_op op_mod (pe_callTy call_int1 (by rfl) T.b_int (by decide +kernel) (pa_cons (pe_ix ix_seq (pv 0) (pe_int) (fun _ _ => rfl)) (pa_nil))) (pv 3))) (
    pss_cut (ps_if (PW.pt (pw_and (pt_cmpR (op_eqD hr.units) (pv 4) (pe_int) (nomark _)) (pw_and1 (pt_cmpR (op_eqD hr.units) (pe_op op_mod (pe_callTy call_int1 (by rfl) T.b_int (by decide +kernel) (pa_cons (pe_ix ix_seq (pv 0) (pe_int) (fun _ _ => rfl)) (pa_nil))) (pe_int)) (pe_int) (nomark _))))) (pss_one (ps_asg (pe_not (pe_ix ix_seq (pe_ix ix_seq (pv 7) (pv 8) (fun _ _ => rfl)) (pv 9) (fun _ _ => rfl))) (pg_sub (pe_ix ix_seq (pv 7) (pv 8) (fun _ _ => rfl)) (pv 9) set_list))) (pss_nil)) (
    pss_cut (ps_if (PW.pt (pw_and (pt_cmpR (op_eqD hr.units) (pv 4) (pe_int) (nomark _)) (pw_and1 (pt_cmpR (op_eqD hr.units) (pe_op op_mod (pe_callTy call_int1 (by rfl) T.b_int (by decide +kernel) (pa_cons (pe_ix ix_seq (pv 0) (pe_int) (fun _ _ => rfl)) (pa_nil))) (pe_int)) (pe_int) (nomark _))))) (pss_one (ps_asg (pe_op op_mod (pe_op op_fdiv (pe_callTy call_int1 (by rfl) T.b_int (by decide +kernel) (pa_cons (pe_ix ix_seq (pv 0) (pe_int) (fun _ _ => rfl)) (pa_nil))) (pe_int)) (pv 2)) (pg_sub (pe_ix ix_seq (pv 6) (pv 8) (fun _ _ => rfl)) (pv 9) set_list))) (pss_nil)) (
    pss_cons (ps_set (i := 10) sc_law_machine.nd rfl (Or.inr rfl) (pe_listRg rfl (by rfl) T.b_list (prg_1 (by rfl) T.b_range (pv 2)))) (
    pss_cons (ps_for PassesOwn.never rfl (pi_range1 (by rfl) T.b_range (pa_cons (pv 2) (pa_nil))) (pg_name (i := 8) sc_law_machine.nd rfl (Or.inr rfl)) (pss_cons (ps_set (i := 17) sc_law_machine.nd rfl (Or.inl rfl) (pe_op op_add (pv 8) (pe_op op_mod (pe_callTy call_int1 (by rfl) T.b_int (by decide +kernel) (pa_cons (pe_ix ix_seq (pv 0) (pe_op op_add (pe_int) (pv 8)) (fun _ _ => rfl)) (pa_nil))) (pe_op op_sub (pv 2) (pv 8))))) (
    pss_cons (ps_set (i := 18) sc_law_machine.nd rfl (Or.inl rfl) (pe_ix ix_seq (pv 10) (pv 8) (fun _ _ => rfl))) (
    pss_cons (ps_asg (pe_ix ix_seq (pv 10) (pv 17) (fun _ _ => rfl)) (pg_sub (pv 10) (pv 8) set_list)) (
    pss_one (ps_asg (pv 18) (pg_sub (pv 10) (pv 17) set_list))))))) (
    pss_cons (ps_set (i := 11) sc_law_machine.nd rfl (Or.inr rfl) (pe_lc (own := [(("_law_s" : Str), 8)]) (g := gName 8) (by rfl) sc_law_machine.nd (pi_range1 (by rfl) T.b_range (pa_cons (pv 2) (pa_nil))) (blkOk_by (own := [(("_law_s" : Str), 8)]) (N := N_law_machine) (sc := defScope s_law_machine) (by decide +kernel)) (fun _ _ _ _ _ => pg_name (i := 8) sc_law_machine.nd rfl (Or.inl rfl)) (fun _ _ _ _ _ => pts_nil) (fun _ _ _ _ _ => pe_bm PySem.F.plainAttrs_list PySem.F.slot_list_index PySem.F.type_list_index mt_index (pv 10) (pa_cons (pv 8) (pa_nil))))) (
    pss_cons (ps_setLc (i := 12) (own := [(("_law_s" : Str), 8)]) (g := gName 8) (by rfl) sc_law_machine.nd rfl rfl (sw_true rfl rfl rfl (by decide +kernel)) (pi_range1 (by rfl) T.b_range (pa_cons (pv 2) (pa_nil))) (blkOk_by (own := [(("_law_s" : Str), 8)]) (N := N_law_machine) (sc := defScope s_law_machine) (by decide +kernel)) (fun _ _ _ _ _ => pg_name (i := 8) sc_law_machine.nd rfl (Or.inl rfl)) (fun _ _ _ _ _ => pts_nil) (fun _ _ _ _ _ => pe_lc (own := [(("_law_t" : Str), 17)]) (g := gName 17) (by rfl) sc_law_machine.nd (pi_list (pe_ix ix_seq (pv 6) (pe_ix ix_seq (pv 11) (pv 8) (fun _ _ => rfl)) (fun _ _ => rfl))) (blkOk_by (own := [(("_law_t" : Str), 17)]) (N := N_law_machine) (sc := ({ kind := .function, names := [(".0", .local), ("_law_s", .local), ("_law_names", .cell), ("_law_places", .cell), ("_law_targets", .cell)], isGenerator := false, isCoroutine := false, more := [] } : Scope)) (by decide +kernel)) (fun _ _ _ _ _ => pg_name (i := 17) sc_law_machine.nd rfl (Or.inl rfl)) (fun _ _ _ _ _ => pts_nil) (fun _ _ _ _ _ => pe_ix ix_seq (pv 10) (pv 17) (fun _ _ => rfl)))) (
    pss_cons (ps_setLc (i := 13) (own := [(("_law_s" : Str), 8)]) (g := gName 8) (by rfl) sc_law_machine.nd rfl rfl (sw_true rfl rfl rfl (by decide +kernel)) (pi_range1 (by rfl) T.b_range (pa_cons (pv 2) (pa_nil))) (blkOk_by (own := [(("_law_s" : Str), 8)]) (N := N_law_machine) (sc := defScope s_law_machine) (by decide +kernel)) (fun _ _ _ _ _ => pg_name (i := 8) sc_law_machine.nd rfl (Or.inl rfl)) (fun _ _ _ _ _ => pts_nil) (fun _ _ _ _ _ => pe_callTy call_list_of (by rfl) T.b_list (by decide +kernel) (pa_cons (pe_ix ix_seq (pv 7) (pe_ix ix_seq (pv 11) (pv 8) (fun _ _ => rfl)) (fun _ _ => rfl)) (pa_nil)))) (
    pss_one (ps_ret (pe_lst (pa_cons (pe_slice sl_str (pe_str) (po_none) (po_some (pv 3))) (pa_cons (pv 12) (pa_cons (pv 13) (pa_cons (pe_ix ix_seq (pv 10) (pe_op op_mod (pe_callTy call_int1 (by rfl) T.b_int (by decide +kernel) (pa_cons (pe_ix ix_seq (pv 0) (pe_int) (fun _ _ => rfl)) (pa_nil))) (pv 2)) (fun _ _ => rfl)) (pa_nil)))))))))))))))))))))))), rd_law_machine h⟩
end
abbrev s_law_pairs : Stmt := top 27
abbrev N_law_pairs : List Str := ["_law_m", "_law_pairs_here", "_law_s", "_law_c"]
theorem sc_law_pairs : FnScope N_law_pairs ["_law_m"] (defScope s_law_pairs) := ⟨rfl, rfl, rfl, by decide +kernel, rfl, by decide +kernel, by decide +kernel⟩
section
variable {P : Program} {w : World} {K : PySem.W.Frag} {mg : Str → Option Value} {base : Heap}
theorem ok_law_pairs { f_law_pairs : Addr} {fd_law_pairs : FuncData} (F_law_pairs : Fun K "_law_pairs" "_law_pairs" s_law_pairs f_law_pairs fd_law_pairs) (T : Bt mg)   : FnOk P w K mg base CX0 1 f_law_pairs fd_law_pairs ["_law_m"] (sp_law_pairs K) := by
  refine F_law_pairs.ok sc_law_pairs (fun vs H Q E h => by obtain ⟨_, _, _, hv, _⟩ := h; exact hv.len) (fun cdv A outer s H vs Q E hr h => ?_)
  have hu := hu_of hr
  exact ⟨t_law_pairs K, pss_cons (ps_set (i := 1) sc_law_pairs.nd rfl (Or.inl rfl) (pe_lst (pa_nil))) (
    pss_cons (ps_for PassesOwn.never rfl (pi_range1 (by rfl) T.b_range (pa_cons (pe_callB call_lenG (by rfl) T.b_len (by decide +kernel) (pa_cons (pe_ix ix_seq (pv 0) (pe_int) (fun _ _ => rfl)) (pa_nil))) (pa_nil))) (pg_name (i := 2) sc_law_pairs.nd rfl (Or.inl rfl)) (pss_one (ps_for PassesOwn.never rfl (pi_range1 (by rfl) T.b_range (pa_cons (pe_callB call_lenG (by rfl) T.b_len (by decide +kernel) (pa_cons (pe_ix ix_seq (pv 0) (pe_int) (fun _ _ => rfl)) (pa_nil))) (pa_nil))) (pg_name (i := 3) sc_law_pairs.nd rfl (Or.inl rfl)) (pss_one (ps_if (pt_val (pe_ix ix_seq (pe_ix ix_seq (pe_ix ix_seq (pv 0) (pe_int) (fun _ _ => rfl)) (pv 2) (fun _ _ => rfl)) (pv 3) (fun _ _ => rfl))) (pss_one (ps_expr (pe_bm PySem.F.plainAttrs_list PySem.F.slot_list_append PySem.F.type_list_append mt_append (pv 1) (pa_cons (pe_tup (pa_cons (pv 2) (pa_cons (pe_ix ix_seq (pe_ix ix_seq (pv 0) (pe_int) (fun _ _ => rfl)) (pv 3) (fun _ _ => rfl)) (pa_nil)))) (pa_nil))))) (pss_nil)))))) (
    pss_one (ps_ret (pv 1)))), rd_law_pairs h⟩
end
abbrev s_flag_table : Stmt := top 20
abbrev N_flag_table : List Str := ["letters", "size", "pairs", "known", "marked", "state", "letter"]
theorem sc_flag_table : FnScope N_flag_table ["letters", "size", "pairs"] (defScope s_flag_table) := ⟨rfl, rfl, rfl, by decide +kernel, rfl, by decide +kernel, by decide +kernel⟩
section
variable {P : Program} {w : World} {K : PySem.W.Frag} {mg : Str → Option Value} {base : Heap}
theorem ok_flag_table { f_flag_table : Addr} {fd_flag_table : FuncData} (F_flag_table : Fun K "flag_table" "flag_table" s_flag_table f_flag_table fd_flag_table) (T : Bt mg)   : FnOk P w K mg base CX0 1 f_flag_table fd_flag_table ["letters", "size", "pairs"] (sp_flag_table K) := by
  refine F_flag_table.ok sc_flag_table (fun vs H Q E h => by obtain ⟨_, _, _, hv, _⟩ := h; exact hv.len) (fun cdv A outer s H vs Q E hr h => ?_)
  have hu := hu_of hr
  exact ⟨t_flag_table K, pss_cons (ps_set (i := 3) sc_flag_table.nd rfl (Or.inr rfl) (pe_callTy (call_listT rfl) (by rfl) T.b_list (by decide +kernel) (pa_cons (pv 0) (pa_nil)))) (
    pss_cons (ps_set (i := 4) sc_flag_table.nd rfl (Or.inr rfl) pe_dnewT) (
    pss_cons (ps_for PassesOwn.never rfl (pi_list (pv 2)) (pg_tup rfl (pgs_cons (pg_name (i := 5) sc_flag_table.nd rfl (Or.inl rfl)) (pgs_cons (pg_name (i := 6) sc_flag_table.nd rfl (Or.inl rfl)) (pgs_nil)))) (pss_cons (ps_if (PW.pt (pw_or (pt_not (pt_chain op_le op_lt (pe_int) (pv 5) (pv 1))) (pw_or1 (pt_cmpR op_notIn_seq (pv 6) (pv 3) (by with_unfolding_all rfl))))) (pss_one (ps_never)) (pss_nil)) (
    pss_one (ps_dput hu (pv 4) (pe_tup (pa_cons (pv 5) (pa_cons (pv 6) (pa_nil)))) (pe_bl) rfl)))) (
    pss_one (ps_ret (pe_lc (own := [(("state" : Str), 5)]) (g := gName 5) (by rfl) sc_flag_table.nd (pi_range1 (by rfl) T.b_range (pa_cons (pv 1) (pa_nil))) (blkOk_by (own := [(("state" : Str), 5)]) (N := N_flag_table) (sc := defScope s_flag_table) (by decide +kernel)) (fun _ _ _ _ _ => pg_name (i := 5) sc_flag_table.nd rfl (Or.inr rfl)) (fun _ _ _ _ _ => pts_nil) (fun _ _ _ _ _ => pe_lc (own := [(("letter" : Str), 6)]) (g := gName 6) (by rfl) sc_flag_table.nd (pi_list (pv 3)) (blkOk_by (own := [(("letter" : Str), 6)]) (N := N_flag_table) (sc := ({ kind := .function, names := [(".0", .local), ("state", .cell), ("known", .cell), ("marked", .cell)], isGenerator := false, isCoroutine := false, more := [] } : Scope)) (by decide +kernel)) (fun _ _ _ _ _ => pg_name (i := 6) sc_flag_table.nd rfl (Or.inl rfl)) (fun _ _ _ _ _ => pts_nil) (fun _ _ _ _ _ => pe_cmp (pc_din hu (pe_tup (pa_cons (pv 5) (pa_cons (pv 6) (pa_nil)))) (pv 4)) (by with_unfolding_all rfl)))))))), rd_flag_table h⟩
end
abbrev s_Wish_init : Stmt := inClass (top 23) 1
abbrev N_Wish_init : List Str := ["self", "letters", "targets", "marks", "start", "size", "row", "target"]
theorem sc_Wish_init : FnScope N_Wish_init ["self", "letters", "targets", "marks", "start"] (defScope s_Wish_init) := ⟨rfl, rfl, rfl, by decide +kernel, rfl, by decide +kernel, by decide +kernel⟩
section
variable {P : Program} {w : World} {K : PySem.W.Frag} {mg : Str → Option Value} {base : Heap}
theorem ok_Wish_init {C_Wish c_ALPHABETS c_empty f_Wish_init : Addr} {fd_Wish_init : FuncData} (F_Wish_init : FunD K "__init__" "Wish.__init__" (defArgs s_Wish_init) (defBody s_Wish_init) (defScope s_Wish_init) [.ref c_empty] [("start", .int 0)] f_Wish_init fd_Wish_init) (T : Bt mg) (g_ALPHABETS : mg "ALPHABETS" = some (.ref c_ALPHABETS)) (g_MOST_STATES_wishes : ∃ t, mg "MOST_STATES_wishes" = some (.int 8 t)) (c_flag_table : Cal P w K mg base "flag_table" 1 ["letters", "size", "pairs"] (sp_flag_table K)) (tx : WTxt K C_Wish) (hA : Is K H0 (.ref c_ALPHABETS) (.t (alphs.map D.s))) : FnOk P w K mg base CX0 2 f_Wish_init fd_Wish_init ["self", "letters", "targets", "marks", "start"] (sp_Wish_init K C_Wish) := by
  refine F_Wish_init.ok sc_Wish_init (fun vs H Q E h => by obtain ⟨x, dx, us, n, c, tg, ps, st, rfl, hx, hv, _⟩ := h; exact congrArg (· + 1) hv.len) (fun cdv A outer s H vs Q E hr h => ?_)
  have hu := hu_of hr
  exact ⟨t_Wish_init K C_Wish c_ALPHABETS, PSs.nox (pss_cons (ps_set (i := 5) sc_Wish_init.nd rfl (Or.inl rfl) (pe_callB call_lenG (by rfl) T.b_len (by decide +kernel) (pa_cons (pv 2) (pa_nil)))) (
    pss_cons (ps_if (PW.pt (pw_or (pt_cmpR op_notIn_seq (pv 1) (pe_glob rfl g_ALPHABETS rfl) (by with_unfolding_all rfl)) (pw_or (pt_not (pt_chain op_le op_le (pe_int) (pv 5) (pe_globI rfl g_MOST_STATES_wishes))) (pw_or1 (pt_not (pt_chain op_le op_lt (pe_int) (pv 4) (pv 5))))))) (pss_one (ps_never)) (pss_nil)) (
    pss_cons (ps_for PassesOwn.never rfl (pi_list (pv 2)) (pg_name (i := 6) sc_Wish_init.nd rfl (Or.inl rfl)) (pss_cons (ps_if (pt_cmpR (op_neD hr.units) (pe_callB call_lenG (by rfl) T.b_len (by decide +kernel) (pa_cons (pv 6) (pa_nil))) (pe_callB call_lenG (by rfl) T.b_len (by decide +kernel) (pa_cons (pv 1) (pa_nil))) (nomark _)) (pss_one (ps_never)) (pss_nil)) (
    pss_one (ps_for PassesOwn.never rfl (pi_list (pv 6)) (pg_name (i := 7) sc_Wish_init.nd rfl (Or.inl rfl)) (pss_one (ps_if (pt_not (pt_chain op_le op_lt (pe_int) (pv 7) (pv 5))) (pss_one (ps_never)) (pss_nil))))))) (
    pss_cons (ps_fld (pv 0) (pe_cal c_flag_table (hr.mono (by decide)) rfl (pa_cons (pv 1) (pa_cons (pv 5) (pa_cons (pv 3) (pa_nil))))) rfl) (
    pss_cons (ps_fld (pv 0) (pv 1) rfl) (
    pss_cons (ps_fld (pv 0) (pv 5) rfl) (
    pss_cons (ps_fld (pv 0) (pv 4) rfl) (
    pss_one (ps_fld (pv 0) (pe_lc (own := [(("row" : Str), 6)]) (g := gName 6) (by rfl) sc_Wish_init.nd (pi_list (pv 2)) (blkOk_by (own := [(("row" : Str), 6)]) (N := N_Wish_init) (sc := defScope s_Wish_init) (by decide +kernel)) (fun _ _ _ _ _ => pg_name (i := 6) sc_Wish_init.nd rfl (Or.inl rfl)) (fun _ _ _ _ _ => pts_nil) (fun _ _ _ _ _ => pe_callTy call_list_of (by rfl) T.b_list (by decide +kernel) (pa_cons (pv 6) (pa_nil)))) rfl))))))))), rd_Wish_init tx hA h⟩
end
abbrev s_law_made : Stmt := top 28
abbrev N_law_made : List Str := ["_law_m", "_law_row"]
theorem sc_law_made : FnScope N_law_made ["_law_m"] (defScope s_law_made) := ⟨rfl, rfl, rfl, by decide +kernel, rfl, by decide +kernel, by decide +kernel⟩
section
variable {P : Program} {w : World} {K : PySem.W.Frag} {mg : Str → Option Value} {base : Heap}
theorem ok_law_made {C_Wish f_law_made : Addr} {fd_law_made : FuncData} (F_law_made : Fun K "_law_made" "_law_made" s_law_made f_law_made fd_law_made) (T : Bt mg) (c_law_pairs : Cal P w K mg base "_law_pairs" 1 ["_law_m"] (sp_law_pairs K)) (k_Wish_3_start : KCal P w K mg base "Wish" C_Wish 2 3 ["self", "letters", "targets", "marks", "start"] ["start"] (sp_Wish_init K C_Wish))  : FnOk P w K mg base CX0 4 f_law_made fd_law_made ["_law_m"] (sp_law_made K C_Wish) := by
  refine F_law_made.ok sc_law_made (fun vs H Q E h => by obtain ⟨_, _, _, hv, _⟩ := h; exact hv.len) (fun cdv A outer s H vs Q E hr h => ?_)
  have hu := hu_of hr
  exact ⟨t_law_made K C_Wish, pss_one (ps_ret (pe_kcal k_Wish_3_start (hr.mono (by decide)) rfl (pa_cons (pe_ix ix_seq (pv 0) (pe_int) (fun _ _ => rfl)) (pa_cons (pe_lc (own := [(("_law_row" : Str), 1)]) (g := gName 1) (by rfl) sc_law_made.nd (pi_list (pe_ix ix_seq (pv 0) (pe_int) (fun _ _ => rfl))) (blkOk_by (own := [(("_law_row" : Str), 1)]) (N := N_law_made) (sc := defScope s_law_made) (by decide +kernel)) (fun _ _ _ _ _ => pg_name (i := 1) sc_law_made.nd rfl (Or.inl rfl)) (fun _ _ _ _ _ => pts_nil) (fun _ _ _ _ _ => pe_callTy call_list_of (by rfl) T.b_list (by decide +kernel) (pa_cons (pv 1) (pa_nil)))) (pa_cons (pe_cal c_law_pairs (hr.mono (by decide)) rfl (pa_cons (pv 0) (pa_nil))) (pa_nil)))) (pk_cons (pe_ix ix_seq (pv 0) (pe_int) (fun _ _ => rfl)) (pk_nil)))), rd_law_made h⟩
end
abbrev s_law_word : Stmt := top 29
abbrev N_law_word : List Str := ["_law_row", "_law_letters", "_law_top", "_law_size", "_law_k"]
theorem sc_law_word : FnScope N_law_word ["_law_row", "_law_letters", "_law_top"] (defScope s_law_word) := ⟨rfl, rfl, rfl, by decide +kernel, rfl, by decide +kernel, by decide +kernel⟩
section
variable {P : Program} {w : World} {K : PySem.W.Frag} {mg : Str → Option Value} {base : Heap}
theorem ok_law_word { f_law_word : Addr} {fd_law_word : FuncData} (F_law_word : Fun K "_law_word" "_law_word" s_law_word f_law_word fd_law_word) (T : Bt mg)   : FnOk P w K mg base CX0 1 f_law_word fd_law_word ["_law_row", "_law_letters", "_law_top"] (sp_law_word K) := by
  refine F_law_word.ok sc_law_word (fun vs H Q E h => by obtain ⟨_, _, _, hv, _⟩ := h; exact hv.len) (fun cdv A outer s H vs Q E hr h => ?_)
  have hu := hu_of hr
  exact ⟨t_law_word K, pss_cons (ps_set (i := 3) sc_law_word.nd rfl (Or.inl rfl) (pe_op op_mod (pe_callTy call_int1 (by rfl) T.b_int (by decide +kernel) (pa_cons (pe_ix ix_seq (pv 0) (pe_int) (fun _ _ => rfl)) (pa_nil))) (pe_op op_add (pv 2) (pe_int)))) (
    pss_one (ps_ret (pe_join (pe_str) (pe_lc (own := [(("_law_k" : Str), 4)]) (g := gName 4) (by rfl) sc_law_word.nd (pi_range1 (by rfl) T.b_range (pa_cons (pv 3) (pa_nil))) (blkOk_by (own := [(("_law_k" : Str), 4)]) (N := N_law_word) (sc := defScope s_law_word) (by decide +kernel)) (fun _ _ _ _ _ => pg_name (i := 4) sc_law_word.nd rfl (Or.inl rfl)) (fun _ _ _ _ _ => pts_nil) (fun _ _ _ _ _ => pe_ix ix_seq (pv 1) (pe_op op_mod (pe_callTy call_int1 (by rfl) T.b_int (by decide +kernel) (pa_cons (pe_ix ix_seq (pv 0) (pe_op op_add (pe_int) (pv 4)) (fun _ _ => rfl)) (pa_nil))) (pe_callB call_lenG (by rfl) T.b_len (by decide +kernel) (pa_cons (pv 1) (pa_nil)))) (fun _ _ => rfl)))))), rd_law_word h⟩
end
abbrev s_law_is_int : Stmt := top 31
abbrev N_law_is_int : List Str := ["_law_x"]
theorem sc_law_is_int : FnScope N_law_is_int ["_law_x"] (defScope s_law_is_int) := ⟨rfl, rfl, rfl, by decide +kernel, rfl, by decide +kernel, by decide +kernel⟩
section
variable {P : Program} {w : World} {K : PySem.W.Frag} {mg : Str → Option Value} {base : Heap}
theorem ok_law_is_int { f_law_is_int : Addr} {fd_law_is_int : FuncData} (F_law_is_int : Fun K "_law_is_int" "_law_is_int" s_law_is_int f_law_is_int fd_law_is_int) (T : Bt mg)   : FnOk P w K mg base CX0 1 f_law_is_int fd_law_is_int ["_law_x"] (sp_law_is_int K) := by
  refine F_law_is_int.ok sc_law_is_int (fun vs H Q E h => by obtain ⟨_, hv, _⟩ := h; exact hv.len) (fun cdv A outer s H vs Q E hr h => ?_)
  have hu := hu_of hr
  exact ⟨t_law_is_int K, pss_one (ps_ret (pe_and (pe_callB call_isi (by rfl) T.b_isinstance (by decide +kernel) (pa_cons (pv 0) (pa_cons (pe_bltn rfl T.b_int (by decide +kernel) rfl) (pa_nil)))) (pe_one (pe_not (pe_callB call_isi (by rfl) T.b_isinstance (by decide +kernel) (pa_cons (pv 0) (pa_cons (pe_bltn rfl T.b_bool (by decide +kernel) rfl) (pa_nil)))))))), rd_law_is_int h⟩
end
abbrev s_Wish_column : Stmt := inClass (top 23) 4
abbrev N_Wish_column : List Str := ["self", "state", "letter", "known"]
theorem sc_Wish_column : FnScope N_Wish_column ["self", "state", "letter"] (defScope s_Wish_column) := ⟨rfl, rfl, rfl, by decide +kernel, rfl, by decide +kernel, by decide +kernel⟩
section
variable {P : Program} {w : World} {K : PySem.W.Frag} {mg : Str → Option Value} {base : Heap}
theorem ok_Wish_column {C_Wish f_Wish_column : Addr} {fd_Wish_column : FuncData} (F_Wish_column : Fun K "column" "Wish.column" s_Wish_column f_Wish_column fd_Wish_column) (T : Bt mg)  (tx : WTxt K C_Wish) : FnOk P w K mg base CX0 1 f_Wish_column fd_Wish_column ["self", "state", "letter"] (sp_Wish_column K C_Wish) := by
  refine F_Wish_column.ok sc_Wish_column (fun vs H Q E h => by obtain ⟨_, _, _, _, _, _, hv, _⟩ := h; exact hv.len) (fun cdv A outer s H vs Q E hr h => ?_)
  have hu := hu_of hr
  exact ⟨t_Wish_column K C_Wish, pss_cons (ps_set (i := 3) sc_Wish_column.nd rfl (Or.inl rfl) (pe_callTy (call_listT rfl) (by rfl) T.b_list (by decide +kernel) (pa_cons (pe_fld (pv 0) rfl) (pa_nil)))) (
    pss_cons (ps_if (PW.pt (pw_or (pt_not (pt_chain op_le op_lt (pe_int) (pv 1) (pe_fld (pv 0) rfl))) (pw_or1 (pt_cmpR op_notIn_seq (pv 2) (pv 3) (by with_unfolding_all rfl))))) (pss_one (ps_never)) (pss_nil)) (
    pss_one (ps_ret (pe_bm PySem.F.plainAttrs_list PySem.F.slot_list_index PySem.F.type_list_index mt_index (pv 3) (pa_cons (pv 2) (pa_nil)))))), rd_Wish_column tx h⟩
end
abbrev s_Wish_getitem : Stmt := inClass (top 23) 5
abbrev N_Wish_getitem : List Str := ["self", "at", "column", "state", "letter"]
theorem sc_Wish_getitem : FnScope N_Wish_getitem ["self", "at"] (defScope s_Wish_getitem) := ⟨rfl, rfl, rfl, by decide +kernel, rfl, by decide +kernel, by decide +kernel⟩
section
variable {P : Program} {w : World} {K : PySem.W.Frag} {mg : Str → Option Value} {base : Heap}
theorem ok_Wish_getitem {C_Wish f_Wish_getitem : Addr} {fd_Wish_getitem : FuncData} (F_Wish_getitem : Fun K "__getitem__" "Wish.__getitem__" s_Wish_getitem f_Wish_getitem fd_Wish_getitem) (T : Bt mg) (cl_Wish : Cls K C_Wish) (q_Wish_column : MCal P w K mg base C_Wish "column" 1 ["self", "state", "letter"] (sp_Wish_column K C_Wish)) (tx : WTxt K C_Wish) : FnOk P w K mg base CX0 2 f_Wish_getitem fd_Wish_getitem ["self", "at"] (sp_Wish_getitem K C_Wish) := by
  refine F_Wish_getitem.ok sc_Wish_getitem (fun vs H Q E h => by obtain ⟨_, _, _, _, _, _, hv, _⟩ := h; exact hv.len) (fun cdv A outer s H vs Q E hr h => ?_)
  have hu := hu_of hr
  exact ⟨t_Wish_getitem K C_Wish, pss_cons (ps_asg (pv 1) (pg_tup rfl (pgs_cons (pg_name (i := 3) sc_Wish_getitem.nd rfl (Or.inl rfl)) (pgs_cons (pg_name (i := 4) sc_Wish_getitem.nd rfl (Or.inl rfl)) (pgs_nil))))) (
    pss_cons (ps_set (i := 2) sc_Wish_getitem.nd rfl (Or.inl rfl) (pe_mcal (pv 0) cl_Wish q_Wish_column (hr.mono (by decide)) (pa_cons (pv 3) (pa_cons (pv 4) (pa_nil))))) (
    pss_one (ps_ret (pe_ix ix_seq (pe_ix ix_seq (pe_fld (pv 0) rfl) (pv 3) (fun _ _ => rfl)) (pv 2) (fun _ _ => rfl))))), rd_Wish_getitem tx h⟩
end
abbrev s_Wish_marked : Stmt := inClass (top 23) 7
abbrev N_Wish_marked : List Str := ["self", "state", "letter", "column"]
theorem sc_Wish_marked : FnScope N_Wish_marked ["self", "state", "letter"] (defScope s_Wish_marked) := ⟨rfl, rfl, rfl, by decide +kernel, rfl, by decide +kernel, by decide +kernel⟩
section
variable {P : Program} {w : World} {K : PySem.W.Frag} {mg : Str → Option Value} {base : Heap}
theorem ok_Wish_marked {C_Wish f_Wish_marked : Addr} {fd_Wish_marked : FuncData} (F_Wish_marked : Fun K "marked" "Wish.marked" s_Wish_marked f_Wish_marked fd_Wish_marked) (T : Bt mg) (cl_Wish : Cls K C_Wish) (q_Wish_column : MCal P w K mg base C_Wish "column" 1 ["self", "state", "letter"] (sp_Wish_column K C_Wish)) (tx : WTxt K C_Wish) : FnOk P w K mg base CX0 2 f_Wish_marked fd_Wish_marked ["self", "state", "letter"] (sp_Wish_marked K C_Wish) := by
  refine F_Wish_marked.ok sc_Wish_marked (fun vs H Q E h => by obtain ⟨_, _, _, _, _, _, hv, _⟩ := h; exact hv.len) (fun cdv A outer s H vs Q E hr h => ?_)
  have hu := hu_of hr
  exact ⟨t_Wish_marked K C_Wish, pss_cons (ps_set (i := 3) sc_Wish_marked.nd rfl (Or.inl rfl) (pe_mcal (pv 0) cl_Wish q_Wish_column (hr.mono (by decide)) (pa_cons (pv 1) (pa_cons (pv 2) (pa_nil))))) (
    pss_one (ps_ret (pe_ix ix_seq (pe_ix ix_seq (pe_fld (pv 0) rfl) (pv 1) (fun _ _ => rfl)) (pv 3) (fun _ _ => rfl)))), rd_Wish_marked tx h⟩
end
abbrev s_law_fits : Stmt := top 32
abbrev N_law_fits : List Str := ["_law_wish", "_law_m", "_law_s", "_law_c", "_law_target", "_law_marked"]
theorem sc_law_fits : FnScope N_law_fits ["_law_wish", "_law_m"] (defScope s_law_fits) := ⟨rfl, rfl, rfl, by decide +kernel, rfl, by decide +kernel, by decide +kernel⟩
section
variable {P : Program} {w : World} {K : PySem.W.Frag} {mg : Str → Option Value} {base : Heap}
theorem ok_law_fits {C_Wish f_law_fits : Addr} {fd_law_fits : FuncData} (F_law_fits : Fun K "_law_fits" "_law_fits" s_law_fits f_law_fits fd_law_fits) (T : Bt mg) (c_law_is_int : Cal P w K mg base "_law_is_int" 1 ["_law_x"] (sp_law_is_int K)) (cl_Wish : Cls K C_Wish) (gq_Wish_getitem : GCal P w K mg base C_Wish "__getitem__" 2 ["self", "at"] (sp_Wish_getitem K C_Wish)) (q_Wish_marked : MCal P w K mg base C_Wish "marked" 2 ["self", "state", "letter"] (sp_Wish_marked K C_Wish)) (tx : WTxt K C_Wish) : FnOk P w K mg base CX0 4 f_law_fits fd_law_fits ["_law_wish", "_law_m"] (sp_law_fits K C_Wish) := by
  refine F_law_fits.ok sc_law_fits (fun vs H Q E h => by obtain ⟨_, _, _, _, hv, _⟩ := h; exact hv.len) (fun cdv A outer s H vs Q E hr h => ?_)
  have hu := hu_of hr
  exact ⟨t_law_fits K C_Wish, pss_cons (ps_if (PW.pt (pw_or (pt_not (pt_val (pe_callB call_isi (by rfl) T.b_isinstance (by decide +kernel) (pa_cons (pe_fld (pv 0) rfl) (pa_cons (pe_bltn rfl T.b_str (by decide +kernel) rfl) (pa_nil)))))) (pw_or1 (pt_cmpR (op_neD hr.units) (pe_fld (pv 0) rfl) (pe_ix ix_seq (pv 1) (pe_int) (fun _ _ => rfl)) (nomark _))))) (pss_one (ps_ret (pe_bl))) (pss_nil)) (
    pss_cons (ps_if (PW.pt (pw_or (pt_not (pt_val (pe_cal c_law_is_int (hr.mono (by decide)) rfl (pa_cons (pe_fld (pv 0) rfl) (pa_nil))))) (pw_or1 (pt_cmpR (op_neD hr.units) (pe_fld (pv 0) rfl) (pe_callB call_lenG (by rfl) T.b_len (by decide +kernel) (pa_cons (pe_ix ix_seq (pv 1) (pe_int) (fun _ _ => rfl)) (pa_nil))) (nomark _))))) (pss_one (ps_ret (pe_bl))) (pss_nil)) (
    pss_cons (ps_if (PW.pt (pw_or (pt_not (pt_val (pe_cal c_law_is_int (hr.mono (by decide)) rfl (pa_cons (pe_fld (pv 0) rfl) (pa_nil))))) (pw_or1 (pt_cmpR (op_neD hr.units) (pe_fld (pv 0) rfl) (pe_ix ix_seq (pv 1) (pe_int) (fun _ _ => rfl)) (nomark _))))) (pss_one (ps_ret (pe_bl))) (pss_nil)) (
    pss_cons (ps_for PassesOwn.never rfl (pi_range1 (by rfl) T.b_range (pa_cons (pe_callB call_lenG (by rfl) T.b_len (by decide +kernel) (pa_cons (pe_ix ix_seq (pv 1) (pe_int) (fun _ _ => rfl)) (pa_nil))) (pa_nil))) (pg_name (i := 2) sc_law_fits.nd rfl (Or.inl rfl)) (pss_one (ps_for PassesOwn.never rfl (pi_range1 (by rfl) T.b_range (pa_cons (pe_callB call_lenG (by rfl) T.b_len (by decide +kernel) (pa_cons (pe_ix ix_seq (pv 1) (pe_int) (fun _ _ => rfl)) (pa_nil))) (pa_nil))) (pg_name (i := 3) sc_law_fits.nd rfl (Or.inl rfl)) (pss_cons (ps_set (i := 4) sc_law_fits.nd rfl (Or.inl rfl) (pe_getOwn (pv 0) (pe_tup (pa_cons (pv 2) (pa_cons (pe_ix ix_seq (pe_ix ix_seq (pv 1) (pe_int) (fun _ _ => rfl)) (pv 3) (fun _ _ => rfl)) (pa_nil)))) cl_Wish gq_Wish_getitem (hr.mono (by decide)) (fun _ _ => by with_unfolding_all rfl))) (
    pss_cons (ps_set (i := 5) sc_law_fits.nd rfl (Or.inl rfl) (pe_mcal (pv 0) cl_Wish q_Wish_marked (hr.mono (by decide)) (pa_cons (pv 2) (pa_cons (pe_ix ix_seq (pe_ix ix_seq (pv 1) (pe_int) (fun _ _ => rfl)) (pv 3) (fun _ _ => rfl)) (pa_nil))))) (
    pss_cons (ps_if (PW.pt (pw_or (pt_not (pt_val (pe_cal c_law_is_int (hr.mono (by decide)) rfl (pa_cons (pv 4) (pa_nil))))) (pw_or1 (pt_cmpR (op_neD hr.units) (pv 4) (pe_ix ix_seq (pe_ix ix_seq (pe_ix ix_seq (pv 1) (pe_int) (fun _ _ => rfl)) (pv 2) (fun _ _ => rfl)) (pv 3) (fun _ _ => rfl)) (nomark _))))) (pss_one (ps_ret (pe_bl))) (pss_nil)) (
    pss_one (ps_if (PW.pt (pw_or (pt_not (pt_val (pe_callB call_isi (by rfl) T.b_isinstance (by decide +kernel) (pa_cons (pv 5) (pa_cons (pe_bltn rfl T.b_bool (by decide +kernel) rfl) (pa_nil)))))) (pw_or1 (pt_cmpR (op_neD hr.units) (pv 5) (pe_ix ix_seq (pe_ix ix_seq (pe_ix ix_seq (pv 1) (pe_int) (fun _ _ => rfl)) (pv 2) (fun _ _ => rfl)) (pv 3) (fun _ _ => rfl)) (nomark _))))) (pss_one (ps_ret (pe_bl))) (pss_nil))))))))) (
    pss_one (ps_ret (pe_bl)))))), rd_law_fits tx h⟩
end
abbrev s_Wish_lap : Stmt := inClass (top 23) 11
abbrev N_Wish_lap : List Str := ["self", "state", "word", "seen", "letter", "column"]
theorem sc_Wish_lap : FnScope N_Wish_lap ["self", "state", "word"] (defScope s_Wish_lap) := ⟨rfl, rfl, rfl, by decide +kernel, rfl, by decide +kernel, by decide +kernel⟩
section
variable {P : Program} {w : World} {K : PySem.W.Frag} {mg : Str → Option Value} {base : Heap}
theorem ok_Wish_lap {C_Wish f_Wish_lap : Addr} {fd_Wish_lap : FuncData} (F_Wish_lap : Fun K "lap" "Wish.lap" s_Wish_lap f_Wish_lap fd_Wish_lap) (T : Bt mg)  (tx : WTxt K C_Wish) : FnOk P w K mg base CX0 1 f_Wish_lap fd_Wish_lap ["self", "state", "word"] (sp_Wish_lap K C_Wish) := by
  refine F_Wish_lap.ok sc_Wish_lap (fun vs H Q E h => by obtain ⟨_, _, _, _, _, _, hv, _⟩ := h; exact hv.len) (fun cdv A outer s H vs Q E hr h => ?_)
  have hu := hu_of hr
  exact ⟨t_Wish_lap K C_Wish, pss_cons (ps_set (i := 3) sc_Wish_lap.nd rfl (Or.inl rfl) (pe_bl)) (
    pss_cons (ps_for PassesOwn.never rfl (pi_str (pv 2)) (pg_name (i := 4) sc_Wish_lap.nd rfl (Or.inl rfl)) (pss_cons (ps_if (pt_cmpR op_notInS (pv 4) (pe_fld (pv 0) rfl) (by with_unfolding_all rfl)) (pss_one (ps_never)) (pss_nil)) (
    pss_cons (ps_set (i := 5) sc_Wish_lap.nd rfl (Or.inl rfl) (pe_bm PySem.F.plainAttrs_str PySem.F.slot_str_index PySem.F.type_str_index mt_sindex (pe_fld (pv 0) rfl) (pa_cons (pv 4) (pa_nil)))) (
    pss_cons (ps_set (i := 3) sc_Wish_lap.nd rfl (Or.inl rfl) (pe_or (pv 3) (pe_one (pe_ix ix_seq (pe_ix ix_seq (pe_fld (pv 0) rfl) (pv 1) (fun _ _ => rfl)) (pv 5) (fun _ _ => rfl))))) (
    pss_one (ps_set (i := 1) sc_Wish_lap.nd rfl (Or.inl rfl) (pe_ix ix_seq (pe_ix ix_seq (pe_fld (pv 0) rfl) (pv 1) (fun _ _ => rfl)) (pv 5) (fun _ _ => rfl)))))))) (
    pss_one (ps_ret (pe_tup (pa_cons (pv 1) (pa_cons (pv 3) (pa_nil))))))), rd_Wish_lap tx h⟩
end
abbrev s_Wish_reach : Stmt := inClass (top 23) 12
abbrev N_Wish_reach : List Str := ["self", "word"]
theorem sc_Wish_reach : FnScope N_Wish_reach ["self", "word"] (defScope s_Wish_reach) := ⟨rfl, rfl, rfl, by decide +kernel, rfl, by decide +kernel, by decide +kernel⟩
section
variable {P : Program} {w : World} {K : PySem.W.Frag} {mg : Str → Option Value} {base : Heap}
theorem ok_Wish_reach {C_Wish f_Wish_reach : Addr} {fd_Wish_reach : FuncData} (F_Wish_reach : Fun K "reach" "Wish.reach" s_Wish_reach f_Wish_reach fd_Wish_reach) (T : Bt mg) (cl_Wish : Cls K C_Wish) (q_Wish_lap : MCal P w K mg base C_Wish "lap" 1 ["self", "state", "word"] (sp_Wish_lap K C_Wish)) (tx : WTxt K C_Wish) : FnOk P w K mg base CX0 2 f_Wish_reach fd_Wish_reach ["self", "word"] (sp_Wish_reach K C_Wish) := by
  refine F_Wish_reach.ok sc_Wish_reach (fun vs H Q E h => by obtain ⟨_, _, _, _, _, hv, _⟩ := h; exact hv.len) (fun cdv A outer s H vs Q E hr h => ?_)
  have hu := hu_of hr
  exact ⟨t_Wish_reach K C_Wish, pss_one (ps_ret (pe_ix ix_seq (pe_mcal (pv 0) cl_Wish q_Wish_lap (hr.mono (by decide)) (pa_cons (pe_fld (pv 0) rfl) (pa_cons (pv 1) (pa_nil)))) (pe_int) (fun _ _ => rfl))), rd_Wish_reach tx h⟩
end
abbrev s_law_lap : Stmt := top 30
abbrev N_law_lap : List Str := ["_law_m", "_law_state", "_law_word_here", "_law_seen", "_law_letter", "_law_c"]
theorem sc_law_lap : FnScope N_law_lap ["_law_m", "_law_state", "_law_word_here"] (defScope s_law_lap) := ⟨rfl, rfl, rfl, by decide +kernel, rfl, by decide +kernel, by decide +kernel⟩
section
variable {P : Program} {w : World} {K : PySem.W.Frag} {mg : Str → Option Value} {base : Heap}
theorem ok_law_lap { f_law_lap : Addr} {fd_law_lap : FuncData} (F_law_lap : Fun K "_law_lap" "_law_lap" s_law_lap f_law_lap fd_law_lap) (T : Bt mg)   : FnOk P w K mg base CX0 1 f_law_lap fd_law_lap ["_law_m", "_law_state", "_law_word_here"] (sp_law_lap K) := by
  refine F_law_lap.ok sc_law_lap (fun vs H Q E h => by obtain ⟨_, _, _, _, _, hv, _⟩ := h; exact hv.len) (fun cdv A outer s H vs Q E hr h => ?_)
  have hu := hu_of hr
  exact ⟨t_law_lap K, pss_cons (ps_set (i := 3) sc_law_lap.nd rfl (Or.inl rfl) (pe_bl)) (
    pss_cons (ps_for PassesOwn.never rfl (pi_str (pv 2)) (pg_name (i := 4) sc_law_lap.nd rfl (Or.inl rfl)) (pss_cons (ps_set (i := 5) sc_law_lap.nd rfl (Or.inl rfl) (pe_bm PySem.F.plainAttrs_str PySem.F.slot_str_index PySem.F.type_str_index mt_sindex (pe_str) (pa_cons (pv 4) (pa_nil)))) (
    pss_cons (ps_set (i := 3) sc_law_lap.nd rfl (Or.inl rfl) (pe_or (pv 3) (pe_one (pe_ix ix_seq (pe_ix ix_seq (pe_ix ix_seq (pv 0) (pe_int) (fun _ _ => rfl)) (pv 1) (fun _ _ => rfl)) (pv 5) (fun _ _ => rfl))))) (
    pss_one (ps_set (i := 1) sc_law_lap.nd rfl (Or.inl rfl) (pe_ix ix_seq (pe_ix ix_seq (pe_ix ix_seq (pv 0) (pe_int) (fun _ _ => rfl)) (pv 1) (fun _ _ => rfl)) (pv 5) (fun _ _ => rfl))))))) (
    pss_one (ps_ret (pe_lst (pa_cons (pv 1) (pa_cons (pv 3) (pa_nil))))))), rd_law_lap h⟩
end
abbrev s_Wish_marks : Stmt := inClass (top 23) 8
abbrev N_Wish_marks : List Str := ["self", "columns", "state", "k", "letter"]
theorem sc_Wish_marks : FnScope N_Wish_marks ["self"] (defScope s_Wish_marks) := ⟨rfl, rfl, rfl, by decide +kernel, rfl, by decide +kernel, by decide +kernel⟩
section
variable {P : Program} {w : World} {K : PySem.W.Frag} {mg : Str → Option Value} {base : Heap}
theorem ok_Wish_marks {C_Wish f_Wish_marks : Addr} {fd_Wish_marks : FuncData} (F_Wish_marks : Fun K "marks" "Wish.marks" s_Wish_marks f_Wish_marks fd_Wish_marks) (T : Bt mg)  (tx : WTxt K C_Wish) : FnOk P w K mg base CX0 1 f_Wish_marks fd_Wish_marks ["self"] (sp_Wish_marks K C_Wish) := by
  refine F_Wish_marks.ok sc_Wish_marks (fun vs H Q E h => by obtain ⟨_, _, _, _, hv, _⟩ := h; exact hv.len) (fun cdv A outer s H vs Q E hr h => ?_)
  have hu := hu_of hr
  exact ⟨t_Wish_marks K C_Wish, pss_cons (ps_set (i := 1) sc_Wish_marks.nd rfl (Or.inr rfl) (pe_listEnumS rfl T.b_list rfl T.b_enumerate rfl (pe_fld (pv 0) rfl))) (
    pss_one (ps_ret (pe_lc2 (own := [(("state" : Str), 2), (("k" : Str), 3), (("letter" : Str), 4)]) (vs1 := [3, 4]) (g := gName 2) (g1 := gTup K 2 (gCons (gName 3) (gCons (gName 4) (gNil)))) rfl sc_Wish_marks.nd (pi_range1 (by rfl) T.b_range (pa_cons (pe_fld (pv 0) rfl) (pa_nil))) (blkOk_by (own := [(("state" : Str), 2), (("k" : Str), 3), (("letter" : Str), 4)]) (N := N_Wish_marks) (sc := defScope s_Wish_marks) (by decide +kernel)) (by decide) (fun _ _ _ _ _ => pg_name (i := 2) sc_Wish_marks.nd rfl (Or.inl rfl)) (fun _ _ _ _ _ => pts_nil) (fun _ _ _ _ _ => pi_list (pv 1)) (fun _ _ _ _ _ => pg_tup rfl (pgs_cons (pg_name (i := 3) sc_Wish_marks.nd rfl (Or.inl rfl)) (pgs_cons (pg_name (i := 4) sc_Wish_marks.nd rfl (Or.inl rfl)) (pgs_nil)))) (fun _ _ _ _ _ => pts_one (pt_val (pe_ix ix_seq (pe_ix ix_seq (pe_fld (pv 0) rfl) (pv 2) (fun _ _ => rfl)) (pv 3) (fun _ _ => rfl)))) (fun _ _ _ _ _ => pe_tup (pa_cons (pv 2) (pa_cons (pv 4) (pa_nil))))))), rd_Wish_marks tx h⟩
end
abbrev s_law_fits_marks : Stmt := top 33
abbrev N_law_fits_marks : List Str := ["_law_told", "_law_m", "_law_pair"]
theorem sc_law_fits_marks : FnScope N_law_fits_marks ["_law_told", "_law_m"] (defScope s_law_fits_marks) := ⟨rfl, rfl, rfl, by decide +kernel, rfl, by decide +kernel, by decide +kernel⟩
section
variable {P : Program} {w : World} {K : PySem.W.Frag} {mg : Str → Option Value} {base : Heap}
theorem ok_law_fits_marks { f_law_fits_marks : Addr} {fd_law_fits_marks : FuncData} (F_law_fits_marks : Fun K "_law_fits_marks" "_law_fits_marks" s_law_fits_marks f_law_fits_marks fd_law_fits_marks) (T : Bt mg) (c_law_is_int : Cal P w K mg base "_law_is_int" 1 ["_law_x"] (sp_law_is_int K)) (c_law_pairs : Cal P w K mg base "_law_pairs" 1 ["_law_m"] (sp_law_pairs K))  : FnOk P w K mg base CX0 2 f_law_fits_marks fd_law_fits_marks ["_law_told", "_law_m"] (sp_law_fits_marks K) := by
  refine F_law_fits_marks.ok sc_law_fits_marks (fun vs H Q E h => by obtain ⟨_, _, _, hv, _⟩ := h; exact hv.len) (fun cdv A outer s H vs Q E hr h => ?_)
  have hu := hu_of hr
  exact ⟨t_law_fits_marks K, pss_cons (ps_if (pt_not (pt_val (pe_callB call_isi (by rfl) T.b_isinstance (by decide +kernel) (pa_cons (pv 0) (pa_cons (pe_bltn rfl T.b_list (by decide +kernel) rfl) (pa_nil)))))) (pss_one (ps_ret (pe_bl))) (pss_nil)) (
    pss_cons (ps_for PassesOwn.never rfl (pi_list (pv 0)) (pg_name (i := 2) sc_law_fits_marks.nd rfl (Or.inl rfl)) (pss_one (ps_if (PW.pt (pw_or (pt_not (pt_val (pe_callB call_isi (by rfl) T.b_isinstance (by decide +kernel) (pa_cons (pv 2) (pa_cons (pe_bltn rfl T.b_tuple (by decide +kernel) rfl) (pa_nil)))))) (pw_or (pt_cmpR (op_neD hr.units) (pe_callB call_lenG (by rfl) T.b_len (by decide +kernel) (pa_cons (pv 2) (pa_nil))) (pe_int) (nomark _)) (pw_or1 (pt_not (pt_val (pe_cal c_law_is_int (hr.mono (by decide)) rfl (pa_cons (pe_ix ix_seq (pv 2) (pe_int) (fun _ _ => rfl)) (pa_nil))))))))) (pss_one (ps_ret (pe_bl))) (pss_nil)))) (
    pss_one (ps_ret (pe_cmpR (op_eqD hr.units) (pv 0) (pe_cal c_law_pairs (hr.mono (by decide)) rfl (pa_cons (pv 1) (pa_nil))) (nomark _))))), rd_law_fits_marks h⟩
end
abbrev s_law : Stmt := top 34
abbrev N_law : List Str := ["_law_script", "_law_m", "_law_wish", "_law_word_here", "_law_k", "_law_longest", "_law_told", "_law_state"]
theorem sc_law : FnScope N_law ["_law_script"] (defScope s_law) := ⟨rfl, rfl, rfl, by decide +kernel, rfl, by decide +kernel, by decide +kernel⟩
section
variable {P : Program} {w : World} {K : PySem.W.Frag} {mg : Str → Option Value} {base : Heap}
theorem ok_law {C_Wish f_law : Addr} {fd_law : FuncData} (F_law : Fun K "law" "law" s_law f_law fd_law) (T : Bt mg) (c_law_draws : Cal P w K mg base "_law_draws" 1 ["_law_script", "_law_k", "_law_many"] (sp_law_draws K)) (c_law_machine : Cal P w K mg base "_law_machine" 1 ["_law_row", "_law_top"] (sp_law_machine K)) (c_law_made : Cal P w K mg base "_law_made" 4 ["_law_m"] (sp_law_made K C_Wish)) (c_law_word : Cal P w K mg base "_law_word" 1 ["_law_row", "_law_letters", "_law_top"] (sp_law_word K)) (c_law_fits : Cal P w K mg base "_law_fits" 4 ["_law_wish", "_law_m"] (sp_law_fits K C_Wish)) (cl_Wish : Cls K C_Wish) (q_Wish_reach : MCal P w K mg base C_Wish "reach" 2 ["self", "word"] (sp_Wish_reach K C_Wish)) (c_law_is_int : Cal P w K mg base "_law_is_int" 1 ["_law_x"] (sp_law_is_int K)) (c_law_lap : Cal P w K mg base "_law_lap" 1 ["_law_m", "_law_state", "_law_word_here"] (sp_law_lap K)) (pq_Wish_marks : PCal P w K mg base C_Wish "marks" 1 ["self"] (sp_Wish_marks K C_Wish)) (c_law_fits_marks : Cal P w K mg base "_law_fits_marks" 2 ["_law_told", "_law_m"] (sp_law_fits_marks K)) (tx : WTxt K C_Wish) : FnOk P w K mg base CX0 5 f_law fd_law ["_law_script"] (sp_law K C_Wish) := by
  refine F_law.ok sc_law (fun vs H Q E h => by obtain ⟨_, hv, _⟩ := h; exact hv.len) (fun cdv A outer s H vs Q E hr h => ?_)
  have hu := hu_of hr
  exact ⟨t_law K C_Wish, pss_cons (ps_set (i := 1) sc_law.nd rfl (Or.inl rfl) (pe_cal c_law_machine (hr.mono (by decide)) rfl (pa_cons (pe_cal c_law_draws (hr.mono (by decide)) rfl (pa_cons (pv 0) (pa_cons (pe_int) (pa_cons (pe_int) (pa_nil))))) (pa_cons (pe_int) (pa_nil))))) (
    pss_cons (ps_set (i := 2) sc_law.nd rfl (Or.inl rfl) (pe_cal c_law_made (hr.mono (by decide)) rfl (pa_cons (pv 1) (pa_nil)))) (
    pss_cons (ps_set (i := 3) sc_law.nd rfl (Or.inl rfl) (pe_cal c_law_word (hr.mono (by decide)) rfl (pa_cons (pe_cal c_law_draws (hr.mono (by decide)) rfl (pa_cons (pv 0) (pa_cons (pe_int) (pa_cons (pe_int) (pa_nil))))) (pa_cons (pe_ix ix_seq (pv 1) (pe_int) (fun _ _ => rfl)) (pa_cons (pe_int) (pa_nil)))))) (
    pss_cons (ps_if (pt_not (pt_val (pe_cal c_law_fits (hr.mono (by decide)) rfl (pa_cons (pv 2) (pa_cons (pv 1) (pa_nil)))))) (pss_one (ps_ret (pe_bl))) (pss_nil)) (
    pss_cons (ps_for PassesOwn.never rfl (pi_range1 (by rfl) T.b_range (pa_cons (pe_op op_add (pe_callB call_lenG (by rfl) T.b_len (by decide +kernel) (pa_cons (pv 3) (pa_nil))) (pe_int)) (pa_nil))) (pg_name (i := 4) sc_law.nd rfl (Or.inl rfl)) (pss_cons (ps_set (i := 7) sc_law.nd rfl (Or.inl rfl) (pe_mcal (pv 2) cl_Wish q_Wish_reach (hr.mono (by decide)) (pa_cons (pe_slice sl_str (pv 3) (po_none) (po_some (pv 4))) (pa_nil)))) (
    pss_one (ps_if (PW.pt (pw_or (pt_not (pt_val (pe_cal c_law_is_int (hr.mono (by decide)) rfl (pa_cons (pv 7) (pa_nil))))) (pw_or1 (pt_cmpR (op_neD hr.units) (pv 7) (pe_ix ix_seq (pe_cal c_law_lap (hr.mono (by decide)) rfl (pa_cons (pv 1) (pa_cons (pe_ix ix_seq (pv 1) (pe_int) (fun _ _ => rfl)) (pa_cons (pe_slice sl_str (pv 3) (po_none) (po_some (pv 4))) (pa_nil))))) (pe_int) (fun _ _ => rfl)) (nomark _))))) (pss_one (ps_ret (pe_bl))) (pss_nil))))) (
    pss_cons (ps_set (i := 5) sc_law.nd rfl (Or.inl rfl) (pe_slice sl_str (pe_op op_mulS (pe_op op_add_str (pv 3) (pe_ix ix_seq (pv 1) (pe_int) (fun _ _ => rfl))) (pe_int)) (po_none) (po_some (pe_int)))) (
    pss_cons (ps_if (pt_cmpR (op_neD hr.units) (pe_mcal (pv 2) cl_Wish q_Wish_reach (hr.mono (by decide)) (pa_cons (pv 5) (pa_nil))) (pe_ix ix_seq (pe_cal c_law_lap (hr.mono (by decide)) rfl (pa_cons (pv 1) (pa_cons (pe_ix ix_seq (pv 1) (pe_int) (fun _ _ => rfl)) (pa_cons (pv 5) (pa_nil))))) (pe_int) (fun _ _ => rfl)) (nomark _)) (pss_one (ps_ret (pe_bl))) (pss_nil)) (
    pss_cons (ps_set (i := 6) sc_law.nd rfl (Or.inl rfl) (pe_pcal (pv 2) cl_Wish pq_Wish_marks (hr.mono (by decide)) rfl)) (
    pss_cons (ps_if (pt_not (pt_val (pe_cal c_law_fits_marks (hr.mono (by decide)) rfl (pa_cons (pv 6) (pa_cons (pv 1) (pa_nil)))))) (pss_one (ps_ret (pe_bl))) (pss_nil)) (
    pss_cons (ps_expr (pe_bm PySem.F.plainAttrs_list PySem.F.slot_list_append PySem.F.type_list_append mt_append (pv 6) (pa_cons (pe_tup (pa_cons (pe_int) (pa_cons (pe_str) (pa_nil)))) (pa_nil)))) (
    pss_one (ps_ret (pe_and (pe_cal c_law_fits_marks (hr.mono (by decide)) rfl (pa_cons (pe_pcal (pv 2) cl_Wish pq_Wish_marks (hr.mono (by decide)) rfl) (pa_cons (pv 1) (pa_nil)))) (pe_one (pe_cal c_law_fits (hr.mono (by decide)) rfl (pa_cons (pv 2) (pa_cons (pv 1) (pa_nil))))))))))))))))), rd_law tx h⟩
end
theorem hA_of {K : PySem.W.Frag} {c : Addr} {od : Option Addr} {n : Nat} {sl : Array (Option Value)} {t0 t1 t2 t3 : Tok} (h : K.lookup c = some ⟨.type "tuple", od, .seq #[.str "a" t0, .str "ab" t1, .str "abc" t2, .str "abcd" t3] n, sl⟩) : Is K H0 (.ref c) (.t (alphs.map D.s)) := by
  have e : alphs = (["a", "ab", "abc", "abcd"] : List Str) := by decide +kernel
  rw [e]
  have v : Vals [V.str "a", V.str "ab", V.str "abc", V.str "abcd"] [.str "a" t0, .str "ab" t1, .str "abc" t2, .str "abcd" t3] := .cons (a := V.str "a") ⟨t0, rfl⟩ (.cons (a := V.str "ab") ⟨t1, rfl⟩ (.cons (a := V.str "abc") ⟨t2, rfl⟩ (.cons (a := V.str "abcd") ⟨t3, rfl⟩ .nil)))
  exact .t (.inr ⟨_, _, n, h, rfl, rfl, sz_of (by decide : 4 ≤ 100000), v⟩) (.cons (.v _) (.cons (.v _) (.cons (.v _) (.cons (.v _) .nil))))
def sp_top (K : PySem.W.Frag) : Sp := fun vs H Q _ => ∃ ns : List Int, IsL K H vs [dInts ns] ∧ ns.length ≤ 63 ∧ ∀ H', Q (.bl true) H'
theorem all_mk {l : PySem.W.OpenLaw} {w : World} {K : PySem.W.Frag} {h : Heap} {mg : Str → Option Value} {fa C_Wish c_ALPHABETS f_law_draws f_law_machine f_law_pairs f_flag_table f_Wish_init dt_Wish_init dk_Wish_init c_empty f_law_made f_law_word f_law_is_int f_Wish_column f_Wish_getitem f_Wish_marked f_law_fits f_Wish_lap f_Wish_reach f_law_lap f_Wish_marks p_Wish_marks f_law_fits_marks f_law : Addr} (X : K.In h) (G : h.Ns mainGlobals mg) (hfa : mg "law" = some (.ref fa))
    {oo_ALPHABETS : Option Addr} {nn_ALPHABETS : Nat} {ss_ALPHABETS : Array (Option Value)}
    {e_ALPHABETS_0 : Tok}
    {e_ALPHABETS_1 : Tok}
    {e_ALPHABETS_2 : Tok}
    {e_ALPHABETS_3 : Tok}
    {k_MOST_STATES_wishes : Tok}
    {od_law_draws an_law_draws : Option Addr} {sl_law_draws : Array (Option Value)} {oc_law_draws kV_law_draws dc_law_draws pm_law_draws cd_law_draws ct_law_draws : Value}
    {od_law_machine an_law_machine : Option Addr} {sl_law_machine : Array (Option Value)} {oc_law_machine kV_law_machine dc_law_machine pm_law_machine cd_law_machine ct_law_machine : Value}
    {od_law_pairs an_law_pairs : Option Addr} {sl_law_pairs : Array (Option Value)} {oc_law_pairs kV_law_pairs dc_law_pairs pm_law_pairs cd_law_pairs ct_law_pairs : Value}
    {od_flag_table an_flag_table : Option Addr} {sl_flag_table : Array (Option Value)} {oc_flag_table kV_flag_table dc_flag_table pm_flag_table cd_flag_table ct_flag_table : Value}
    {od_Wish_init an_Wish_init : Option Addr} {sl_Wish_init : Array (Option Value)} {oc_Wish_init dc_Wish_init pm_Wish_init cd_Wish_init ct_Wish_init : Value}
    {oT_Wish_init : Value} {pT_Wish_init : Option Addr} {nT_Wish_init : Nat} {sT_Wish_init : Array (Option Value)}
    {kt_Wish_init_start : Tok}
    {od_law_made an_law_made : Option Addr} {sl_law_made : Array (Option Value)} {oc_law_made kV_law_made dc_law_made pm_law_made cd_law_made ct_law_made : Value}
    {od_law_word an_law_word : Option Addr} {sl_law_word : Array (Option Value)} {oc_law_word kV_law_word dc_law_word pm_law_word cd_law_word ct_law_word : Value}
    {od_law_is_int an_law_is_int : Option Addr} {sl_law_is_int : Array (Option Value)} {oc_law_is_int kV_law_is_int dc_law_is_int pm_law_is_int cd_law_is_int ct_law_is_int : Value}
    {od_Wish_column an_Wish_column : Option Addr} {sl_Wish_column : Array (Option Value)} {oc_Wish_column kV_Wish_column dc_Wish_column pm_Wish_column cd_Wish_column ct_Wish_column : Value}
    {od_Wish_getitem an_Wish_getitem : Option Addr} {sl_Wish_getitem : Array (Option Value)} {oc_Wish_getitem kV_Wish_getitem dc_Wish_getitem pm_Wish_getitem cd_Wish_getitem ct_Wish_getitem : Value}
    {od_Wish_marked an_Wish_marked : Option Addr} {sl_Wish_marked : Array (Option Value)} {oc_Wish_marked kV_Wish_marked dc_Wish_marked pm_Wish_marked cd_Wish_marked ct_Wish_marked : Value}
    {od_law_fits an_law_fits : Option Addr} {sl_law_fits : Array (Option Value)} {oc_law_fits kV_law_fits dc_law_fits pm_law_fits cd_law_fits ct_law_fits : Value}
    {od_Wish_lap an_Wish_lap : Option Addr} {sl_Wish_lap : Array (Option Value)} {oc_Wish_lap kV_Wish_lap dc_Wish_lap pm_Wish_lap cd_Wish_lap ct_Wish_lap : Value}
    {od_Wish_reach an_Wish_reach : Option Addr} {sl_Wish_reach : Array (Option Value)} {oc_Wish_reach kV_Wish_reach dc_Wish_reach pm_Wish_reach cd_Wish_reach ct_Wish_reach : Value}
    {od_law_lap an_law_lap : Option Addr} {sl_law_lap : Array (Option Value)} {oc_law_lap kV_law_lap dc_law_lap pm_law_lap cd_law_lap ct_law_lap : Value}
    {od_Wish_marks an_Wish_marks : Option Addr} {sl_Wish_marks : Array (Option Value)} {oc_Wish_marks kV_Wish_marks dc_Wish_marks pm_Wish_marks cd_Wish_marks ct_Wish_marks : Value}
    {rr_Wish_marks : List Value}
    {od_law_fits_marks an_law_fits_marks : Option Addr} {sl_law_fits_marks : Array (Option Value)} {oc_law_fits_marks kV_law_fits_marks dc_law_fits_marks pm_law_fits_marks cd_law_fits_marks ct_law_fits_marks : Value}
    {od_law an_law : Option Addr} {sl_law : Array (Option Value)} {oc_law kV_law dc_law pm_law cd_law ct_law : Value}
    (aC_Wish : PySem.W.nsIn K mainGlobals "Wish" = some (some (.ref C_Wish)))
    (pg_Wish : PySem.W.plainGet K C_Wish Str.empty = true)
    (hd_Wish : PySem.W.hasDictIn K C_Wish = true)
    (po_Wish : PySem.W.plainOver K C_Wish = true)
    (sa_Wish : PySem.W.findIn K (.ref C_Wish) "__setattr__" = some (some (.builtin "object.__setattr__")))
    (n_Wish_flags : PySem.W.findIn K (.ref C_Wish) "flags" = some none)
    (n_Wish_letters : PySem.W.findIn K (.ref C_Wish) "letters" = some none)
    (n_Wish_size : PySem.W.findIn K (.ref C_Wish) "size" = some none)
    (n_Wish_start : PySem.W.findIn K (.ref C_Wish) "start" = some none)
    (n_Wish_targets : PySem.W.findIn K (.ref C_Wish) "targets" = some none)
    (i_ALPHABETS : PySem.W.nsIn K mainGlobals "ALPHABETS" = some (some (.ref c_ALPHABETS)))
    (l_ALPHABETS : K.lookup c_ALPHABETS = some ⟨.type "tuple", oo_ALPHABETS, .seq #[.str "a" e_ALPHABETS_0, .str "ab" e_ALPHABETS_1, .str "abc" e_ALPHABETS_2, .str "abcd" e_ALPHABETS_3] nn_ALPHABETS, ss_ALPHABETS⟩)
    (i_MOST_STATES_wishes : PySem.W.nsIn K mainGlobals "MOST_STATES_wishes" = some (some (.int 8 k_MOST_STATES_wishes)))
    (z_len : PySem.W.nsIn K mainGlobals "len" = some none)
    (z_int : PySem.W.nsIn K mainGlobals "int" = some none)
    (z_str : PySem.W.nsIn K mainGlobals "str" = some none)
    (z_range : PySem.W.nsIn K mainGlobals "range" = some none)
    (z_abs : PySem.W.nsIn K mainGlobals "abs" = some none)
    (z_min : PySem.W.nsIn K mainGlobals "min" = some none)
    (z_list : PySem.W.nsIn K mainGlobals "list" = some none)
    (z_isinstance : PySem.W.nsIn K mainGlobals "isinstance" = some none)
    (z_sorted : PySem.W.nsIn K mainGlobals "sorted" = some none)
    (z_enumerate : PySem.W.nsIn K mainGlobals "enumerate" = some none)
    (z_zip : PySem.W.nsIn K mainGlobals "zip" = some none)
    (z_bool : PySem.W.nsIn K mainGlobals "bool" = some none)
    (z_dict : PySem.W.nsIn K mainGlobals "dict" = some none)
    (z_tuple : PySem.W.nsIn K mainGlobals "tuple" = some none)
    (z_max : PySem.W.nsIn K mainGlobals "max" = some none)
    (z_sum : PySem.W.nsIn K mainGlobals "sum" = some none)
    (z_all : PySem.W.nsIn K mainGlobals "all" = some none)
    (z_any : PySem.W.nsIn K mainGlobals "any" = some none)
    (a_law_draws : PySem.W.nsIn K mainGlobals "_law_draws" = some (some (.ref f_law_draws)))
    (l_law_draws : K.lookup f_law_draws = some ⟨oc_law_draws, od_law_draws, .func (PySem.W.fnOf "_law_draws" "_law_draws" (defArgs s_law_draws) (defBody s_law_draws) (defScope s_law_draws) .none kV_law_draws dc_law_draws pm_law_draws an_law_draws cd_law_draws ct_law_draws), sl_law_draws⟩)
    (c_law_draws : PySem.W.codeIn K cd_law_draws "_law_draws" = true)
    (k_law_draws : PySem.W.keepIn K (.ref f_law_draws) = true)
    (a_law_machine : PySem.W.nsIn K mainGlobals "_law_machine" = some (some (.ref f_law_machine)))
    (l_law_machine : K.lookup f_law_machine = some ⟨oc_law_machine, od_law_machine, .func (PySem.W.fnOf "_law_machine" "_law_machine" (defArgs s_law_machine) (defBody s_law_machine) (defScope s_law_machine) .none kV_law_machine dc_law_machine pm_law_machine an_law_machine cd_law_machine ct_law_machine), sl_law_machine⟩)
    (c_law_machine : PySem.W.codeIn K cd_law_machine "_law_machine" = true)
    (k_law_machine : PySem.W.keepIn K (.ref f_law_machine) = true)
    (a_law_pairs : PySem.W.nsIn K mainGlobals "_law_pairs" = some (some (.ref f_law_pairs)))
    (l_law_pairs : K.lookup f_law_pairs = some ⟨oc_law_pairs, od_law_pairs, .func (PySem.W.fnOf "_law_pairs" "_law_pairs" (defArgs s_law_pairs) (defBody s_law_pairs) (defScope s_law_pairs) .none kV_law_pairs dc_law_pairs pm_law_pairs an_law_pairs cd_law_pairs ct_law_pairs), sl_law_pairs⟩)
    (c_law_pairs : PySem.W.codeIn K cd_law_pairs "_law_pairs" = true)
    (k_law_pairs : PySem.W.keepIn K (.ref f_law_pairs) = true)
    (a_flag_table : PySem.W.nsIn K mainGlobals "flag_table" = some (some (.ref f_flag_table)))
    (l_flag_table : K.lookup f_flag_table = some ⟨oc_flag_table, od_flag_table, .func (PySem.W.fnOf "flag_table" "flag_table" (defArgs s_flag_table) (defBody s_flag_table) (defScope s_flag_table) .none kV_flag_table dc_flag_table pm_flag_table an_flag_table cd_flag_table ct_flag_table), sl_flag_table⟩)
    (c_flag_table : PySem.W.codeIn K cd_flag_table "flag_table" = true)
    (k_flag_table : PySem.W.keepIn K (.ref f_flag_table) = true)
    (a_Wish_init : PySem.W.findIn K (.ref C_Wish) "__init__" = some (some (.ref f_Wish_init)))
    (i_Wish_init : PySem.W.isFn K (.ref f_Wish_init) = true)
    (l_Wish_init : K.lookup f_Wish_init = some ⟨oc_Wish_init, od_Wish_init, .func (PySem.W.fnOf "__init__" "Wish.__init__" (defArgs s_Wish_init) (defBody s_Wish_init) (defScope s_Wish_init) (.ref dt_Wish_init) (.ref dk_Wish_init) dc_Wish_init pm_Wish_init an_Wish_init cd_Wish_init ct_Wish_init), sl_Wish_init⟩)
    (t_Wish_init : K.lookup dt_Wish_init = some ⟨oT_Wish_init, pT_Wish_init, .seq #[.ref c_empty] nT_Wish_init, sT_Wish_init⟩)
    (w_Wish_init_start : PySem.W.nsIn K dk_Wish_init "start" = some (some (.int 0 kt_Wish_init_start)))
    (c_Wish_init : PySem.W.codeIn K cd_Wish_init "Wish.__init__" = true)
    (k_Wish_init : PySem.W.keepIn K (.ref f_Wish_init) = true)
    (a_law_made : PySem.W.nsIn K mainGlobals "_law_made" = some (some (.ref f_law_made)))
    (l_law_made : K.lookup f_law_made = some ⟨oc_law_made, od_law_made, .func (PySem.W.fnOf "_law_made" "_law_made" (defArgs s_law_made) (defBody s_law_made) (defScope s_law_made) .none kV_law_made dc_law_made pm_law_made an_law_made cd_law_made ct_law_made), sl_law_made⟩)
    (c_law_made : PySem.W.codeIn K cd_law_made "_law_made" = true)
    (k_law_made : PySem.W.keepIn K (.ref f_law_made) = true)
    (a_law_word : PySem.W.nsIn K mainGlobals "_law_word" = some (some (.ref f_law_word)))
    (l_law_word : K.lookup f_law_word = some ⟨oc_law_word, od_law_word, .func (PySem.W.fnOf "_law_word" "_law_word" (defArgs s_law_word) (defBody s_law_word) (defScope s_law_word) .none kV_law_word dc_law_word pm_law_word an_law_word cd_law_word ct_law_word), sl_law_word⟩)
    (c_law_word : PySem.W.codeIn K cd_law_word "_law_word" = true)
    (k_law_word : PySem.W.keepIn K (.ref f_law_word) = true)
    (a_law_is_int : PySem.W.nsIn K mainGlobals "_law_is_int" = some (some (.ref f_law_is_int)))
    (l_law_is_int : K.lookup f_law_is_int = some ⟨oc_law_is_int, od_law_is_int, .func (PySem.W.fnOf "_law_is_int" "_law_is_int" (defArgs s_law_is_int) (defBody s_law_is_int) (defScope s_law_is_int) .none kV_law_is_int dc_law_is_int pm_law_is_int an_law_is_int cd_law_is_int ct_law_is_int), sl_law_is_int⟩)
    (c_law_is_int : PySem.W.codeIn K cd_law_is_int "_law_is_int" = true)
    (k_law_is_int : PySem.W.keepIn K (.ref f_law_is_int) = true)
    (a_Wish_column : PySem.W.findIn K (.ref C_Wish) "column" = some (some (.ref f_Wish_column)))
    (i_Wish_column : PySem.W.isFn K (.ref f_Wish_column) = true)
    (l_Wish_column : K.lookup f_Wish_column = some ⟨oc_Wish_column, od_Wish_column, .func (PySem.W.fnOf "column" "Wish.column" (defArgs s_Wish_column) (defBody s_Wish_column) (defScope s_Wish_column) .none kV_Wish_column dc_Wish_column pm_Wish_column an_Wish_column cd_Wish_column ct_Wish_column), sl_Wish_column⟩)
    (c_Wish_column : PySem.W.codeIn K cd_Wish_column "Wish.column" = true)
    (k_Wish_column : PySem.W.keepIn K (.ref f_Wish_column) = true)
    (a_Wish_getitem : PySem.W.findIn K (.ref C_Wish) "__getitem__" = some (some (.ref f_Wish_getitem)))
    (i_Wish_getitem : PySem.W.isFn K (.ref f_Wish_getitem) = true)
    (l_Wish_getitem : K.lookup f_Wish_getitem = some ⟨oc_Wish_getitem, od_Wish_getitem, .func (PySem.W.fnOf "__getitem__" "Wish.__getitem__" (defArgs s_Wish_getitem) (defBody s_Wish_getitem) (defScope s_Wish_getitem) .none kV_Wish_getitem dc_Wish_getitem pm_Wish_getitem an_Wish_getitem cd_Wish_getitem ct_Wish_getitem), sl_Wish_getitem⟩)
    (c_Wish_getitem : PySem.W.codeIn K cd_Wish_getitem "Wish.__getitem__" = true)
    (k_Wish_getitem : PySem.W.keepIn K (.ref f_Wish_getitem) = true)
    (a_Wish_marked : PySem.W.findIn K (.ref C_Wish) "marked" = some (some (.ref f_Wish_marked)))
    (i_Wish_marked : PySem.W.isFn K (.ref f_Wish_marked) = true)
    (l_Wish_marked : K.lookup f_Wish_marked = some ⟨oc_Wish_marked, od_Wish_marked, .func (PySem.W.fnOf "marked" "Wish.marked" (defArgs s_Wish_marked) (defBody s_Wish_marked) (defScope s_Wish_marked) .none kV_Wish_marked dc_Wish_marked pm_Wish_marked an_Wish_marked cd_Wish_marked ct_Wish_marked), sl_Wish_marked⟩)
    (c_Wish_marked : PySem.W.codeIn K cd_Wish_marked "Wish.marked" = true)
    (k_Wish_marked : PySem.W.keepIn K (.ref f_Wish_marked) = true)
    (a_law_fits : PySem.W.nsIn K mainGlobals "_law_fits" = some (some (.ref f_law_fits)))
    (l_law_fits : K.lookup f_law_fits = some ⟨oc_law_fits, od_law_fits, .func (PySem.W.fnOf "_law_fits" "_law_fits" (defArgs s_law_fits) (defBody s_law_fits) (defScope s_law_fits) .none kV_law_fits dc_law_fits pm_law_fits an_law_fits cd_law_fits ct_law_fits), sl_law_fits⟩)
    (c_law_fits : PySem.W.codeIn K cd_law_fits "_law_fits" = true)
    (k_law_fits : PySem.W.keepIn K (.ref f_law_fits) = true)
    (a_Wish_lap : PySem.W.findIn K (.ref C_Wish) "lap" = some (some (.ref f_Wish_lap)))
    (i_Wish_lap : PySem.W.isFn K (.ref f_Wish_lap) = true)
    (l_Wish_lap : K.lookup f_Wish_lap = some ⟨oc_Wish_lap, od_Wish_lap, .func (PySem.W.fnOf "lap" "Wish.lap" (defArgs s_Wish_lap) (defBody s_Wish_lap) (defScope s_Wish_lap) .none kV_Wish_lap dc_Wish_lap pm_Wish_lap an_Wish_lap cd_Wish_lap ct_Wish_lap), sl_Wish_lap⟩)
    (c_Wish_lap : PySem.W.codeIn K cd_Wish_lap "Wish.lap" = true)
    (k_Wish_lap : PySem.W.keepIn K (.ref f_Wish_lap) = true)
    (a_Wish_reach : PySem.W.findIn K (.ref C_Wish) "reach" = some (some (.ref f_Wish_reach)))
    (i_Wish_reach : PySem.W.isFn K (.ref f_Wish_reach) = true)
    (l_Wish_reach : K.lookup f_Wish_reach = some ⟨oc_Wish_reach, od_Wish_reach, .func (PySem.W.fnOf "reach" "Wish.reach" (defArgs s_Wish_reach) (defBody s_Wish_reach) (defScope s_Wish_reach) .none kV_Wish_reach dc_Wish_reach pm_Wish_reach an_Wish_reach cd_Wish_reach ct_Wish_reach), sl_Wish_reach⟩)
    (c_Wish_reach : PySem.W.codeIn K cd_Wish_reach "Wish.reach" = true)
    (k_Wish_reach : PySem.W.keepIn K (.ref f_Wish_reach) = true)
    (a_law_lap : PySem.W.nsIn K mainGlobals "_law_lap" = some (some (.ref f_law_lap)))
    (l_law_lap : K.lookup f_law_lap = some ⟨oc_law_lap, od_law_lap, .func (PySem.W.fnOf "_law_lap" "_law_lap" (defArgs s_law_lap) (defBody s_law_lap) (defScope s_law_lap) .none kV_law_lap dc_law_lap pm_law_lap an_law_lap cd_law_lap ct_law_lap), sl_law_lap⟩)
    (c_law_lap : PySem.W.codeIn K cd_law_lap "_law_lap" = true)
    (k_law_lap : PySem.W.keepIn K (.ref f_law_lap) = true)
    (a_Wish_marks : PySem.W.findIn K (.ref C_Wish) "marks" = some (some (.ref p_Wish_marks)))
    (pgt_Wish_marks : PySem.W.specialIn K (.ref p_Wish_marks) "__get__" = some (some (.builtin "property.__get__")))
    (ptk_Wish_marks : PySem.W.takesIn K (.ref p_Wish_marks) = some true)
    (prc_Wish_marks : PySem.W.recIn K p_Wish_marks "property" = some (.ref f_Wish_marks :: rr_Wish_marks))
    (l_Wish_marks : K.lookup f_Wish_marks = some ⟨oc_Wish_marks, od_Wish_marks, .func (PySem.W.fnOf "marks" "Wish.marks" (defArgs s_Wish_marks) (defBody s_Wish_marks) (defScope s_Wish_marks) .none kV_Wish_marks dc_Wish_marks pm_Wish_marks an_Wish_marks cd_Wish_marks ct_Wish_marks), sl_Wish_marks⟩)
    (c_Wish_marks : PySem.W.codeIn K cd_Wish_marks "Wish.marks" = true)
    (k_Wish_marks : PySem.W.keepIn K (.ref f_Wish_marks) = true)
    (a_law_fits_marks : PySem.W.nsIn K mainGlobals "_law_fits_marks" = some (some (.ref f_law_fits_marks)))
    (l_law_fits_marks : K.lookup f_law_fits_marks = some ⟨oc_law_fits_marks, od_law_fits_marks, .func (PySem.W.fnOf "_law_fits_marks" "_law_fits_marks" (defArgs s_law_fits_marks) (defBody s_law_fits_marks) (defScope s_law_fits_marks) .none kV_law_fits_marks dc_law_fits_marks pm_law_fits_marks an_law_fits_marks cd_law_fits_marks ct_law_fits_marks), sl_law_fits_marks⟩)
    (c_law_fits_marks : PySem.W.codeIn K cd_law_fits_marks "_law_fits_marks" = true)
    (k_law_fits_marks : PySem.W.keepIn K (.ref f_law_fits_marks) = true)
    (a_law : PySem.W.nsIn K mainGlobals "law" = some (some (.ref f_law)))
    (l_law : K.lookup f_law = some ⟨oc_law, od_law, .func (PySem.W.fnOf "law" "law" (defArgs s_law) (defBody s_law) (defScope s_law) .none kV_law dc_law pm_law an_law cd_law ct_law), sl_law⟩)
    (c_law : PySem.W.codeIn K cd_law "law" = true)
    (k_law : PySem.W.keepIn K (.ref f_law) = true)
    (mk_Wish : PySem.W.makesIn K C_Wish = true)
    (kc_Wish : PySem.W.keepIn K (.ref C_Wish) = true) :
    ∃ fd : FuncData, (∀ (s : Shared) (v : Value), BindsTo s fd ⟨[v], []⟩ [("_law_script", v)]) ∧ ∀ base : Heap, K.In base → base.Ns mainGlobals mg → FnOk l.prog w K mg base CX0 5 fa fd ["_law_script"] (sp_top K) := by
  have e := (PySem.W.mg_of X G a_law).symm.trans hfa
  cases e
  have cl_Wish : Cls K C_Wish := ⟨pg_Wish, hd_Wish, po_Wish, sa_Wish⟩
  have tx : WTxt K C_Wish := ⟨cl_Wish, n_Wish_flags, n_Wish_letters, n_Wish_size, n_Wish_start, n_Wish_targets⟩
  have g_ALPHABETS : mg "ALPHABETS" = some (.ref c_ALPHABETS) := PySem.W.mg_of X G i_ALPHABETS
  have hA : Is K H0 (.ref c_ALPHABETS) (.t (alphs.map D.s)) := hA_of l_ALPHABETS
  have g_MOST_STATES_wishes : ∃ t, mg "MOST_STATES_wishes" = some (.int 8 t) := ⟨_, PySem.W.mg_of X G i_MOST_STATES_wishes⟩
  have T : Bt mg := ⟨PySem.W.mg_none_of X G z_len, PySem.W.mg_none_of X G z_int, PySem.W.mg_none_of X G z_str, PySem.W.mg_none_of X G z_range, PySem.W.mg_none_of X G z_abs, PySem.W.mg_none_of X G z_min, PySem.W.mg_none_of X G z_list, PySem.W.mg_none_of X G z_isinstance, PySem.W.mg_none_of X G z_sorted, PySem.W.mg_none_of X G z_enumerate, PySem.W.mg_none_of X G z_zip, PySem.W.mg_none_of X G z_bool, PySem.W.mg_none_of X G z_dict, PySem.W.mg_none_of X G z_tuple, PySem.W.mg_none_of X G z_max, PySem.W.mg_none_of X G z_sum, PySem.W.mg_none_of X G z_all, PySem.W.mg_none_of X G z_any⟩
  have F_law_draws := fun_mk (st := s_law_draws) l_law_draws c_law_draws k_law_draws
  have b_law_draws := F_law_draws.binds (ps := ["_law_script", "_law_k", "_law_many"]) fun _ _ _ _ _ _ us hl => match us, hl with | [_, _, _], _ => rfl
  have F_law_machine := fun_mk (st := s_law_machine) l_law_machine c_law_machine k_law_machine
  have b_law_machine := F_law_machine.binds (ps := ["_law_row", "_law_top"]) fun _ _ _ _ _ _ us hl => match us, hl with | [_, _], _ => rfl
  have F_law_pairs := fun_mk (st := s_law_pairs) l_law_pairs c_law_pairs k_law_pairs
  have b_law_pairs := F_law_pairs.binds (ps := ["_law_m"]) fun _ _ _ _ _ _ us hl => match us, hl with | [_], _ => rfl
  have F_flag_table := fun_mk (st := s_flag_table) l_flag_table c_flag_table k_flag_table
  have b_flag_table := F_flag_table.binds (ps := ["letters", "size", "pairs"]) fun _ _ _ _ _ _ us hl => match us, hl with | [_, _, _], _ => rfl
  have F_Wish_init : FunD K "__init__" "Wish.__init__" (defArgs s_Wish_init) (defBody s_Wish_init) (defScope s_Wish_init) [.ref c_empty] [("start", .int 0)] f_Wish_init _ := ⟨⟨oc_Wish_init, od_Wish_init, .ref dt_Wish_init, .ref dk_Wish_init, dc_Wish_init, pm_Wish_init, an_Wish_init, cd_Wish_init, ct_Wish_init, sl_Wish_init, rfl, l_Wish_init, c_Wish_init, .inr ⟨List.cons_ne_nil _ _, dt_Wish_init, _, [.ref c_empty], nT_Wish_init, rfl, t_Wish_init, rfl, .cons rfl .nil⟩, .inr ⟨dk_Wish_init, rfl, fun q hq => by cases List.mem_singleton.mp hq; exact ⟨_, w_Wish_init_start, _, rfl⟩⟩⟩, k_Wish_init⟩
  have F_law_made := fun_mk (st := s_law_made) l_law_made c_law_made k_law_made
  have b_law_made := F_law_made.binds (ps := ["_law_m"]) fun _ _ _ _ _ _ us hl => match us, hl with | [_], _ => rfl
  have F_law_word := fun_mk (st := s_law_word) l_law_word c_law_word k_law_word
  have b_law_word := F_law_word.binds (ps := ["_law_row", "_law_letters", "_law_top"]) fun _ _ _ _ _ _ us hl => match us, hl with | [_, _, _], _ => rfl
  have F_law_is_int := fun_mk (st := s_law_is_int) l_law_is_int c_law_is_int k_law_is_int
  have b_law_is_int := F_law_is_int.binds (ps := ["_law_x"]) fun _ _ _ _ _ _ us hl => match us, hl with | [_], _ => rfl
  have F_Wish_column := fun_mk (st := s_Wish_column) l_Wish_column c_Wish_column k_Wish_column
  have b_Wish_column := F_Wish_column.binds (ps := ["self", "state", "letter"]) fun _ _ _ _ _ _ us hl => match us, hl with | [_, _, _], _ => rfl
  have F_Wish_getitem := fun_mk (st := s_Wish_getitem) l_Wish_getitem c_Wish_getitem k_Wish_getitem
  have b_Wish_getitem := F_Wish_getitem.binds (ps := ["self", "at"]) fun _ _ _ _ _ _ us hl => match us, hl with | [_, _], _ => rfl
  have F_Wish_marked := fun_mk (st := s_Wish_marked) l_Wish_marked c_Wish_marked k_Wish_marked
  have b_Wish_marked := F_Wish_marked.binds (ps := ["self", "state", "letter"]) fun _ _ _ _ _ _ us hl => match us, hl with | [_, _, _], _ => rfl
  have F_law_fits := fun_mk (st := s_law_fits) l_law_fits c_law_fits k_law_fits
  have b_law_fits := F_law_fits.binds (ps := ["_law_wish", "_law_m"]) fun _ _ _ _ _ _ us hl => match us, hl with | [_, _], _ => rfl
  have F_Wish_lap := fun_mk (st := s_Wish_lap) l_Wish_lap c_Wish_lap k_Wish_lap
  have b_Wish_lap := F_Wish_lap.binds (ps := ["self", "state", "word"]) fun _ _ _ _ _ _ us hl => match us, hl with | [_, _, _], _ => rfl
  have F_Wish_reach := fun_mk (st := s_Wish_reach) l_Wish_reach c_Wish_reach k_Wish_reach
  have b_Wish_reach := F_Wish_reach.binds (ps := ["self", "word"]) fun _ _ _ _ _ _ us hl => match us, hl with | [_, _], _ => rfl
  have F_law_lap := fun_mk (st := s_law_lap) l_law_lap c_law_lap k_law_lap
  have b_law_lap := F_law_lap.binds (ps := ["_law_m", "_law_state", "_law_word_here"]) fun _ _ _ _ _ _ us hl => match us, hl with | [_, _, _], _ => rfl
  have F_Wish_marks := fun_mk (st := s_Wish_marks) l_Wish_marks c_Wish_marks k_Wish_marks
  have b_Wish_marks := F_Wish_marks.binds (ps := ["self"]) fun _ _ _ _ _ _ us hl => match us, hl with | [_], _ => rfl
  have F_law_fits_marks := fun_mk (st := s_law_fits_marks) l_law_fits_marks c_law_fits_marks k_law_fits_marks
  have b_law_fits_marks := F_law_fits_marks.binds (ps := ["_law_told", "_law_m"]) fun _ _ _ _ _ _ us hl => match us, hl with | [_, _], _ => rfl
  have F_law := fun_mk (st := s_law) l_law c_law k_law
  have O_law_draws : ∀ base : Heap, K.In base → base.Ns mainGlobals mg → FnOk l.prog w K mg base CX0 1 f_law_draws _ ["_law_script", "_law_k", "_law_many"] (sp_law_draws K) := fun base hb hg => ok_law_draws F_law_draws T  
  have Hc_law_draws : ∀ base : Heap, K.In base → base.Ns mainGlobals mg → Cal l.prog w K mg base "_law_draws" 1 ["_law_script", "_law_k", "_law_many"] (sp_law_draws K) := fun base hb hg => ⟨f_law_draws, _, O_law_draws base hb hg, b_law_draws, PySem.W.mg_of X G a_law_draws, k_law_draws⟩
  have O_law_machine : ∀ base : Heap, K.In base → base.Ns mainGlobals mg → FnOk l.prog w K mg base CX0 1 f_law_machine _ ["_law_row", "_law_top"] (sp_law_machine K) := fun base hb hg => ok_law_machine F_law_machine T  
  have Hc_law_machine : ∀ base : Heap, K.In base → base.Ns mainGlobals mg → Cal l.prog w K mg base "_law_machine" 1 ["_law_row", "_law_top"] (sp_law_machine K) := fun base hb hg => ⟨f_law_machine, _, O_law_machine base hb hg, b_law_machine, PySem.W.mg_of X G a_law_machine, k_law_machine⟩
  have O_law_pairs : ∀ base : Heap, K.In base → base.Ns mainGlobals mg → FnOk l.prog w K mg base CX0 1 f_law_pairs _ ["_law_m"] (sp_law_pairs K) := fun base hb hg => ok_law_pairs F_law_pairs T  
  have Hc_law_pairs : ∀ base : Heap, K.In base → base.Ns mainGlobals mg → Cal l.prog w K mg base "_law_pairs" 1 ["_law_m"] (sp_law_pairs K) := fun base hb hg => ⟨f_law_pairs, _, O_law_pairs base hb hg, b_law_pairs, PySem.W.mg_of X G a_law_pairs, k_law_pairs⟩
  have O_flag_table : ∀ base : Heap, K.In base → base.Ns mainGlobals mg → FnOk l.prog w K mg base CX0 1 f_flag_table _ ["letters", "size", "pairs"] (sp_flag_table K) := fun base hb hg => ok_flag_table F_flag_table T  
  have Hc_flag_table : ∀ base : Heap, K.In base → base.Ns mainGlobals mg → Cal l.prog w K mg base "flag_table" 1 ["letters", "size", "pairs"] (sp_flag_table K) := fun base hb hg => ⟨f_flag_table, _, O_flag_table base hb hg, b_flag_table, PySem.W.mg_of X G a_flag_table, k_flag_table⟩
  have O_Wish_init : ∀ base : Heap, K.In base → base.Ns mainGlobals mg → FnOk l.prog w K mg base CX0 2 f_Wish_init _ ["self", "letters", "targets", "marks", "start"] (sp_Wish_init K C_Wish) := fun base hb hg => ok_Wish_init F_Wish_init T g_ALPHABETS g_MOST_STATES_wishes (Hc_flag_table base hb hg) tx hA
  have KB_k_Wish_3_start : ∃ its mv : List Value, KBn K _ ["self", "letters", "targets", "marks", "start"] 4 ["start"] (fun us ws => us ++ ws) (fun vs zs => vs ++ zs) := F_Wish_init.kbinds 4 ["start"] [] (fun vs _ _ zs => vs ++ zs) (List.cons_ne_nil _ _) (List.cons_ne_nil _ _) (fun q h => nomatch h) (fun r1 _ _ r4 => r1.append r4) fun T D doc pm an cdv ct us its mv ws h1 h2 h3 h4 => match us, its, mv, ws, h1, h2, h3, h4 with | [_, _, _, _], [_], [], [_], _, _, _, _ => ⟨_, rfl, rfl⟩
  have Hk_Wish_3_start : ∀ base : Heap, K.In base → base.Ns mainGlobals mg → KCal l.prog w K mg base "Wish" C_Wish 2 3 ["self", "letters", "targets", "marks", "start"] ["start"] (sp_Wish_init K C_Wish) := fun base hb hg => by obtain ⟨_, _, kb⟩ := KB_k_Wish_3_start; exact ⟨f_Wish_init, _, _, O_Wish_init base hb hg, kb, ⟨mk_Wish, a_Wish_init, i_Wish_init, kc_Wish⟩, PySem.W.mg_of X G aC_Wish⟩
  have O_law_made : ∀ base : Heap, K.In base → base.Ns mainGlobals mg → FnOk l.prog w K mg base CX0 4 f_law_made _ ["_law_m"] (sp_law_made K C_Wish) := fun base hb hg => ok_law_made F_law_made T (Hc_law_pairs base hb hg) (Hk_Wish_3_start base hb hg) 
  have Hc_law_made : ∀ base : Heap, K.In base → base.Ns mainGlobals mg → Cal l.prog w K mg base "_law_made" 4 ["_law_m"] (sp_law_made K C_Wish) := fun base hb hg => ⟨f_law_made, _, O_law_made base hb hg, b_law_made, PySem.W.mg_of X G a_law_made, k_law_made⟩
  have O_law_word : ∀ base : Heap, K.In base → base.Ns mainGlobals mg → FnOk l.prog w K mg base CX0 1 f_law_word _ ["_law_row", "_law_letters", "_law_top"] (sp_law_word K) := fun base hb hg => ok_law_word F_law_word T  
  have Hc_law_word : ∀ base : Heap, K.In base → base.Ns mainGlobals mg → Cal l.prog w K mg base "_law_word" 1 ["_law_row", "_law_letters", "_law_top"] (sp_law_word K) := fun base hb hg => ⟨f_law_word, _, O_law_word base hb hg, b_law_word, PySem.W.mg_of X G a_law_word, k_law_word⟩
  have O_law_is_int : ∀ base : Heap, K.In base → base.Ns mainGlobals mg → FnOk l.prog w K mg base CX0 1 f_law_is_int _ ["_law_x"] (sp_law_is_int K) := fun base hb hg => ok_law_is_int F_law_is_int T  
  have Hc_law_is_int : ∀ base : Heap, K.In base → base.Ns mainGlobals mg → Cal l.prog w K mg base "_law_is_int" 1 ["_law_x"] (sp_law_is_int K) := fun base hb hg => ⟨f_law_is_int, _, O_law_is_int base hb hg, b_law_is_int, PySem.W.mg_of X G a_law_is_int, k_law_is_int⟩
  have O_Wish_column : ∀ base : Heap, K.In base → base.Ns mainGlobals mg → FnOk l.prog w K mg base CX0 1 f_Wish_column _ ["self", "state", "letter"] (sp_Wish_column K C_Wish) := fun base hb hg => ok_Wish_column F_Wish_column T  tx
  have Hq_Wish_column : ∀ base : Heap, K.In base → base.Ns mainGlobals mg → MCal l.prog w K mg base C_Wish "column" 1 ["self", "state", "letter"] (sp_Wish_column K C_Wish) := fun base hb hg => ⟨f_Wish_column, _, O_Wish_column base hb hg, b_Wish_column, ⟨a_Wish_column, i_Wish_column, k_Wish_column⟩⟩
  have O_Wish_getitem : ∀ base : Heap, K.In base → base.Ns mainGlobals mg → FnOk l.prog w K mg base CX0 2 f_Wish_getitem _ ["self", "at"] (sp_Wish_getitem K C_Wish) := fun base hb hg => ok_Wish_getitem F_Wish_getitem T cl_Wish (Hq_Wish_column base hb hg) tx
  have Hgq_Wish_getitem : ∀ base : Heap, K.In base → base.Ns mainGlobals mg → GCal l.prog w K mg base C_Wish "__getitem__" 2 ["self", "at"] (sp_Wish_getitem K C_Wish) := fun base hb hg => ⟨f_Wish_getitem, _, O_Wish_getitem base hb hg, b_Wish_getitem, ⟨a_Wish_getitem, i_Wish_getitem, k_Wish_getitem⟩, by unfold PySem.W.fnIn; rw [l_Wish_getitem]⟩
  have O_Wish_marked : ∀ base : Heap, K.In base → base.Ns mainGlobals mg → FnOk l.prog w K mg base CX0 2 f_Wish_marked _ ["self", "state", "letter"] (sp_Wish_marked K C_Wish) := fun base hb hg => ok_Wish_marked F_Wish_marked T cl_Wish (Hq_Wish_column base hb hg) tx
  have Hq_Wish_marked : ∀ base : Heap, K.In base → base.Ns mainGlobals mg → MCal l.prog w K mg base C_Wish "marked" 2 ["self", "state", "letter"] (sp_Wish_marked K C_Wish) := fun base hb hg => ⟨f_Wish_marked, _, O_Wish_marked base hb hg, b_Wish_marked, ⟨a_Wish_marked, i_Wish_marked, k_Wish_marked⟩⟩
  have O_law_fits : ∀ base : Heap, K.In base → base.Ns mainGlobals mg → FnOk l.prog w K mg base CX0 4 f_law_fits _ ["_law_wish", "_law_m"] (sp_law_fits K C_Wish) := fun base hb hg => ok_law_fits F_law_fits T (Hc_law_is_int base hb hg) cl_Wish (Hgq_Wish_getitem base hb hg) (Hq_Wish_marked base hb hg) tx
  have Hc_law_fits : ∀ base : Heap, K.In base → base.Ns mainGlobals mg → Cal l.prog w K mg base "_law_fits" 4 ["_law_wish", "_law_m"] (sp_law_fits K C_Wish) := fun base hb hg => ⟨f_law_fits, _, O_law_fits base hb hg, b_law_fits, PySem.W.mg_of X G a_law_fits, k_law_fits⟩
  have O_Wish_lap : ∀ base : Heap, K.In base → base.Ns mainGlobals mg → FnOk l.prog w K mg base CX0 1 f_Wish_lap _ ["self", "state", "word"] (sp_Wish_lap K C_Wish) := fun base hb hg => ok_Wish_lap F_Wish_lap T  tx
  have Hq_Wish_lap : ∀ base : Heap, K.In base → base.Ns mainGlobals mg → MCal l.prog w K mg base C_Wish "lap" 1 ["self", "state", "word"] (sp_Wish_lap K C_Wish) := fun base hb hg => ⟨f_Wish_lap, _, O_Wish_lap base hb hg, b_Wish_lap, ⟨a_Wish_lap, i_Wish_lap, k_Wish_lap⟩⟩
  have O_Wish_reach : ∀ base : Heap, K.In base → base.Ns mainGlobals mg → FnOk l.prog w K mg base CX0 2 f_Wish_reach _ ["self", "word"] (sp_Wish_reach K C_Wish) := fun base hb hg => ok_Wish_reach F_Wish_reach T cl_Wish (Hq_Wish_lap base hb hg) tx
  have Hq_Wish_reach : ∀ base : Heap, K.In base → base.Ns mainGlobals mg → MCal l.prog w K mg base C_Wish "reach" 2 ["self", "word"] (sp_Wish_reach K C_Wish) := fun base hb hg => ⟨f_Wish_reach, _, O_Wish_reach base hb hg, b_Wish_reach, ⟨a_Wish_reach, i_Wish_reach, k_Wish_reach⟩⟩
  have O_law_lap : ∀ base : Heap, K.In base → base.Ns mainGlobals mg → FnOk l.prog w K mg base CX0 1 f_law_lap _ ["_law_m", "_law_state", "_law_word_here"] (sp_law_lap K) := fun base hb hg => ok_law_lap F_law_lap T  
  have Hc_law_lap : ∀ base : Heap, K.In base → base.Ns mainGlobals mg → Cal l.prog w K mg base "_law_lap" 1 ["_law_m", "_law_state", "_law_word_here"] (sp_law_lap K) := fun base hb hg => ⟨f_law_lap, _, O_law_lap base hb hg, b_law_lap, PySem.W.mg_of X G a_law_lap, k_law_lap⟩
  have O_Wish_marks : ∀ base : Heap, K.In base → base.Ns mainGlobals mg → FnOk l.prog w K mg base CX0 1 f_Wish_marks _ ["self"] (sp_Wish_marks K C_Wish) := fun base hb hg => ok_Wish_marks F_Wish_marks T  tx
  have Hpq_Wish_marks : ∀ base : Heap, K.In base → base.Ns mainGlobals mg → PCal l.prog w K mg base C_Wish "marks" 1 ["self"] (sp_Wish_marks K C_Wish) := fun base hb hg => ⟨p_Wish_marks, f_Wish_marks, _, O_Wish_marks base hb hg, b_Wish_marks, ⟨a_Wish_marks, pgt_Wish_marks, ptk_Wish_marks, ⟨_, prc_Wish_marks⟩⟩⟩
  have O_law_fits_marks : ∀ base : Heap, K.In base → base.Ns mainGlobals mg → FnOk l.prog w K mg base CX0 2 f_law_fits_marks _ ["_law_told", "_law_m"] (sp_law_fits_marks K) := fun base hb hg => ok_law_fits_marks F_law_fits_marks T (Hc_law_is_int base hb hg) (Hc_law_pairs base hb hg) 
  have Hc_law_fits_marks : ∀ base : Heap, K.In base → base.Ns mainGlobals mg → Cal l.prog w K mg base "_law_fits_marks" 2 ["_law_told", "_law_m"] (sp_law_fits_marks K) := fun base hb hg => ⟨f_law_fits_marks, _, O_law_fits_marks base hb hg, b_law_fits_marks, PySem.W.mg_of X G a_law_fits_marks, k_law_fits_marks⟩
  have O_law : ∀ base : Heap, K.In base → base.Ns mainGlobals mg → FnOk l.prog w K mg base CX0 5 fa _ ["_law_script"] (sp_law K C_Wish) := fun base hb hg => ok_law F_law T (Hc_law_draws base hb hg) (Hc_law_machine base hb hg) (Hc_law_made base hb hg) (Hc_law_word base hb hg) (Hc_law_fits base hb hg) cl_Wish (Hq_Wish_reach base hb hg) (Hc_law_is_int base hb hg) (Hc_law_lap base hb hg) (Hpq_Wish_marks base hb hg) (Hc_law_fits_marks base hb hg) tx
  exact ⟨_, fun s v => .of_eq rfl, O_law⟩
theorem walk {l : PySem.W.OpenLaw} {q : Program} {loose : List Str} {XP : (Str → Option Value) → Heap → Prop} {YP : World → Heap → Prop} {d : DefRec} {K : Params → PySem.W.Frag} (hn : l.most = some 63) (hdf : d.params.defaults = [])
    (hY : ∀ (w : World) (h : Heap), YP w h → (K w.params).In h)
    (F : ∀ (w : World) (mg : Str → Option Value) (fa : Addr) (h : Heap), (K w.params).In h → h.Ns mainGlobals mg → mg d.name = some (.ref fa) →
      ∃ fd : FuncData, (∀ (s : Shared) (u : Value), BindsTo s fd ⟨[u], []⟩ [("_law_script", u)]) ∧ ∀ base : Heap, (K w.params).In base → base.Ns mainGlobals mg → FnOk l.prog w (K w.params) mg base CX0 5 fa fd ["_law_script"] (sp_top (K w.params))) :
    PySem.W.WalkO q loose XP YP l.row.toRowW d [] (fun f vs => PySem.call f vs) :=
  L2.walk_of (n := 63) (k := 5) (x := "_law_script") (CX := fun _ => CX0) (sp := fun w => sp_top (K w.params)) hn (by decide) hdf ⟨rfl, by decide, by decide⟩ hY F (fun _ _ a ns hl _ hS => ⟨ns, .cons (.l hS IsL.leaves) .nil, hl, fun _ => rfl⟩) fun _ _ _ _ _ z => z
end NL

open PySem PySem.W PyProof.Rows in
set_option maxRecDepth 100000 in
set_option maxHeartbeats 0 in
theorem PySem.Challenge.cw_noteless_k01_words_lead_to_states_holds : PySem.Challenge.rw_noteless_k01_words_lead_to_states.Holds := by
  w_on; o_law; k_head; (case hw => w_witness2)
  k_fill
  refine NL.walk (l := PySem.Challenge.rw_noteless_k01_words_lead_to_states) rfl rfl (fun w h Y => PySem.W.kIn_of Y) ?F
  case F =>
    intro w mg fa h KX G hmg
    refine' NL.all_mk KX G hmg ?aC_Wish ?pg_Wish ?hd_Wish ?po_Wish ?sa_Wish ?n_Wish_flags ?n_Wish_letters ?n_Wish_size ?n_Wish_start ?n_Wish_targets ?i_ALPHABETS ?l_ALPHABETS ?i_MOST_STATES_wishes ?z_len ?z_int ?z_str ?z_range ?z_abs ?z_min ?z_list ?z_isinstance ?z_sorted ?z_enumerate ?z_zip ?z_bool ?z_dict ?z_tuple ?z_max ?z_sum ?z_all ?z_any ?a_law_draws ?l_law_draws ?c_law_draws ?k_law_draws ?a_law_machine ?l_law_machine ?c_law_machine ?k_law_machine ?a_law_pairs ?l_law_pairs ?c_law_pairs ?k_law_pairs ?a_flag_table ?l_flag_table ?c_flag_table ?k_flag_table ?a_Wish_init ?i_Wish_init ?l_Wish_init ?t_Wish_init ?w_Wish_init_start ?c_Wish_init ?k_Wish_init ?a_law_made ?l_law_made ?c_law_made ?k_law_made ?a_law_word ?l_law_word ?c_law_word ?k_law_word ?a_law_is_int ?l_law_is_int ?c_law_is_int ?k_law_is_int ?a_Wish_column ?i_Wish_column ?l_Wish_column ?c_Wish_column ?k_Wish_column ?a_Wish_getitem ?i_Wish_getitem ?l_Wish_getitem ?c_Wish_getitem ?k_Wish_getitem ?a_Wish_marked ?i_Wish_marked ?l_Wish_marked ?c_Wish_marked ?k_Wish_marked ?a_law_fits ?l_law_fits ?c_law_fits ?k_law_fits ?a_Wish_lap ?i_Wish_lap ?l_Wish_lap ?c_Wish_lap ?k_Wish_lap ?a_Wish_reach ?i_Wish_reach ?l_Wish_reach ?c_Wish_reach ?k_Wish_reach ?a_law_lap ?l_law_lap ?c_law_lap ?k_law_lap ?a_Wish_marks ?pgt_Wish_marks ?ptk_Wish_marks ?prc_Wish_marks ?l_Wish_marks ?c_Wish_marks ?k_Wish_marks ?a_law_fits_marks ?l_law_fits_marks ?c_law_fits_marks ?k_law_fits_marks ?a_law ?l_law ?c_law ?k_law ?mk_Wish ?kc_Wish
    (case aC_Wish => k_is)
    (case pg_Wish => k_is)
    (case hd_Wish => k_is)
    (case po_Wish => k_is)
    (case sa_Wish => k_is)
    (case n_Wish_flags => k_is)
    (case n_Wish_letters => k_is)
    (case n_Wish_size => k_is)
    (case n_Wish_start => k_is)
    (case n_Wish_targets => k_is)
    (case i_ALPHABETS => k_is)
    (case l_ALPHABETS => k_is)
    (case i_MOST_STATES_wishes => k_is)
    (case z_len => k_is)
    (case z_int => k_is)
    (case z_str => k_is)
    (case z_range => k_is)
    (case z_abs => k_is)
    (case z_min => k_is)
    (case z_list => k_is)
    (case z_isinstance => k_is)
    (case z_sorted => k_is)
    (case z_enumerate => k_is)
    (case z_zip => k_is)
    (case z_bool => k_is)
    (case z_dict => k_is)
    (case z_tuple => k_is)
    (case z_max => k_is)
    (case z_sum => k_is)
    (case z_all => k_is)
    (case z_any => k_is)
    (case a_law_draws => k_is)
    (case l_law_draws => k_is)
    (case c_law_draws => k_is)
    (case k_law_draws => k_is)
    (case a_law_machine => k_is)
    (case l_law_machine => k_is)
    (case c_law_machine => k_is)
    (case k_law_machine => k_is)
    (case a_law_pairs => k_is)
    (case l_law_pairs => k_is)
    (case c_law_pairs => k_is)
    (case k_law_pairs => k_is)
    (case a_flag_table => k_is)
    (case l_flag_table => k_is)
    (case c_flag_table => k_is)
    (case k_flag_table => k_is)
    (case a_Wish_init => k_is)
    (case i_Wish_init => k_is)
    (case l_Wish_init => k_is)
    (case t_Wish_init => k_is)
    (case w_Wish_init_start => k_is)
    (case c_Wish_init => k_is)
    (case k_Wish_init => k_is)
    (case a_law_made => k_is)
    (case l_law_made => k_is)
    (case c_law_made => k_is)
    (case k_law_made => k_is)
    (case a_law_word => k_is)
    (case l_law_word => k_is)
    (case c_law_word => k_is)
    (case k_law_word => k_is)
    (case a_law_is_int => k_is)
    (case l_law_is_int => k_is)
    (case c_law_is_int => k_is)
    (case k_law_is_int => k_is)
    (case a_Wish_column => k_is)
    (case i_Wish_column => k_is)
    (case l_Wish_column => k_is)
    (case c_Wish_column => k_is)
    (case k_Wish_column => k_is)
    (case a_Wish_getitem => k_is)
    (case i_Wish_getitem => k_is)
    (case l_Wish_getitem => k_is)
    (case c_Wish_getitem => k_is)
    (case k_Wish_getitem => k_is)
    (case a_Wish_marked => k_is)
    (case i_Wish_marked => k_is)
    (case l_Wish_marked => k_is)
    (case c_Wish_marked => k_is)
    (case k_Wish_marked => k_is)
    (case a_law_fits => k_is)
    (case l_law_fits => k_is)
    (case c_law_fits => k_is)
    (case k_law_fits => k_is)
    (case a_Wish_lap => k_is)
    (case i_Wish_lap => k_is)
    (case l_Wish_lap => k_is)
    (case c_Wish_lap => k_is)
    (case k_Wish_lap => k_is)
    (case a_Wish_reach => k_is)
    (case i_Wish_reach => k_is)
    (case l_Wish_reach => k_is)
    (case c_Wish_reach => k_is)
    (case k_Wish_reach => k_is)
    (case a_law_lap => k_is)
    (case l_law_lap => k_is)
    (case c_law_lap => k_is)
    (case k_law_lap => k_is)
    (case a_Wish_marks => k_is)
    (case pgt_Wish_marks => k_is)
    (case ptk_Wish_marks => k_is)
    (case prc_Wish_marks => k_is)
    (case l_Wish_marks => k_is)
    (case c_Wish_marks => k_is)
    (case k_Wish_marks => k_is)
    (case a_law_fits_marks => k_is)
    (case l_law_fits_marks => k_is)
    (case c_law_fits_marks => k_is)
    (case k_law_fits_marks => k_is)
    (case a_law => k_is)
    (case l_law => k_is)
    (case c_law => k_is)
    (case k_law => k_is)
    (case mk_Wish => k_is)
    (case kc_Wish => k_is)
#print axioms PySem.Challenge.cw_noteless_k01_words_lead_to_states_holds
