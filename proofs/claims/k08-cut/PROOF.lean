import PyProof.Rows.All
import Wide.All
import OpenK.AllK
import Wide.FinOn
import HandS.ForMost
import HandS.Evl
import HandS.Flow
import HandS.Star
import HandS.Exc
import HandS.ExcInit
import HandS.IsInst
import HandS.Steps
import HandS.MakeKwOnly
import HandS.Property
import KE.KDictZip
import KE.GoesEnum
import PyProof.CollectWalk
import PyProof.ListStr
import PyProof.EnumMake
import HandS.Conv
import HandS.Replace
import KE.KOpsOwn
import PySem.Challenge.RW_noteless_k08_cut_behind_a_word
set_option Elab.async false
set_option linter.all false
set_option maxRecDepth 100000
set_option maxHeartbeats 4000000
namespace NV
open PySem L2 Evl
section
/-! NV: a verified evaluator of values over the hand layer: data as trees, slots with owned trees; each construct comes with its reading's soundness. -/
open PySem L2 Evl

/-- a datum -/
inductive D where
  | v (x : V) | l (xs : List D) | t (xs : List D) | tk (xs : List D)
  | dk (ks : List Key) (xs : List D) | dt (ks : List (List Key)) (xs : List D)
  | ob (C : Str) (ns : List Str) (xs : List D)
abbrev D.i (n : Int) : D := .v (.int n)
abbrev D.b (x : Bool) : D := .v (.bl x)
abbrev D.s (x : Str) : D := .v (.str x)
abbrev D.n : D := .v .non
/-- the text's constants: the written part, the classes' addresses -/
structure Ct where
  K : PySem.W.Frag
  cn : Str → Addr
mutual
/-- the value is the datum; tuples stand in T, what may change in M -/
inductive Is (c : Ct) (T M : Hp) : V → D → Prop
  | v (x : V) : Is c T M x (.v x)
  | l {a : Addr} {xs : List V} {ds : List D} : SqL c.K M a xs → IsL c T M xs ds → Is c T M (.ref a) (.l ds)
  | t {a : Addr} {xs : List V} {ds : List D} : T a = some (.tup xs) → IsL c T M xs ds → Is c T M (.ref a) (.t ds)
  | tk {a : Addr} {xs : List V} {ds : List D} : (∀ H, SqT c.K H a xs) → IsL c T M xs ds → Is c T M (.ref a) (.tk ds)
  | dk {a : Addr} {ks : List Key} {xs : List V} {ds : List D} : M a = some (.dK (ks.zip xs)) → ks.length = xs.length → IsL c T M xs ds → Is c T M (.ref a) (.dk ks ds)
  | dt {a : Addr} {ks : List (List Key)} {xs : List V} {ds : List D} : M a = some (.dT (ks.zip xs)) → ks.length = xs.length → IsL c T M xs ds → Is c T M (.ref a) (.dt ks ds)
  | ob {a dx : Addr} {C : Str} {ns : List Str} {xs : List V} {ds : List D} : M a = some (.ins (c.cn C) dx (ns.zip xs)) → ns.length = xs.length → IsL c T M xs ds → Is c T M (.ref a) (.ob C ns ds)
inductive IsL (c : Ct) (T M : Hp) : List V → List D → Prop
  | nil : IsL c T M [] []
  | cons {x : V} {d : D} {xs : List V} {ds : List D} : Is c T M x d → IsL c T M xs ds → IsL c T M (x :: xs) (d :: ds)
end
/-- tuples stay -/
def Tp (T T' : Hp) : Prop := ∀ a xs, T a = some (.tup xs) → T' a = some (.tup xs)
theorem Tp.refl (T : Hp) : Tp T T := fun _ _ h => h
theorem Tp.trans {T T' T'' : Hp} (a : Tp T T') (b : Tp T' T'') : Tp T T'' := fun x xs h => b x xs (a x xs h)
theorem Tp.of {T T' : Hp} (e : Ex T T') : Tp T T' := fun a xs h => e a _ h
section
variable {c : Ct} {T T' M M' : Hp}
mutual
theorem Is.mono (t : Tp T T') (e : Ex M M') {v : V} {d : D} : Is c T M v d → Is c T' M' v d
  | .v x => .v x
  | .l s r => .l (ex_l e s) (IsL.mono t e r)
  | .t s r => .t (t _ _ s) (IsL.mono t e r)
  | .tk s r => .tk s (IsL.mono t e r)
  | .dk s l r => .dk (e _ _ s) l (IsL.mono t e r)
  | .dt s l r => .dt (e _ _ s) l (IsL.mono t e r)
  | .ob s l r => .ob (e _ _ s) l (IsL.mono t e r)
theorem IsL.mono (t : Tp T T') (e : Ex M M') {xs : List V} {ds : List D} : IsL c T M xs ds → IsL c T' M' xs ds
  | .nil => .nil
  | .cons h r => .cons (Is.mono t e h) (IsL.mono t e r)
end
theorem IsL.len : ∀ {xs : List V} {ds : List D}, IsL c T M xs ds → xs.length = ds.length
  | _, _, .nil => rfl
  | _, _, .cons _ r => congrArg (· + 1) (IsL.len r)
theorem IsL.get : ∀ {xs : List V} {ds : List D} {i : Nat} {d : D}, IsL c T M xs ds → ds[i]? = some d → ∃ x, xs[i]? = some x ∧ Is c T M x d
  | _, _, _, _, .nil, e => by simp at e
  | _, _, 0, _, .cons h _, e => by simp at e; subst e; exact ⟨_, rfl, h⟩
  | _, _, i + 1, d, .cons _ r, e => by
    obtain ⟨x, h1, h2⟩ := IsL.get (i := i) (d := d) r (by simpa using e)
    exact ⟨x, by simpa using h1, h2⟩
theorem IsL.getV : ∀ {xs : List V} {ds : List D} {i : Nat} {x : V}, IsL c T M xs ds → xs[i]? = some x → ∃ d, ds[i]? = some d ∧ Is c T M x d
  | _, _, _, _, .nil, e => by simp at e
  | _, _, 0, _, .cons h _, e => by simp at e; subst e; exact ⟨_, rfl, h⟩
  | _, _, i + 1, d, .cons _ r, e => by
    obtain ⟨x, h1, h2⟩ := IsL.getV (i := i) r (by simpa using e)
    exact ⟨x, by simpa using h1, h2⟩
theorem IsL.app : ∀ {xs ys : List V} {ds es : List D}, IsL c T M xs ds → IsL c T M ys es → IsL c T M (xs ++ ys) (ds ++ es)
  | _, _, _, _, .nil, r => r
  | _, _, _, _, .cons h t, r => .cons h (IsL.app t r)
theorem IsL.one {x : V} {d : D} (h : Is c T M x d) : IsL c T M [x] [d] := .cons h .nil
theorem IsL.take : ∀ {xs : List V} {ds : List D} (n : Nat), IsL c T M xs ds → IsL c T M (xs.take n) (ds.take n)
  | _, _, 0, _ => by simpa using IsL.nil
  | _, _, _ + 1, .nil => .nil
  | _, _, n + 1, .cons h r => .cons h (IsL.take n r)
theorem IsL.drop : ∀ {xs : List V} {ds : List D} (n : Nat), IsL c T M xs ds → IsL c T M (xs.drop n) (ds.drop n)
  | _, _, 0, r => by simpa using r
  | _, _, _ + 1, .nil => .nil
  | _, _, n + 1, .cons _ r => IsL.drop n r
theorem Is.leaf {x y : V} (h : Is c T M x (.v y)) : x = y := by cases h; rfl
/-- leaves alone -/
def D.lf : D → Option V
  | .v x => some x
  | _ => none
def lfs : List D → Option (List V)
  | [] => some []
  | .v x :: r => (lfs r).map (x :: ·)
  | _ :: _ => none
theorem lfs_map : ∀ vs : List V, lfs (vs.map D.v) = some vs
  | [] => rfl
  | v :: vs => by show (lfs (vs.map D.v)).map (v :: ·) = _; rw [lfs_map vs]; rfl
theorem lfs_eq : ∀ {ds : List D} {vs : List V}, lfs ds = some vs → ds = vs.map D.v
  | [], vs, h => by cases h; rfl
  | .v x :: r, vs, h => by
    unfold lfs at h
    cases e : lfs r with
    | none => rw [e] at h; cases h
    | some ws => rw [e] at h; cases h; rw [lfs_eq e]; rfl
  | .l _ :: _, _, h => by cases h
  | .t _ :: _, _, h => by cases h
  | .tk _ :: _, _, h => by cases h
  | .dk _ _ :: _, _, h => by cases h
  | .dt _ _ :: _, _, h => by cases h
  | .ob _ _ _ :: _, _, h => by cases h
theorem IsL.lfs : ∀ {xs : List V} {ds : List D} {vs : List V}, IsL c T M xs ds → NV.lfs ds = some vs → xs = vs
  | _, _, vs, .nil, h => by cases h; rfl
  | _, _, vs, .cons (d := d) (ds := ds) a r, h => by
    have e := lfs_eq h
    cases vs with
    | nil => cases e
    | cons v vs =>
      rw [List.map_cons] at e
      injection e with e1 e2
      subst e1; subst e2
      rw [Is.leaf a, IsL.lfs r (lfs_map vs)]
theorem IsL.of_lfs : ∀ {vs : List V}, IsL c T M vs (vs.map D.v)
  | [] => .nil
  | _ :: _ => .cons (.v _) IsL.of_lfs
end
mutual
/-- nothing in it can change -/
def D.imm : D → Bool
  | .v _ => true
  | .t ds => imms ds
  | .tk ds => imms ds
  | _ => false
def imms : List D → Bool
  | [] => true
  | d :: ds => D.imm d && imms ds
end
section
variable {c : Ct} {T M M' : Hp}
mutual
theorem Is.imm {v : V} {d : D} : Is c T M v d → d.imm = true → Is c T M' v d
  | .v x, _ => .v x
  | .t s r, h => .t s (IsL.imm r (by unfold D.imm at h; exact h))
  | .tk s r, h => .tk s (IsL.imm r (by unfold D.imm at h; exact h))
  | .l _ _, h => by unfold D.imm at h; cases h
  | .dk _ _ _, h => by unfold D.imm at h; cases h
  | .dt _ _ _, h => by unfold D.imm at h; cases h
  | .ob _ _ _, h => by unfold D.imm at h; cases h
theorem IsL.imm {vs : List V} {ds : List D} : IsL c T M vs ds → imms ds = true → IsL c T M' vs ds
  | .nil, _ => .nil
  | .cons h r, e => by
    unfold imms at e
    rw [Bool.and_eq_true] at e
    exact .cons (Is.imm h e.1) (IsL.imm r e.2)
end
end

/-! ### heaps -/
abbrev H0 : Hp := fun _ => none
def un (B F : Hp) : Hp := fun a => match F a with | some o => some o | none => B a
theorem un_l {B F : Hp} : Ex F (un B F) := fun a o e => by unfold un; rw [e]
theorem un_r {B F : Hp} (d : ∀ a, F a ≠ none → B a = none) : Ex B (un B F) := fun a o e => by
  unfold un
  cases h : F a with
  | none => exact e
  | some u => have := d a (by rw [h]; exact fun z => nomatch z); rw [this] at e; cases e
theorem un_mono {B F F' : Hp} (e : Ex F F') (d : ∀ a, F' a ≠ none → B a = none) : Ex (un B F) (un B F') := fun a o q => by
  unfold un at q
  cases h : F a with
  | some u => rw [h] at q; cases q; exact un_l a _ (e a _ h)
  | none => rw [h] at q; exact un_r d a o q
theorem un_ex {B F H : Hp} (b : Ex B H) (f : Ex F H) : Ex (un B F) H := fun a o q => by
  unfold un at q
  cases h : F a with
  | some u => rw [h] at q; cases q; exact f a _ h
  | none => rw [h] at q; exact b a o q
theorem un_or {B F : Hp} {a : Addr} (h : un B F a ≠ none) : F a ≠ none ∨ B a ≠ none := by
  unfold un at h
  cases q : F a with
  | some u => exact .inl (by simp)
  | none => rw [q] at h; exact .inr h
theorem some_ne {α : Type} {o : Option α} {x : α} (h : o = some x) : o ≠ none := by rw [h]; exact fun z => nomatch z
theorem ne_some {α : Type} {o : Option α} (h : o ≠ none) : ∃ x, o = some x := by
  cases o with
  | none => exact absurd rfl h
  | some x => exact ⟨x, rfl⟩
theorem none_of_ex {H H' : Hp} (e : Ex H H') {a : Addr} (h : H' a = none) : H a = none := fresh_back e h
theorem ex_ne {H H' : Hp} (e : Ex H H') {a : Addr} (h : H a ≠ none) : H' a ≠ none := by
  obtain ⟨o, q⟩ := ne_some h
  exact some_ne (e a o q)
abbrev one (p : Addr) (o : HO) : Hp := upd H0 p o
theorem one_ne {p a : Addr} {o : HO} (h : one p o a ≠ none) : a = p := by
  by_cases e : a = p
  · exact e
  · rw [show one p o a = H0 a from upd_ne e] at h; exact absurd rfl h
theorem one_ex {p : Addr} {o : HO} {H : Hp} (h : H p = some o) : Ex (one p o) H := fun a u q => by
  have e := one_ne (some_ne q)
  subst e
  rw [show one a o a = some o from upd_same] at q
  cases q; exact h
def NoTup (G : Hp) : Prop := ∀ a xs, G a ≠ some (.tup xs)
theorem H0_ex {H : Hp} : Ex H0 H := fun a o q => nomatch q
theorem H0_ne {a : Addr} : ¬ (H0 a ≠ none) := fun h => h rfl
/-- apart -/
def Ap (G N : Hp) : Prop := ∀ a, G a ≠ none → N a = none
theorem Ap.symm {G N : Hp} (h : Ap G N) : Ap N G := fun a z => by
  cases q : G a with
  | none => rfl
  | some o => exact absurd (h a (some_ne q)) z
theorem Ap.sub {G N G' N' : Hp} (h : Ap G N) (e : ∀ a, G' a ≠ none → G a ≠ none) (f : ∀ a, N' a ≠ none → N a ≠ none) : Ap G' N' := fun a z => by
  cases q : N' a with
  | none => rfl
  | some o => exact absurd (h a (e a z)) (f a (some_ne q))

/-! ### owned trees -/
inductive OT where
  | fz (d : D) | l (ts : List OT) | t (ts : List OT)
  | dk (ks : List Key) (ts : List OT) | dt (ks : List (List Key)) (ts : List OT)
  | ob (C : Str) (ns : List Str) (ts : List OT)
mutual
def OT.d : OT → D
  | .fz d => d
  | .l ts => .l (OT.ds ts)
  | .t ts => .t (OT.ds ts)
  | .dk ks ts => .dk ks (OT.ds ts)
  | .dt ks ts => .dt ks (OT.ds ts)
  | .ob C ns ts => .ob C ns (OT.ds ts)
def OT.ds : List OT → List D
  | [] => []
  | u :: us => OT.d u :: OT.ds us
end
theorem ds_len : ∀ ts : List OT, (OT.ds ts).length = ts.length
  | [] => by unfold OT.ds; rfl
  | t :: ts => by unfold OT.ds; rw [List.length_cons, List.length_cons, ds_len ts]
theorem ds_get : ∀ (ts : List OT) (i : Nat), (OT.ds ts)[i]? = ts[i]?.map OT.d
  | [], i => by unfold OT.ds; simp
  | t :: ts, 0 => by unfold OT.ds; simp
  | t :: ts, i + 1 => by unfold OT.ds; simpa using ds_get ts i
theorem ds_app : ∀ (ts us : List OT), OT.ds (ts ++ us) = OT.ds ts ++ OT.ds us
  | [], us => by simp [OT.ds]
  | t :: ts, us => by simp [OT.ds, ds_app ts us]
theorem ds_fz : ∀ ds : List D, OT.ds (ds.map OT.fz) = ds
  | [] => by rw [List.map_nil]; unfold OT.ds; rfl
  | d :: ds => by rw [List.map_cons]; unfold OT.ds; rw [ds_fz ds]; unfold OT.d; rfl
mutual
/-- the owned tree: its own cells in G, frozen parts in F, tuples in T -/
inductive Ow (c : Ct) (T F : Hp) : Hp → V → OT → Prop
  | fz {G : Hp} {v : V} {d : D} : Is c T F v d → Ow c T F G v (.fz d)
  | l {G G0 : Hp} {p : Addr} {vs : List V} {ts : List OT} : G p = some (.lst vs) → G0 p = none → Ex G0 G → OwL c T F G0 vs ts → Ow c T F G (.ref p) (.l ts)
  | t {G : Hp} {p : Addr} {vs : List V} {ts : List OT} : T p = some (.tup vs) → OwL c T F G vs ts → Ow c T F G (.ref p) (.t ts)
  | dk {G G0 : Hp} {p : Addr} {ks : List Key} {vs : List V} {ts : List OT} : G p = some (.dK (ks.zip vs)) → ks.length = vs.length → ks.Nodup → G0 p = none → Ex G0 G → OwL c T F G0 vs ts → Ow c T F G (.ref p) (.dk ks ts)
  | dt {G G0 : Hp} {p : Addr} {ks : List (List Key)} {vs : List V} {ts : List OT} : G p = some (.dT (ks.zip vs)) → ks.length = vs.length → ks.Nodup → G0 p = none → Ex G0 G → OwL c T F G0 vs ts → Ow c T F G (.ref p) (.dt ks ts)
  | ob {G G0 : Hp} {p dx : Addr} {C : Str} {ns : List Str} {vs : List V} {ts : List OT} : G p = some (.ins (c.cn C) dx (ns.zip vs)) → ns.length = vs.length → G0 p = none → Ex G0 G → OwL c T F G0 vs ts → Ow c T F G (.ref p) (.ob C ns ts)
inductive OwL (c : Ct) (T F : Hp) : Hp → List V → List OT → Prop
  | nil {G : Hp} : OwL c T F G [] []
  | cons {G G1 G2 : Hp} {v : V} {t : OT} {vs : List V} {ts : List OT} : Ex G1 G → Ex G2 G → Ap G1 G2 → Ow c T F G1 v t → OwL c T F G2 vs ts → OwL c T F G (v :: vs) (t :: ts)
end
section
variable {c : Ct} {T T' F F' G G' H : Hp}
mutual
theorem Ow.mono (t : Tp T T') (f : Ex F F') : ∀ {G G' : Hp} {v : V} {u : OT}, Ex G G' → Ow c T F G v u → Ow c T' F' G' v u
  | _, _, _, _, _, .fz h => .fz (h.mono t f)
  | _, _, _, _, g, .l a b e r => .l (g _ _ a) b (e.trans g) (OwL.mono t f (Ex.refl _) r)
  | _, _, _, _, g, .t a r => .t (t _ _ a) (OwL.mono t f g r)
  | _, _, _, _, g, .dk a l nd b e r => .dk (g _ _ a) l nd b (e.trans g) (OwL.mono t f (Ex.refl _) r)
  | _, _, _, _, g, .dt a l nd b e r => .dt (g _ _ a) l nd b (e.trans g) (OwL.mono t f (Ex.refl _) r)
  | _, _, _, _, g, .ob a l b e r => .ob (g _ _ a) l b (e.trans g) (OwL.mono t f (Ex.refl _) r)
theorem OwL.mono (t : Tp T T') (f : Ex F F') : ∀ {G G' : Hp} {vs : List V} {us : List OT}, Ex G G' → OwL c T F G vs us → OwL c T' F' G' vs us
  | _, _, _, _, _, .nil => .nil
  | _, _, _, _, g, .cons a b d h r => .cons (a.trans g) (b.trans g) d (Ow.mono t f (Ex.refl _) h) (OwL.mono t f (Ex.refl _) r)
end
mutual
/-- seen as a datum -/
theorem Ow.is {M : Hp} (f : Ex F M) : ∀ {G : Hp} {v : V} {u : OT}, Ex G M → Ow c T F G v u → Is c T M v u.d
  | _, _, _, _, .fz h => by unfold OT.d; exact h.mono (Tp.refl _) f
  | _, _, _, g, .l a b e r => by unfold OT.d; exact .l (sq_of (g _ _ a)) (OwL.is f (e.trans g) r)
  | _, _, _, g, .t a r => by unfold OT.d; exact .t a (OwL.is f g r)
  | _, _, _, g, .dk a l nd b e r => by unfold OT.d; exact .dk (g _ _ a) l (OwL.is f (e.trans g) r)
  | _, _, _, g, .dt a l nd b e r => by unfold OT.d; exact .dt (g _ _ a) l (OwL.is f (e.trans g) r)
  | _, _, _, g, .ob a l b e r => by unfold OT.d; exact .ob (g _ _ a) l (OwL.is f (e.trans g) r)
theorem OwL.is {M : Hp} (f : Ex F M) : ∀ {G : Hp} {vs : List V} {us : List OT}, Ex G M → OwL c T F G vs us → IsL c T M vs (OT.ds us)
  | _, _, _, _, .nil => by unfold OT.ds; exact .nil
  | _, _, _, g, .cons a b d h r => by unfold OT.ds; exact .cons (Ow.is f (a.trans g) h) (OwL.is f (b.trans g) r)
end
theorem OwL.len : ∀ {G : Hp} {vs : List V} {us : List OT}, OwL c T F G vs us → vs.length = us.length
  | _, _, _, .nil => rfl
  | _, _, _, .cons _ _ _ _ r => congrArg (· + 1) r.len
theorem OwL.fz : ∀ {vs : List V} {ds : List D} {G : Hp}, IsL c T F vs ds → OwL c T F G vs (ds.map OT.fz)
  | _, _, _, .nil => .nil
  | _, _, G, .cons h r => .cons (G1 := H0) (G2 := H0) H0_ex H0_ex (fun a z => absurd rfl z) (.fz h) (OwL.fz r)
/-- a heap without another's cells -/
def mins (H G : Hp) : Hp := fun a => match G a with | some _ => none | none => H a
theorem mins_ex {H G : Hp} : Ex (mins H G) H := fun a o h => by
  unfold mins at h
  cases g : G a with
  | some u => rw [g] at h; cases h
  | none => rw [g] at h; exact h
theorem mins_none {H G : Hp} {a : Addr} (h : G a = none) : mins H G a = H a := by unfold mins; rw [h]
theorem mins_some {H G : Hp} {a : Addr} (h : G a ≠ none) : mins H G a = none := by
  obtain ⟨o, e⟩ := ne_some h
  unfold mins; rw [e]
theorem mins_ne {H G : Hp} {a : Addr} (h : mins H G a ≠ none) : H a ≠ none ∧ G a = none := by
  cases g : G a with
  | some u => rw [mins_some (some_ne g)] at h; exact absurd rfl h
  | none => rw [mins_none g] at h; exact ⟨h, rfl⟩
theorem ex_mins {X H G : Hp} (e : Ex X H) (d : ∀ a, G a ≠ none → X a = none) : Ex X (mins H G) := fun a o h => by
  have hg : G a = none := by
    cases g : G a with
    | none => rfl
    | some u => have := d a (some_ne g); rw [this] at h; cases h
  rw [mins_none hg]
  exact e a o h
theorem un_mins {G G1 : Hp} (e : Ex G1 G) : un (mins G G1) G1 = G := by
  funext a
  unfold un
  cases h : G1 a with
  | some o => exact (e a o h).symm
  | none => exact mins_none h
end

end
section
open PySem L2 Evl

/-! ### states -/
structure Fr where
  B : Hp
  pv : Nat → Option V
inductive Slot where
  /-- anything; new and frozen; to be read; owned; owned by who called, changed in place -/
  | n | f (d : D) | r (d : D) | o (t : OT) | p (t : OT)
abbrev Gm := List Slot
def SlotOk (c : Ct) (fr : Fr) (F G H : Hp) (σ : L2.St) (i : Nat) : Slot → Prop
  | .n => True
  | .f d => ∃ v, σ[i]? = some (some v) ∧ Is c H F v d
  | .r d => ∃ v, σ[i]? = some (some v) ∧ Is c H (un fr.B F) v d
  | .o t => ∃ v, σ[i]? = some (some v) ∧ Ow c H F G v t
  | .p t => ∃ v, fr.pv i = some v ∧ σ[i]? = some (some v) ∧ Ow c H F G v t
structure Sta (c : Ct) (fr : Fr) (Γ : Gm) (σ : L2.St) (F : Hp) (G : Nat → Hp) (H : Hp) : Prop where
  len : σ.length = Γ.length
  bh : Ex fr.B H
  fh : Ex F H
  bf : Ap F fr.B
  gh : ∀ i, Ex (G i) H
  gb : ∀ i, Ap (G i) fr.B
  gf : ∀ i, Ap (G i) F
  gg : ∀ i j, i ≠ j → Ap (G i) (G j)
  gm : ∀ i, NoTup (G i)
  sl : ∀ (i : Nat) s, Γ[i]? = some s → SlotOk c fr F (G i) H σ i s
/-- from one state to a later one -/
structure Tr (F : Hp) (G : Nat → Hp) (H : Hp) (F' : Hp) (G' : Nat → Hp) (H' : Hp) : Prop where
  f : Ex F F'
  keep : ∀ a o, H a = some o → (∀ i, G i a = none) → H' a = some o
  gn : ∀ i a, G' i a ≠ none → H a = none ∨ ∃ j, G j a ≠ none
  fn : ∀ a, F' a ≠ none → F a = none → H a = none ∨ ∃ j, G j a ≠ none
section
variable {c : Ct} {fr : Fr} {Γ Γ' Γ'' : Gm} {σ σ' : L2.St} {F F' F'' H H' H'' : Hp} {G G' G'' : Nat → Hp}
theorem Tr.refl (S : Sta c fr Γ σ F G H) : Tr F G H F G H := ⟨Ex.refl _, fun _ _ h _ => h, fun i a h => .inr ⟨i, h⟩, fun a h1 h2 => absurd h2 h1⟩
theorem Tr.back (t : Tr F G H F' G' H') {a : Addr} (h : H' a = none) : H a = none ∨ ∃ j, G j a ≠ none := by
  cases e : H a with
  | none => exact .inl rfl
  | some o =>
    refine .inr (Classical.byContradiction fun z => ?_)
    have : ∀ i, G i a = none := fun i => Classical.byContradiction fun w => z ⟨i, w⟩
    rw [t.keep a o e this] at h; cases h
theorem Tr.org (t : Tr F G H F' G' H') {a : Addr} (h : H' a = none ∨ ∃ j, G' j a ≠ none) : H a = none ∨ ∃ j, G j a ≠ none := by
  rcases h with h | ⟨j, h⟩
  · exact t.back h
  · exact t.gn j a h
theorem Tr.trans (t : Tr F G H F' G' H') (u : Tr F' G' H' F'' G'' H'') : Tr F G H F'' G'' H'' := by
  refine ⟨t.f.trans u.f, fun a o h n => u.keep a o (t.keep a o h n) fun i => ?_, fun i a h => t.org (u.gn i a h), fun a h1 h2 => ?_⟩
  · refine Classical.byContradiction fun z => ?_
    rcases t.gn i a z with w | ⟨j, w⟩
    · rw [w] at h; cases h
    · exact w (n j)
  · by_cases e : F' a = none
    · exact t.org (u.fn a h1 e)
    · exact t.fn a e h2
theorem Sta.tup (S : Sta c fr Γ σ F G H) {a : Addr} {xs : List V} (h : H a = some (.tup xs)) (i : Nat) : G i a = none := by
  cases e : G i a with
  | none => rfl
  | some o =>
    have := S.gh i a o e
    rw [h] at this
    cases this
    exact absurd e (S.gm i a xs)
theorem Tr.tp (t : Tr F G H F' G' H') (S : Sta c fr Γ σ F G H) : Tp H H' := fun a xs h => t.keep a _ h (S.tup h)
theorem Sta.rh (S : Sta c fr Γ σ F G H) : Ex (un fr.B F) H := un_ex S.bh S.fh
/-- the heap grows, new things frozen -/
theorem Sta.grow (S : Sta c fr Γ σ F G H) (e : Ex H H') (f : Ex F F') (fh : Ex F' H') (n : ∀ a, F' a ≠ none → F a = none → H a = none) : Sta c fr Γ σ F' G H' := by
  have hb : Ap F' fr.B := fun a z => by
    by_cases q : F a = none
    · exact none_of_ex S.bh (n a z q)
    · exact S.bf a q
  refine ⟨S.len, S.bh.trans e, fh, hb, fun i => (S.gh i).trans e, S.gb, fun i a z => ?_, S.gg, S.gm, fun i s h => ?_⟩
  · refine Classical.byContradiction fun q => ?_
    by_cases w : F a = none
    · exact absurd (n a q w) (ex_ne (S.gh i) z)
    · exact w (S.gf i a z)
  · have o := S.sl i s h
    cases s with
    | n => trivial
    | f d => obtain ⟨v, h1, h2⟩ := o; exact ⟨v, h1, h2.mono (Tp.of e) f⟩
    | r d => obtain ⟨v, h1, h2⟩ := o; exact ⟨v, h1, h2.mono (Tp.of e) (un_mono f hb)⟩
    | o t => obtain ⟨v, h1, h2⟩ := o; exact ⟨v, h1, h2.mono (Tp.of e) f (Ex.refl _)⟩
    | p t => obtain ⟨v, h0, h1, h2⟩ := o; exact ⟨v, h0, h1, h2.mono (Tp.of e) f (Ex.refl _)⟩
theorem Tr.grow (S : Sta c fr Γ σ F G H) (e : Ex H H') (f : Ex F F') (n : ∀ a, F' a ≠ none → F a = none → H a = none) : Tr F G H F' G H' :=
  ⟨f, fun a o h _ => e a o h, fun i a h => .inr ⟨i, h⟩, fun a h1 h2 => .inl (n a h1 h2)⟩
theorem Sta.heap (S : Sta c fr Γ σ F G H) (e : Ex H H') : Sta c fr Γ σ F G H' := S.grow e (Ex.refl _) (S.fh.trans e) fun a h1 h2 => absurd h2 h1
theorem Tr.heap (S : Sta c fr Γ σ F G H) (e : Ex H H') : Tr F G H F G H' := Tr.grow S e (Ex.refl _) fun a h1 h2 => absurd h2 h1
/-- a temporary's own cells -/
structure Tmp (fr : Fr) (F : Hp) (G : Nat → Hp) (H : Hp) (N : Hp) : Prop where
  h : Ex N H
  m : NoTup N
  b : Ap N fr.B
  f : Ap N F
  g : ∀ i, Ap N (G i)
theorem Tmp.tr {N : Hp} (n : Tmp fr F G H N) (t : Tr F G H F' G' H') : Tmp fr F' G' H' N := by
  refine ⟨fun a o q => t.keep a o (n.h a o q) fun i => n.g i a (some_ne q), n.m, n.b, fun a z => ?_, fun i a z => ?_⟩
  · refine Classical.byContradiction fun q => ?_
    rcases t.fn a q (n.f a z) with w | ⟨j, w⟩
    · exact ex_ne n.h z w
    · exact w (n.g j a z)
  · refine Classical.byContradiction fun q => ?_
    rcases t.gn i a q with w | ⟨j, w⟩
    · exact ex_ne n.h z w
    · exact w (n.g j a z)
/-- a temporary is frozen -/
theorem Sta.fzT {N : Hp} (S : Sta c fr Γ σ F G H) (n : Tmp fr F G H N) : Sta c fr Γ σ (un F N) G H := by
  have fx : Ex F (un F N) := un_r n.f
  have hb : Ap (un F N) fr.B := fun a z => by
    rcases un_or z with q | q
    · exact n.b a q
    · exact S.bf a q
  refine ⟨S.len, S.bh, un_ex S.fh n.h, hb, S.gh, S.gb, fun i a z => ?_, S.gg, S.gm, fun i s h => ?_⟩
  · refine Classical.byContradiction fun q => ?_
    rcases un_or q with q | q
    · exact z (n.g i a q)
    · exact q (S.gf i a z)
  · have o := S.sl i s h
    cases s with
    | n => trivial
    | f d => obtain ⟨v, h1, h2⟩ := o; exact ⟨v, h1, h2.mono (Tp.refl _) fx⟩
    | r d => obtain ⟨v, h1, h2⟩ := o; exact ⟨v, h1, h2.mono (Tp.refl _) (un_mono fx hb)⟩
    | o t => obtain ⟨v, h1, h2⟩ := o; exact ⟨v, h1, h2.mono (Tp.refl _) fx (Ex.refl _)⟩
    | p t => obtain ⟨v, h0, h1, h2⟩ := o; exact ⟨v, h0, h1, h2.mono (Tp.refl _) fx (Ex.refl _)⟩
theorem Tr.fzT {N : Hp} (n : ∀ a, N a ≠ none → H a = none ∨ ∃ j, G j a ≠ none) (t : Tr F G H F' G' H') (nf : Ap N F') : Tr F G H (un F' N) G' H' :=
  ⟨t.f.trans (un_r nf), t.keep, t.gn, fun a h1 h2 => by
    rcases un_or h1 with q | q
    · exact n a q
    · exact t.fn a q h2⟩
end

/-! ### results -/
inductive Kd where
  | f | r | h
  deriving DecidableEq
def Kd.max : Kd → Kd → Kd
  | .f, k => k
  | k, .f => k
  | .r, k => k
  | .h, _ => .h
def IsK (c : Ct) (B F H : Hp) (v : V) (d : D) : Kd → Prop
  | .f => Is c H F v d
  | .r => Is c H (un B F) v d
  | .h => Is c H H v d
def IsKL (c : Ct) (B F H : Hp) (v : List V) (d : List D) : Kd → Prop
  | .f => IsL c H F v d
  | .r => IsL c H (un B F) v d
  | .h => IsL c H H v d
structure Xn where
  C : Str
  fs : List (Str × V)
inductive Er (α : Type) where
  | ok (a : α) (Γ : Gm) (m : Nat)
  | ex (e : Xn) (Γ : Gm)
  | no
abbrev EF := Gm → Er (Kd × D)
abbrev OF := Gm → Er OT
abbrev AF := Gm → Er (Kd × List D)
abbrev TF := Gm → Er Bool
section
variable {c : Ct} {fr : Fr} {Γ Γ' Γ'' : Gm} {σ σ' : L2.St} {F F' F'' H H' H'' : Hp} {G G' G'' : Nat → Hp} {v : V} {d : D} {vs : List V} {ds : List D} {k k' : Kd}
theorem IsK.h (S : Sta c fr Γ σ F G H) : ∀ {k : Kd}, IsK c fr.B F H v d k → Is c H H v d
  | .f, i => i.mono (Tp.refl _) S.fh
  | .r, i => i.mono (Tp.refl _) S.rh
  | .h, i => i
theorem IsK.up (S : Sta c fr Γ σ F G H) : ∀ {k k' : Kd}, IsK c fr.B F H v d k → IsK c fr.B F H v d (k.max k') ∧ IsK c fr.B F H v d (k'.max k)
  | .f, .f, i => ⟨i, i⟩
  | .f, .r, i => ⟨i.mono (Tp.refl _) un_l, i.mono (Tp.refl _) un_l⟩
  | .f, .h, i => ⟨IsK.h (k := .f) S i, IsK.h (k := .f) S i⟩
  | .r, .f, i => ⟨i, i⟩
  | .r, .r, i => ⟨i, i⟩
  | .r, .h, i => ⟨IsK.h (k := .r) S i, IsK.h (k := .r) S i⟩
  | .h, .f, i => ⟨i, i⟩
  | .h, .r, i => ⟨i, i⟩
  | .h, .h, i => ⟨i, i⟩
theorem IsKL.up (S : Sta c fr Γ σ F G H) : ∀ {k k' : Kd}, IsKL c fr.B F H vs ds k → IsKL c fr.B F H vs ds (k'.max k)
  | .f, .f, i => i
  | .f, .r, i => i.mono (Tp.refl _) un_l
  | .f, .h, i => i.mono (Tp.refl _) S.fh
  | .r, .f, i => i
  | .r, .r, i => i
  | .r, .h, i => i.mono (Tp.refl _) S.rh
  | .h, .f, i => i
  | .h, .r, i => i
  | .h, .h, i => i
theorem IsKL.h (S : Sta c fr Γ σ F G H) : ∀ {k : Kd}, IsKL c fr.B F H vs ds k → IsL c H H vs ds
  | .f, i => i.mono (Tp.refl _) S.fh
  | .r, i => i.mono (Tp.refl _) S.rh
  | .h, i => i
theorem IsKL.cons : ∀ {k : Kd}, IsK c fr.B F H v d k → IsKL c fr.B F H vs ds k → IsKL c fr.B F H (v :: vs) (d :: ds) k
  | .f, h, t => IsL.cons h t
  | .r, h, t => IsL.cons h t
  | .h, h, t => IsL.cons h t
/-- it lasts -/
theorem IsK.tr (S : Sta c fr Γ σ F G H) (S' : Sta c fr Γ' σ' F' G' H') (t : Tr F G H F' G' H') : ∀ {k : Kd}, (k = .h → Ex H H') → IsK c fr.B F H v d k → IsK c fr.B F' H' v d k
  | .f, _, i => i.mono (t.tp S) t.f
  | .r, _, i => i.mono (t.tp S) (un_mono t.f S'.bf)
  | .h, e, i => i.mono (t.tp S) (e rfl)
theorem IsKL.tr (S : Sta c fr Γ σ F G H) (S' : Sta c fr Γ' σ' F' G' H') (t : Tr F G H F' G' H') : ∀ {k : Kd}, (k = .h → Ex H H') → IsKL c fr.B F H vs ds k → IsKL c fr.B F' H' vs ds k
  | .f, _, i => i.mono (t.tp S) t.f
  | .r, _, i => i.mono (t.tp S) (un_mono t.f S'.bf)
  | .h, e, i => i.mono (t.tp S) (e rfl)
theorem IsK.leaf {x : V} : ∀ {k : Kd}, IsK c fr.B F H x (.v x) k
  | .f => .v x
  | .r => .v x
  | .h => .v x
/-- what cannot change is new -/
theorem IsK.imm (S : Sta c fr Γ σ F G H) {k : Kd} (h : d.imm = true) (i : IsK c fr.B F H v d k) : Is c H F v d := (IsK.h S i).imm h
end
/-- an exception's class and attributes -/
def IsX (c : Ct) (H : Hp) (e : Xn) (cls : Value) (dd : Option Addr) : Prop := cls = .ref (c.cn e.C) ∧ (e.fs = [] ∨ ∃ a, dd = some a ∧ H a = some (exd a e.fs))
/-- how much was changed: 0 nothing, 1 trees were handed on, 2 cells written -/
def Stl (m : Nat) (G : Nat → Hp) (H : Hp) (G' : Nat → Hp) (H' : Hp) : Prop := (m ≤ 1 → Ex H H') ∧ (m = 0 → G' = G)
theorem Stl.z {G : Nat → Hp} {H : Hp} {m : Nat} : Stl m G H G H := ⟨fun _ => Ex.refl _, fun _ => rfl⟩
theorem Stl.e {G : Nat → Hp} {H H' : Hp} {m : Nat} (e : Ex H H') : Stl m G H G H' := ⟨fun _ => e, fun _ => rfl⟩
theorem Stl.trans {m m' : Nat} {G G' G'' : Nat → Hp} {H H' H'' : Hp} (a : Stl m G H G' H') (b : Stl m' G' H' G'' H'') : Stl (max m m') G H G'' H'' := ⟨fun z => (a.1 (by omega)).trans (b.1 (by omega)), fun z => (b.2 (by omega)).trans (a.2 (by omega))⟩
section
variable (c : Ct) (W : WX) (fr : Fr) (σ : L2.St)
def Er.post {α : Type} (F : Hp) (G : Nat → Hp) (H : Hp) (P : α → Hp → (Nat → Hp) → Hp → Prop) : Er α → Prop
  | .ok a Γ' m => ∀ F' G' H', Sta c fr Γ' σ F' G' H' → Tr F G H F' G' H' → (Stl m G H G' H') → P a F' G' H'
  | .ex e Γ' => ∀ F' G' H' cls dd, Sta c fr Γ' σ F' G' H' → Ex F F' ∧ Tp H H' → IsX c H' e cls dd → W cls dd σ H'
  | .no => False
end
def SndE (c : Ct) (W : WX) (te : TE) (f : EF) : Prop := ∀ fr Γ σ F G H, Sta c fr Γ σ F G H → ∀ Q : VK,
  (f Γ).post c W fr σ F G H (fun a F' G' H' => ∀ v, IsK c fr.B F' H' v a.2 a.1 → Q v H') → te σ H Q
def SndA (c : Ct) (W : WX) (ta : TA) (f : AF) : Prop := ∀ fr Γ σ F G H, Sta c fr Γ σ F G H → ∀ Q : List V → Hp → Prop,
  (f Γ).post c W fr σ F G H (fun a F' G' H' => ∀ vs, IsKL c fr.B F' H' vs a.2 a.1 → Q vs H') → ta σ H Q
def SndT (c : Ct) (W : WX) (tt : TT) (f : TF) : Prop := ∀ fr Γ σ F G H, Sta c fr Γ σ F G H → ∀ Q : Bool → Hp → Prop,
  (f Γ).post c W fr σ F G H (fun b F' G' H' => Q b H') → tt σ H Q
def SndO (c : Ct) (W : WX) (te : TE) (f : OF) : Prop := ∀ fr Γ σ F G H, Sta c fr Γ σ F G H → ∀ Q : VK,
  (f Γ).post c W fr σ F G H (fun t F' G' H' => ∀ v N, Tmp fr F' G' H' N → (∀ a, N a ≠ none → H a = none ∨ ∃ j, G j a ≠ none) → Ow c H' F' N v t → Q v H') → te σ H Q
def Er.bind {α β : Type} (x : Er α) (k : α → Gm → Nat → Er β) : Er β := match x with
  | .ok a Γ m => match k a Γ m with
    | .ok b Γ' m' => .ok b Γ' (max m m')
    | .ex e Γ' => .ex e Γ'
    | .no => .no
  | .ex e Γ => .ex e Γ
  | .no => .no
section
variable {c : Ct} {W : WX} {fr : Fr} {σ : L2.St} {F F' H H' : Hp} {G G' : Nat → Hp} {Γ Γ' : Gm}
theorem Er.post.mono {α : Type} {P P' : α → Hp → (Nat → Hp) → Hp → Prop} {x : Er α} (q : x.post c W fr σ F G H P) (h : ∀ a F' G' H', P a F' G' H' → P' a F' G' H') : x.post c W fr σ F G H P' := by
  cases x with
  | ok a Γ m => exact fun F' G' H' S t s => h _ _ _ _ (q F' G' H' S t s)
  | ex e Γ => exact q
  | no => exact q
/-- one after the other -/
theorem post_bind {α β : Type} (S0 : Sta c fr Γ σ F G H) {P : β → Hp → (Nat → Hp) → Hp → Prop} {x : Er α} {k : α → Gm → Nat → Er β} (q : (x.bind k).post c W fr σ F G H P)
    {R : α → Hp → (Nat → Hp) → Hp → Prop}
    (h : ∀ a Γ1 m F1 G1 H1, x = .ok a Γ1 m → Sta c fr Γ1 σ F1 G1 H1 → Tr F G H F1 G1 H1 → (Stl m G H G1 H1) → (k a Γ1 m).post c W fr σ F1 G1 H1 P → R a F1 G1 H1) : x.post c W fr σ F G H R := by
  cases x with
  | no => exact q
  | ex e Γ => exact q
  | ok a Γ1 m =>
    intro F1 G1 H1 S1 t1 s1
    refine h a Γ1 m F1 G1 H1 rfl S1 t1 s1 ?_
    unfold Er.bind at q
    dsimp only at q
    cases hk : k a Γ1 m with
    | no => rw [hk] at q; exact q
    | ex e Γ2 =>
      rw [hk] at q
      exact fun F' G' H' cls dd S f i => q F' G' H' cls dd S ⟨t1.f.trans f.1, (t1.tp S0).trans f.2⟩ i
    | ok b Γ2 m2 =>
      rw [hk] at q
      dsimp only at q
      exact fun F' G' H' S t s => q F' G' H' S (t1.trans t) (s1.trans s)
theorem post_ok {α : Type} {P : α → Hp → (Nat → Hp) → Hp → Prop} {a : α} (S : Sta c fr Γ σ F G H) {m : Nat} (q : (Er.ok a Γ m).post c W fr σ F G H P) : P a F G H := q F G H S (Tr.refl S) Stl.z
/-- a new cell, frozen; not frozen -/
theorem post_new {α : Type} {P : α → Hp → (Nat → Hp) → Hp → Prop} {a : α} {p : Addr} {o : HO} (S : Sta c fr Γ σ F G H) (hp : H p = none) {m : Nat} (q : (Er.ok a Γ m).post c W fr σ F G H P) : P a (upd F p o) G (upd H p o) := by
  have hF : F p = none := none_of_ex S.fh hp
  have n : ∀ a, upd F p o a ≠ none → F a = none → H a = none := fun a h1 h2 => by
    by_cases e : a = p
    · subst e; exact hp
    · rw [upd_ne e] at h1; exact absurd h2 h1
  exact q _ _ _ (S.grow (Ex.new hp) (Ex.new hF) (fun a u q => by
    by_cases e : a = p
    · subst e; rw [upd_same] at q ⊢; exact q
    · rw [upd_ne e] at q ⊢; exact S.fh a u q) n) (Tr.grow S (Ex.new hp) (Ex.new hF) n) (Stl.e (Ex.new hp))
theorem post_newT {α : Type} {P : α → Hp → (Nat → Hp) → Hp → Prop} {a : α} {p : Addr} {o : HO} (S : Sta c fr Γ σ F G H) (hp : H p = none) {m : Nat} (q : (Er.ok a Γ m).post c W fr σ F G H P) : P a F G (upd H p o) :=
  q _ _ _ (S.heap (Ex.new hp)) (Tr.heap S (Ex.new hp)) (Stl.e (Ex.new hp))
theorem upd_fh (S : Sta c fr Γ σ F G H) {p : Addr} {o : HO} : Ex (upd F p o) (upd H p o) := fun a u q => by
  by_cases e : a = p
  · subst e; rw [upd_same] at q ⊢; exact q
  · rw [upd_ne e] at q ⊢; exact S.fh a u q
/-- a new cell is a temporary -/
theorem Tmp.new {p : Addr} {o : HO} (S : Sta c fr Γ σ F G H) (hp : H p = none) (ho : ∀ xs, o ≠ .tup xs) : Tmp fr F G (upd H p o) (one p o) :=
  ⟨one_ex upd_same, fun a xs e => by
    have z := one_ne (some_ne e)
    subst z
    rw [show one a o a = some o from upd_same] at e
    cases e
    exact ho xs rfl, fun a z => by rw [one_ne z]; exact none_of_ex S.bh hp, fun a z => by rw [one_ne z]; exact none_of_ex S.fh hp, fun i a z => by rw [one_ne z]; exact none_of_ex (S.gh i) hp⟩
end

/-! ### from owned to datum -/
/-- the result, frozen -/
def eFz (f : OF) : EF := fun Γ => (f Γ).bind fun t Γ1 _ => .ok (.f, t.d) Γ1 0
section
variable {c : Ct} {W : WX} {te ta tb tc : TE} {f g h : EF} {o : OF}
theorem snd_fz (ho : SndO c W te o) : SndE c W te (eFz o) := fun fr Γ σ F G H S Q q => by
  refine ho fr Γ σ F G H S Q ?_
  unfold eFz at q
  cases e : o Γ with
  | no => rw [e] at q; exact q
  | ex x Γ1 => rw [e] at q; exact q
  | ok t Γ1 m =>
    rw [e] at q
    unfold Er.bind at q
    dsimp only at q
    intro F' G' H' S1 t1 s1 v N hn ho hw
    refine q (un F' N) G' H' (S1.fzT hn) (Tr.fzT ho t1 hn.f) (by rw [Nat.max_zero]; exact s1) v ?_
    exact hw.is (un_r hn.f) un_l
end

end
section
open PySem L2 Evl

/-- a value that would not outlast what came behind it -/
def bad (k : Kd) (d : D) (m : Nat) : Bool := k == .h && (decide (1 < m) && !d.imm)
def bads (k : Kd) (ds : List D) (m : Nat) : Bool := k == .h && (decide (1 < m) && !imms ds)
/-- a kind, better where nothing can change -/
def Kd.im (k : Kd) (d : D) : Kd := if d.imm = true then .f else k
section
variable {c : Ct} {W : WX} {fr : Fr} {σ : L2.St} {F F' H H' : Hp} {G G' : Nat → Hp} {Γ Γ' : Gm} {v : V} {d : D} {vs : List V} {ds : List D} {k : Kd} {m : Nat}
theorem IsK.last (S : Sta c fr Γ σ F G H) (S' : Sta c fr Γ' σ F' G' H') (t : Tr F G H F' G' H') (s : Stl m G H G' H') (hb : bad k d m = false) (i : IsK c fr.B F H v d k) : IsK c fr.B F' H' v d k := by
  by_cases hm : m ≤ 1
  · exact IsK.tr S S' t (fun _ => s.1 hm) i
  · cases k with
    | f => exact IsK.tr S S' t (fun z => nomatch z) i
    | r => exact IsK.tr S S' t (fun z => nomatch z) i
    | h =>
      have e : d.imm = true := by
        cases q : d.imm with
        | true => rfl
        | false => unfold bad at hb; rw [q, decide_eq_true (by omega : 1 < m)] at hb; cases hb
      have j : IsK c fr.B F H v d .f := IsK.imm S e i
      exact IsK.h S' (IsK.tr S S' t (k := .f) (fun z => nomatch z) j)
theorem IsKL.last (S : Sta c fr Γ σ F G H) (S' : Sta c fr Γ' σ F' G' H') (t : Tr F G H F' G' H') (s : Stl m G H G' H') (hb : bads k ds m = false) (i : IsKL c fr.B F H vs ds k) : IsKL c fr.B F' H' vs ds k := by
  by_cases hm : m ≤ 1
  · exact IsKL.tr S S' t (fun _ => s.1 hm) i
  · cases k with
    | f => exact IsKL.tr S S' t (fun z => nomatch z) i
    | r => exact IsKL.tr S S' t (fun z => nomatch z) i
    | h =>
      have e : imms ds = true := by
        cases q : imms ds with
        | true => rfl
        | false => unfold bads at hb; rw [q, decide_eq_true (by omega : 1 < m)] at hb; cases hb
      have j : IsKL c fr.B F H vs ds .f := IsL.imm i e
      exact IsKL.h S' (IsKL.tr S S' t (k := .f) (fun z => nomatch z) j)
theorem IsK.im (S : Sta c fr Γ σ F G H) (i : IsK c fr.B F H v d k) : IsK c fr.B F H v d (k.im d) := by
  unfold Kd.im
  by_cases e : d.imm = true
  · rw [if_pos e]; exact IsK.imm S e i
  · rw [if_neg e]; exact i
end

/-! ### names, constants -/
def eVar (i : Nat) : EF := fun Γ => match Γ[i]? with
  | some (.f d) => .ok (.f, d) Γ 0
  | some (.r d) => .ok (.r, d) Γ 0
  | some (.o t) => .ok (.h, t.d) Γ 0
  | some (.p t) => .ok (.h, t.d) Γ 0
  | _ => .no
def eC (x : V) : EF := fun Γ => .ok (.f, .v x) Γ 0
def eTk (ds : List D) : EF := fun Γ => .ok (.f, .tk ds) Γ 0
/-- a name whose tree is handed on -/
def oVar (i : Nat) : OF := fun Γ => match Γ[i]? with
  | some (.o t) => .ok t (Γ.set i .n) 1
  | _ => .no
section
variable {c : Ct} {W : WX} {te ta tb tc : TE} {f g h : EF} {o o' : OF} {fr : Fr} {σ : L2.St} {F F' H H' : Hp} {G G' : Nat → Hp} {Γ Γ' : Gm}
theorem snd_var {i : Nat} : SndE c W (tVar i) (eVar i) := fun fr Γ σ F G H S Q q => by
  unfold eVar at q
  cases e : Γ[i]? with
  | none => rw [e] at q; exact q.elim
  | some s =>
    rw [e] at q
    have o := S.sl i s e
    cases s with
    | n => exact q.elim
    | f d => obtain ⟨v, h1, h2⟩ := o; exact ⟨v, h1, post_ok S q v h2⟩
    | r d => obtain ⟨v, h1, h2⟩ := o; exact ⟨v, h1, post_ok S q v h2⟩
    | o t => obtain ⟨v, h1, h2⟩ := o; exact ⟨v, h1, post_ok S q v (h2.is S.fh (S.gh i))⟩
    | p t => obtain ⟨v, h0, h1, h2⟩ := o; exact ⟨v, h1, post_ok S q v (h2.is S.fh (S.gh i))⟩
theorem snd_c {x : V} : SndE c W (tC x) (eC x) := fun fr Γ σ F G H S Q q => post_ok S q x (.v x)
theorem snd_tk {x : V} {ds : List D} (h : ∀ T M, Is c T M x (.tk ds)) : SndE c W (tC x) (eTk ds) := fun fr Γ σ F G H S Q q => post_ok S q x (h _ _)
/-- a slot is given up -/
theorem Sta.drop (S : Sta c fr Γ σ F G H) (i : Nat) : Sta c fr (Γ.set i .n) σ F (fun j => if j = i then H0 else G j) H := by
  refine ⟨by rw [List.length_set]; exact S.len, S.bh, S.fh, S.bf, fun j => ?_, fun j => ?_, fun j => ?_, fun j l hjl => ?_, fun j => ?_, fun j s hs => ?_⟩
  · by_cases e : j = i
    · simp only [e, if_true]; exact H0_ex
    · simp only [e, if_false]; exact S.gh j
  · by_cases e : j = i
    · simp only [e, if_true]; exact fun a z => absurd rfl z
    · simp only [e, if_false]; exact S.gb j
  · by_cases e : j = i
    · simp only [e, if_true]; exact fun a z => absurd rfl z
    · simp only [e, if_false]; exact S.gf j
  · by_cases e : j = i
    · simp only [e, if_true]; exact fun a z => absurd rfl z
    · by_cases el : l = i
      · simp only [el, if_true]; exact fun a z => rfl
      · simp only [e, el, if_false]; exact S.gg j l hjl
  · by_cases e : j = i
    · simp only [e, if_true]; exact fun a xs q => nomatch q
    · simp only [e, if_false]; exact S.gm j
  · by_cases e : j = i
    · subst e
      by_cases hl : j < Γ.length
      · rw [List.getElem?_set_self hl] at hs
        cases hs; trivial
      · rw [List.getElem?_eq_none (by rw [List.length_set]; omega)] at hs
        cases hs
    · rw [List.getElem?_set_ne (Ne.symm e)] at hs
      simp only [e, if_false]
      exact S.sl j s hs
theorem Tr.drop (S : Sta c fr Γ σ F G H) (i : Nat) : Tr F G H F (fun j => if j = i then H0 else G j) H :=
  ⟨Ex.refl _, fun _ _ h _ => h, fun j a h => .inr ⟨j, by
    by_cases e : j = i
    · simp only [e, if_true] at h; exact absurd rfl h
    · simp only [e, if_false] at h; exact h⟩, fun a h1 h2 => absurd h2 h1⟩
theorem snd_ovar {i : Nat} : SndO c W (tVar i) (oVar i) := fun fr Γ σ F G H S Q q => by
  unfold oVar at q
  cases e : Γ[i]? with
  | none => rw [e] at q; exact q.elim
  | some s =>
    rw [e] at q
    have o := S.sl i s e
    cases s with
    | n => exact q.elim
    | f d => exact q.elim
    | r d => exact q.elim
    | p t => exact q.elim
    | o t =>
      obtain ⟨v, h1, h2⟩ := o
      refine ⟨v, h1, q F _ H (S.drop i) (Tr.drop S i) ⟨fun _ => Ex.refl _, fun z => nomatch z⟩ v (G i) ⟨S.gh i, S.gm i, S.gb i, S.gf i, fun j => ?_⟩ (fun a z => .inr ⟨i, z⟩) h2⟩
      by_cases e : j = i
      · simp only [e, if_true]; exact fun a z => rfl
      · simp only [e, if_false]; exact S.gg i j (Ne.symm e)

/-! ### operations that give leaves -/
def RL2 (c : Ct) (r : R2) (g : D → D → Option V) : Prop := ∀ x y d e w H (Q : VK), Is c H H x d → Is c H H y e → g d e = some w → Q w H → r x y H Q
def RL1 (c : Ct) (r : V → Hp → VK → Prop) (g : D → Option V) : Prop := ∀ x d w H (Q : VK), Is c H H x d → g d = some w → Q w H → r x H Q
def RLn (c : Ct) (r : List V → Hp → VK → Prop) (g : List D → Option V) : Prop := ∀ xs ds w H (Q : VK), IsL c H H xs ds → g ds = some w → Q w H → r xs H Q
def leafR (w : Option V) (Γ : Gm) : Er (Kd × D) := match w with
  | some w => .ok (.f, .v w) Γ 0
  | none => .no
def eOp (g : D → D → Option V) (a b : EF) : EF := fun Γ => (a Γ).bind fun x Γ1 _ => (b Γ1).bind fun y Γ2 m => if bad x.1 x.2 m = true then .no else leafR (g x.2 y.2) Γ2
def eUn (g : D → Option V) (a : EF) : EF := fun Γ => (a Γ).bind fun x Γ1 _ => leafR (g x.2) Γ1
def eCB (g : List D → Option V) (a : AF) : EF := fun Γ => (a Γ).bind fun x Γ1 _ => leafR (g x.2) Γ1
theorem post_leaf {P : Kd × D → Hp → (Nat → Hp) → Hp → Prop} {w : Option V} (S : Sta c fr Γ σ F G H) (q : (leafR w Γ).post c W fr σ F G H P) : ∃ x, w = some x ∧ P (.f, .v x) F G H := by
  cases w with
  | none => exact q.elim
  | some x => exact ⟨x, rfl, post_ok S q⟩
theorem post_if {α : Type} {P : α → Hp → (Nat → Hp) → Hp → Prop} {b : Bool} {x : Er α} (q : (if b = true then .no else x).post c W fr σ F G H P) : b = false ∧ x.post c W fr σ F G H P := by
  cases b with
  | true => exact q.elim
  | false => exact ⟨rfl, q⟩
theorem snd_op {r : R2} {gg : D → D → Option V} (hr : RL2 c r gg) (ha : SndE c W ta f) (hb : SndE c W tb g) : SndE c W (tOp r ta tb) (eOp gg f g) := fun fr Γ σ F G H S Q q => by
  refine ha fr Γ σ F G H S _ (post_bind S q fun x Γ1 m1 F1 G1 H1 _ S1 t1 s1 q1 v i1 => ?_)
  refine hb fr Γ1 σ F1 G1 H1 S1 _ (post_bind S1 q1 fun y Γ2 m2 F2 G2 H2 _ S2 t2 s2 q2 w i2 => ?_)
  obtain ⟨hbd, q2⟩ := post_if q2
  obtain ⟨z, e, q3⟩ := post_leaf S2 q2
  exact hr _ _ _ _ z H2 Q (IsK.h S2 (IsK.last S1 S2 t2 s2 hbd i1)) (IsK.h S2 i2) e (q3 z (.v z))
theorem snd_un {r : V → Hp → VK → Prop} {gg : D → Option V} (hr : RL1 c r gg) (ha : SndE c W ta f) : SndE c W (tUn r ta) (eUn gg f) := fun fr Γ σ F G H S Q q => by
  refine ha fr Γ σ F G H S _ (post_bind S q fun x Γ1 m1 F1 G1 H1 _ S1 t1 s1 q1 v i1 => ?_)
  obtain ⟨z, e, q3⟩ := post_leaf S1 q1
  exact hr _ _ z H1 Q (IsK.h S1 i1) e (q3 z (.v z))
theorem snd_cb {r : List V → Hp → VK → Prop} {t : TA} {a : AF} {gg : List D → Option V} (hr : RLn c r gg) (ha : SndA c W t a) : SndE c W (tCB r t) (eCB gg a) := fun fr Γ σ F G H S Q q => by
  refine ha fr Γ σ F G H S _ (post_bind S q fun x Γ1 m1 F1 G1 H1 _ S1 t1 s1 q1 v i1 => ?_)
  obtain ⟨z, e, q3⟩ := post_leaf S1 q1
  exact hr _ _ z H1 Q (IsKL.h S1 i1) e (q3 z (.v z))
/-- argument lists -/
def aNil : AF := fun Γ => .ok (.f, []) Γ 0
def aCons (a : EF) (r : AF) : AF := fun Γ => (a Γ).bind fun x Γ1 _ => (r Γ1).bind fun y Γ2 m => if bad x.1 x.2 m = true then .no else .ok ((x.1.im x.2).max y.1, x.2 :: y.2) Γ2 0
theorem snd_nil : SndA c W tNil aNil := fun fr Γ σ F G H S Q q => post_ok S q [] .nil
theorem snd_cons {t : TA} {a : AF} (ha : SndE c W ta f) (hr : SndA c W t a) : SndA c W (tCons ta t) (aCons f a) := fun fr Γ σ F G H S Q q => by
  refine ha fr Γ σ F G H S _ (post_bind S q fun x Γ1 m1 F1 G1 H1 _ S1 t1 s1 q1 v i1 => ?_)
  refine hr fr Γ1 σ F1 G1 H1 S1 _ (post_bind S1 q1 fun y Γ2 m2 F2 G2 H2 _ S2 t2 s2 q2 w i2 => ?_)
  obtain ⟨hbd, q2⟩ := post_if q2
  have j := IsK.im S2 (IsK.last S1 S2 t2 s2 hbd i1)
  exact post_ok S2 q2 (v :: w) (IsKL.cons (IsK.up S2 (k' := y.1) j).1 (IsKL.up S2 i2))
/-! ### displays -/
def eTup (a : AF) : EF := fun Γ => (a Γ).bind fun x Γ1 _ => if decide (100000 < x.2.length) = true then .no else .ok (x.1, .t x.2) Γ1 0
def eLst (a : AF) : EF := fun Γ => (a Γ).bind fun x Γ1 _ => if decide (100000 < x.2.length) = true then .no else .ok (x.1, .l x.2) Γ1 0
def oLst (a : AF) : OF := fun Γ => (a Γ).bind fun x Γ1 _ => if decide (100000 < x.2.length) = true then .no else match x.1 with
  | .f => .ok (.l (x.2.map .fz)) Γ1 0
  | _ => .no
theorem snd_tup {t : TA} {a : AF} (ha : SndA c W t a) : SndE c W (tTup t) (eTup a) := fun fr Γ σ F G H S Q q => by
  refine ha fr Γ σ F G H S _ (post_bind S q fun x Γ1 m1 F1 G1 H1 _ S1 t1 s1 q1 vs i1 => ?_)
  obtain ⟨hl, q1⟩ := post_if q1
  have hn := (IsKL.h S1 i1).len
  refine ⟨by rw [hn]; exact sz_of (by simpa using hl), fun p hp => post_newT S1 hp q1 _ ?_⟩
  have e : Ex H1 (upd H1 p (.tup vs)) := Ex.new hp
  obtain ⟨k, ds⟩ := x
  cases k with
  | f => exact .t upd_same (IsL.mono (Tp.of e) (Ex.refl _) i1)
  | r => exact .t upd_same (IsL.mono (Tp.of e) (Ex.refl _) i1)
  | h => exact .t upd_same (IsL.mono (Tp.of e) e i1)
theorem snd_lst {t : TA} {a : AF} (ha : SndA c W t a) : SndE c W (tLst t) (eLst a) := fun fr Γ σ F G H S Q q => by
  refine ha fr Γ σ F G H S _ (post_bind S q fun x Γ1 m1 F1 G1 H1 _ S1 t1 s1 q1 vs i1 => ?_)
  obtain ⟨hl, q1⟩ := post_if q1
  have hn := (IsKL.h S1 i1).len
  refine ⟨by rw [hn]; exact sz_of (by simpa using hl), fun p hp => post_new S1 hp q1 _ ?_⟩
  have e : Ex H1 (upd H1 p (.lst vs)) := Ex.new hp
  have hF : F1 p = none := none_of_ex S1.fh hp
  have eF : Ex F1 (upd F1 p (.lst vs)) := Ex.new hF
  have nb : Ap (upd F1 p (.lst vs)) fr.B := fun a z => by
    by_cases w : a = p
    · subst w; exact none_of_ex S1.bh hp
    · rw [upd_ne w] at z; exact S1.bf a z
  obtain ⟨k, ds⟩ := x
  cases k with
  | f => exact .l (sq_of upd_same) (IsL.mono (Tp.of e) eF i1)
  | r => exact .l (sq_of (un_l p _ upd_same)) (IsL.mono (Tp.of e) (un_mono eF nb) i1)
  | h => exact .l (sq_of upd_same) (IsL.mono (Tp.of e) e i1)
theorem snd_olst {t : TA} {a : AF} (ha : SndA c W t a) : SndO c W (tLst t) (oLst a) := fun fr Γ σ F G H S Q q => by
  refine ha fr Γ σ F G H S _ ?_
  unfold oLst at q
  cases e : a Γ with
  | no => rw [e] at q; exact q
  | ex x Γ1 => rw [e] at q; exact q
  | ok x Γ1 m =>
    rw [e] at q
    obtain ⟨k, ds⟩ := x
    unfold Er.bind at q
    dsimp only at q
    intro F1 G1 H1 S1 t1 s1 vs i1
    have hn := (IsKL.h S1 i1).len
    by_cases hl : 100000 < ds.length
    · rw [if_pos (decide_eq_true hl)] at q; exact q.elim
    · rw [if_neg (by simpa using hl)] at q
      cases k with
      | r => exact q.elim
      | h => exact q.elim
      | f =>
        dsimp only at q
        refine ⟨by rw [hn]; exact sz_of (by simpa using hl), fun p hp => ?_⟩
        have e1 : Ex H1 (upd H1 p (.lst vs)) := Ex.new hp
        refine q F1 G1 _ (S1.heap e1) (t1.trans (Tr.heap S1 e1)) (s1.trans (m' := 0) (Stl.e e1)) (.ref p) (one p (.lst vs)) (Tmp.new S1 hp (fun xs z => nomatch z)) (fun b z => ?_) ?_
        · rw [one_ne z]; exact t1.back hp
        · exact .l (G0 := H0) upd_same rfl H0_ex (OwL.fz (IsL.mono (Tp.of e1) (Ex.refl _) i1))
end

end
section
open PySem L2 Evl

/-! ### operations on leaves -/
def gI (f : Int → Int → V) : D → D → Option V
  | .v (.int i), .v (.int j) => some (f i j)
  | _, _ => none
def gIc (C : Int → Int → Bool) (f : Int → Int → V) : D → D → Option V
  | .v (.int i), .v (.int j) => if C i j = true then some (f i j) else none
  | _, _ => none
def cMul (i j : Int) : Bool := decide (-(2 ^ 64) < i ∧ i < 2 ^ 64) || decide (-(2 ^ 64) < j ∧ j < 2 ^ 64)
def cDiv (i j : Int) : Bool := decide (0 < j ∧ j < 1073741824)
def cMod (i j : Int) : Bool := decide (0 < j)
def cPow (i j : Int) : Bool := decide (0 ≤ j ∧ j ≤ 1000000 ∧ i.natAbs < 2 ^ 64)
/-- == of scalars -/
def gEq (neg : Bool) : D → D → Option V
  | .v x, .v y => if scal x y = true then some (.bl (if neg then !decide (x = y) else decide (x = y))) else none
  | _, _ => none
def gIsN (neg : Bool) : D → D → Option V
  | .v x, .v .non => some (.bl (if neg then !decide (x = .non) else decide (x = .non)))
  | .v _, .v _ => none
  | .t _, .v .non => some (.bl neg)
  | .l _, .v .non => some (.bl neg)
  | .ob _ _ _, .v .non => some (.bl neg)
  | _, _ => none
def gAddS : D → D → Option V
  | .v (.str a), .v (.str b) => if a.length + b.length ≤ 1000000 then some (.str (a ++ b)) else none
  | _, _ => none
def gMulS : D → D → Option V
  | .v (.str a), .v (.int i) => if a.length ≤ 50000 ∧ -300 ≤ i ∧ i ≤ 300 then some (.str (Txt.mul a i)) else none
  | _, _ => none
/-- items -/
def D.items : D → Option (List D)
  | .l ds => some ds
  | .t ds => some ds
  | .tk ds => some ds
  | _ => none
def gIn (neg : Bool) : D → D → Option V
  | .v x, y => match y.items.bind lfs with
    | some vs => if flatV x && vs.all flatV then some (.bl (if neg then !inV x vs else inV x vs)) else none
    | none => none
  | _, _ => none
def gInS (neg : Bool) : D → D → Option V
  | .v (.str a), .v (.str b) => match a.cps.toList with
    | [c] => some (.bl (if neg then !decide (c ∈ b.cps.toList) else decide (c ∈ b.cps.toList)))
    | _ => none
  | _, _ => none
mutual
def D.py : D → PyData
  | .v .non => .none
  | .v (.bl b) => .bool b
  | .v (.int i) => .int i
  | .v (.str x) => .str x
  | .v _ => .none
  | .l ds => .list (D.pys ds)
  | .t ds => .tuple (D.pys ds)
  | .tk ds => .tuple (D.pys ds)
  | _ => .none
def D.pys : List D → List PyData
  | [] => []
  | d :: ds => D.py d :: D.pys ds
end
mutual
/-- plain data, of that depth at most, texts of code points -/
def D.ok : Nat → D → Bool
  | _, .v .non => true
  | _, .v (.bl _) => true
  | _, .v (.int _) => true
  | _, .v (.str x) => PyData.strOk x
  | _, .v _ => false
  | n + 1, .l ds => D.oks n ds
  | n + 1, .t ds => D.oks n ds
  | n + 1, .tk ds => D.oks n ds
  | _, _ => false
def D.oks : Nat → List D → Bool
  | _, [] => true
  | n, d :: ds => D.ok n d && D.oks n ds
end
def eqD (d e : D) : Bool := PyData.eqv d.py e.py
/-- == of data -/
def gEqD (neg : Bool) (d e : D) : Option V := if D.ok 9 d && D.ok 9 e then some (.bl (if neg then !eqD d e else eqD d e)) else none
section
variable {c : Ct} {T M : Hp}
mutual
theorem Is.dp : ∀ {n : Nat} {v : V} {d : D}, Is c T T v d → d.ok n = true → Dp c.K T v d.py
  | n, _, _, .v .non, _ => by unfold D.py; exact .non
  | n, _, _, .v (.bl b), _ => by unfold D.py; exact .bl b
  | n, _, _, .v (.int i), _ => by unfold D.py; exact .int i
  | n, _, _, .v (.str x), _ => by unfold D.py; exact .str x
  | n, _, _, .v (.byt _), h => by unfold D.ok at h; cases h
  | n, _, _, .v (.flt _), h => by unfold D.ok at h; cases h
  | n, _, _, .v (.ref _), h => by unfold D.ok at h; cases h
  | n, _, _, .v (.ty _), h => by unfold D.ok at h; cases h
  | 0, _, _, .l s r, h => by unfold D.ok at h; cases h
  | 0, _, _, .t s r, h => by unfold D.ok at h; cases h
  | 0, _, _, .tk s r, h => by unfold D.ok at h; cases h
  | n + 1, _, _, .l s r, h => by unfold D.ok at h; unfold D.py; exact .lst s (IsL.dp r h)
  | n + 1, _, _, .t s r, h => by unfold D.ok at h; unfold D.py; exact .tup (st_of s) (IsL.dp r h)
  | n + 1, _, _, .tk s r, h => by unfold D.ok at h; unfold D.py; exact .tup (s _) (IsL.dp r h)
  | 0, _, _, .dk _ _ _, h => by unfold D.ok at h; cases h
  | 0, _, _, .dt _ _ _, h => by unfold D.ok at h; cases h
  | 0, _, _, .ob _ _ _, h => by unfold D.ok at h; cases h
  | n + 1, _, _, .dk _ _ _, h => by unfold D.ok at h; cases h
  | n + 1, _, _, .dt _ _ _, h => by unfold D.ok at h; cases h
  | n + 1, _, _, .ob _ _ _, h => by unfold D.ok at h; cases h
theorem IsL.dp : ∀ {n : Nat} {vs : List V} {ds : List D}, IsL c T T vs ds → D.oks n ds = true → DpAll c.K T vs (D.pys ds)
  | n, _, _, .nil, _ => by unfold D.pys; exact .nil
  | n, _, _, .cons h r, q => by
    unfold D.oks at q
    rw [Bool.and_eq_true] at q
    unfold D.pys
    exact .cons (Is.dp h q.1) (IsL.dp r q.2)
end
end
mutual
theorem D.lay : ∀ {n : Nat} {d : D}, d.ok n = true → d.py.canLay0 = true ∧ d.py.depth ≤ n
  | n, .v .non, _ => by unfold D.py; exact ⟨rfl, by simp [PyData.depth]⟩
  | n, .v (.bl b), _ => by unfold D.py; exact ⟨rfl, by simp [PyData.depth]⟩
  | n, .v (.int i), _ => by unfold D.py; exact ⟨rfl, by simp [PyData.depth]⟩
  | n, .v (.str x), h => by unfold D.ok at h; unfold D.py; exact ⟨by simpa [PyData.canLay0] using h, by simp [PyData.depth]⟩
  | n, .v (.byt _), h => by unfold D.ok at h; cases h
  | n, .v (.flt _), h => by unfold D.ok at h; cases h
  | n, .v (.ref _), h => by unfold D.ok at h; cases h
  | n, .v (.ty _), h => by unfold D.ok at h; cases h
  | 0, .l ds, h => by unfold D.ok at h; cases h
  | 0, .t ds, h => by unfold D.ok at h; cases h
  | 0, .tk ds, h => by unfold D.ok at h; cases h
  | n + 1, .l ds, h => by
    unfold D.ok at h; unfold D.py
    have q := D.lays h
    exact ⟨by simpa [PyData.canLay0] using q.1, by simp only [PyData.depth]; omega⟩
  | n + 1, .t ds, h => by
    unfold D.ok at h; unfold D.py
    have q := D.lays h
    exact ⟨by simpa [PyData.canLay0] using q.1, by simp only [PyData.depth]; omega⟩
  | n + 1, .tk ds, h => by
    unfold D.ok at h; unfold D.py
    have q := D.lays h
    exact ⟨by simpa [PyData.canLay0] using q.1, by simp only [PyData.depth]; omega⟩
  | 0, .dk _ _, h => by unfold D.ok at h; cases h
  | 0, .dt _ _, h => by unfold D.ok at h; cases h
  | 0, .ob _ _ _, h => by unfold D.ok at h; cases h
  | n + 1, .dk _ _, h => by unfold D.ok at h; cases h
  | n + 1, .dt _ _, h => by unfold D.ok at h; cases h
  | n + 1, .ob _ _ _, h => by unfold D.ok at h; cases h
theorem D.lays : ∀ {n : Nat} {ds : List D}, D.oks n ds = true → PyData.canLayAll0 (D.pys ds) = true ∧ PyData.depthAll (D.pys ds) ≤ n
  | n, [], _ => by unfold D.pys; exact ⟨by simp [PyData.canLayAll0], by simp [PyData.depthAll]⟩
  | n, d :: ds, h => by
    unfold D.oks at h
    rw [Bool.and_eq_true] at h
    have q1 := D.lay h.1
    have q2 := D.lays h.2
    unfold D.pys
    exact ⟨by simp [PyData.canLayAll0, q1.1, q2.1], by simp only [PyData.depthAll]; omega⟩
end
theorem D.shaped {n : Nat} {d : D} (h : d.ok n = true) (hn : n ≤ 64) : SeqAt.shaped d.py = true := by
  have q := D.lay h
  unfold SeqAt.shaped
  rw [q.1, decide_eq_true (Nat.le_trans q.2 hn)]
  rfl
section
variable {c : Ct}
theorem rl_I0 {f : Int → Int → V} : RL2 c (rI0 f) (gI f) := fun x y d e w H Q hx hy h q => by
  unfold gI at h
  split at h
  · cases h
    cases hx; cases hy
    exact ⟨_, _, rfl, rfl, q⟩
  · cases h
theorem rl_I {C : Int → Int → Prop} {b : Int → Int → Bool} {f : Int → Int → V} (hC : ∀ i j, b i j = true → C i j) : RL2 c (rI C f) (gIc b f) := fun x y d e w H Q hx hy h q => by
  unfold gIc at h
  split at h
  · rename_i i j
    by_cases hc : b i j = true
    · rw [if_pos hc] at h
      cases h
      cases hx; cases hy
      exact ⟨_, _, rfl, rfl, hC _ _ hc, q⟩
    · rw [if_neg hc] at h; cases h
  · cases h
theorem rl_mul : RL2 c (rI CMul fun i j => .int (i * j)) (gIc cMul fun i j => .int (i * j)) := rl_I fun i j h => by
  unfold cMul at h
  rw [Bool.or_eq_true] at h
  rcases h with h | h
  · exact .inl (of_decide_eq_true h)
  · exact .inr (of_decide_eq_true h)
theorem rl_div : RL2 c (rI CDiv fun i j => .int (i / j)) (gIc cDiv fun i j => .int (i / j)) := rl_I fun i j h => of_decide_eq_true (p := 0 < j ∧ j < 1073741824) h
theorem rl_mod : RL2 c (rI (fun _ j => 0 < j) fun i j => .int (i % j)) (gIc cMod fun i j => .int (i % j)) := rl_I fun i j h => of_decide_eq_true h
theorem rl_pow : RL2 c (rI CPow fun i j => .int (i ^ j.toNat)) (gIc cPow fun i j => .int (i ^ j.toNat)) := rl_I fun i j h => of_decide_eq_true (p := 0 ≤ j ∧ j ≤ 1000000 ∧ i.natAbs < 2 ^ 64) h
theorem rl_eq : RL2 c rEq (gEq false) := fun x y d e w H Q hx hy h q => by
  unfold gEq at h
  split at h
  · rename_i a b
    by_cases hs : scal a b = true
    · rw [if_pos hs] at h
      cases h; cases hx; cases hy
      exact ⟨hs, q⟩
    · rw [if_neg hs] at h; cases h
  · cases h
theorem rl_ne : RL2 c rNe (gEq true) := fun x y d e w H Q hx hy h q => by
  unfold gEq at h
  split at h
  · rename_i a b
    by_cases hs : scal a b = true
    · rw [if_pos hs] at h
      cases h; cases hx; cases hy
      exact ⟨hs, q⟩
    · rw [if_neg hs] at h; cases h
  · cases h
theorem rl_eqD : RL2 c (rEqD c.K) (gEqD false) := fun x y d e w H Q hx hy h q => by
  unfold gEqD at h
  by_cases hs : (D.ok 9 d && D.ok 9 e) = true
  · rw [if_pos hs] at h
    cases h
    rw [Bool.and_eq_true] at hs
    exact ⟨d.py, e.py, hx.dp hs.1, hy.dp hs.2, D.shaped hs.1 (by decide), D.shaped hs.2 (by decide), q⟩
  · rw [if_neg hs] at h; cases h
theorem rl_neD : RL2 c (rNeD c.K) (gEqD true) := fun x y d e w H Q hx hy h q => by
  unfold gEqD at h
  by_cases hs : (D.ok 9 d && D.ok 9 e) = true
  · rw [if_pos hs] at h
    cases h
    rw [Bool.and_eq_true] at hs
    exact ⟨d.py, e.py, hx.dp hs.1, hy.dp hs.2, D.shaped hs.1 (by decide), D.shaped hs.2 (by decide), q⟩
  · rw [if_neg hs] at h; cases h
theorem isN_ref {p : Addr} {k : Bool} : decide (V.ref p = V.non) = false := by simp
theorem rl_isN : RL2 c rIsN (gIsN false) := fun x y d e w H Q hx hy h q => by
  unfold gIsN at h
  split at h
  · cases h; cases hx; cases hy; exact And.intro rfl q
  · cases h
  · cases h; cases hy; cases hx; exact And.intro rfl (by simpa using q)
  · cases h; cases hy; cases hx; exact And.intro rfl (by simpa using q)
  · cases h; cases hy; cases hx; exact And.intro rfl (by simpa using q)
  · cases h
theorem rl_notN : RL2 c rNotN (gIsN true) := fun x y d e w H Q hx hy h q => by
  unfold gIsN at h
  split at h
  · cases h; cases hx; cases hy; exact And.intro rfl q
  · cases h
  · cases h; cases hy; cases hx; exact And.intro rfl (by simpa using q)
  · cases h; cases hy; cases hx; exact And.intro rfl (by simpa using q)
  · cases h; cases hy; cases hx; exact And.intro rfl (by simpa using q)
  · cases h
def rAddS2 : R2 := fun x y H Q => ∃ i j, x = .str i ∧ y = .str j ∧ i.length + j.length ≤ sizeLine ∧ Q (.str (i ++ j)) H
theorem rl_addS : RL2 c rAddS2 gAddS := fun x y d e w H Q hx hy h q => by
  unfold gAddS at h
  split at h
  · rename_i a b
    by_cases hs : a.length + b.length ≤ 1000000
    · rw [if_pos hs] at h
      cases h; cases hx; cases hy
      exact ⟨_, _, rfl, rfl, Nat.le_trans hs (by decide), q⟩
    · rw [if_neg hs] at h; cases h
  · cases h
def rMulS : R2 := fun x y H Q => ∃ (s : Str) (i : Int), x = .str s ∧ y = .int i ∧ s.length ≤ 50000 ∧ i ≤ 300 ∧ -300 ≤ i ∧ Q (.str (Txt.mul s i)) H
theorem mulOk_small {s : Str} {i : Int} (h1 : s.length ≤ 50000) (h2 : i ≤ 300) (h3 : -300 ≤ i) : MulOk s i := by
  refine ⟨?_, fun hi _ => ?_, fun hi _ => ?_⟩
  · rw [Bool.or_eq_false_iff]
    exact ⟨decide_eq_false (by omega), decide_eq_false (by omega)⟩
  · have h4 : (2 ^ 63 - 1 : Int) / 300 ≤ (2 ^ 63 - 1 : Int) / i := by
      have h5 : (0 : Int) < i := by omega
      refine (Int.le_ediv_iff_mul_le h5).mpr ?_
      have h6 : (2 ^ 63 - 1 : Int) / 300 * i ≤ (2 ^ 63 - 1 : Int) / 300 * 300 := Int.mul_le_mul_of_nonneg_left h2 (by decide)
      exact Int.le_trans h6 (by decide)
    omega
  · have h5 : s.length * i.toNat ≤ 50000 * 300 := Nat.mul_le_mul h1 (by omega)
    unfold Builtin.Str.tooLong
    simp only [decide_eq_false_iff_not]
    have := sizeLine_eq
    omega
theorem op_mulS {X : Cx} : OpR X (binaryOp .Mult) rMulS := by
  intro pins s σ H x y v u Q I rx ry h
  obtain ⟨z, i, rfl, rfl, h1, h2, h3, q⟩ := h
  obtain ⟨t, rfl⟩ := rx
  obtain ⟨t', rfl⟩ := ry
  exact SB.mul (mulOk_small h1 h2 h3) fun t'' k => ⟨.str _, H, I.tok k, ⟨t'', rfl⟩, q⟩
theorem rl_mulS : RL2 c rMulS gMulS := fun x y d e w H Q hx hy h q => by
  unfold gMulS at h
  split at h
  · rename_i a b
    by_cases hs : a.length ≤ 50000 ∧ -300 ≤ b ∧ b ≤ 300
    · rw [if_pos hs] at h
      cases h; cases hx; cases hy
      exact ⟨_, _, rfl, rfl, hs.1, hs.2.2, hs.2.1, q⟩
    · rw [if_neg hs] at h; cases h
  · cases h
theorem Is.items {T M : Hp} {x : V} {y : D} {ds : List D} (h : Is c T M x y) (e : y.items = some ds) (tm : Ex T M) : ∃ p xs, x = .ref p ∧ (SqL c.K M p xs ∨ SqT c.K M p xs) ∧ IsL c T M xs ds := by
  cases h with
  | v x => cases e
  | l s r => cases e; exact ⟨_, _, rfl, .inl s, r⟩
  | t s r => cases e; exact ⟨_, _, rfl, .inr (st_of (tm _ _ s)), r⟩
  | tk s r => cases e; exact ⟨_, _, rfl, .inr (s _), r⟩
  | dk _ _ _ => cases e
  | dt _ _ _ => cases e
  | ob _ _ _ => cases e
theorem rl_in {neg : Bool} : RL2 c (rIn c.K neg) (gIn neg) := fun x y d e w H Q hx hy h q => by
  unfold gIn at h
  split at h
  · rename_i a
    cases hi : e.items with
    | none => rw [hi] at h; cases h
    | some ds =>
      rw [hi] at h
      simp only [Option.bind_some] at h
      cases hl : lfs ds with
      | none => rw [hl] at h; cases h
      | some vs =>
        rw [hl] at h
        dsimp only at h
        by_cases hf : (flatV a && vs.all flatV) = true
        · rw [if_pos hf] at h
          cases h
          rw [Bool.and_eq_true] at hf
          obtain ⟨p, xs, rfl, s, r⟩ := hy.items hi (Ex.refl _)
          cases hx
          have := r.lfs hl
          subst this
          exact ⟨p, _, rfl, s, hf.1, hf.2, q⟩
        · rw [if_neg hf] at h; cases h
  · cases h
theorem rl_inS : RL2 c rInS (gInS false) := fun x y d e w H Q hx hy h q => by
  unfold gInS at h
  split at h
  · rename_i a b
    split at h
    · rename_i z hz
      cases h
      cases hx; cases hy
      cases a with
      | mk ar =>
        cases ar with
        | mk l =>
          have hz' : l = [z] := hz
          subst hz'
          exact ⟨z, b, rfl, rfl, q⟩
    · cases h
  · cases h
theorem rl_notInS : RL2 c rNotInS (gInS true) := fun x y d e w H Q hx hy h q => by
  unfold gInS at h
  split at h
  · rename_i a b
    split at h
    · rename_i z hz
      cases h
      cases hx; cases hy
      cases a with
      | mk ar =>
        cases ar with
        | mk l =>
          have hz' : l = [z] := hz
          subst hz'
          exact ⟨z, b, rfl, rfl, q⟩
    · cases h
  · cases h
/-! ### built-in functions that give leaves -/
def gNeg : D → Option V
  | .v (.int i) => some (.int (-i))
  | _ => none
theorem rl_neg : RL1 c (rU fun i => .int (-i)) gNeg := fun x d w H Q hx h q => by
  unfold gNeg at h
  split at h
  · cases h; cases hx; exact ⟨_, rfl, q⟩
  · cases h
def gLen : List D → Option V
  | [.v (.str s)] => if s.length ≤ 1000000 then some (.int (s.length : Int)) else none
  | [d] => d.items.map fun ds => .int (ds.length : Int)
  | _ => none
def rLenG (K : PySem.W.Frag) : List V → Hp → VK → Prop := fun xs H Q => ∃ x n, xs = [x] ∧ LenV K x H n ∧ Q (.int n) H
theorem call_lenG {X : Cx} : CallR X (.builtin "len") (rLenG X.K) := call_len
theorem rl_len : RLn c (rLenG c.K) gLen := fun xs ds w H Q hx h q => by
  unfold gLen at h
  split at h
  · rename_i s
    by_cases hs : s.length ≤ 1000000
    · rw [if_pos hs] at h
      cases h
      cases hx with
      | cons a r => cases r; cases a; exact ⟨_, s.length, rfl, ⟨Nat.le_trans hs (by decide), rfl⟩, q⟩
    · rw [if_neg hs] at h; cases h
  · rename_i d hd
    cases hi : d.items with
    | none => rw [hi] at h; cases h
    | some es =>
      rw [hi] at h
      cases h
      cases hx with
      | cons a r =>
        cases r
        obtain ⟨p, xs, rfl, s, r⟩ := a.items hi (Ex.refl _)
        refine ⟨_, es.length, rfl, ?_, q⟩
        rw [← r.len]
        rcases s with s | s
        · exact .inl ⟨_, s, rfl⟩
        · exact .inr ⟨_, s, rfl⟩
  · cases h
def gLenD : List D → Option V
  | [.dk ks _] => some (.int (ks.length : Int))
  | _ => none
theorem zip_len {α β : Type} {ks : List α} {vs : List β} (h : ks.length = vs.length) : (ks.zip vs).length = ks.length := by
  rw [List.length_zip]; omega
def rInt1 : List V → Hp → VK → Prop := fun xs H Q => (∃ i, xs = [.int i] ∧ Q (.int i) H) ∨ ∃ k, xs = [.bl k] ∧ Q (.int (if k then 1 else 0)) H
def gInt : List D → Option V
  | [.v (.int i)] => some (.int i)
  | [.v (.bl b)] => some (.int (if b then 1 else 0))
  | _ => none
theorem rl_int : RLn c rInt1 gInt := fun xs ds w H Q hx h q => by
  unfold gInt at h
  split at h
  · cases h
    cases hx with
    | cons a r => cases r; cases a; exact .inl ⟨_, rfl, q⟩
  · cases h
    cases hx with
    | cons a r => cases r; cases a; exact .inr ⟨_, rfl, q⟩
  · cases h
def rAbs : List V → Hp → VK → Prop := fun xs H Q => ∃ i, xs = [.int i] ∧ Q (.int (if i < 0 then -i else i)) H
def gAbs : List D → Option V
  | [.v (.int i)] => some (.int (if i < 0 then -i else i))
  | _ => none
theorem rl_abs : RLn c rAbs gAbs := fun xs ds w H Q hx h q => by
  unfold gAbs at h
  split at h
  · cases h
    cases hx with
    | cons a r => cases r; cases a; exact ⟨_, rfl, q⟩
  · cases h
def rMin2 : List V → Hp → VK → Prop := fun xs H Q => ∃ i j, xs = [.int i, .int j] ∧ Q (.int (if j < i then j else i)) H
def rMax2' : List V → Hp → VK → Prop := fun xs H Q => ∃ i j, xs = [.int i, .int j] ∧ Q (.int (if j > i then j else i)) H
def gMin : List D → Option V
  | [.v (.int i), .v (.int j)] => some (.int (if j < i then j else i))
  | _ => none
def gMax : List D → Option V
  | [.v (.int i), .v (.int j)] => some (.int (if j > i then j else i))
  | _ => none
theorem rl_min : RLn c rMin2 gMin := fun xs ds w H Q hx h q => by
  unfold gMin at h
  split at h
  · cases h
    cases hx with
    | cons a r => cases r with
      | cons b r => cases r; cases a; cases b; exact ⟨_, _, rfl, q⟩
  · cases h
theorem rl_max : RLn c rMax2' gMax := fun xs ds w H Q hx h q => by
  unfold gMax at h
  split at h
  · cases h
    cases hx with
    | cons a r => cases r with
      | cons b r => cases r; cases a; cases b; exact ⟨_, _, rfl, q⟩
  · cases h
def rStrI : List V → Hp → VK → Prop := fun xs H Q => ∃ i, xs = [.int i] ∧ i.natAbs.log2 < 1920 ∧ Q (.str (toString i)) H
def gStr : List D → Option V
  | [.v (.int i)] => if -1000000 ≤ i ∧ i ≤ 1000000 then some (.str (toString i)) else none
  | _ => none
theorem rl_str : RLn c rStrI gStr := fun xs ds w H Q hx h q => by
  unfold gStr at h
  split at h
  · rename_i i
    by_cases hs : -1000000 ≤ i ∧ i ≤ 1000000
    · rw [if_pos hs] at h
      cases h
      cases hx with
      | cons a r =>
        cases r; cases a
        refine ⟨_, rfl, ?_, q⟩
        by_cases h0 : i.natAbs = 0
        · rw [h0]; decide
        · have : i.natAbs.log2 < 20 := (Nat.log2_lt h0).mpr (by omega)
          omega
    · rw [if_neg hs] at h; cases h
  · cases h
end

end
section
open PySem L2 Evl

/-! ### tests -/
def D.tru : D → Option Bool
  | .v (.bl b) => some b
  | _ => none
/-- truth of anything -/
def D.truth : D → Option Bool
  | .v .non => some false
  | .v (.bl b) => some b
  | .v (.int i) => some (i != 0)
  | .v (.str y) => if y.length ≤ 1000000 then some ((y.length : Int) != 0) else none
  | .l ds => some (!ds.isEmpty)
  | .t ds => some (!ds.isEmpty)
  | .tk ds => some (!ds.isEmpty)
  | .dk ks ds => some (!ks.isEmpty)
  | _ => none
def boolR (w : Option Bool) (Γ : Gm) : Er Bool := match w with
  | some w => .ok w Γ 0
  | none => .no
def tTe (a : EF) : TF := fun Γ => (a Γ).bind fun x Γ1 _ => boolR x.2.tru Γ1
def tTr (a : EF) : TF := fun Γ => (a Γ).bind fun x Γ1 _ => boolR x.2.truth Γ1
def tAn (t u : TF) : TF := fun Γ => (t Γ).bind fun b Γ1 _ => if b = true then u Γ1 else .ok false Γ1 0
def tOo (t u : TF) : TF := fun Γ => (t Γ).bind fun b Γ1 _ => if b = true then .ok true Γ1 0 else u Γ1
def tNo (t : TF) : TF := fun Γ => (t Γ).bind fun b Γ1 _ => .ok (!b) Γ1 0
def tYe : TF := fun Γ => .ok true Γ 0
def eAnd (a b : EF) : EF := fun Γ => (a Γ).bind fun x Γ1 _ => match x.2.tru with
  | some true => (b Γ1).bind fun y Γ2 _ => leafR (y.2.tru.map V.bl) Γ2
  | some false => .ok (.f, .b false) Γ1 0
  | none => .no
def eOr (a b : EF) : EF := fun Γ => (a Γ).bind fun x Γ1 _ => match x.2.tru with
  | some true => .ok (.f, .b true) Γ1 0
  | some false => (b Γ1).bind fun y Γ2 _ => leafR (y.2.tru.map V.bl) Γ2
  | none => .no
def eNot (a : EF) : EF := fun Γ => (a Γ).bind fun x Γ1 _ => leafR (x.2.tru.map fun b => .bl (!b)) Γ1
def eIf (t : TF) (a b : EF) : EF := fun Γ => (t Γ).bind fun b' Γ1 _ => if b' = true then a Γ1 else b Γ1
/-- a < b < c -/
def eChain (g g' : D → D → Option V) (a b d : EF) : EF := fun Γ => (a Γ).bind fun x Γ1 _ => (b Γ1).bind fun y Γ2 m => if bad x.1 x.2 m = true then .no else match g x.2 y.2 with
  | some (.bl true) => (d Γ2).bind fun z Γ3 m => if bad y.1 y.2 m = true then .no else match g' y.2 z.2 with
    | some (.bl k) => .ok (.f, .b k) Γ3 0
    | _ => .no
  | some (.bl false) => .ok (.f, .b false) Γ2 0
  | _ => .no
section
variable {c : Ct} {W : WX} {te ta tb tc : TE} {t u : TT} {f g h : EF} {p q : TF} {fr : Fr} {σ : L2.St} {F F' H H' : Hp} {G G' : Nat → Hp} {Γ Γ' : Gm}
theorem post_bool {P : Bool → Hp → (Nat → Hp) → Hp → Prop} {w : Option Bool} (S : Sta c fr Γ σ F G H) (q : (boolR w Γ).post c W fr σ F G H P) : ∃ x, w = some x ∧ P x F G H := by
  cases w with
  | none => exact q.elim
  | some x => exact ⟨x, rfl, post_ok S q⟩
theorem tru_eq {d : D} {b : Bool} (h : d.tru = some b) : d = .b b := by
  unfold D.tru at h
  split at h
  · cases h; rfl
  · cases h
theorem snd_test (ha : SndE c W ta f) : SndT c W (tTest ta) (tTe f) := fun fr Γ σ F G H S Q q => by
  refine ha fr Γ σ F G H S _ (post_bind S q fun x Γ1 m1 F1 G1 H1 _ S1 t1 s1 q1 v i1 => ?_)
  obtain ⟨b, e, q2⟩ := post_bool S1 q1
  have i1 := IsK.h S1 i1
  rw [tru_eq e] at i1
  cases Is.leaf i1
  exact ⟨b, rfl, q2⟩
theorem snd_B (ha : SndE c W ta f) : SndT c W (tB ta) (tTe f) := fun fr Γ σ F G H S Q q => by
  refine ha fr Γ σ F G H S _ (post_bind S q fun x Γ1 m1 F1 G1 H1 _ S1 t1 s1 q1 v i1 => ?_)
  obtain ⟨b, e, q2⟩ := post_bool S1 q1
  have i1 := IsK.h S1 i1
  rw [tru_eq e] at i1
  cases Is.leaf i1
  exact ⟨b, rfl, q2⟩
theorem isEmpty_len {α β : Type} {xs : List α} {ys : List β} (h : xs.length = ys.length) : xs.isEmpty = ys.isEmpty := by
  cases xs with
  | nil => cases ys with
    | nil => rfl
    | cons _ _ => cases h
  | cons _ _ => cases ys with
    | nil => cases h
    | cons _ _ => rfl
theorem Is.truth {v : V} {d : D} {b : Bool} (i : Is c H H v d) (e : d.truth = some b) : TruV c.K v H b := by
  unfold D.truth at e
  split at e
  · cases e; cases i; rfl
  · cases e; cases i; rfl
  · cases e; cases i; rfl
  · rename_i y
    by_cases hy : y.length ≤ 1000000
    · rw [if_pos hy] at e
      cases e; cases i
      exact ⟨Nat.le_trans hy (by decide), rfl⟩
    · rw [if_neg hy] at e; cases e
  · cases e
    cases i with
    | l s r => exact .inl ⟨_, s, by rw [isEmpty_len r.len]⟩
  · cases e
    cases i with
    | t s r => exact .inr (.inl ⟨_, st_of s, by rw [isEmpty_len r.len]⟩)
  · cases e
    cases i with
    | tk s r => exact .inr (.inl ⟨_, s _, by rw [isEmpty_len r.len]⟩)
  · cases e
    cases i with
    | dk s l r => exact .inr (.inr ⟨_, s, by rw [isEmpty_len (zip_len l)]⟩)
  · cases e
theorem snd_tru (ha : SndE c W ta f) : SndT c W (tTru c.K ta) (tTr f) := fun fr Γ σ F G H S Q q => by
  refine ha fr Γ σ F G H S _ (post_bind S q fun x Γ1 m1 F1 G1 H1 _ S1 t1 s1 q1 v i1 => ?_)
  obtain ⟨b, e, q2⟩ := post_bool S1 q1
  exact ⟨b, (IsK.h S1 i1).truth e, q2⟩
theorem snd_and (h1 : SndT c W t p) (h2 : SndT c W u q) : SndT c W (tAnd t u) (tAn p q) := fun fr Γ σ F G H S Q q => by
  refine h1 fr Γ σ F G H S _ (post_bind S q fun x Γ1 m1 F1 G1 H1 _ S1 t1 s1 q1 => ?_)
  cases x with
  | true =>
    show u σ H1 Q
    exact h2 fr Γ1 σ F1 G1 H1 S1 Q q1
  | false =>
    show Q false H1
    exact post_ok S1 q1
theorem snd_or (h1 : SndT c W t p) (h2 : SndT c W u q) : SndT c W (tOr t u) (tOo p q) := fun fr Γ σ F G H S Q q => by
  refine h1 fr Γ σ F G H S _ (post_bind S q fun x Γ1 m1 F1 G1 H1 _ S1 t1 s1 q1 => ?_)
  cases x with
  | true =>
    show Q true H1
    exact post_ok S1 q1
  | false =>
    show u σ H1 Q
    exact h2 fr Γ1 σ F1 G1 H1 S1 Q q1
theorem snd_not (h1 : SndT c W t p) : SndT c W (tNot t) (tNo p) := fun fr Γ σ F G H S Q q => by
  refine h1 fr Γ σ F G H S _ (post_bind S q fun x Γ1 m1 F1 G1 H1 _ S1 t1 s1 q1 => ?_)
  exact post_ok S1 q1
theorem snd_yes : SndT c W tYes tYe := fun fr Γ σ F G H S Q q => post_ok S q
theorem snd_andV (ha : SndE c W ta f) (hb : SndE c W tb g) : SndE c W (tAndV ta tb) (eAnd f g) := fun fr Γ σ F G H S Q q => by
  refine ha fr Γ σ F G H S _ (post_bind S q fun x Γ1 m1 F1 G1 H1 _ S1 t1 s1 q1 v i1 => ?_)
  have i1 := IsK.h S1 i1
  obtain ⟨k, d⟩ := x
  dsimp only at q1 i1
  cases e : d.tru with
  | none => rw [e] at q1; exact q1.elim
  | some b =>
    rw [e] at q1
    rw [tru_eq e] at i1
    cases Is.leaf i1
    refine ⟨b, rfl, ?_⟩
    cases b with
    | false => exact post_ok S1 q1 _ (.v _)
    | true =>
      show tb σ H1 Q
      refine hb fr Γ1 σ F1 G1 H1 S1 _ (post_bind S1 q1 fun y Γ2 m2 F2 G2 H2 _ S2 t2 s2 q2 w i2 => ?_)
      obtain ⟨z, e2, q3⟩ := post_leaf S2 q2
      cases e3 : y.2.tru with
      | none => rw [e3] at e2; cases e2
      | some b2 =>
        rw [e3] at e2; cases e2
        have i2 := IsK.h S2 i2
        rw [tru_eq e3] at i2
        cases Is.leaf i2
        exact q3 _ (.v _)
theorem snd_orV (ha : SndE c W ta f) (hb : SndE c W tb g) : SndE c W (tOrV ta tb) (eOr f g) := fun fr Γ σ F G H S Q q => by
  refine ha fr Γ σ F G H S _ (post_bind S q fun x Γ1 m1 F1 G1 H1 _ S1 t1 s1 q1 v i1 => ?_)
  have i1 := IsK.h S1 i1
  obtain ⟨k, d⟩ := x
  dsimp only at q1 i1
  cases e : d.tru with
  | none => rw [e] at q1; exact q1.elim
  | some b =>
    rw [e] at q1
    rw [tru_eq e] at i1
    cases Is.leaf i1
    refine ⟨b, rfl, ?_⟩
    cases b with
    | true => exact post_ok S1 q1 _ (.v _)
    | false =>
      show tb σ H1 Q
      refine hb fr Γ1 σ F1 G1 H1 S1 _ (post_bind S1 q1 fun y Γ2 m2 F2 G2 H2 _ S2 t2 s2 q2 w i2 => ?_)
      obtain ⟨z, e2, q3⟩ := post_leaf S2 q2
      cases e3 : y.2.tru with
      | none => rw [e3] at e2; cases e2
      | some b2 =>
        rw [e3] at e2; cases e2
        have i2 := IsK.h S2 i2
        rw [tru_eq e3] at i2
        cases Is.leaf i2
        exact q3 _ (.v _)
theorem snd_notV (ha : SndE c W ta f) : SndE c W (tNotV ta) (eNot f) := fun fr Γ σ F G H S Q q => by
  refine ha fr Γ σ F G H S _ (post_bind S q fun x Γ1 m1 F1 G1 H1 _ S1 t1 s1 q1 v i1 => ?_)
  obtain ⟨z, e2, q3⟩ := post_leaf S1 q1
  cases e3 : x.2.tru with
  | none => rw [e3] at e2; cases e2
  | some b2 =>
    rw [e3] at e2; cases e2
    have i1 := IsK.h S1 i1
    rw [tru_eq e3] at i1
    cases Is.leaf i1
    exact ⟨b2, rfl, q3 _ (.v _)⟩
theorem snd_if (h : SndT c W t p) (ha : SndE c W ta f) (hb : SndE c W tb g) : SndE c W (tIf t ta tb) (eIf p f g) := fun fr Γ σ F G H S Q q => by
  refine h fr Γ σ F G H S _ (post_bind S q fun x Γ1 m1 F1 G1 H1 _ S1 t1 s1 q1 => ?_)
  cases x with
  | true =>
    show ta σ H1 Q
    exact ha fr Γ1 σ F1 G1 H1 S1 Q q1
  | false =>
    show tb σ H1 Q
    exact hb fr Γ1 σ F1 G1 H1 S1 Q q1
theorem snd_chain {r r' : R2} {gg gg' : D → D → Option V} (hr : RL2 c r gg) (hr' : RL2 c r' gg') (ha : SndE c W ta f) (hb : SndE c W tb g) (hc : SndE c W tc h) : SndE c W (tChain r r' ta tb tc) (eChain gg gg' f g h) := fun fr Γ σ F G H S Q q => by
  refine ha fr Γ σ F G H S _ (post_bind S q fun x Γ1 m1 F1 G1 H1 _ S1 t1 s1 q1 v i1 => ?_)
  refine hb fr Γ1 σ F1 G1 H1 S1 _ (post_bind S1 q1 fun y Γ2 m2 F2 G2 H2 _ S2 t2 s2 q2 w i2 => ?_)
  obtain ⟨hbd, q2⟩ := post_if q2
  have j1 := IsK.h S2 (IsK.last S1 S2 t2 s2 hbd i1)
  cases e : gg x.2 y.2 with
  | none => rw [e] at q2; exact q2.elim
  | some z =>
    rw [e] at q2
    cases z with
    | bl k =>
      cases k with
      | false =>
        refine hr _ _ _ _ _ H2 _ j1 (IsK.h S2 i2) e ⟨false, rfl, ?_⟩
        exact post_ok S2 q2 _ (.v _)
      | true =>
        refine hr _ _ _ _ _ H2 _ j1 (IsK.h S2 i2) e ⟨true, rfl, ?_⟩
        refine iteT ?_
        refine hc fr Γ2 σ F2 G2 H2 S2 _ (post_bind S2 q2 fun z Γ3 m3 F3 G3 H3 _ S3 t3 s3 q3 w3 i3 => ?_)
        obtain ⟨hbd2, q3⟩ := post_if q3
        cases e2 : gg' y.2 z.2 with
        | none => rw [e2] at q3; exact q3.elim
        | some z2 =>
          rw [e2] at q3
          cases z2 with
          | bl k => exact hr' _ _ _ _ _ H3 _ (IsK.h S3 (IsK.last S2 S3 t3 s3 hbd2 i2)) (IsK.h S3 i3) e2 (post_ok S3 q3 _ (.v _))
          | _ => exact q3.elim
    | _ => exact q2.elim
end

/-! ### parts -/
/-- x[i] of a list, a tuple, a text -/
def gIx (d e : D) : Option D := match e with
  | .v (.int i) => match d with
    | .v (.str s) => if s.length ≤ 1000000 then (atI s.cps.toList i).map fun z => .s ⟨#[z]⟩ else none
    | d => d.items.bind fun ds => atI ds i
  | _ => none
def dataR (k : Kd) (w : Option D) (Γ : Gm) : Er (Kd × D) := match w with
  | some d => .ok (k.im d, d) Γ 0
  | none => .no
def eIx (a b : EF) : EF := fun Γ => (a Γ).bind fun x Γ1 _ => (b Γ1).bind fun y Γ2 m => if bad x.1 x.2 m = true then .no else dataR x.1 (gIx x.2 y.2) Γ2
/-- an attribute -/
def gFld (C f : Str) : D → Option D
  | .ob C' ns ds => if C' = C then (ns.zip ds).lookup f else none
  | _ => none
def eFld (C f : Str) (a : EF) : EF := fun Γ => (a Γ).bind fun x Γ1 _ => dataR x.1 (gFld C f x.2) Γ1
/-- keys -/
def D.key : D → Option Key
  | .v (.int i) => some (.inl i)
  | .v (.str s) => some (.inr s)
  | _ => none
def D.keys : List D → Option (List Key)
  | [] => some []
  | d :: ds => d.key.bind fun k => (D.keys ds).map (k :: ·)
def dgetL {κ : Type} [DecidableEq κ] {α : Type} (ks : List κ) (xs : List α) (k : κ) : Option α := match ks, xs with
  | j :: ks, x :: xs => if j = k then some x else dgetL ks xs k
  | _, _ => none
def gDGet (d e : D) : Option (Option D) := match d with
  | .dk ks ds => e.key.map fun k => dgetL ks ds k
  | .dt ks ds => match e with
    | .t es => (D.keys es).map fun k => dgetL ks ds k
    | _ => none
  | _ => none
def eDGet (a b : EF) : EF := fun Γ => (a Γ).bind fun x Γ1 _ => (b Γ1).bind fun y Γ2 m => if bad x.1 x.2 m = true then .no else dataR x.1 ((gDGet x.2 y.2).bind id) Γ2
def eDIn (neg : Bool) (a b : EF) : EF := fun Γ => (a Γ).bind fun x Γ1 _ => (b Γ1).bind fun y Γ2 m => if bad x.1 x.2 m = true then .no else leafR ((gDGet y.2 x.2).map fun o => .bl (if neg then !o.isSome else o.isSome)) Γ2
section
variable {c : Ct} {W : WX} {te ta tb tc : TE} {t u : TT} {f g h : EF} {fr : Fr} {σ : L2.St} {F F' H H' : Hp} {G G' : Nat → Hp} {Γ Γ' : Gm} {T M : Hp}
theorem post_data {P : Kd × D → Hp → (Nat → Hp) → Hp → Prop} {k : Kd} {w : Option D} (S : Sta c fr Γ σ F G H) (q : (dataR k w Γ).post c W fr σ F G H P) : ∃ d, w = some d ∧ P (k.im d, d) F G H := by
  cases w with
  | none => exact q.elim
  | some x => exact ⟨x, rfl, post_ok S q⟩
/-- an item of an item list, of the same kind -/
theorem ixN_nat {n : Nat} {i : Int} {j : Nat} (h : ixN n i = some j) : j < n := by
  unfold ixN at h
  split at h
  · split at h
    · cases h; omega
    · cases h
  · split at h
    · cases h; omega
    · cases h
theorem atI_len {α β : Type} {xs : List α} {ys : List β} (h : xs.length = ys.length) {i : Int} {y : β} (e : atI ys i = some y) : ∃ j, ixN ys.length i = some j ∧ ys[j]? = some y ∧ atI xs i = xs[j]? := by
  unfold atI at e ⊢
  cases q : ixN ys.length i with
  | none => rw [q] at e; cases e
  | some j =>
    rw [q] at e
    exact ⟨j, rfl, e, by rw [h, q]; rfl⟩
theorem IsL.atI {xs : List V} {ds : List D} {i : Int} {d : D} (r : IsL c T M xs ds) (e : L2.atI ds i = some d) : ∃ w, L2.atI xs i = some w ∧ Is c T M w d := by
  obtain ⟨j, e1, e2, e3⟩ := atI_len r.len e
  obtain ⟨w, e4, e5⟩ := r.get e2
  exact ⟨w, by rw [e3, e4], e5⟩
/-- items whichever the kind -/
theorem IsK.items (S : Sta c fr Γ σ F G H) {k : Kd} {x : V} {y : D} {ds : List D} (h : IsK c fr.B F H x y k) (e : y.items = some ds) : ∃ p xs, x = .ref p ∧ (SqL c.K H p xs ∨ SqT c.K H p xs) ∧ IsKL c fr.B F H xs ds k := by
  have key : ∀ {M : Hp}, Ex M H → Is c H M x y → ∃ p xs, x = .ref p ∧ (SqL c.K H p xs ∨ SqT c.K H p xs) ∧ IsL c H M xs ds := fun {M} ex h => by
    cases h with
    | v x => cases e
    | l s r => cases e; exact ⟨_, _, rfl, .inl (ex_l ex s), r⟩
    | t s r => cases e; exact ⟨_, _, rfl, .inr (st_of s), r⟩
    | tk s r => cases e; exact ⟨_, _, rfl, .inr (s _), r⟩
    | dk _ _ _ => cases e
    | dt _ _ _ => cases e
    | ob _ _ _ => cases e
  cases k with
  | f => exact key S.fh h
  | r => exact key S.rh h
  | h => exact key (Ex.refl _) h
theorem IsKL.atI {k : Kd} {xs : List V} {ds : List D} {i : Int} {d : D} (r : IsKL c fr.B F H xs ds k) (e : L2.atI ds i = some d) : ∃ w, L2.atI xs i = some w ∧ IsK c fr.B F H w d k := by
  cases k <;> exact IsL.atI r e
theorem gIx_some {d e r : D} (h : gIx d e = some r) : (∃ s i z, d = .s s ∧ e = .i i ∧ s.length ≤ 1000000 ∧ L2.atI s.cps.toList i = some z ∧ r = .s ⟨#[z]⟩) ∨ ∃ i ds, e = .i i ∧ d.items = some ds ∧ L2.atI ds i = some r := by
  unfold gIx at h
  split at h
  · rename_i i
    split at h
    · rename_i s
      by_cases hs : s.length ≤ 1000000
      · rw [if_pos hs] at h
        cases hz : L2.atI s.cps.toList i with
        | none => rw [hz] at h; cases h
        | some z => rw [hz] at h; cases h; exact .inl ⟨s, i, z, rfl, rfl, hs, hz, rfl⟩
      · rw [if_neg hs] at h; cases h
    · cases hi : d.items with
      | none => rw [hi] at h; cases h
      | some ds => rw [hi] at h; exact .inr ⟨i, ds, rfl, rfl, h⟩
  · cases h
theorem gFld_some {C f : Str} {d r : D} (h : gFld C f d = some r) : ∃ ns ds, d = .ob C ns ds ∧ (ns.zip ds).lookup f = some r := by
  unfold gFld at h
  split at h
  · rename_i C' ns ds
    by_cases hc : C' = C
    · rw [if_pos hc] at h; subst hc; exact ⟨ns, ds, rfl, h⟩
    · rw [if_neg hc] at h; cases h
  · cases h
theorem snd_ix (ha : SndE c W ta f) (hb : SndE c W tb g) : SndE c W (tOp (rIx c.K) ta tb) (eIx f g) := fun fr Γ σ F G H S Q q => by
  refine ha fr Γ σ F G H S _ (post_bind S q fun x Γ1 m1 F1 G1 H1 _ S1 t1 s1 q1 v i1 => ?_)
  refine hb fr Γ1 σ F1 G1 H1 S1 _ (post_bind S1 q1 fun y Γ2 m2 F2 G2 H2 _ S2 t2 s2 q2 w i2 => ?_)
  obtain ⟨hbd, q2⟩ := post_if q2
  obtain ⟨d, e, q3⟩ := post_data S2 q2
  have j1 := IsK.last S1 S2 t2 s2 hbd i1
  obtain ⟨k, dx⟩ := x
  obtain ⟨k2, dy⟩ := y
  dsimp only at *
  rcases gIx_some e with ⟨s, i, z, rfl, rfl, hs, hz, rfl⟩ | ⟨i, ds, rfl, hi, hd⟩
  · cases Is.leaf (IsK.h S2 i2)
    cases Is.leaf (IsK.h S2 j1)
    exact .inr (.inr ⟨s, i, z, rfl, rfl, Nat.le_trans hs (by decide), hz, q3 _ (IsK.im S2 IsK.leaf)⟩)
  · cases Is.leaf (IsK.h S2 i2)
    obtain ⟨p, xs, rfl, s, r⟩ := IsK.items S2 j1 hi
    obtain ⟨w, e1, e2⟩ := IsKL.atI r hd
    have fin := q3 w (IsK.im S2 e2)
    rcases s with s | s
    · exact .inl ⟨p, xs, i, w, rfl, rfl, s, e1, fin⟩
    · exact .inr (.inl ⟨p, xs, i, w, rfl, rfl, s, e1, fin⟩)
theorem lookup_zip {f : Str} {P : V → D → Prop} : ∀ {ns : List Str} {xs : List V} {ds : List D} {d : D}, xs.length = ds.length → (∀ (i : Nat) (x : V) (e : D), xs[i]? = some x → ds[i]? = some e → P x e) → (ns.zip ds).lookup f = some d → ∃ v, (ns.zip xs).lookup f = some v ∧ P v d
  | [], xs, ds, d, _, _, h => by cases h
  | n :: ns, [], [], d, _, _, h => by cases h
  | n :: ns, x :: xs, e :: ds, d, hl, hP, h => by
    rw [List.zip_cons_cons, List.lookup_cons] at h ⊢
    cases hf : f == n with
    | true => rw [hf] at h; cases h; exact ⟨x, rfl, hP 0 x _ rfl rfl⟩
    | false =>
      rw [hf] at h
      exact lookup_zip (ns := ns) (by simpa using hl) (fun i x e h1 h2 => hP (i + 1) x e (by simpa using h1) (by simpa using h2)) h
  | _ :: _, [], _ :: _, _, hl, _, _ => by cases hl
  | _ :: _, _ :: _, [], _, hl, _, _ => by cases hl
theorem IsL.both {xs : List V} {ds : List D} (r : IsL c T M xs ds) {i : Nat} {x : V} {d : D} (h1 : xs[i]? = some x) (h2 : ds[i]? = some d) : Is c T M x d := by
  obtain ⟨y, e1, e2⟩ := r.get h2
  rw [h1] at e1; cases e1; exact e2
theorem snd_fld {C fn : Str} (hC : Cls c.K (c.cn C)) (hn : NoAttr c.K (c.cn C) fn) (ha : SndE c W ta f) : SndE c W (tFld c.K ta fn) (eFld C fn f) := fun fr Γ σ F G H S Q q => by
  refine ha fr Γ σ F G H S _ (post_bind S q fun x Γ1 m1 F1 G1 H1 _ S1 t1 s1 q1 v i1 => ?_)
  obtain ⟨d, e, q3⟩ := post_data S1 q1
  obtain ⟨k, dx⟩ := x
  dsimp only at *
  obtain ⟨ns, ds, rfl, e9⟩ := gFld_some e
  have fin : ∀ {M : Hp}, Ex M H1 → Is c H1 M v (.ob C ns ds) → (∀ w, Is c H1 M w d → Q w H1) → ∃ a C dx fs v', v = .ref a ∧ H1 a = some (.ins C dx fs) ∧ Cls c.K C ∧ NoAttr c.K C fn ∧ fs.lookup fn = some v' ∧ Q v' H1 := fun {M} ex h qq => by
    cases h with
    | ob s l r =>
      obtain ⟨w, e1, e2⟩ := lookup_zip (P := fun w d => Is c H1 M w d) r.len (fun i x _ h1 h2 => r.both h1 h2) e9
      exact ⟨_, _, _, _, w, rfl, ex _ _ s, hC, hn, e1, qq w e2⟩
  have imx : ∀ w, IsK c fr.B F1 H1 w d k → Q w H1 := fun w i => q3 w (IsK.im S1 i)
  cases k with
  | f => exact fin S1.fh i1 imx
  | r => exact fin S1.rh i1 imx
  | h => exact fin (Ex.refl _) i1 imx
/-! dicts -/
theorem valV_zip {κ : Type} [DecidableEq κ] : ∀ {ks : List κ} {xs : List V} {k : κ}, valV (ks.zip xs) k = dgetL ks xs k
  | [], xs, k => by simp [dgetL, valV]
  | j :: ks, [], k => by simp [dgetL, valV]
  | j :: ks, x :: xs, k => by
    rw [List.zip_cons_cons]
    unfold dgetL
    by_cases e : j = k
    · rw [if_pos e, valV_pos (p := (j, x)) e]
    · rw [if_neg e, valV_neg (p := (j, x)) e, valV_zip]
theorem dgetL_is {κ : Type} [DecidableEq κ] {k : κ} : ∀ {ks : List κ} {xs : List V} {ds : List D}, IsL c T M xs ds → (dgetL ks xs k = none ∧ dgetL ks ds k = none) ∨ ∃ v d, dgetL ks xs k = some v ∧ dgetL ks ds k = some d ∧ Is c T M v d
  | [], xs, ds, r => by
    refine .inl ⟨?_, ?_⟩ <;> unfold dgetL <;> rfl
  | j :: ks, _, _, .nil => by
    refine .inl ⟨?_, ?_⟩ <;> unfold dgetL <;> rfl
  | j :: ks, _, _, .cons (x := x) (d := d) h r => by
    by_cases e : j = k
    · refine .inr ⟨x, d, ?_, ?_, h⟩
      · unfold dgetL; rw [if_pos e]
      · unfold dgetL; rw [if_pos e]
    · rcases dgetL_is (k := k) (ks := ks) r with ⟨h1, h2⟩ | ⟨v, d', h1, h2, h3⟩
      · refine .inl ⟨?_, ?_⟩
        · unfold dgetL; rw [if_neg e]; exact h1
        · unfold dgetL; rw [if_neg e]; exact h2
      · refine .inr ⟨v, d', ?_, ?_, h3⟩
        · unfold dgetL; rw [if_neg e]; exact h1
        · unfold dgetL; rw [if_neg e]; exact h2
theorem Is.key {v : V} {d : D} {k : Key} (h : Is c T M v d) (e : d.key = some k) : v = kV k := by
  unfold D.key at e
  split at e
  · cases e; cases h; rfl
  · cases e; cases h; rfl
  · cases e
theorem IsL.keys : ∀ {vs : List V} {ds : List D} {ks : List Key}, IsL c T M vs ds → D.keys ds = some ks → vs = ks.map kV
  | _, _, ks, .nil, e => by unfold D.keys at e; cases e; rfl
  | _, _, ks, .cons (d := d) (ds := ds) h r, e => by
    unfold D.keys at e
    cases e1 : d.key with
    | none => rw [e1] at e; cases e
    | some k =>
      rw [e1] at e
      cases e2 : D.keys ds with
      | none => rw [e2] at e; cases e
      | some ks' =>
        rw [e2] at e; cases e
        rw [List.map_cons, h.key e1, IsL.keys r e2]
/-- what a dict holds at a key -/
theorem Is.dget (tm : Tp T H) (ex : Ex M H) {x y : V} {d e : D} {o : Option D} (hd : Is c T M x d) (he : Is c H H y e) (h : gDGet d e = some o) : ∃ a ov, x = .ref a ∧ DGet H a y ov ∧ ((ov = none ∧ o = none) ∨ ∃ v d', ov = some v ∧ o = some d' ∧ Is c T M v d') := by
  unfold gDGet at h
  split at h
  · rename_i ks ds
    cases hk : e.key with
    | none => rw [hk] at h; cases h
    | some k =>
      rw [hk] at h; cases h
      cases hd with
      | dk s l r =>
        refine ⟨_, _, rfl, ?_, dgetL_is r⟩
        rw [he.key hk, ← valV_zip]
        exact DGet.k (ex _ _ s)
  · rename_i ks ds
    split at h
    · rename_i es
      cases hk : D.keys es with
      | none => rw [hk] at h; cases h
      | some k =>
        rw [hk] at h; cases h
        cases hd with
        | dt s l r =>
          cases he with
          | t st rt =>
            refine ⟨_, _, rfl, ?_, dgetL_is r⟩
            rw [← valV_zip]
            refine DGet.t (ex _ _ s) ?_
            rw [st, rt.keys hk]
    · cases h
  · cases h
theorem snd_dget (ha : SndE c W ta f) (hb : SndE c W tb g) : SndE c W (tDGet ta tb) (eDGet f g) := fun fr Γ σ F G H S Q q => by
  refine ha fr Γ σ F G H S _ (post_bind S q fun x Γ1 m1 F1 G1 H1 _ S1 t1 s1 q1 v i1 => ?_)
  refine hb fr Γ1 σ F1 G1 H1 S1 _ (post_bind S1 q1 fun y Γ2 m2 F2 G2 H2 _ S2 t2 s2 q2 w i2 => ?_)
  obtain ⟨hbd, q2⟩ := post_if q2
  obtain ⟨d, e, q3⟩ := post_data S2 q2
  have j1 := IsK.last S1 S2 t2 s2 hbd i1
  obtain ⟨k, dx⟩ := x
  obtain ⟨k2, dy⟩ := y
  dsimp only at *
  cases ho : gDGet dx dy with
  | none => rw [ho] at e; cases e
  | some o =>
    rw [ho] at e
    simp only [Option.bind_some, id_eq] at e
    subst e
    have fin : ∀ {M : Hp}, Ex M H2 → Is c H2 M v dx → (∀ u, Is c H2 M u d → Q u H2) → ∃ a u, v = .ref a ∧ DGet H2 a w (some u) ∧ Q u H2 := fun {M} ex h qq => by
      obtain ⟨a, ov, rfl, h1, h2⟩ := Is.dget (Tp.refl _) ex h (IsK.h S2 i2) ho
      rcases h2 with ⟨_, h2⟩ | ⟨u, d', h2, h3, h4⟩
      · cases h2
      · cases h3; subst h2; exact ⟨a, u, rfl, h1, qq u h4⟩
    have imx : ∀ w, IsK c fr.B F2 H2 w d k → Q w H2 := fun w i => q3 w (IsK.im S2 i)
    cases k with
    | f => exact fin S2.fh j1 imx
    | r => exact fin S2.rh j1 imx
    | h => exact fin (Ex.refl _) j1 imx
theorem snd_din (ha : SndE c W ta f) (hb : SndE c W tb g) : SndE c W (tDIn ta tb) (eDIn false f g) := fun fr Γ σ F G H S Q q => by
  refine ha fr Γ σ F G H S _ (post_bind S q fun x Γ1 m1 F1 G1 H1 _ S1 t1 s1 q1 v i1 => ?_)
  refine hb fr Γ1 σ F1 G1 H1 S1 _ (post_bind S1 q1 fun y Γ2 m2 F2 G2 H2 _ S2 t2 s2 q2 w i2 => ?_)
  obtain ⟨hbd, q2⟩ := post_if q2
  obtain ⟨z, e, q3⟩ := post_leaf S2 q2
  have j1 := IsK.h S2 (IsK.last S1 S2 t2 s2 hbd i1)
  cases ho : gDGet y.2 x.2 with
  | none => rw [ho] at e; cases e
  | some o =>
    rw [ho] at e; cases e
    obtain ⟨a, ov, rfl, h1, h2⟩ := Is.dget (Tp.refl _) (Ex.refl _) (IsK.h S2 i2) j1 ho
    refine ⟨a, ov, rfl, h1, ?_⟩
    have hs : ov.isSome = o.isSome := by
      rcases h2 with ⟨h2, h3⟩ | ⟨u, d', h2, h3, _⟩ <;> rw [h2, h3] <;> rfl
    rw [hs]
    exact q3 _ (.v _)
theorem snd_dnin (ha : SndE c W ta f) (hb : SndE c W tb g) : SndE c W (tDNotIn ta tb) (eDIn true f g) := fun fr Γ σ F G H S Q q => by
  refine ha fr Γ σ F G H S _ (post_bind S q fun x Γ1 m1 F1 G1 H1 _ S1 t1 s1 q1 v i1 => ?_)
  refine hb fr Γ1 σ F1 G1 H1 S1 _ (post_bind S1 q1 fun y Γ2 m2 F2 G2 H2 _ S2 t2 s2 q2 w i2 => ?_)
  obtain ⟨hbd, q2⟩ := post_if q2
  obtain ⟨z, e, q3⟩ := post_leaf S2 q2
  have j1 := IsK.h S2 (IsK.last S1 S2 t2 s2 hbd i1)
  cases ho : gDGet y.2 x.2 with
  | none => rw [ho] at e; cases e
  | some o =>
    rw [ho] at e; cases e
    obtain ⟨a, ov, rfl, h1, h2⟩ := Is.dget (Tp.refl _) (Ex.refl _) (IsK.h S2 i2) j1 ho
    refine ⟨a, ov, rfl, h1, ?_⟩
    have hs : ov.isSome = o.isSome := by
      rcases h2 with ⟨h2, h3⟩ | ⟨u, d', h2, h3, _⟩ <;> rw [h2, h3] <;> rfl
    rw [hs]
    exact q3 _ (.v _)
end

end
section
open PySem L2 Evl

/-! ### data as owned trees -/
def oFz (f : EF) : OF := fun Γ => (f Γ).bind fun x Γ1 _ => match x.1.im x.2 with
  | .f => .ok (.fz x.2) Γ1 0
  | _ => .no
section
variable {c : Ct} {W : WX} {te ta tb tc : TE} {t u : TT} {f g h : EF} {o o' : OF} {fr : Fr} {σ σ' : L2.St} {F F' F'' H H' H'' : Hp} {G G' G'' : Nat → Hp} {Γ Γ' : Gm} {T M : Hp}
theorem Tmp.zero (S : Sta c fr Γ σ F G H) : Tmp fr F G H H0 := ⟨H0_ex, (fun a xs e => nomatch e), fun a z => absurd rfl z, fun a z => absurd rfl z, fun i a z => absurd rfl z⟩
theorem snd_ofz (hf : SndE c W te f) : SndO c W te (oFz f) := fun fr Γ σ F G H S Q q => by
  refine hf fr Γ σ F G H S _ ?_
  unfold oFz at q
  cases e : f Γ with
  | no => rw [e] at q; exact q
  | ex x Γ1 => rw [e] at q; exact q
  | ok x Γ1 m =>
    rw [e] at q
    obtain ⟨k, d⟩ := x
    unfold Er.bind at q
    dsimp only at q
    intro F1 G1 H1 S1 t1 s1 v i1
    have i2 := IsK.im S1 i1
    cases e2 : k.im d with
    | r => rw [e2] at q; exact q.elim
    | h => rw [e2] at q; exact q.elim
    | f =>
      rw [e2] at q
      dsimp only at q
      dsimp only at i2
      rw [e2] at i2
      exact q F1 G1 H1 S1 t1 (by rw [Nat.max_zero]; exact s1) v H0 (Tmp.zero S1) (fun a z => absurd rfl z) (.fz i2)
/-! ### lists of owned trees -/
abbrev LF := Gm → Er (List OT)
end
def SndL (c : Ct) (W : WX) (ta : TA) (f : LF) : Prop := ∀ fr Γ σ F G H, Sta c fr Γ σ F G H → ∀ Q : List V → Hp → Prop,
  (f Γ).post c W fr σ F G H (fun ts F' G' H' => ∀ vs N, Tmp fr F' G' H' N → (∀ a, N a ≠ none → H a = none ∨ ∃ j, G j a ≠ none) → OwL c H' F' N vs ts → Q vs H') → ta σ H Q
def lNil : LF := fun Γ => .ok [] Γ 0
def lCons (o : OF) (r : LF) : LF := fun Γ => (o Γ).bind fun t Γ1 _ => (r Γ1).bind fun ts Γ2 _ => .ok (t :: ts) Γ2 0
def oLstO (r : LF) : OF := fun Γ => (r Γ).bind fun ts Γ1 _ => if decide (100000 < ts.length) = true then .no else .ok (.l ts) Γ1 0
def oTupO (r : LF) : OF := fun Γ => (r Γ).bind fun ts Γ1 _ => if decide (100000 < ts.length) = true then .no else .ok (.t ts) Γ1 0
section
variable {c : Ct} {W : WX} {te ta tb tc : TE} {t u : TT} {f g h : EF} {o o' : OF} {r : LF} {fr : Fr} {σ σ' : L2.St} {F F' F'' H H' H'' : Hp} {G G' G'' : Nat → Hp} {Γ Γ' : Gm} {T M : Hp} {tl : TA}
theorem snd_lnil : SndL c W tNil lNil := fun fr Γ σ F G H S Q q => post_ok S q [] H0 (Tmp.zero S) (fun a z => absurd rfl z) .nil
/-- two temporaries -/
theorem Tmp.un {N1 N2 : Hp} (a : Tmp fr F G H N1) (b : Tmp fr F G H N2) : Tmp fr F G H (NV.un N1 N2) := by
  refine ⟨un_ex a.h b.h, fun x xs e => ?_, fun x z => ?_, fun x z => ?_, fun i x z => ?_⟩
  · unfold NV.un at e
    cases q : N2 x with
    | some o => rw [q] at e; cases e; exact b.m x xs q
    | none => rw [q] at e; exact a.m x xs e
  · rcases un_or z with q | q
    · exact b.b x q
    · exact a.b x q
  · rcases un_or z with q | q
    · exact b.f x q
    · exact a.f x q
  · rcases un_or z with q | q
    · exact b.g i x q
    · exact a.g i x q
theorem un_rA {N1 N2 : Hp} (h : Ap N1 N2) : Ex N1 (NV.un N1 N2) := un_r h.symm
theorem Tmp.apart {N1 N2 : Hp} (a : Tmp fr F G H N1) (o : ∀ x, N2 x ≠ none → H x = none ∨ ∃ j, G j x ≠ none) : Ap N1 N2 := fun x z => Classical.byContradiction fun q => by
  rcases o x q with w | ⟨j, w⟩
  · exact ex_ne a.h z w
  · exact w (a.g j x z)
/-- the rule for results: the temporary as asked -/
theorem snd_lcons (ho : SndO c W te o) (hr : SndL c W tl r) : SndL c W (tCons te tl) (lCons o r) := fun fr Γ σ F G H S Q q => by
  refine ho fr Γ σ F G H S _ (post_bind S q fun t Γ1 m1 F1 G1 H1 _ S1 t1 s1 q1 v N1 hn1 ho1 hw1 => ?_)
  refine hr fr Γ1 σ F1 G1 H1 S1 _ (post_bind S1 q1 fun ts Γ2 m2 F2 G2 H2 _ S2 t2 s2 q2 vs N2 hn2 ho2 hw2 => ?_)
  have a := hn1.tr t2
  have ap : Ap N1 N2 := hn1.apart ho2
  refine post_ok S2 q2 (v :: vs) (NV.un N1 N2) (a.un hn2) (fun x z => ?_) (.cons (G1 := N1) (G2 := N2) (un_rA ap) un_l ap (hw1.mono (t2.tp S1) t2.f (Ex.refl _)) hw2)
  rcases un_or z with w | w
  · exact t1.org (ho2 x w)
  · exact ho1 x w
theorem snd_lstO (hr : SndL c W tl r) : SndO c W (tLst tl) (oLstO r) := fun fr Γ σ F G H S Q q => by
  refine hr fr Γ σ F G H S _ (post_bind S q fun ts Γ1 m1 F1 G1 H1 _ S1 t1 s1 q1 vs N hn ho hw => ?_)
  obtain ⟨hl, q1⟩ := post_if q1
  refine ⟨by rw [hw.len]; exact sz_of (by simpa using hl), fun p hp => ?_⟩
  have e1 : Ex H1 (upd H1 p (.lst vs)) := Ex.new hp
  have np : N p = none := none_of_ex hn.h hp
  have tm := Tmp.new (o := .lst vs) S1 hp (fun xs z => nomatch z)
  have hn' : Tmp fr F1 G1 (upd H1 p (.lst vs)) N := hn.tr (Tr.heap S1 e1)
  refine q1 F1 G1 _ (S1.heap e1) (Tr.heap S1 e1) (Stl.e e1) (.ref p) (NV.un N (one p (.lst vs))) (hn'.un tm) (fun x z => ?_) ?_
  · rcases un_or z with w | w
    · rw [one_ne w]; exact t1.back hp
    · exact ho x w
  · refine .l (G0 := N) (un_l p _ upd_same) np (un_r fun a z => by rw [one_ne z]; exact np) (hw.mono (Tp.of e1) (Ex.refl _) (Ex.refl _))
theorem snd_tupO (hr : SndL c W tl r) : SndO c W (tTup tl) (oTupO r) := fun fr Γ σ F G H S Q q => by
  refine hr fr Γ σ F G H S _ (post_bind S q fun ts Γ1 m1 F1 G1 H1 _ S1 t1 s1 q1 vs N hn ho hw => ?_)
  obtain ⟨hl, q1⟩ := post_if q1
  refine ⟨by rw [hw.len]; exact sz_of (by simpa using hl), fun p hp => ?_⟩
  have e1 : Ex H1 (upd H1 p (.tup vs)) := Ex.new hp
  have hn' : Tmp fr F1 G1 (upd H1 p (.tup vs)) N := hn.tr (Tr.heap S1 e1)
  exact q1 F1 G1 _ (S1.heap e1) (Tr.heap S1 e1) (Stl.e e1) (.ref p) N hn' ho (.t upd_same (hw.mono (Tp.of e1) (Ex.refl _) (Ex.refl _)))

/-! ### targets -/
end
abbrev TgF := Kd → D → Gm → Option Gm
def tgName (i : Nat) : TgF := fun k d Γ => match k.im d with
  | .f => some (Γ.set i (.f d))
  | .r => some (Γ.set i (.r d))
  | .h => none
abbrev TgsF := Kd → List D → Gm → Option Gm
def tgNil : TgsF := fun k ds Γ => match ds with
  | [] => some Γ
  | _ => none
def tgCons (t : TgF) (r : TgsF) : TgsF := fun k ds Γ => match ds with
  | d :: ds => (t k d Γ).bind (r k ds)
  | [] => none
def tgTup (n : Nat) (r : TgsF) : TgF := fun k d Γ => match d with
  | .t ds => if ds.length = n then r k ds Γ else none
  | .tk ds => if ds.length = n then r k ds Γ else none
  | _ => none
/-- what a target leaves: of the slots in vs alone -/
def TgP (c : Ct) (fr : Fr) (σ : L2.St) (F : Hp) (G : Nat → Hp) (H : Hp) (vs : List Nat) (Γ' : Gm) (Q : L2.St → Hp → Prop) : Prop :=
  ∀ σ' G', Sta c fr Γ' σ' F G' H → (∀ i, i ∉ vs → σ'[i]? = σ[i]?) → σ'.length = σ.length → (∀ i, G' i = G i ∨ G' i = H0) → Q σ' H
def SndG (c : Ct) (g : TG) (t : TgF) (vs : List Nat) : Prop := ∀ fr Γ σ F G H k d x Γ', Sta c fr Γ σ F G H → IsK c fr.B F H x d k → t k d Γ = some Γ' → ∀ Q, TgP c fr σ F G H vs Γ' Q → g x σ H Q
def SndGs (c : Ct) (g : TGs) (t : TgsF) (vs : List Nat) : Prop := ∀ fr Γ σ F G H k ds xs Γ', Sta c fr Γ σ F G H → IsKL c fr.B F H xs ds k → t k ds Γ = some Γ' → ∀ Q, TgP c fr σ F G H vs Γ' Q → g xs σ H Q
section
variable {c : Ct} {W : WX} {te ta tb tc : TE} {t u : TT} {f g h : EF} {o o' : OF} {r : LF} {fr : Fr} {σ σ' : L2.St} {F F' F'' H H' H'' : Hp} {G G' G'' : Nat → Hp} {Γ Γ' : Gm} {T M : Hp} {tl : TA}
theorem SlotOk.at_ {Gi : Hp} {i : Nat} (e : σ[i]? = σ'[i]?) : ∀ {s : Slot}, SlotOk c fr F Gi H σ i s → SlotOk c fr F Gi H σ' i s
  | .n, _ => trivial
  | .f _, ⟨v, h, q⟩ => ⟨v, e ▸ h, q⟩
  | .r _, ⟨v, h, q⟩ => ⟨v, e ▸ h, q⟩
  | .o _, ⟨v, h, q⟩ => ⟨v, e ▸ h, q⟩
  | .p _, ⟨v, h0, h, q⟩ => ⟨v, h0, e ▸ h, q⟩
/-- slot i changed: its value, its own heap a temporary's -/
theorem Sta.put (S : Sta c fr Γ σ F G H) (i : Nat) (v : V) (s : Slot) {N : Hp} (n : Tmp fr F G H N) (ok : ∀ σ' : L2.St, σ'[i]? = some (some v) → SlotOk c fr F N H σ' i s) :
    Sta c fr (Γ.set i s) (σ.set i (some v)) F (fun j => if j = i then N else G j) H := by
  refine ⟨by rw [List.length_set, List.length_set]; exact S.len, S.bh, S.fh, S.bf, fun j => ?_, fun j => ?_, fun j => ?_, fun j l hjl => ?_, fun j => ?_, fun j s' hs => ?_⟩
  · by_cases e : j = i
    · simp only [e, if_true]; exact n.h
    · simp only [e, if_false]; exact S.gh j
  · by_cases e : j = i
    · simp only [e, if_true]; exact n.b
    · simp only [e, if_false]; exact S.gb j
  · by_cases e : j = i
    · simp only [e, if_true]; exact n.f
    · simp only [e, if_false]; exact S.gf j
  · by_cases e : j = i
    · have el : l ≠ i := fun z => hjl (e.trans z.symm)
      simp only [e, el, if_true, if_false]; exact n.g l
    · by_cases el : l = i
      · simp only [e, el, if_true, if_false]; exact (n.g j).symm
      · simp only [e, el, if_false]; exact S.gg j l hjl
  · by_cases e : j = i
    · simp only [e, if_true]; exact n.m
    · simp only [e, if_false]; exact S.gm j
  · by_cases e : j = i
    · subst e
      by_cases hl : j < Γ.length
      · rw [List.getElem?_set_self hl] at hs
        cases hs
        simp only [if_true]
        exact ok _ (by rw [List.getElem?_set_self (by rw [S.len]; exact hl)])
      · rw [List.getElem?_eq_none (by rw [List.length_set]; omega)] at hs
        cases hs
    · rw [List.getElem?_set_ne (Ne.symm e)] at hs
      simp only [e, if_false]
      exact (S.sl j s' hs).at_ (List.getElem?_set_ne (Ne.symm e)).symm
theorem snd_gname {i : Nat} : SndG c (gName i) (tgName i) [i] := fun fr Γ σ F G H k d x Γ' S ix e Q q => by
  have key : ∀ s, (∀ σ' : L2.St, σ'[i]? = some (some x) → SlotOk c fr F H0 H σ' i s) → Γ' = Γ.set i s → Q (σ.set i (some x)) H := fun s ok e => by
    subst e
    refine q _ _ (S.put i x s (Tmp.zero S) ok) (fun j hj => ?_) (List.length_set) fun j => ?_
    · rw [List.getElem?_set_ne]
      intro z; exact hj (by simp [z])
    · by_cases z : j = i
      · exact .inr (if_pos z)
      · exact .inl (if_neg z)
  have i2 := IsK.im S ix
  unfold tgName at e
  cases e2 : k.im d with
  | f => rw [e2] at e i2; cases e; exact key (.f d) (fun σ' h => ⟨x, h, i2⟩) rfl
  | r => rw [e2] at e i2; cases e; exact key (.r d) (fun σ' h => ⟨x, h, i2⟩) rfl
  | h => rw [e2] at e; cases e
theorem snd_gnil : SndGs c gNil tgNil [] := fun fr Γ σ F G H k ds xs Γ' S ix e Q q => by
  unfold tgNil at e
  cases ds with
  | cons _ _ => cases e
  | nil =>
    cases e
    have : xs = [] := by
      have := (IsKL.h S ix).len
      cases xs with
      | nil => rfl
      | cons _ _ => cases this
    exact ⟨this, q σ G S (fun _ _ => rfl) rfl fun _ => .inl rfl⟩
theorem IsKL.uncons {k : Kd} {x : V} {xs : List V} {d : D} {ds : List D} : ∀ {k : Kd}, IsKL c fr.B F H (x :: xs) (d :: ds) k → IsK c fr.B F H x d k ∧ IsKL c fr.B F H xs ds k
  | .f, i => by cases i with | cons a b => exact ⟨a, b⟩
  | .r, i => by cases i with | cons a b => exact ⟨a, b⟩
  | .h, i => by cases i with | cons a b => exact ⟨a, b⟩
theorem snd_gcons {g1 : TG} {g2 : TGs} {t1 : TgF} {t2 : TgsF} {vs ws : List Nat} (h1 : SndG c g1 t1 vs) (h2 : SndGs c g2 t2 ws) : SndGs c (gCons g1 g2) (tgCons t1 t2) (vs ++ ws) := fun fr Γ σ F G H k ds xs Γ' S ix e Q q => by
  unfold tgCons at e
  cases ds with
  | nil => cases e
  | cons d ds =>
    cases xs with
    | nil => have := (IsKL.h S ix).len; cases this
    | cons x xs =>
      obtain ⟨i1, i2⟩ := IsKL.uncons (k := k) ix
      dsimp only at e
      cases e1 : t1 k d Γ with
      | none => rw [e1] at e; cases e
      | some Γ1 =>
        rw [e1] at e
        refine ⟨x, xs, rfl, h1 fr Γ σ F G H k d x Γ1 S i1 e1 _ fun σ1 G1 S1 k1 l1 g1 => ?_⟩
        refine h2 fr Γ1 σ1 F G1 H k ds xs Γ' S1 i2 e _ fun σ2 G2 S2 k2 l2 g2 => ?_
        refine q σ2 G2 S2 (fun i hi => ?_) (l2.trans l1) fun i => ?_
        · rw [List.mem_append] at hi
          rw [k2 i (fun z => hi (.inr z)), k1 i (fun z => hi (.inl z))]
        · rcases g2 i with w | w
          · rw [w]; exact g1 i
          · exact .inr w
theorem snd_gtup {g1 : TGs} {t1 : TgsF} {vs : List Nat} {n : Nat} (h1 : SndGs c g1 t1 vs) : SndG c (gTup c.K n g1) (tgTup n t1) vs := fun fr Γ σ F G H k d x Γ' S ix e Q q => by
  have key : ∀ {ds : List D}, d.items = some ds → (∀ p xs, SqL c.K H p xs → x ≠ .ref p ∨ True) → (if ds.length = n then t1 k ds Γ else none) = some Γ' → (∃ a xs, x = .ref a ∧ SqT c.K H a xs ∧ IsKL c fr.B F H xs ds k) → gTup c.K n g1 x σ H Q := fun {ds} hi _ e ⟨a, xs, e1, e2, e3⟩ => by
    by_cases hl : ds.length = n
    · rw [if_pos hl] at e
      exact ⟨a, xs, e1, e2, by rw [(IsKL.h S e3).len, hl], h1 fr Γ σ F G H k ds xs Γ' S e3 e Q q⟩
    · rw [if_neg hl] at e; cases e
  have isT : ∀ {M : Hp} {ds : List D}, Is c H M x (.t ds) → ∃ a xs, x = .ref a ∧ SqT c.K H a xs ∧ IsL c H M xs ds := fun {M ds} h => by
    cases h with
    | t s r => exact ⟨_, _, rfl, st_of s, r⟩
  have isTk : ∀ {M : Hp} {ds : List D}, Is c H M x (.tk ds) → ∃ a xs, x = .ref a ∧ SqT c.K H a xs ∧ IsL c H M xs ds := fun {M ds} h => by
    cases h with
    | tk s r => exact ⟨_, _, rfl, s _, r⟩
  unfold tgTup at e
  cases d with
  | t ds => exact key rfl (fun _ _ _ => .inr trivial) e (by cases k <;> exact isT ix)
  | tk ds => exact key rfl (fun _ _ _ => .inr trivial) e (by cases k <;> exact isTk ix)
  | _ => cases e

/-! ### what is walked -/
end
def Mh (k : Kd) (B F H : Hp) : Hp := match k with
  | .f => F
  | .r => un B F
  | .h => H
def ItOk (c : Ct) (J : It) (M H : Hp) (ds : List D) : Prop := ∀ H', Ex M H' → Tp H H' → J.stop ds.length H' ∧ ∀ i d, ds[i]? = some d → J.go i H' ∧ ∀ x H'', J.yld i H' x H'' → Ex H' H'' ∧ Is c H'' M x d
def SndI (c : Ct) (W : WX) (wi : TI) (f : AF) : Prop := ∀ fr Γ σ F G H, Sta c fr Γ σ F G H → ∀ R : It → Hp → Prop,
  (f Γ).post c W fr σ F G H (fun a F' G' H' => ∀ J, ItOk c J (Mh a.1 fr.B F' H') H' a.2 → R J H') → wi σ H R
/-- range(n), range(a, n) -/
def oneI : List D → Option Int
  | [.v (.int n)] => some n
  | _ => none
def twoI : List D → Option (Int × Int)
  | [.v (.int m), .v (.int n)] => some (m, n)
  | _ => none
theorem oneI_eq {ds : List D} {n : Int} (h : oneI ds = some n) : ds = [.i n] := by
  unfold oneI at h
  split at h
  · cases h; rfl
  · cases h
theorem twoI_eq {ds : List D} {m n : Int} (h : twoI ds = some (m, n)) : ds = [.i m, .i n] := by
  unfold twoI at h
  split at h
  · cases h; rfl
  · cases h
def rgD (m : Int) (n : Nat) : List D := (List.range n).map fun (i : Nat) => D.i (m + (i : Int))
theorem rgD_len {m : Int} {n : Nat} : (rgD m n).length = n := by unfold rgD; simp
theorem rgD_get {m : Int} {n i : Nat} {d : D} (h : (rgD m n)[i]? = some d) : i < n ∧ d = .i (m + (i : Int)) := by
  unfold rgD at h
  rw [List.getElem?_map] at h
  cases hr : (List.range n)[i]? with
  | none => rw [hr] at h; cases h
  | some j =>
    rw [hr] at h; cases h
    have h1 := (List.getElem?_eq_some_iff.mp hr)
    obtain ⟨h2, h3⟩ := h1
    simp at h2 h3
    subst h3
    exact ⟨h2, rfl⟩
def iR1 (a : AF) : AF := fun Γ => (a Γ).bind fun x Γ1 _ => match oneI x.2 with
  | some n => if decide (n < -100000 ∨ 100000 < n) = true then .no else .ok (.f, rgD 0 n.toNat) Γ1 0
  | none => .no
def iR2 (a : AF) : AF := fun Γ => (a Γ).bind fun x Γ1 _ => match twoI x.2 with
  | some (m, n) => if decide (m < -100000 ∨ 100000 < m ∨ n < -100000 ∨ 100000 < n) = true then .no else .ok (.f, rgD m (n - m).toNat) Γ1 0
  | none => .no
def iLi (a : EF) : AF := fun Γ => (a Γ).bind fun x Γ1 _ => match x.2 with
  | .l ds => .ok (x.1, ds) Γ1 0
  | _ => .no
def iTu (a : EF) : AF := fun Γ => (a Γ).bind fun x Γ1 _ => match x.2 with
  | .t ds => .ok (x.1, ds) Γ1 0
  | .tk ds => .ok (x.1, ds) Γ1 0
  | _ => .no
def chars (s : Str) : List D := s.cps.toList.map fun z => D.s ⟨#[z]⟩
def iSt (a : EF) : AF := fun Γ => (a Γ).bind fun x Γ1 _ => match x.2 with
  | .v (.str s) => .ok (.f, chars s) Γ1 0
  | _ => .no
def enumD (n : Nat) : List D → List D
  | [] => []
  | d :: ds => .t [.i (n : Int), d] :: enumD (n + 1) ds
def iEn (a : AF) : AF := fun Γ => (a Γ).bind fun x Γ1 _ => match x.2 with
  | [.l ds] => .ok (x.1, enumD 0 ds) Γ1 0
  | _ => .no
def zipD : List D → List D → List D
  | x :: xs, y :: ys => .t [x, y] :: zipD xs ys
  | _, _ => []
def iZi (a : AF) : AF := fun Γ => (a Γ).bind fun x Γ1 _ => match x.2 with
  | [.l ds, .l es] => .ok (x.1, zipD ds es) Γ1 0
  | _ => .no
theorem enumD_get : ∀ (ds : List D) (n i : Nat), (enumD n ds)[i]? = ds[i]?.map fun d => .t [.i ((n + i : Nat) : Int), d]
  | [], n, i => by unfold enumD; simp
  | d :: ds, n, 0 => by unfold enumD; simp
  | d :: ds, n, i + 1 => by
    unfold enumD
    rw [List.getElem?_cons_succ, List.getElem?_cons_succ, enumD_get ds (n + 1) i]
    rw [show n + 1 + i = n + (i + 1) by omega]
theorem enumD_len : ∀ (ds : List D) (n : Nat), (enumD n ds).length = ds.length
  | [], n => by unfold enumD; rfl
  | d :: ds, n => by unfold enumD; rw [List.length_cons, List.length_cons, enumD_len]
theorem zipD_get : ∀ (ds es : List D) (i : Nat) (z : D), (zipD ds es)[i]? = some z → ∃ x y, ds[i]? = some x ∧ es[i]? = some y ∧ z = .t [x, y]
  | [], es, i, z, h => by unfold zipD at h; simp at h
  | _ :: _, [], i, z, h => by unfold zipD at h; simp at h
  | d :: ds, e :: es, 0, z, h => by unfold zipD at h; simp at h; exact ⟨d, e, rfl, rfl, h.symm⟩
  | d :: ds, e :: es, i + 1, z, h => by
    unfold zipD at h
    rw [List.getElem?_cons_succ] at h
    obtain ⟨x, y, h1, h2, h3⟩ := zipD_get ds es i z h
    exact ⟨x, y, by simpa using h1, by simpa using h2, h3⟩
theorem zipD_len : ∀ (ds es : List D), (zipD ds es).length = min ds.length es.length
  | [], es => by unfold zipD; simp
  | _ :: _, [] => by unfold zipD; simp
  | d :: ds, e :: es => by unfold zipD; simp [zipD_len ds es]
section
variable {c : Ct} {W : WX} {te ta tb tc : TE} {t u : TT} {f g h : EF} {o o' : OF} {r : LF} {fr : Fr} {σ σ' : L2.St} {F F' F'' H H' H'' : Hp} {G G' G'' : Nat → Hp} {Γ Γ' : Gm} {T M : Hp} {tl : TA} {a : AF}
theorem rg_ok {m : Int} {n : Nat} : ItOk c (Itr m n) M H (rgD m n) := fun H' _ _ => ⟨by rw [rgD_len]; exact Nat.le_refl n, fun i d hd => by
  obtain ⟨h1, rfl⟩ := rgD_get hd
  refine ⟨h1, fun x H'' hy => ?_⟩
  obtain ⟨rfl, rfl⟩ := hy
  exact ⟨Ex.refl _, .v _⟩⟩
theorem snd_r1 (ha : SndA c W tl a) : SndI c W (iRng1 tl) (iR1 a) := fun fr Γ σ F G H S R q => by
  refine ha fr Γ σ F G H S _ (post_bind S q fun x Γ1 m1 F1 G1 H1 _ S1 t1 s1 q1 vs i1 => ?_)
  have i1 := IsKL.h S1 i1
  cases e : oneI x.2 with
  | none => rw [e] at q1; exact q1.elim
  | some n =>
    rw [e] at q1
    rw [oneI_eq e] at i1
    obtain ⟨hb, q1⟩ := post_if q1
    have hb : ¬ (n < -100000 ∨ 100000 < n) := of_decide_eq_false hb
    cases i1 with
    | cons b r =>
      cases r; cases b
      exact ⟨n, rfl, by omega, by omega, post_ok S1 q1 _ rg_ok⟩
theorem snd_r2 (ha : SndA c W tl a) : SndI c W (iRng2 tl) (iR2 a) := fun fr Γ σ F G H S R q => by
  refine ha fr Γ σ F G H S _ (post_bind S q fun x Γ1 m1 F1 G1 H1 _ S1 t1 s1 q1 vs i1 => ?_)
  have i1 := IsKL.h S1 i1
  cases e : twoI x.2 with
  | none => rw [e] at q1; exact q1.elim
  | some mn =>
    obtain ⟨m, n⟩ := mn
    rw [e] at q1
    rw [twoI_eq e] at i1
    obtain ⟨hb, q1⟩ := post_if q1
    have hb : ¬ (m < -100000 ∨ 100000 < m ∨ n < -100000 ∨ 100000 < n) := of_decide_eq_false hb
    cases i1 with
    | cons b r =>
      cases r with
      | cons b2 r =>
        cases r; cases b; cases b2
        exact ⟨m, n, rfl, by omega, post_ok S1 q1 _ rg_ok⟩
theorem Mh_ex (S : Sta c fr Γ σ F G H) (k : Kd) : Ex (Mh k fr.B F H) H := by
  cases k
  · exact S.fh
  · exact S.rh
  · exact Ex.refl _
theorem IsK.mk {k : Kd} {x : V} {d : D} (h : IsK c fr.B F H x d k) : Is c H (Mh k fr.B F H) x d := by cases k <;> exact h
theorem IsKL.mk {k : Kd} {x : List V} {d : List D} (h : IsKL c fr.B F H x d k) : IsL c H (Mh k fr.B F H) x d := by cases k <;> exact h
theorem li_ok {b : Addr} {xs : List V} {ds : List D} (s : SqL c.K M b xs) (r : IsL c H M xs ds) : ItOk c (Itl c.K b) M H ds := fun H' e tp => by
  have s' := ex_l e s
  refine ⟨⟨xs, s', by rw [r.len]; exact Nat.le_refl _⟩, fun i d hd => ?_⟩
  obtain ⟨x, h1, h2⟩ := r.get hd
  refine ⟨⟨xs, x, s', h1⟩, fun y H'' hy => ?_⟩
  obtain ⟨rfl, hy⟩ := hy
  have := hy xs s'
  rw [h1] at this; cases this
  exact ⟨Ex.refl _, h2.mono tp (Ex.refl _)⟩
theorem tu_ok {b : Addr} {xs : List V} {ds : List D} (s : ∀ H', Tp H H' → SqT c.K H' b xs) (r : IsL c H M xs ds) : ItOk c (Itt c.K b) M H ds := fun H' e tp => by
  have s' := s H' tp
  refine ⟨⟨xs, s', by rw [r.len]; exact Nat.le_refl _⟩, fun i d hd => ?_⟩
  obtain ⟨x, h1, h2⟩ := r.get hd
  refine ⟨⟨xs, x, s', h1⟩, fun y H'' hy => ?_⟩
  obtain ⟨rfl, hy⟩ := hy
  have := hy xs s'
  rw [h1] at this; cases this
  exact ⟨Ex.refl _, h2.mono tp (Ex.refl _)⟩
theorem snd_li (ha : SndE c W ta f) : SndI c W (iList c.K ta) (iLi f) := fun fr Γ σ F G H S R q => by
  refine ha fr Γ σ F G H S _ (post_bind S q fun x Γ1 m1 F1 G1 H1 _ S1 t1 s1 q1 v i1 => ?_)
  obtain ⟨k, d⟩ := x
  have i2 := IsK.mk i1
  dsimp only at i2 q1
  cases d with
  | l ds =>
    cases i2 with
    | l s r => exact ⟨_, rfl, ⟨_, ex_l (Mh_ex S1 k) s⟩, post_ok S1 q1 _ (li_ok s r)⟩
  | _ => exact q1.elim
theorem snd_tu (ha : SndE c W ta f) : SndI c W (iTup c.K ta) (iTu f) := fun fr Γ σ F G H S R q => by
  refine ha fr Γ σ F G H S _ (post_bind S q fun x Γ1 m1 F1 G1 H1 _ S1 t1 s1 q1 v i1 => ?_)
  obtain ⟨k, d⟩ := x
  have i2 := IsK.mk i1
  dsimp only at i2 q1
  cases d with
  | t ds =>
    cases i2 with
    | t s r => exact ⟨_, rfl, ⟨_, st_of s⟩, post_ok S1 q1 _ (tu_ok (fun H' tp => st_of (tp _ _ s)) r)⟩
  | tk ds =>
    cases i2 with
    | tk s r => exact ⟨_, rfl, ⟨_, s _⟩, post_ok S1 q1 _ (tu_ok (fun H' tp => s _) r)⟩
  | _ => exact q1.elim
theorem snd_st (ha : SndE c W ta f) : SndI c W (iStr ta) (iSt f) := fun fr Γ σ F G H S R q => by
  refine ha fr Γ σ F G H S _ (post_bind S q fun x Γ1 m1 F1 G1 H1 _ S1 t1 s1 q1 v i1 => ?_)
  obtain ⟨k, d⟩ := x
  have i2 := IsK.h S1 i1
  dsimp only at i2 q1
  cases d with
  | v w =>
    cases w with
    | str s =>
      cases Is.leaf i2
      refine ⟨s, rfl, post_ok S1 q1 _ fun H' _ _ => ⟨?_, fun i d hd => ?_⟩⟩
      · show s.cps.size ≤ _
        unfold chars; simp
      · unfold chars at hd
        rw [List.getElem?_map] at hd
        cases hz : s.cps.toList[i]? with
        | none => rw [hz] at hd; cases hd
        | some z =>
          rw [hz] at hd; cases hd
          rw [Array.getElem?_toList] at hz
          refine ⟨(Array.getElem?_eq_some_iff.mp hz).1, fun x H'' hy => ?_⟩
          obtain ⟨rfl, y, h1, rfl⟩ := hy
          rw [hz] at h1; cases h1
          exact ⟨Ex.refl _, .v _⟩
    | _ => exact q1.elim
  | _ => exact q1.elim
theorem snd_en (ha : SndA c W tl a) : SndI c W (iEnum c.K tl) (iEn a) := fun fr Γ σ F G H S R q => by
  refine ha fr Γ σ F G H S _ (post_bind S q fun x Γ1 m1 F1 G1 H1 _ S1 t1 s1 q1 vs i1 => ?_)
  obtain ⟨k, ds⟩ := x
  have i2 := IsKL.mk i1
  dsimp only at i2 q1
  match ds, i2, q1 with
  | [.l ds], i2, q1 =>
    cases i2 with
    | cons b r =>
      cases r
      cases b with
      | l s r =>
        refine ⟨_, _, rfl, ex_l (Mh_ex S1 k) s, post_ok S1 q1 _ fun H' e tp => ?_⟩
        have s' := ex_l e s
        refine ⟨⟨_, s', by rw [enumD_len, r.len]; exact Nat.le_refl _⟩, fun i d hd => ?_⟩
        rw [enumD_get] at hd
        cases hi : ds[i]? with
        | none => rw [hi] at hd; cases hd
        | some d0 =>
          rw [hi] at hd; cases hd
          obtain ⟨x, h1, h2⟩ := r.get hi
          refine ⟨⟨_, x, s', h1⟩, fun y H'' hy => ?_⟩
          obtain ⟨T, x', rfl, hT, rfl, hx⟩ := hy
          have := hx _ s'
          rw [h1] at this; cases this
          have e2 : Ex H' (upd H' T (.tup [.int (i : Nat), x])) := Ex.new hT
          refine ⟨e2, .t upd_same (.cons ?_ (.cons (h2.mono (tp.trans (Tp.of e2)) (Ex.refl _)) .nil))⟩
          rw [Nat.zero_add]
          exact .v _
  | [], i2, q1 => exact q1.elim
  | [.v _], i2, q1 => exact q1.elim
  | [.t _], i2, q1 => exact q1.elim
  | [.tk _], i2, q1 => exact q1.elim
  | [.dk _ _], i2, q1 => exact q1.elim
  | [.dt _ _], i2, q1 => exact q1.elim
  | [.ob _ _ _], i2, q1 => exact q1.elim
  | _ :: _ :: _, i2, q1 => split at q1 <;> first | exact q1.elim | (rename_i h; simp at h)
theorem snd_zi (ha : SndA c W tl a) : SndI c W (iZip c.K tl) (iZi a) := fun fr Γ σ F G H S R q => by
  refine ha fr Γ σ F G H S _ (post_bind S q fun x Γ1 m1 F1 G1 H1 _ S1 t1 s1 q1 vs i1 => ?_)
  obtain ⟨k, ds⟩ := x
  have i2 := IsKL.mk i1
  dsimp only at i2 q1
  split at q1
  · rename_i ds es heq
    cases i2 with
    | cons b r =>
      cases r with
      | cons b2 r =>
        cases r
        cases b with
        | l s r =>
          cases b2 with
          | l s2 r2 =>
            refine ⟨_, _, _, _, rfl, ex_l (Mh_ex S1 k) s, ex_l (Mh_ex S1 k) s2, post_ok S1 q1 _ fun H' e tp => ?_⟩
            have s' := ex_l e s
            have s2' := ex_l e s2
            refine ⟨⟨_, _, s', s2', by rw [zipD_len, r.len, r2.len]; omega⟩, fun i d hd => ?_⟩
            obtain ⟨d1, d2, g1, g2, rfl⟩ := zipD_get _ _ _ _ hd
            obtain ⟨x, h1, h2⟩ := r.get g1
            obtain ⟨y, h3, h4⟩ := r2.get g2
            refine ⟨⟨_, _, x, y, s', s2', h1, h3⟩, fun v H'' hy => ?_⟩
            obtain ⟨T, x', y', rfl, hT, rfl, hx, hy⟩ := hy
            have := hx _ s'
            rw [h1] at this; cases this
            have := hy _ s2'
            rw [h3] at this; cases this
            have e2 : Ex H' (upd H' T (.tup [x, y])) := Ex.new hT
            exact ⟨e2, .t upd_same (.cons (h2.mono (tp.trans (Tp.of e2)) (Ex.refl _)) (.cons (h4.mono (tp.trans (Tp.of e2)) (Ex.refl _)) .nil))⟩
  · exact q1.elim
end

end
section
open PySem L2 Evl

/-! ### statements -/
inductive Out where
  | nx (Γ : Gm) | rt (t : OT) (Γ : Gm) | bk (Γ : Gm) | ct (Γ : Gm) | ex (e : Xn) (Γ : Gm) | no
abbrev SF := Gm → Out
def Out.post (c : Ct) (W : WX) (fr : Fr) (D : Ends) (F H : Hp) : Out → Prop
  | .nx Γ' => ∀ σ' F' G' H', Ex F F' → Tp H H' → Sta c fr Γ' σ' F' G' H' → D.nx σ' H'
  | .bk Γ' => ∀ σ' F' G' H', Ex F F' → Tp H H' → Sta c fr Γ' σ' F' G' H' → D.bk σ' H'
  | .ct Γ' => ∀ σ' F' G' H', Ex F F' → Tp H H' → Sta c fr Γ' σ' F' G' H' → D.ct σ' H'
  | .rt t Γ' => ∀ σ' v F' G' H' N, Ex F F' → Tp H H' → Sta c fr Γ' σ' F' G' H' → Tmp fr F' G' H' N → Ow c H' F' N v t → D.rt v H'
  | .ex e Γ' => ∀ σ' F' G' H' cls dd, Ex F F' → Tp H H' → Sta c fr Γ' σ' F' G' H' → IsX c H' e cls dd → W cls dd σ' H'
  | .no => False
def SndS (c : Ct) (W : WX) (ts : TS) (f : SF) : Prop := ∀ fr Γ σ F G H, Sta c fr Γ σ F G H → ∀ D, (f Γ).post c W fr D F H → ts D σ H
/-- an expression's ways out -/
def Er.out {α : Type} (x : Er α) (k : α → Gm → Out) : Out := match x with
  | .ok a Γ _ => k a Γ
  | .ex e Γ => .ex e Γ
  | .no => .no
def sNext : SF := fun Γ => .nx Γ
def sSeq (a b : SF) : SF := fun Γ => match a Γ with
  | .nx Γ1 => b Γ1
  | o => o
def sIf (t : TF) (a b : SF) : SF := fun Γ => (t Γ).out fun x Γ1 => if x = true then a Γ1 else b Γ1
def sDrop (f : EF) : SF := fun Γ => (f Γ).out fun _ Γ1 => .nx Γ1
def sRet (o : OF) : SF := fun Γ => (o Γ).out fun t Γ1 => .rt t Γ1
def sRetN : SF := fun Γ => .rt (.fz .n) Γ
def sAsg (f : EF) (t : TgF) : SF := fun Γ => (f Γ).out fun x Γ1 => match t x.1 x.2 Γ1 with
  | some Γ2 => .nx Γ2
  | none => .no
def sAsgO (o : OF) (i : Nat) : SF := fun Γ => (o Γ).out fun t Γ1 => .nx (Γ1.set i (.o t))
def sBrk : SF := fun Γ => .bk Γ
def sCont : SF := fun Γ => .ct Γ
def sNever : SF := fun _ => .no
/-- x op= e, leaves -/
def sAug (i : Nat) (g : D → D → Option V) (f : EF) : SF := fun Γ => match Γ[i]? with
  | some (.f d) => (f Γ).out fun x Γ1 => match g d x.2 with
    | some w => .nx (Γ1.set i (.f (.v w)))
    | none => .no
  | _ => .no
def forL (t : TgF) (b : SF) (k : Kd) : List D → Gm → Out
  | [], Γ => .nx Γ
  | d :: ds, Γ => match t k d Γ with
    | none => .no
    | some Γ1 => match b Γ1 with
      | .nx Γ2 => forL t b k ds Γ2
      | .ct Γ2 => forL t b k ds Γ2
      | .bk Γ2 => .nx Γ2
      | o => o
def sFor (it : AF) (t : TgF) (b : SF) : SF := fun Γ => (it Γ).out fun x Γ1 => if x.1 = .h then .no else forL t b x.1 x.2 Γ1
def whL (t : TF) (b : SF) : Nat → Gm → Out
  | 0, _ => .no
  | n + 1, Γ => (t Γ).out fun x Γ1 => if x = true then match b Γ1 with
      | .nx Γ2 => whL t b n Γ2
      | .ct Γ2 => whL t b n Γ2
      | .bk Γ2 => .nx Γ2
      | o => o
    else .nx Γ1
def sWhile (n : Nat) (t : TF) (b : SF) : SF := whL t b n
/-- the slots in vs are forgotten -/
def killG : List Nat → Gm → Gm
  | [], Γ => Γ
  | i :: vs, Γ => killG vs (Γ.set i .n)
def sKill (vs : List Nat) (a : SF) : SF := fun Γ => match a Γ with
  | .nx Γ1 => .nx (killG vs Γ1)
  | .ct Γ1 => .ct (killG vs Γ1)
  | o => o
/-- forgotten ahead of a statement -/
def sKB (vs : List Nat) (a : SF) : SF := fun Γ => a (killG vs Γ)
/-- an owned tree is frozen, ahead of a statement -/
def fzG (i : Nat) (Γ : Gm) : Gm := match Γ[i]? with
  | some (.o t) => Γ.set i (.f t.d)
  | _ => Γ
def sFz (i : Nat) (a : SF) : SF := fun Γ => a (fzG i Γ)
section
variable {c : Ct} {W : WX} {te ta tb tc : TE} {tt : TT} {t u : TS} {f g h : EF} {p q : TF} {a b : SF} {o o' : OF} {r : LF} {fr : Fr} {σ σ' : L2.St} {F F' F'' H H' H'' : Hp} {G G' G'' : Nat → Hp} {Γ Γ' : Gm} {T M : Hp} {D D' : Ends}
theorem Out.post.mono {x : Out} (e : Ex F F') (tp : Tp H H') (q : x.post c W fr D F H) : x.post c W fr D F' H' := by
  cases x with
  | nx Γ => exact fun σ' F2 G' H2 e2 t2 S => q σ' F2 G' H2 (e.trans e2) (tp.trans t2) S
  | bk Γ => exact fun σ' F2 G' H2 e2 t2 S => q σ' F2 G' H2 (e.trans e2) (tp.trans t2) S
  | ct Γ => exact fun σ' F2 G' H2 e2 t2 S => q σ' F2 G' H2 (e.trans e2) (tp.trans t2) S
  | rt t Γ => exact fun σ' v F2 G' H2 N e2 t2 S => q σ' v F2 G' H2 N (e.trans e2) (tp.trans t2) S
  | ex x Γ => exact fun σ' F2 G' H2 cls dd e2 t2 S => q σ' F2 G' H2 cls dd (e.trans e2) (tp.trans t2) S
  | no => exact q
/-- an expression within a statement -/
theorem out_post {α : Type} {x : Er α} {k : α → Gm → Out} (S : Sta c fr Γ σ F G H) (q : (x.out k).post c W fr D F H) {R : α → Hp → (Nat → Hp) → Hp → Prop}
    (h : ∀ y Γ1 m F1 G1 H1, x = .ok y Γ1 m → Sta c fr Γ1 σ F1 G1 H1 → Tr F G H F1 G1 H1 → Stl m G H G1 H1 → (k y Γ1).post c W fr D F1 H1 → R y F1 G1 H1) (tpx : ∀ e Γ', x = .ex e Γ' → True := by intros; trivial) : x.post c W fr σ F G H R := by
  cases x with
  | no => exact q
  | ex e Γ => exact fun F' G' H' cls dd S' e i => q σ F' G' H' cls dd e.1 e.2 S' i
  | ok y Γ1 m => exact fun F1 G1 H1 S1 t s => h y Γ1 m F1 G1 H1 rfl S1 t s (Out.post.mono t.f (t.tp S) q)
theorem snd_next : SndS c W tNext sNext := fun fr Γ σ F G H S D q => q σ F G H (Ex.refl _) (Tp.refl _) S
theorem snd_seq (ha : SndS c W t a) (hb : SndS c W u b) : SndS c W (tSeq t u) (sSeq a b) := fun fr Γ σ F G H S D q => by
  refine ha fr Γ σ F G H S { D with nx := u D } ?_
  unfold sSeq at q
  cases e : a Γ with
  | nx Γ1 => rw [e] at q; exact fun σ' F' G' H' x tp S' => hb fr Γ1 σ' F' G' H' S' D (Out.post.mono x tp q)
  | bk Γ => rw [e] at q; exact q
  | ct Γ => rw [e] at q; exact q
  | rt t Γ => rw [e] at q; exact q
  | ex x Γ => rw [e] at q; exact q
  | no => rw [e] at q; exact q
theorem snd_ifS (ht : SndT c W tt p) (ha : SndS c W t a) (hb : SndS c W u b) : SndS c W (tIfS tt t u) (sIf p a b) := fun fr Γ σ F G H S D q => by
  refine ht fr Γ σ F G H S _ (out_post S q fun x Γ1 m F1 G1 H1 _ S1 t1 s1 q1 => ?_)
  cases x with
  | true => exact ha fr Γ1 σ F1 G1 H1 S1 D q1
  | false => exact hb fr Γ1 σ F1 G1 H1 S1 D q1
theorem snd_drop (ha : SndE c W ta f) : SndS c W (tDrop ta) (sDrop f) := fun fr Γ σ F G H S D q => by
  exact ha fr Γ σ F G H S _ (out_post S q fun x Γ1 m F1 G1 H1 _ S1 t1 s1 q1 v i1 => q1 σ F1 G1 H1 (Ex.refl _) (Tp.refl _) S1)
theorem snd_ret (ha : SndO c W ta o) : SndS c W (tRet ta) (sRet o) := fun fr Γ σ F G H S D q => by
  exact ha fr Γ σ F G H S _ (out_post S q fun x Γ1 m F1 G1 H1 _ S1 t1 s1 q1 v N hn _ hw => q1 σ v F1 G1 H1 N (Ex.refl _) (Tp.refl _) S1 hn hw)
theorem snd_retN : SndS c W tRetN sRetN := fun fr Γ σ F G H S D q => q σ .non F G H H0 (Ex.refl _) (Tp.refl _) S (Tmp.zero S) (.fz (.v _))
theorem snd_asg {gg : TG} {tg : TgF} {vs : List Nat} (ha : SndE c W ta f) (hg : SndG c gg tg vs) : SndS c W (tAsg ta gg) (sAsg f tg) := fun fr Γ σ F G H S D q => by
  refine ha fr Γ σ F G H S _ (out_post S q fun x Γ1 m F1 G1 H1 _ S1 t1 s1 q1 v i1 => ?_)
  cases e : tg x.1 x.2 Γ1 with
  | none => rw [e] at q1; exact q1.elim
  | some Γ2 =>
    rw [e] at q1
    exact hg fr Γ1 σ F1 G1 H1 x.1 x.2 v Γ2 S1 i1 e _ fun σ' G' S' _ _ _ => q1 σ' F1 G' H1 (Ex.refl _) (Tp.refl _) S'
theorem snd_asgO {i : Nat} (ha : SndO c W ta o) : SndS c W (tAsg ta (gName i)) (sAsgO o i) := fun fr Γ σ F G H S D q => by
  refine ha fr Γ σ F G H S _ (out_post S q fun x Γ1 m F1 G1 H1 _ S1 t1 s1 q1 v N hn _ hw => ?_)
  exact q1 _ F1 _ H1 (Ex.refl _) (Tp.refl _) (S1.put i v (.o x) hn fun σ' e => ⟨v, e, hw⟩)
theorem snd_brk : SndS c W tBreak sBrk := fun fr Γ σ F G H S D q => q σ F G H (Ex.refl _) (Tp.refl _) S
theorem snd_cont : SndS c W tCont sCont := fun fr Γ σ F G H S D q => q σ F G H (Ex.refl _) (Tp.refl _) S
theorem snd_never : SndS c W tNever sNever := fun fr Γ σ F G H S D q => q.elim
theorem snd_aug {i : Nat} {tip : TIp} {gg : NV.D → NV.D → Option V} (hr : ∀ x y d e w H (Q : VK), Is c H H x d → Is c H H y e → gg d e = some w → Q w H → tip x y H Q) (ha : SndE c W ta f) : SndS c W (tAug i ta tip) (sAug i gg f) := fun fr Γ σ F G H S D q => by
  unfold sAug at q
  cases e : Γ[i]? with
  | none => rw [e] at q; exact q.elim
  | some s =>
    rw [e] at q
    have o := S.sl i s e
    cases s with
    | n => exact q.elim
    | r _ => exact q.elim
    | o _ => exact q.elim
    | p _ => exact q.elim
    | f d =>
      obtain ⟨v, h1, h2⟩ := o
      refine ⟨v, h1, ha fr Γ σ F G H S _ (out_post S q fun x Γ1 m F1 G1 H1 _ S1 t1 s1 q1 w i1 => ?_)⟩
      cases e2 : gg d x.2 with
      | none => rw [e2] at q1; exact q1.elim
      | some z =>
        rw [e2] at q1
        refine hr v w d x.2 z H1 _ (h2.mono (t1.tp S) (t1.f.trans S1.fh)) (IsK.h S1 i1) e2 ?_
        exact q1 _ F1 _ H1 (Ex.refl _) (Tp.refl _) (S1.put i z (.f (.v z)) (Tmp.zero S1) fun σ' e => ⟨z, e, .v _⟩)
theorem rl_aug {C : Int → Int → Int} : ∀ x y d e w H (Q : VK), Is c H H x d → Is c H H y e → gI (fun i j => .int (C i j)) d e = some w → Q w H → ipI C x y H Q := fun x y d e w H Q hx hy h q => by
  unfold gI at h
  split at h
  · cases h; cases hx; cases hy; exact ⟨_, _, rfl, rfl, q⟩
  · cases h
theorem rl_augS : ∀ x y d e w H (Q : VK), Is c H H x d → Is c H H y e → gAddS d e = some w → Q w H → rAddS x y H Q := fun x y d e w H Q hx hy h q => by
  unfold gAddS at h
  split at h
  · rename_i a b
    by_cases hs : a.length + b.length ≤ 1000000
    · rw [if_pos hs] at h
      cases h; cases hx; cases hy
      exact ⟨_, _, rfl, rfl, Nat.le_trans hs (by decide), q⟩
    · rw [if_neg hs] at h; cases h
  · cases h
theorem snd_for {wi : TI} {it : AF} {gg : TG} {tg : TgF} {vs : List Nat} (hi : SndI c W wi it) (hg : SndG c gg tg vs) (hb : SndS c W t b) : SndS c W (tFor wi gg t) (sFor it tg b) := fun fr Γ σ F G H S D q => by
  refine hi fr Γ σ F G H S _ (out_post S q fun x Γ1 m F1 G1 H1 _ S1 t1 s1 q1 J hJ => ?_)
  obtain ⟨k, ds⟩ := x
  dsimp only at q1 hJ
  by_cases hk : k = .h
  · rw [if_pos hk] at q1; exact q1.elim
  rw [if_neg hk] at q1
  have stay : ∀ {Γ2 σ2 F2 G2 H2}, Ex F1 F2 → Sta c fr Γ2 σ2 F2 G2 H2 → Ex (Mh k fr.B F1 H1) H2 := fun {Γ2 σ2 F2 G2 H2} e S2 => by
    cases k with
    | f => exact e.trans S2.fh
    | r => exact un_ex S2.bh (e.trans S2.fh)
    | h => exact absurd rfl hk
  refine ⟨fun i m σ' H' => m = ds.length - i ∧ i ≤ ds.length ∧ ∃ Γ' F' G', Ex F1 F' ∧ Tp H1 H' ∧ Sta c fr Γ' σ' F' G' H' ∧ (forL tg b k (ds.drop i) Γ').post c W fr D F' H', ⟨ds.length, by simp, Nat.zero_le _, Γ1, F1, G1, Ex.refl _, Tp.refl _, S1, q1⟩, ?_⟩
  rintro i m σ' H' ⟨rfl, hi, Γ', F', G', e1, tp1, S', q'⟩
  obtain ⟨hst, hgo⟩ := hJ H' (stay e1 S') tp1
  by_cases hl : i = ds.length
  · subst hl
    rw [List.drop_length] at q'
    exact .inl ⟨hst, q' σ' F' G' H' (Ex.refl _) (Tp.refl _) S'⟩
  · have hlt : i < ds.length := by omega
    obtain ⟨d, hd⟩ : ∃ d, ds[i]? = some d := ⟨_, List.getElem?_eq_getElem hlt⟩
    obtain ⟨g1, g2⟩ := hgo i d hd
    rw [List.drop_eq_getElem_cons hlt] at q'
    have hde : ds[i] = d := by rw [List.getElem?_eq_getElem hlt] at hd; exact Option.some.inj hd
    rw [hde] at q'
    unfold forL at q'
    cases et : tg k d Γ' with
    | none => rw [et] at q'; exact q'.elim
    | some Γ2 =>
      rw [et] at q'
      dsimp only at q'
      refine .inr ⟨g1, fun σ2 H2 => ∃ Γ3 F3 G3, Ex F1 F3 ∧ Tp H1 H2 ∧ Sta c fr Γ3 σ2 F3 G3 H2 ∧ (forL tg b k (ds.drop (i + 1)) Γ3).post c W fr D F3 H2, fun σ2 H2 z => ⟨ds.length - (i + 1), by omega, rfl, hlt, z⟩, fun x H2 hy => ?_⟩
      obtain ⟨e2, hx⟩ := g2 x H2 hy
      have S2 := S'.heap e2
      have tp2 : Tp H1 H2 := tp1.trans (Tp.of e2)
      have ix : IsK c fr.B F' H2 x d k := by
        cases k with
        | f => exact hx.mono (Tp.refl _) e1
        | r => exact hx.mono (Tp.refl _) (un_mono e1 S'.bf)
        | h => exact absurd rfl hk
      refine hg fr Γ' σ' F' G' H2 k d x Γ2 S2 ix et _ fun σ3 G3 S3 _ _ _ => ?_
      refine hb fr Γ2 σ3 F' G3 H2 S3 _ ?_
      have q2 := Out.post.mono (Ex.refl F') (Tp.of e2) q'
      cases eb : b Γ2 with
      | nx Γ3 =>
        rw [eb] at q2
        exact fun σ4 F4 G4 H4 e4 tp4 S4 => ⟨Γ3, F4, G4, e1.trans e4, tp2.trans tp4, S4, Out.post.mono e4 tp4 q2⟩
      | ct Γ3 =>
        rw [eb] at q2
        exact fun σ4 F4 G4 H4 e4 tp4 S4 => ⟨Γ3, F4, G4, e1.trans e4, tp2.trans tp4, S4, Out.post.mono e4 tp4 q2⟩
      | bk Γ3 => rw [eb] at q2; exact q2
      | rt t Γ3 => rw [eb] at q2; exact q2
      | ex t Γ3 => rw [eb] at q2; exact q2
      | no => rw [eb] at q2; exact q2
theorem snd_while {n : Nat} (ht : SndT c W tt p) (hb : SndS c W t b) : SndS c W (tWhile tt t) (sWhile n p b) := fun fr Γ σ F G H S D q => by
  refine ⟨fun m σ' H' => ∃ Γ' F' G', Sta c fr Γ' σ' F' G' H' ∧ (whL p b m Γ').post c W fr D F' H', ⟨n, Γ, F, G, S, q⟩, ?_⟩
  rintro m σ' H' ⟨Γ', F', G', S', q'⟩
  cases m with
  | zero => exact q'.elim
  | succ m =>
    unfold whL at q'
    refine ht fr Γ' σ' F' G' H' S' _ (out_post S' q' fun x Γ1 m1 F1 G1 H1 _ S1 t1 s1 q1 => ?_)
    cases x with
    | false => exact q1 σ' F1 G1 H1 (Ex.refl _) (Tp.refl _) S1
    | true =>
      refine iteT ?_
      refine ⟨fun σ2 H2 => ∃ Γ' F' G', Sta c fr Γ' σ2 F' G' H2 ∧ (whL p b m Γ').post c W fr D F' H2, fun σ2 H2 z => ⟨m, Nat.lt_succ_self m, z⟩, ?_⟩
      refine hb fr Γ1 σ' F1 G1 H1 S1 _ ?_
      rw [if_pos rfl] at q1
      cases eb : b Γ1 with
      | nx Γ3 =>
        rw [eb] at q1
        exact fun σ4 F4 G4 H4 e4 tp4 S4 => ⟨Γ3, F4, G4, S4, Out.post.mono e4 tp4 q1⟩
      | ct Γ3 =>
        rw [eb] at q1
        exact fun σ4 F4 G4 H4 e4 tp4 S4 => ⟨Γ3, F4, G4, S4, Out.post.mono e4 tp4 q1⟩
      | bk Γ3 => rw [eb] at q1; exact q1
      | rt t Γ3 => rw [eb] at q1; exact q1
      | ex t Γ3 => rw [eb] at q1; exact q1
      | no => rw [eb] at q1; exact q1
/-- forgetting -/
theorem Sta.setN (S : Sta c fr Γ σ F G H) (i : Nat) : Sta c fr (Γ.set i .n) σ F G H := by
  refine ⟨by rw [List.length_set]; exact S.len, S.bh, S.fh, S.bf, S.gh, S.gb, S.gf, S.gg, S.gm, fun j s h => ?_⟩
  by_cases e : j = i
  · subst e
    by_cases hl : j < Γ.length
    · rw [List.getElem?_set_self hl] at h
      cases h; trivial
    · rw [List.getElem?_eq_none (by rw [List.length_set]; omega)] at h
      cases h
  · rw [List.getElem?_set_ne (Ne.symm e)] at h
    exact S.sl j s h
theorem Sta.kill : ∀ (vs : List Nat) {Γ : Gm}, Sta c fr Γ σ F G H → Sta c fr (killG vs Γ) σ F G H
  | [], _, S => S
  | i :: vs, _, S => Sta.kill vs (S.setN i)
theorem snd_kill {vs : List Nat} (ha : SndS c W t a) : SndS c W t (sKill vs a) := fun fr Γ σ F G H S D q => by
  refine ha fr Γ σ F G H S D ?_
  unfold sKill at q
  cases e : a Γ with
  | nx Γ1 => rw [e] at q; exact fun σ' F' G' H' x tp S' => q σ' F' G' H' x tp (S'.kill vs)
  | ct Γ1 => rw [e] at q; exact fun σ' F' G' H' x tp S' => q σ' F' G' H' x tp (S'.kill vs)
  | bk Γ => rw [e] at q; exact q
  | rt t Γ => rw [e] at q; exact q
  | ex x Γ => rw [e] at q; exact q
  | no => rw [e] at q; exact q
theorem snd_kb {vs : List Nat} (ha : SndS c W t a) : SndS c W t (sKB vs a) := fun fr Γ σ F G H S D q => ha fr _ σ F G H (S.kill vs) D q
theorem snd_sfz {i : Nat} (ha : SndS c W t a) : SndS c W t (sFz i a) := fun fr Γ σ F G H S D q => by
  unfold sFz fzG at q
  cases e : Γ[i]? with
  | none => rw [e] at q; exact ha fr Γ σ F G H S D q
  | some s =>
    rw [e] at q
    cases s with
    | n => exact ha fr Γ σ F G H S D q
    | f _ => exact ha fr Γ σ F G H S D q
    | r _ => exact ha fr Γ σ F G H S D q
    | p _ => exact ha fr Γ σ F G H S D q
    | o t0 =>
      obtain ⟨v, h1, h2⟩ := S.sl i _ e
      have S1 := S.drop i
      have hn : Tmp fr F (fun j => if j = i then H0 else G j) H (G i) := ⟨S.gh i, S.gm i, S.gb i, S.gf i, fun j => by
        by_cases z : j = i
        · simp only [z, if_true]; exact fun _ _ => rfl
        · simp only [z, if_false]; exact S.gg i j (Ne.symm z)⟩
      have S2 := S1.fzT hn
      have S3 := S2.put i v (.f t0.d) (Tmp.zero S2) fun σ' e => ⟨v, e, h2.is (un_r hn.f) un_l⟩
      have es : σ.set i (some v) = σ := by
        refine List.ext_getElem? fun j => ?_
        by_cases z : j = i
        · subst z
          rw [List.getElem?_set_self (List.getElem?_eq_some_iff.mp h1).1, h1]
        · rw [List.getElem?_set_ne (Ne.symm z)]
      rw [es, List.set_set] at S3
      exact ha fr _ σ _ _ H S3 D (Out.post.mono (un_r hn.f) (Tp.refl _) q)
end

end
section
open PySem L2 Evl

/-! ### places within owned trees -/
def OT.kids : OT → List OT
  | .fz _ => []
  | .l ts => ts
  | .t ts => ts
  | .dk _ ts => ts
  | .dt _ ts => ts
  | .ob _ _ ts => ts
def OT.setK (u : OT) (ts : List OT) : OT := match u with
  | .fz d => .fz d
  | .l _ => .l ts
  | .t _ => .t ts
  | .dk ks _ => .dk ks ts
  | .dt ks _ => .dt ks ts
  | .ob C ns _ => .ob C ns ts
def OT.at : OT → List Nat → Option OT
  | u, [] => some u
  | u, j :: π => match u.kids[j]? with
    | some w => OT.at w π
    | none => none
def OT.put : OT → List Nat → OT → OT
  | _, [], s => s
  | u, j :: π, s => match u.kids[j]? with
    | some w => u.setK (u.kids.set j (OT.put w π s))
    | none => u
def kidsV : HO → Option (List V)
  | .lst vs => some vs
  | .tup vs => some vs
  | .dK kvs => some (kvs.map (·.2))
  | .dT kvs => some (kvs.map (·.2))
  | .ins _ _ fs => some (fs.map (·.2))
  | _ => none
/-- the value at a place -/
def vAt (H : Hp) : V → List Nat → Option V
  | v, [] => some v
  | .ref p, j :: π => match H p with
    | some o => match kidsV o with
      | some vs => match vs[j]? with
        | some w => vAt H w π
        | none => none
      | none => none
    | none => none
  | _, _ => none
section
variable {c : Ct} {fr : Fr} {σ σ' : L2.St} {F F' H H' T T' : Hp} {G0 Gx : Hp} {G : Nat → Hp} {Γ : Gm}
theorem vAt_mono (e : Ex H H') : ∀ {π : List Nat} {v w : V}, vAt H v π = some w → vAt H' v π = some w
  | [], v, w, h => by unfold vAt at h ⊢; exact h
  | j :: π, v, w, h => by
    cases v with
    | ref p =>
      unfold vAt at h ⊢
      cases hp : H p with
      | none => rw [hp] at h; cases h
      | some o =>
        rw [hp] at h
        rw [e p o hp]
        dsimp only at h ⊢
        cases hk : kidsV o with
        | none => rw [hk] at h; cases h
        | some vs =>
          rw [hk] at h
          dsimp only at h ⊢
          cases hj : vs[j]? with
          | none => rw [hj] at h; cases h
          | some x => rw [hj] at h; exact vAt_mono e h
    | _ => unfold vAt at h; cases h
theorem zip_snd {α : Type} : ∀ {ks : List α} {vs : List V}, ks.length = vs.length → (ks.zip vs).map (·.2) = vs
  | [], [], _ => rfl
  | k :: ks, v :: vs, h => by rw [List.zip_cons_cons, List.map_cons, zip_snd (by simpa using h)]
  | [], _ :: _, h => by cases h
  | _ :: _, [], h => by cases h
theorem OwL.focus {F : Hp} : ∀ {j : Nat} {G : Hp} {vs : List V} {ts : List OT} {u : OT}, OwL c T F G vs ts → ts[j]? = some u →
    ∃ v Gj, vs[j]? = some v ∧ Ow c T F Gj v u ∧ Ex Gj G ∧ ∀ T' F' Gj' u', Tp T T' → Ex F F' → Ow c T' F' Gj' v u' → Ap (mins G Gj) Gj' → OwL c T' F' (un (mins G Gj) Gj') vs (ts.set j u')
  | j, G, _, _, u, .nil, h => by simp at h
  | 0, G, _, _, u, .cons (G1 := G1) (G2 := G2) (v := v) (vs := vs) (ts := ts) e1 e2 ap ho hr, h => by
    simp at h; subst h
    refine ⟨v, G1, rfl, ho, e1, fun T' F' Gj' u' tp ef ho' apj => ?_⟩
    have x2 : Ex G2 (mins G G1) := ex_mins e2 ap
    refine .cons (G1 := Gj') (G2 := G2) un_l (x2.trans (un_r apj.symm)) (fun a z => ?_) ho' (hr.mono tp ef (Ex.refl _))
    exact Classical.byContradiction fun q => z (apj a (ex_ne x2 q))
  | j + 1, G, _, _, u, .cons (G1 := G1) (G2 := G2) (v := v) (t := t) (vs := vs) (ts := ts) e1 e2 ap ho hr, h => by
    obtain ⟨w, Gj, h1, h2, h3, h4⟩ := OwL.focus (j := j) (u := u) hr (by simpa using h)
    refine ⟨w, Gj, by simpa using h1, h2, h3.trans e2, fun T' F' Gj' u' tp ef ho' apj => ?_⟩
    have m2 : Ex (mins G2 Gj) (mins G Gj) := fun a o q => by
      have n := mins_ne (some_ne q)
      rw [mins_none n.2] at q ⊢
      exact e2 a o q
    have x1 : Ex G1 (mins G Gj) := ex_mins e1 fun a z => Classical.byContradiction fun q => (ex_ne h3 z) (ap a q)
    have rest := h4 T' F' Gj' u' tp ef ho' (fun a z => apj a (ex_ne m2 z))
    rw [List.set_cons_succ]
    refine .cons (G1 := G1) (G2 := un (mins G2 Gj) Gj') (x1.trans (un_r apj.symm)) (un_mono' m2 apj) (fun a z => ?_) (ho.mono tp ef (Ex.refl _)) rest
    refine Classical.byContradiction fun q => ?_
    rcases un_or q with w' | w'
    · exact w' (apj a (ex_ne x1 z))
    · exact (mins_ne w').1 (ap a z)
where
  un_mono' {A B N : Hp} (e : Ex A B) (ap : Ap B N) : Ex (un A N) (un B N) := fun a o q => by
    unfold un at q ⊢
    cases h : N a with
    | some x => rw [h] at q; exact q
    | none => rw [h] at q; exact e a o q
theorem un_monoL {A B N : Hp} (e : Ex A B) : Ex (un A N) (un B N) := fun a o q => by
  unfold un at q ⊢
  cases h : N a with
  | some x => rw [h] at q; exact q
  | none => rw [h] at q; exact e a o q
/-- the place's own heap, and what may be put there -/
theorem Ow.focus {F : Hp} (tT : ∀ a xs, T a = some (.tup xs) → H a = some (.tup xs)) : ∀ {π : List Nat} {G : Hp} {v0 : V} {u s : OT}, Ex G H → Ow c T F G v0 u → u.at π = some s →
    ∃ w Gs, vAt H v0 π = some w ∧ Ow c T F Gs w s ∧ Ex Gs G ∧ ∀ T' F' Gs' s', Tp T T' → Ex F F' → Ow c T' F' Gs' w s' → Ap (mins G Gs) Gs' → Ow c T' F' (un (mins G Gs) Gs') v0 (u.put π s')
  | [], G, v0, u, s, eG, ho, h => by
    unfold OT.at at h
    cases h
    refine ⟨v0, G, by unfold vAt; rfl, ho, Ex.refl _, fun T' F' Gs' s' tp ef ho' ap => ?_⟩
    unfold OT.put
    exact ho'.mono (Tp.refl _) (Ex.refl _) un_l
  | j :: π, G, v0, u, s, eG, ho, h => by
    unfold OT.at at h
    cases hj : u.kids[j]? with
    | none => rw [hj] at h; cases h
    | some w0 =>
      rw [hj] at h
      dsimp only at h
      have hput : ∀ s', u.put (j :: π) s' = u.setK (u.kids.set j (w0.put π s')) := fun s' => by
        conv => lhs; unfold OT.put
        rw [hj]
      -- a cell of its own, with the kids' heap below it
      have cell : ∀ {p : Addr} {o : HO} {G0 : Hp} {vs : List V} {ts : List OT}, v0 = .ref p → u.kids = ts → H p = some o → kidsV o = some vs → Ex G0 G → OwL c T F G0 vs ts →
          (∀ T' F' G1 ts', Tp T T' → Ex F F' → OwL c T' F' G1 vs ts' → ∀ G2, Ex (mins G G0) G2 → Ex G1 G2 → Ap (mins G G0) G1 → Ow c T' F' G2 v0 (u.setK ts')) →
          ∃ w Gs, vAt H v0 (j :: π) = some w ∧ Ow c T F Gs w s ∧ Ex Gs G ∧ ∀ T' F' Gs' s', Tp T T' → Ex F F' → Ow c T' F' Gs' w s' → Ap (mins G Gs) Gs' → Ow c T' F' (un (mins G Gs) Gs') v0 (u.put (j :: π) s') := fun {p o G0 vs ts} ev ek hp hk e0 hr mk => by
        subst ek
        obtain ⟨v1, Gj, h1, h2, h3, h4⟩ := hr.focus hj
        obtain ⟨w, Gs, k1, k2, k3, k4⟩ := Ow.focus tT ((h3.trans e0).trans eG) h2 h
        refine ⟨w, Gs, ?_, k2, (k3.trans h3).trans e0, fun T' F' Gs' s' tp ef ho' ap => ?_⟩
        · subst ev
          unfold vAt
          rw [hp]
          dsimp only
          rw [hk]
          dsimp only
          rw [h1]
          exact k1
        · have sub1 : ∀ a, mins Gj Gs a ≠ none → mins G Gs a ≠ none := fun a z => by
            have n := mins_ne z
            rw [mins_none n.2]
            exact ex_ne (h3.trans e0) n.1
          have inner := k4 T' F' Gs' s' tp ef ho' (fun a z => ap a (sub1 a z))
          have sub2 : ∀ a, mins G0 Gj a ≠ none → mins G Gs a ≠ none := fun a z => by
            have n := mins_ne z
            rw [mins_none (none_of_ex k3 n.2)]
            exact ex_ne e0 n.1
          have apj : Ap (mins G0 Gj) (un (mins Gj Gs) Gs') := fun a z => Classical.byContradiction fun q => by
            rcases un_or q with q | q
            · exact q (ap a (sub2 a z))
            · exact (mins_ne q).1 (mins_ne z).2
          have row := h4 T' F' _ _ tp ef inner apj
          rw [hput]
          refine mk T' F' _ _ tp ef row _ ?_ ?_ ?_
          · intro a o q
            have n := mins_ne (some_ne q)
            rw [mins_none n.2] at q
            have ns : Gs a = none := none_of_ex (k3.trans h3) n.2
            refine un_r ap.symm a o ?_
            rw [mins_none ns]; exact q
          · intro a o q
            unfold un at q ⊢
            cases hs : Gs' a with
            | some x => rw [hs] at q; dsimp only at q; exact q
            | none =>
              rw [hs] at q
              dsimp only at q ⊢
              cases hm : mins Gj Gs a with
              | some x =>
                rw [hm] at q
                dsimp only at q
                have n := mins_ne (some_ne hm)
                rw [mins_none n.2] at hm ⊢
                rw [← q]
                exact (h3.trans e0) a x hm
              | none =>
                rw [hm] at q
                dsimp only at q
                have n := mins_ne (some_ne q)
                rw [mins_none n.2] at q
                rw [mins_none (none_of_ex k3 n.2)]
                exact e0 a o q
          · intro a z
            refine Classical.byContradiction fun q => ?_
            have n := mins_ne z
            rcases un_or q with q | q
            · rcases un_or q with q | q
              · have : mins G Gs a ≠ none := by rw [mins_none (none_of_ex (k3.trans h3) n.2)]; exact n.1
                exact q (ap a this)
              · exact (ex_ne h3 (mins_ne q).1) n.2
            · exact (mins_ne q).1 n.2
      have apc : ∀ {p : Addr} {G0 G1 : Hp}, G p ≠ none → G0 p = none → Ap (mins G G0) G1 → G1 p = none := fun {p G0 G1} h1 h2 ap => ap p (by rw [mins_none h2]; exact h1)
      cases ho with
      | fz hi => unfold OT.kids at hj; simp at hj
      | l a b e r => exact cell rfl rfl (eG _ _ a) rfl e r fun T' F' G1 ts' tp ef hr G2 x1 x2 ap => .l (x1 _ _ (by rw [mins_none b]; exact a)) (apc (some_ne a) b ap) x2 hr
      | t a r => exact cell (G0 := G) rfl rfl (tT _ _ a) rfl (Ex.refl _) r fun T' F' G1 ts' tp ef hr G2 x1 x2 ap => .t (tp _ _ a) (hr.mono (Tp.refl _) (Ex.refl _) x2)
      | dk a l nd b e r => exact cell rfl rfl (eG _ _ a) (by show some ((List.zip _ _).map (·.2)) = _; rw [zip_snd l]) e r fun T' F' G1 ts' tp ef hr G2 x1 x2 ap => .dk (x1 _ _ (by rw [mins_none b]; exact a)) l nd (apc (some_ne a) b ap) x2 hr
      | dt a l nd b e r => exact cell rfl rfl (eG _ _ a) (by show some ((List.zip _ _).map (·.2)) = _; rw [zip_snd l]) e r fun T' F' G1 ts' tp ef hr G2 x1 x2 ap => .dt (x1 _ _ (by rw [mins_none b]; exact a)) l nd (apc (some_ne a) b ap) x2 hr
      | ob a l b e r => exact cell rfl rfl (eG _ _ a) (by show some ((List.zip _ _).map (·.2)) = _; rw [zip_snd l]) e r fun T' F' G1 ts' tp ef hr G2 x1 x2 ap => .ob (x1 _ _ (by rw [mins_none b]; exact a)) l (apc (some_ne a) b ap) x2 hr
end

end
section
open PySem L2 Evl

/-- the owned tree of a slot -/
def Slot.tree : Slot → Option OT
  | .o t => some t
  | .p t => some t
  | _ => none
def Slot.put (s : Slot) (t : OT) : Slot := match s with
  | .o _ => .o t
  | .p _ => .p t
  | s => s
def treeAt (Γ : Gm) (i : Nat) (π : List Nat) : Option OT := match Γ[i]? with
  | some s => match s.tree with
    | some t => t.at π
    | none => none
  | none => none
def putAt (Γ : Gm) (i : Nat) (π : List Nat) (u : OT) : Gm := match Γ[i]? with
  | some s => match s.tree with
    | some t => Γ.set i (s.put (t.put π u))
    | none => Γ
  | none => Γ
section
variable {c : Ct} {W : WX} {fr : Fr} {σ σ' : L2.St} {F F' H H' T T' : Hp} {Gx : Hp} {G : Nat → Hp} {Γ Γ' : Gm}
theorem OwL.snoc {N : Hp} {v : V} {u : OT} : ∀ {G0 : Hp} {vs : List V} {ts : List OT}, OwL c T F G0 vs ts → Ap G0 N → Ow c T F N v u → OwL c T F (un G0 N) (vs ++ [v]) (ts ++ [u])
  | G0, _, _, .nil, ap, h => .cons (G1 := N) (G2 := H0) un_l H0_ex (fun a z => rfl) h .nil
  | G0, _, _, .cons (G1 := G1) (G2 := G2) e1 e2 ap12 ho hr, ap, h => by
    have a2 : Ap G2 N := fun a z => ap a (ex_ne e2 z)
    refine .cons (G1 := G1) (G2 := un G2 N) (e1.trans (un_r ap.symm)) (un_monoL e2) (fun a z => ?_) ho (OwL.snoc hr a2 h)
    refine Classical.byContradiction fun q => ?_
    rcases un_or q with q | q
    · exact q (ap a (ex_ne e1 z))
    · exact q (ap12 a z)
theorem OwL.set {N : Hp} {v : V} {u : OT} {j : Nat} {G0 : Hp} {vs : List V} {ts : List OT} (r : OwL c T F G0 vs ts) (hj : j < ts.length) (ap : Ap G0 N) (h : Ow c T F N v u) : OwL c T F (un G0 N) (vs.set j v) (ts.set j u) := by
  induction j generalizing G0 vs ts with
  | zero =>
    cases r with
    | nil => simp at hj
    | cons e1 e2 ap12 ho hr =>
      rename_i G1 G2 v1 t1 vs ts
      exact .cons (G1 := N) (G2 := G2) un_l (e2.trans (un_r ap.symm)) (fun a z => Classical.byContradiction fun q => z (ap a (ex_ne e2 q))) h hr
  | succ j ih =>
    cases r with
    | nil => simp at hj
    | cons e1 e2 ap12 ho hr =>
      rename_i G1 G2 v1 t1 vs ts
      have a2 : Ap G2 N := fun a z => ap a (ex_ne e2 z)
      rw [List.set_cons_succ, List.set_cons_succ]
      refine .cons (G1 := G1) (G2 := un G2 N) (e1.trans (un_r ap.symm)) (un_monoL e2) (fun a z => ?_) ho (ih hr (by simpa using hj) a2)
      refine Classical.byContradiction fun q => ?_
      rcases un_or q with q | q
      · exact q (ap a (ex_ne e1 z))
      · exact q (ap12 a z)
theorem OwL.take : ∀ {G0 : Hp} {vs : List V} {ts : List OT} (n : Nat), OwL c T F G0 vs ts → OwL c T F G0 (vs.take n) (ts.take n)
  | _, _, _, 0, _ => by simpa using OwL.nil
  | _, _, _, _ + 1, .nil => .nil
  | _, _, _, n + 1, .cons e1 e2 ap h r => .cons e1 e2 ap h (OwL.take n r)
/-- the cell of a place is written; what it newly holds is a temporary -/
theorem Sta.mut (S : Sta c fr Γ σ F G H) {i : Nat} {π : List Nat} {s : OT} (hs : treeAt Γ i π = some s) :
    ∃ v0 w Gs, σ[i]? = some (some v0) ∧ vAt H v0 π = some w ∧ Ow c H F Gs w s ∧ Ex Gs (G i) ∧
      ∀ a o' N s', Gs a ≠ none → (∀ xs, o' ≠ .tup xs) → Tmp fr F G H N → Ow c (upd H a o') F (un (upd Gs a o') N) w s' →
        Sta c fr (putAt Γ i π s') σ F (fun j => if j = i then un (upd (G i) a o') N else G j) (upd H a o') ∧ Tp H (upd H a o') := by
  unfold treeAt at hs
  cases hi : Γ[i]? with
  | none => rw [hi] at hs; cases hs
  | some sl =>
    rw [hi] at hs
    dsimp only at hs
    cases ht : sl.tree with
    | none => rw [ht] at hs; cases hs
    | some t =>
      rw [ht] at hs
      dsimp only at hs
      have ok := S.sl i sl hi
      obtain ⟨v0, h0, how⟩ : ∃ v0, σ[i]? = some (some v0) ∧ Ow c H F (G i) v0 t := by
        cases sl with
        | o t' => cases ht; exact ok
        | p t' => cases ht; obtain ⟨v, _, h1, h2⟩ := ok; exact ⟨v, h1, h2⟩
        | _ => cases ht
      obtain ⟨w, Gs, h1, h2, h3, h4⟩ := Ow.focus (H := H) (fun a xs e => e) (S.gh i) how hs
      refine ⟨v0, w, Gs, h0, h1, h2, h3, fun a o' N s' ha ho' hn hw => ?_⟩
      have hga : G i a ≠ none := ex_ne h3 ha
      have tp : Tp H (upd H a o') := fun b xs e => by
        have : b ≠ a := fun z => by
          subst z
          exact hga (S.tup e i)
        rw [upd_ne this]; exact e
      refine ⟨?_, tp⟩
      have off : ∀ {X : Hp}, Ex X H → X a = none → Ex X (upd H a o') := fun {X} e hx b o q => by
        rw [upd_ne (fun z => by subst z; rw [hx] at q; cases q)]
        exact e b o q
      have gsub : ∀ x, un (upd (G i) a o') N x ≠ none → G i x ≠ none ∨ N x ≠ none := fun x z => by
        rcases un_or z with q | q
        · exact .inr q
        · by_cases e : x = a
          · subst e; exact .inl hga
          · rw [upd_ne e] at q; exact .inl q
      have slotOk : SlotOk c fr F (un (upd (G i) a o') N) (upd H a o') σ i (sl.put (t.put π s')) := by
        have ap : Ap (mins (G i) Gs) (un (upd Gs a o') N) := fun x z => Classical.byContradiction fun q => by
          have n := mins_ne z
          rcases un_or q with q | q
          · exact q (hn.g i |>.symm x n.1)
          · have : x ≠ a := fun e => by subst e; exact ha n.2
            rw [upd_ne this] at q
            exact q n.2
        have fin := (h4 (upd H a o') F _ s' tp (Ex.refl _) hw ap).mono (G' := un (upd (G i) a o') N) (Tp.refl _) (Ex.refl _) (fun x o q => by
          unfold un at q ⊢
          cases hN : N x with
          | some y => rw [hN] at q; exact q
          | none =>
            rw [hN] at q
            dsimp only at q ⊢
            cases hu : upd Gs a o' x with
            | some y =>
              rw [hu] at q
              dsimp only at q
              rw [← q]
              by_cases e : x = a
              · subst e; rw [upd_same] at hu ⊢; exact hu
              · rw [upd_ne e] at hu ⊢; exact h3 x y hu
            | none =>
              rw [hu] at q
              dsimp only at q
              have n := mins_ne (some_ne q)
              rw [mins_none n.2] at q
              rw [upd_ne (fun e => by subst e; exact ha n.2)]
              exact q)
        cases sl with
        | o t' => cases ht; exact ⟨v0, h0, fin⟩
        | p t' =>
          cases ht
          obtain ⟨v, h5, h6, _⟩ := ok
          rw [h0] at h6; cases h6
          exact ⟨v0, h5, h0, fin⟩
        | _ => cases ht
      have eΓ : putAt Γ i π s' = Γ.set i (sl.put (t.put π s')) := by unfold putAt; rw [hi]; dsimp only; rw [ht]
      rw [eΓ]
      refine ⟨by rw [List.length_set]; exact S.len, off S.bh (S.gb i a hga), off S.fh (S.gf i a hga), S.bf, fun j => ?_, fun j => ?_, fun j => ?_, fun j l hjl => ?_, fun j => ?_, fun j s2 hs2 => ?_⟩
      · by_cases e : j = i
        · simp only [e, if_true]
          refine un_ex (fun b o q => ?_) (off hn.h ((hn.g i).symm a hga))
          by_cases eb : b = a
          · subst eb; rw [upd_same] at q ⊢; exact q
          · rw [upd_ne eb] at q ⊢; exact S.gh i b o q
        · simp only [e, if_false]; exact off (S.gh j) (S.gg i j (Ne.symm e) a hga)
      · by_cases e : j = i
        · simp only [e, if_true]
          intro x z
          rcases gsub x z with q | q
          · exact S.gb i x q
          · exact hn.b x q
        · simp only [e, if_false]; exact S.gb j
      · by_cases e : j = i
        · simp only [e, if_true]
          intro x z
          rcases gsub x z with q | q
          · exact S.gf i x q
          · exact hn.f x q
        · simp only [e, if_false]; exact S.gf j
      · by_cases e : j = i
        · have el : l ≠ i := fun z => hjl (e.trans z.symm)
          simp only [e, el, if_true, if_false]
          intro x z
          rcases gsub x z with q | q
          · exact S.gg i l (Ne.symm el) x q
          · exact hn.g l x q
        · by_cases el : l = i
          · simp only [e, el, if_true, if_false]
            intro x z
            refine Classical.byContradiction fun w' => ?_
            rcases gsub x w' with q | q
            · exact q (S.gg j i e x z)
            · exact z (hn.g j x q)
          · simp only [e, el, if_false]; exact S.gg j l hjl
      · by_cases e : j = i
        · simp only [e, if_true]
          intro x xs q
          unfold un at q
          cases hN : N x with
          | some y => rw [hN] at q; exact hn.m x xs (hN.trans q)
          | none =>
            rw [hN] at q
            dsimp only at q
            by_cases ex : x = a
            · subst ex; rw [upd_same] at q; exact ho' xs (Option.some.inj q)
            · rw [upd_ne ex] at q; exact S.gm i x xs q
        · simp only [e, if_false]; exact S.gm j
      · by_cases e : j = i
        · subst e
          by_cases hl : j < Γ.length
          · rw [List.getElem?_set_self hl] at hs2
            cases hs2
            simp only [if_true]; exact slotOk
          · rw [List.getElem?_eq_none (by rw [List.length_set]; omega)] at hs2
            cases hs2
        · rw [List.getElem?_set_ne (Ne.symm e)] at hs2
          simp only [e, if_false]
          have o := S.sl j s2 hs2
          cases s2 with
          | n => trivial
          | f d => obtain ⟨v, h1, h2⟩ := o; exact ⟨v, h1, h2.mono tp (Ex.refl _)⟩
          | r d => obtain ⟨v, h1, h2⟩ := o; exact ⟨v, h1, h2.mono tp (Ex.refl _)⟩
          | o t => obtain ⟨v, h1, h2⟩ := o; exact ⟨v, h1, h2.mono tp (Ex.refl _) (Ex.refl _)⟩
          | p t => obtain ⟨v, h0, h1, h2⟩ := o; exact ⟨v, h0, h1, h2.mono tp (Ex.refl _) (Ex.refl _)⟩
/-- what stands at a place -/
theorem Sta.place (S : Sta c fr Γ σ F G H) {i : Nat} {π : List Nat} {s : OT} (hs : treeAt Γ i π = some s) {v0 v : V} (h0 : σ[i]? = some (some v0)) (hv : vAt H v0 π = some v) : ∃ Gs, Ow c H F Gs v s ∧ Ex Gs (G i) ∧
      ∀ a o' N s', Gs a ≠ none → (∀ xs, o' ≠ .tup xs) → Tmp fr F G H N → Ow c (upd H a o') F (un (upd Gs a o') N) v s' →
        Sta c fr (putAt Γ i π s') σ F (fun j => if j = i then un (upd (G i) a o') N else G j) (upd H a o') ∧ Tp H (upd H a o') := by
  obtain ⟨v1, w, Gs, h1, h2, h3, h4, h5⟩ := S.mut hs
  rw [h0] at h1; cases h1
  rw [hv] at h2; cases h2
  exact ⟨Gs, h3, h4, h5⟩
end

/-! ### paths -/
abbrev PF := Gm → Er (Nat × List Nat)
def SndP (c : Ct) (W : WX) (te : TE) (f : PF) : Prop := ∀ fr Γ σ F G H, Sta c fr Γ σ F G H → ∀ Q : VK,
  (f Γ).post c W fr σ F G H (fun a F' G' H' => ∀ v v0, σ[a.1]? = some (some v0) → vAt H' v0 a.2 = some v → Q v H') → te σ H Q
def pVar (i : Nat) : PF := fun Γ => match treeAt Γ i [] with
  | some _ => .ok (i, []) Γ 0
  | none => .no
def OT.seqK : OT → Option (List OT)
  | .l ts => some ts
  | .t ts => some ts
  | _ => none
def pIx (p : PF) (e : EF) : PF := fun Γ => (p Γ).bind fun a Γ1 _ => (e Γ1).bind fun y Γ2 m => if decide (1 < m) = true then .no else match treeAt Γ2 a.1 a.2 with
  | some u => match u.seqK with
    | some ts => match oneI [y.2] with
      | some n => match ixN ts.length n with
        | some j => .ok (a.1, a.2 ++ [j]) Γ2 0
        | none => .no
      | none => .no
    | none => .no
  | none => .no
def fldIx (f : Str) : List Str → Option Nat
  | [] => none
  | n :: ns => if f == n then some 0 else (fldIx f ns).map (· + 1)
def pFld (C f : Str) (p : PF) : PF := fun Γ => (p Γ).bind fun a Γ1 _ => match treeAt Γ1 a.1 a.2 with
  | some (.ob C' ns ts) => if C' = C then match fldIx f ns with
      | some j => .ok (a.1, a.2 ++ [j]) Γ1 0
      | none => .no
    else .no
  | _ => .no
/-- the place of a key -/
def keyIx {κ : Type} [DecidableEq κ] (k : κ) : List κ → Option Nat
  | [] => none
  | n :: ns => if n = k then some 0 else (keyIx k ns).map (· + 1)
def OT.keyAt (u : OT) (e : D) : Option Nat := match u with
  | .dk ks _ => e.key.bind fun k => keyIx k ks
  | .dt ks _ => match e with
    | .t es => (D.keys es).bind fun k => keyIx k ks
    | _ => none
  | _ => none
def pDGet (p : PF) (e : EF) : PF := fun Γ => (p Γ).bind fun a Γ1 _ => (e Γ1).bind fun y Γ2 m => if decide (1 < m) = true then .no else match treeAt Γ2 a.1 a.2 with
  | some u => match u.keyAt y.2 with
    | some j => .ok (a.1, a.2 ++ [j]) Γ2 0
    | none => .no
  | none => .no
section
variable {c : Ct} {W : WX} {te ta tb tc : TE} {f g h : EF} {p : PF} {fr : Fr} {σ σ' : L2.St} {F F' H H' T T' : Hp} {Gx : Hp} {G : Nat → Hp} {Γ Γ' : Gm}
theorem treeAt_slot {i : Nat} {π : List Nat} {u : OT} (S : Sta c fr Γ σ F G H) (h : treeAt Γ i π = some u) : ∃ v0 v, σ[i]? = some (some v0) ∧ vAt H v0 π = some v := by
  obtain ⟨v0, w, Gs, h1, h2, _⟩ := S.mut h
  exact ⟨v0, w, h1, h2⟩
theorem snd_pvar {i : Nat} : SndP c W (tVar i) (pVar i) := fun fr Γ σ F G H S Q q => by
  unfold pVar at q
  cases e : treeAt Γ i [] with
  | none => rw [e] at q; exact q.elim
  | some u =>
    rw [e] at q
    obtain ⟨v0, v, h1, h2⟩ := treeAt_slot S e
    have : v0 = v := by unfold vAt at h2; exact Option.some.inj h2
    subst this
    exact ⟨v0, h1, post_ok S q v0 v0 h1 h2⟩
theorem vAt_snoc {j : Nat} {p : Addr} {o : HO} {vs : List V} {w : V} (hp : H p = some o) (hk : kidsV o = some vs) (hj : vs[j]? = some w) : ∀ {π : List Nat} {v0 : V}, vAt H v0 π = some (.ref p) → vAt H v0 (π ++ [j]) = some w
  | [], v0, h => by
    unfold vAt at h
    cases h
    rw [List.nil_append]
    unfold vAt
    rw [hp]; dsimp only; rw [hk]; dsimp only; rw [hj]; dsimp only
    unfold vAt; rfl
  | l :: π, v0, h => by
    rw [List.cons_append]
    cases v0 with
    | ref q =>
      unfold vAt at h ⊢
      cases hq : H q with
      | none => rw [hq] at h; cases h
      | some o2 =>
        rw [hq] at h
        dsimp only at h ⊢
        cases hk2 : kidsV o2 with
        | none => rw [hk2] at h; cases h
        | some vs2 =>
          rw [hk2] at h
          dsimp only at h ⊢
          cases hl : vs2[l]? with
          | none => rw [hl] at h; cases h
          | some x => rw [hl] at h; exact vAt_snoc hp hk hj h
    | _ => unfold vAt at h; cases h
theorem snd_pix (hp : SndP c W ta p) (he : SndE c W tb f) : SndP c W (tOp (rIx c.K) ta tb) (pIx p f) := fun fr Γ σ F G H S Q q => by
  refine hp fr Γ σ F G H S _ (post_bind S q fun a Γ1 m1 F1 G1 H1 _ S1 t1 s1 q1 v v0 h0 hv => ?_)
  refine he fr Γ1 σ F1 G1 H1 S1 _ (post_bind S1 q1 fun y Γ2 m2 F2 G2 H2 _ S2 t2 s2 q2 w iw => ?_)
  obtain ⟨hm, q2⟩ := post_if q2
  have hm : m2 ≤ 1 := by have := of_decide_eq_false hm; omega
  have hv2 := vAt_mono (s2.1 hm) hv
  cases eT : treeAt Γ2 a.1 a.2 with
  | none => rw [eT] at q2; exact q2.elim
  | some u =>
    rw [eT] at q2
    dsimp only at q2
    cases eK : u.seqK with
    | none => rw [eK] at q2; exact q2.elim
    | some ts =>
      rw [eK] at q2
      dsimp only at q2
      cases eN : oneI [y.2] with
      | none => rw [eN] at q2; exact q2.elim
      | some n =>
        rw [eN] at q2
        dsimp only at q2
        cases eJ : ixN ts.length n with
        | none => rw [eJ] at q2; exact q2.elim
        | some j =>
          rw [eJ] at q2
          dsimp only at q2
          have ey : y.2 = .i n := by have := oneI_eq eN; injection this
          have iw := IsK.h S2 iw
          rw [ey] at iw
          cases Is.leaf iw
          obtain ⟨Gs, hw, hg, _⟩ := S2.place eT h0 hv2
          have hat : ∀ {vs : List V}, vs.length = ts.length → ∃ x, vs[j]? = some x ∧ atI vs n = some x := fun {vs} hl => by
            have hj := ixN_nat eJ
            obtain ⟨x, hx⟩ : ∃ x, vs[j]? = some x := ⟨_, List.getElem?_eq_getElem (by omega)⟩
            refine ⟨x, hx, ?_⟩
            unfold atI
            rw [hl, eJ]
            exact hx
          cases hw with
          | l a1 b1 e1 r1 =>
            cases eK
            obtain ⟨x, h1, h2⟩ := hat r1.len
            have hp := (hg.trans (S2.gh a.1)) _ _ a1
            exact .inl ⟨_, _, n, x, rfl, rfl, sq_of hp, h2, post_ok S2 q2 x v0 h0 (vAt_snoc hp rfl h1 hv2)⟩
          | t a1 r1 =>
            cases eK
            obtain ⟨x, h1, h2⟩ := hat r1.len
            exact .inr (.inl ⟨_, _, n, x, rfl, rfl, st_of a1, h2, post_ok S2 q2 x v0 h0 (vAt_snoc a1 rfl h1 hv2)⟩)
          | fz _ => cases eK
          | dk _ _ _ _ _ _ => cases eK
          | dt _ _ _ _ _ _ => cases eK
          | ob _ _ _ _ _ => cases eK
theorem fldIx_lookup {f : Str} : ∀ {ns : List Str} {vs : List V} {j : Nat}, ns.length = vs.length → fldIx f ns = some j → ∃ x, vs[j]? = some x ∧ (ns.zip vs).lookup f = some x
  | [], _, _, _, h => by cases h
  | n :: ns, [], _, h, _ => by cases h
  | n :: ns, v :: vs, j, hl, h => by
    unfold fldIx at h
    rw [List.zip_cons_cons, List.lookup_cons]
    by_cases e : (f == n) = true
    · rw [if_pos e] at h
      cases h
      rw [e]
      exact ⟨v, rfl, rfl⟩
    · rw [if_neg e] at h
      cases hj : fldIx f ns with
      | none => rw [hj] at h; cases h
      | some l =>
        rw [hj] at h; cases h
        obtain ⟨x, h1, h2⟩ := fldIx_lookup (ns := ns) (vs := vs) (by simpa using hl) hj
        rw [Bool.not_eq_true] at e
        rw [e]
        exact ⟨x, by simpa using h1, h2⟩
theorem snd_pfld {C fn : Str} (hC : Cls c.K (c.cn C)) (hn : NoAttr c.K (c.cn C) fn) (hp : SndP c W ta p) : SndP c W (tFld c.K ta fn) (pFld C fn p) := fun fr Γ σ F G H S Q q => by
  refine hp fr Γ σ F G H S _ (post_bind S q fun a Γ1 m1 F1 G1 H1 _ S1 t1 s1 q1 v v0 h0 hv => ?_)
  cases eT : treeAt Γ1 a.1 a.2 with
  | none => rw [eT] at q1; exact q1.elim
  | some u =>
    rw [eT] at q1
    cases u with
    | ob C' ns ts =>
      dsimp only at q1
      by_cases hc : C' = C
      · rw [if_pos hc] at q1
        subst hc
        cases ej : fldIx fn ns with
        | none => rw [ej] at q1; exact q1.elim
        | some j =>
          rw [ej] at q1
          obtain ⟨Gs, hw, hg, _⟩ := S1.place eT h0 hv
          cases hw with
          | ob a1 l1 b1 e1 r1 =>
            obtain ⟨x, h1, h2⟩ := fldIx_lookup l1 ej
            have hp := (hg.trans (S1.gh a.1)) _ _ a1
            exact ⟨_, _, _, _, x, rfl, hp, hC, hn, h2, post_ok S1 q1 x v0 h0 (vAt_snoc hp (show some ((List.zip _ _).map (·.2)) = _ by rw [zip_snd l1]) h1 hv)⟩
      · rw [if_neg hc] at q1; exact q1.elim
    | _ => exact q1.elim
theorem keyIx_val {κ : Type} [DecidableEq κ] {k : κ} : ∀ {ks : List κ} {vs : List V} {j : Nat}, ks.length = vs.length → keyIx k ks = some j → ∃ x, vs[j]? = some x ∧ valV (ks.zip vs) k = some x
  | [], _, _, _, h => by cases h
  | n :: ns, [], _, h, _ => by cases h
  | n :: ns, v :: vs, j, hl, h => by
    unfold keyIx at h
    rw [List.zip_cons_cons]
    by_cases e : n = k
    · rw [if_pos e] at h
      cases h
      exact ⟨v, rfl, valV_pos (p := (n, v)) e⟩
    · rw [if_neg e] at h
      cases hj : keyIx k ns with
      | none => rw [hj] at h; cases h
      | some l =>
        rw [hj] at h; cases h
        obtain ⟨x, h1, h2⟩ := keyIx_val (ks := ns) (vs := vs) (by simpa using hl) hj
        exact ⟨x, by simpa using h1, by rw [valV_neg (p := (n, v)) e]; exact h2⟩
theorem snd_pdget (hp : SndP c W ta p) (he : SndE c W tb f) : SndP c W (tDGet ta tb) (pDGet p f) := fun fr Γ σ F G H S Q q => by
  refine hp fr Γ σ F G H S _ (post_bind S q fun a Γ1 m1 F1 G1 H1 _ S1 t1 s1 q1 v v0 h0 hv => ?_)
  refine he fr Γ1 σ F1 G1 H1 S1 _ (post_bind S1 q1 fun y Γ2 m2 F2 G2 H2 _ S2 t2 s2 q2 w iw => ?_)
  obtain ⟨hm, q2⟩ := post_if q2
  have hm : m2 ≤ 1 := by have := of_decide_eq_false hm; omega
  have hv2 := vAt_mono (s2.1 hm) hv
  have iw := IsK.h S2 iw
  cases eT : treeAt Γ2 a.1 a.2 with
  | none => rw [eT] at q2; exact q2.elim
  | some u =>
    rw [eT] at q2
    dsimp only at q2
    cases eJ : u.keyAt y.2 with
    | none => rw [eJ] at q2; exact q2.elim
    | some j =>
      rw [eJ] at q2
      dsimp only at q2
      obtain ⟨Gs, hw, hg, _⟩ := S2.place eT h0 hv2
      unfold OT.keyAt at eJ
      cases hw with
      | fz _ => cases eJ
      | l _ _ _ _ => cases eJ
      | t _ _ => cases eJ
      | ob _ _ _ _ _ => cases eJ
      | dk a1 l1 nd1 b1 e1 r1 =>
        dsimp only at eJ
        cases ek : y.2.key with
        | none => rw [ek] at eJ; cases eJ
        | some k =>
          rw [ek] at eJ
          obtain ⟨x, h1, h2⟩ := keyIx_val l1 eJ
          have hp := (hg.trans (S2.gh a.1)) _ _ a1
          refine ⟨_, x, rfl, ?_, post_ok S2 q2 x v0 h0 (vAt_snoc hp (show some ((List.zip _ _).map (·.2)) = _ by rw [zip_snd l1]) h1 hv2)⟩
          rw [iw.key ek, ← h2]
          exact DGet.k hp
      | dt a1 l1 nd1 b1 e1 r1 =>
        dsimp only at eJ
        cases ey : y.2 with
        | t es =>
          rw [ey] at eJ iw
          dsimp only at eJ
          cases ek : D.keys es with
          | none => rw [ek] at eJ; cases eJ
          | some k =>
            rw [ek] at eJ
            obtain ⟨x, h1, h2⟩ := keyIx_val l1 eJ
            have hp := (hg.trans (S2.gh a.1)) _ _ a1
            cases iw with
            | t st rt =>
              refine ⟨_, x, rfl, ?_, post_ok S2 q2 x v0 h0 (vAt_snoc hp (show some ((List.zip _ _).map (·.2)) = _ by rw [zip_snd l1]) h1 hv2)⟩
              rw [← h2]
              exact DGet.t hp (by rw [st, rt.keys ek])
        | _ => rw [ey] at eJ; cases eJ
end

end
section
open PySem L2 Evl

/-! ### what changes a place -/
/-- x.append(e) -/
def sApp (p : PF) (o : OF) : SF := fun Γ => (p Γ).out fun a Γ1 => match treeAt Γ1 a.1 a.2 with
  | some (.l _) => match o Γ1 with
    | .ok u Γ2 m => if decide (1 < m) = true then .no else match treeAt Γ2 a.1 a.2 with
      | some (.l ts) => if decide (100000 ≤ ts.length) = true then .no else .nx (putAt Γ2 a.1 a.2 (.l (ts ++ [u])))
      | _ => .no
    | .ex e Γ2 => .ex e Γ2
    | .no => .no
  | _ => .no
/-- x[i] = e -/
def sSetIx (p : PF) (e : EF) (o : OF) : SF := fun Γ => (o Γ).out fun u Γ0 => (p Γ0).out fun a Γ1 => match e Γ1 with
  | .ok y Γ2 m => if decide (1 < m) = true then .no else match treeAt Γ2 a.1 a.2 with
    | some (.l ts) => match oneI [y.2] with
      | some n => match ixN ts.length n with
        | some j => .nx (putAt Γ2 a.1 a.2 (.l (ts.set j u)))
        | none => .no
      | none => .no
    | _ => .no
  | .ex e Γ2 => .ex e Γ2
  | .no => .no
/-- a dict with a key set -/
def OT.dput (u : OT) (e : D) (w : OT) : Option OT := match u with
  | .dk ks ts => e.key.map fun k => match keyIx k ks with
    | some j => .dk ks (ts.set j w)
    | none => .dk (ks ++ [k]) (ts ++ [w])
  | .dt ks ts => match e with
    | .t es => (D.keys es).map fun k => match keyIx k ks with
      | some j => .dt ks (ts.set j w)
      | none => .dt (ks ++ [k]) (ts ++ [w])
    | _ => none
  | _ => none
/-- d[k] = e -/
def sDPutF (p : PF) (e : EF) (o : OF) : SF := fun Γ => (o Γ).out fun u Γ0 => (p Γ0).out fun a Γ1 => match e Γ1 with
  | .ok y Γ2 m => if decide (1 < m) = true then .no else match treeAt Γ2 a.1 a.2 with
    | some w => if decide (100000 ≤ w.kids.length) = true then .no else match w.dput y.2 u with
      | some w' => .nx (putAt Γ2 a.1 a.2 w')
      | none => .no
    | none => .no
  | .ex e Γ2 => .ex e Γ2
  | .no => .no
/-- o.f = e -/
def sFldF (C f : Str) (p : PF) (o : OF) : SF := fun Γ => (o Γ).out fun u Γ0 => (p Γ0).out fun a Γ1 => match treeAt Γ1 a.1 a.2 with
  | some (.ob C' ns ts) => if C' = C ∧ ts.length < 900 then match fldIx f ns with
    | some j => .nx (putAt Γ1 a.1 a.2 (.ob C ns (ts.set j u)))
    | none => .nx (putAt Γ1 a.1 a.2 (.ob C (ns ++ [f]) (ts ++ [u])))
    else .no
  | _ => .no
section
variable {c : Ct} {W : WX} {te ta tb tc : TE} {f g h : EF} {p : PF} {o : OF} {fr : Fr} {σ σ' : L2.St} {F F' H H' T T' : Hp} {Gx : Hp} {G : Nat → Hp} {Γ Γ' : Gm} {D : Ends}
theorem kid_ap {N : Hp} {G0 Gs : Hp} {i : Nat} (hn : Tmp fr F G H N) (e : Ex G0 Gs) (g : Ex Gs (G i)) : Ap G0 N := fun a z => (hn.g i).symm a (ex_ne g (ex_ne e z))
theorem snd_app (hp : SndP c W ta p) (ho : SndO c W te o) : SndS c W (tDrop (tBM c.K "list" rAppend ta (tCons te tNil))) (sApp p o) := fun fr Γ σ F G H S D q => by
  refine hp fr Γ σ F G H S _ (out_post S q fun a Γ1 m1 F1 G1 H1 _ S1 t1 s1 q1 v v0 h0 hv => ?_)
  cases eT : treeAt Γ1 a.1 a.2 with
  | none => rw [eT] at q1; exact q1.elim
  | some u0 =>
    rw [eT] at q1
    cases u0 with
    | l ts0 =>
      dsimp only at q1
      obtain ⟨Gs0, hw0, hg0, _⟩ := S1.place eT h0 hv
      refine ⟨?_, ?_⟩
      · cases hw0 with
        | l a1 b1 e1 r1 => exact .inl ⟨rfl, _, sq_of ((hg0.trans (S1.gh a.1)) _ _ a1)⟩
      · refine ho fr Γ1 σ F1 G1 H1 S1 _ ?_
        cases eo : o Γ1 with
        | no => rw [eo] at q1; exact q1
        | ex x Γ2 => rw [eo] at q1; exact fun F' G' H' cls dd S' e i => q1 σ F' G' H' cls dd e.1 e.2 S' i
        | ok u Γ2 m2 =>
          rw [eo] at q1
          dsimp only at q1
          intro F2 G2 H2 S2 t2 s2 w N hn _ hw
          by_cases hm : 1 < m2
          · rw [if_pos (decide_eq_true hm)] at q1; exact q1.elim
          rw [if_neg (by simpa using hm)] at q1
          have hv2 := vAt_mono (s2.1 (by omega)) hv
          have q2 := Out.post.mono t2.f (t2.tp S1) q1
          cases eT2 : treeAt Γ2 a.1 a.2 with
          | none => rw [eT2] at q2; exact q2.elim
          | some u2 =>
            rw [eT2] at q2
            cases u2 with
            | l ts =>
              dsimp only at q2
              by_cases hl : 100000 ≤ ts.length
              · rw [if_pos (decide_eq_true hl)] at q2; exact q2.elim
              rw [if_neg (by simpa using hl)] at q2
              obtain ⟨Gs, hw2, hg, hmut⟩ := S2.place eT2 h0 hv2
              cases hw2 with
              | @l _ G0 p0 vs _ a1 b1 e1 r1 =>
                have hp0 := (hg.trans (S2.gh a.1)) _ _ a1
                obtain ⟨S3, tp3⟩ := hmut p0 (.lst (vs ++ [w])) N (.l (ts ++ [u])) (some_ne a1) (fun xs z => nomatch z) hn (by
                  have tpx : Tp H2 (upd H2 p0 (.lst (vs ++ [w]))) := fun b xs e => by rw [upd_ne (fun z => by subst z; rw [hp0] at e; cases e)]; exact e
                  refine .l (G0 := un G0 N) ?_ ?_ (un_monoL (fun b oo qq => by rw [upd_ne (fun z => by subst z; rw [b1] at qq; cases qq)]; exact e1 b oo qq)) ((r1.mono tpx (Ex.refl _) (Ex.refl _)).snoc (kid_ap hn e1 hg) (hw.mono tpx (Ex.refl _) (Ex.refl _)))
                  · refine un_r (B := upd Gs p0 (.lst (vs ++ [w]))) (F := N) (fun b z => ?_) _ _ upd_same
                    rw [upd_ne (fun e => by subst e; exact z ((hn.g a.1).symm b (ex_ne hg (some_ne a1))))]
                    exact none_of_ex hg (hn.g a.1 b z)
                  · unfold un
                    rw [(hn.g a.1).symm p0 (ex_ne hg (some_ne a1))]
                    exact b1)
                exact ⟨p0, vs, w, rfl, rfl, hp0, sz_lt (by rw [r1.len]; omega), q2 σ _ _ _ (Ex.refl _) tp3 S3⟩
            | _ => exact q2.elim
    | _ => exact q1.elim
/-- the general store: what is newly held, in a cell's list of kids -/
theorem own_cell {Gs N G0 : Hp} {p0 : Addr} {i : Nat} {o0 o' : HO} (hn : Tmp fr F G H N) (hg : Ex Gs (G i)) (a1 : Gs p0 = some o0) (b1 : G0 p0 = none) (e1 : Ex G0 Gs) :
    un (upd Gs p0 o') N p0 = some o' ∧ un G0 N p0 = none ∧ Ex (un G0 N) (un (upd Gs p0 o') N) := by
  have np : N p0 = none := (hn.g i).symm p0 (ex_ne hg (some_ne a1))
  refine ⟨?_, ?_, un_monoL fun b oo qq => ?_⟩
  · unfold un; rw [np]; exact upd_same
  · unfold un; rw [np]; exact b1
  · rw [upd_ne (fun z => by subst z; rw [b1] at qq; cases qq)]; exact e1 b oo qq
theorem tp_upd {p0 : Addr} {o0 o' : HO} (hp : H p0 = some o0) (h : ∀ xs, o0 ≠ .tup xs) : Tp H (upd H p0 o') := fun b xs e => by
  rw [upd_ne (fun z => by subst z; rw [hp] at e; exact h xs (Option.some.inj e))]; exact e
theorem snd_setIx (hp : SndP c W ta p) (he : SndE c W tb f) (ho : SndO c W te o) : SndS c W (tAsg te (gSub ta tb rSetL)) (sSetIx p f o) := fun fr Γ σ F G H S D q => by
  refine ho fr Γ σ F G H S _ (out_post S q fun u Γ0 m0 F0 G0 H0' _ S0 t0 s0 q0 w N hn0 _ hw0 => ?_)
  refine hp fr Γ0 σ F0 G0 H0' S0 _ (out_post S0 q0 fun a Γ1 m1 F1 G1 H1 _ S1 t1 s1 q1 v v0 h0 hv => ?_)
  refine he fr Γ1 σ F1 G1 H1 S1 _ ?_
  cases ey : f Γ1 with
  | no => rw [ey] at q1; exact q1
  | ex x Γ2 => rw [ey] at q1; exact fun F' G' H' cls dd S' e i => q1 σ F' G' H' cls dd e.1 e.2 S' i
  | ok y Γ2 m2 =>
    rw [ey] at q1
    dsimp only at q1
    intro F2 G2 H2 S2 t2 s2 z iz
    by_cases hm : 1 < m2
    · rw [if_pos (decide_eq_true hm)] at q1; exact q1.elim
    rw [if_neg (by simpa using hm)] at q1
    have hv2 := vAt_mono (s2.1 (by omega)) hv
    have hn := (hn0.tr t1).tr t2
    have hw := (hw0.mono (t1.tp S0) t1.f (Ex.refl _)).mono (t2.tp S1) t2.f (Ex.refl _)
    have q2 := Out.post.mono t2.f (t2.tp S1) q1
    cases eT2 : treeAt Γ2 a.1 a.2 with
    | none => rw [eT2] at q2; exact q2.elim
    | some u2 =>
      rw [eT2] at q2
      cases u2 with
      | l ts =>
        dsimp only at q2
        cases eN : oneI [y.2] with
        | none => rw [eN] at q2; exact q2.elim
        | some n =>
          rw [eN] at q2
          dsimp only at q2
          cases eJ : ixN ts.length n with
          | none => rw [eJ] at q2; exact q2.elim
          | some j =>
            rw [eJ] at q2
            dsimp only at q2
            have iz := IsK.h S2 iz
            have ey2 : y.2 = .i n := by have := oneI_eq eN; injection this
            rw [ey2] at iz
            cases Is.leaf iz
            obtain ⟨Gs, hw2, hg, hmut⟩ := S2.place eT2 h0 hv2
            cases hw2 with
            | @l _ Gk p0 vs _ a1 b1 e1 r1 =>
              have hp0 := (hg.trans (S2.gh a.1)) _ _ a1
              have tpx : Tp H2 (upd H2 p0 (.lst (vs.set j w))) := tp_upd hp0 fun xs z => nomatch z
              obtain ⟨c1, c2, c3⟩ := own_cell (o' := .lst (vs.set j w)) hn hg a1 b1 e1
              obtain ⟨S3, tp3⟩ := hmut p0 (.lst (vs.set j w)) N (.l (ts.set j u)) (some_ne a1) (fun xs z => nomatch z) hn (.l c1 c2 c3 ((r1.mono tpx (Ex.refl _) (Ex.refl _)).set (ixN_nat eJ) (kid_ap hn e1 hg) (hw.mono tpx (Ex.refl _) (Ex.refl _))))
              exact ⟨p0, vs, n, j, rfl, rfl, hp0, by rw [r1.len]; exact eJ, q2 σ _ _ _ (Ex.refl _) tp3 S3⟩
      | _ => exact q2.elim
theorem keyIx_any {κ : Type} [DecidableEq κ] {k : κ} : ∀ {ks : List κ} {vs : List V}, ks.length = vs.length → ((ks.zip vs).any fun kv => decide (kv.1 = k)) = (keyIx k ks).isSome
  | [], _, _ => by unfold keyIx; simp
  | n :: ns, [], h => by cases h
  | n :: ns, v :: vs, hl => by
    rw [List.zip_cons_cons, List.any_cons]
    unfold keyIx
    by_cases e : n = k
    · rw [if_pos e, decide_eq_true e]; rfl
    · rw [if_neg e, decide_eq_false e, Bool.false_or, keyIx_any (by simpa using hl)]
      cases keyIx k ns <;> rfl
theorem keyIx_lt {κ : Type} [DecidableEq κ] {k : κ} : ∀ {ks : List κ} {j : Nat}, keyIx k ks = some j → j < ks.length ∧ ks[j]? = some k
  | [], _, h => by cases h
  | n :: ns, j, h => by
    unfold keyIx at h
    by_cases e : n = k
    · rw [if_pos e] at h; cases h; subst e; exact ⟨by simp, rfl⟩
    · rw [if_neg e] at h
      cases hj : keyIx k ns with
      | none => rw [hj] at h; cases h
      | some l =>
        rw [hj] at h; cases h
        obtain ⟨h1, h2⟩ := keyIx_lt hj
        exact ⟨by simpa using h1, by simpa using h2⟩
/-- keys once -/
theorem putK_at {κ : Type} [DecidableEq κ] {k : κ} {w : V} : ∀ {ks : List κ} {vs : List V} {j : Nat}, ks.length = vs.length → ks.Nodup → keyIx k ks = some j → (ks.zip vs).map (fun kv => if kv.1 = k then (kv.1, w) else kv) = ks.zip (vs.set j w)
  | [], _, _, _, _, h => by cases h
  | n :: ns, [], _, h, _, _ => by cases h
  | n :: ns, v :: vs, j, hl, hd, h => by
    unfold keyIx at h
    rw [List.zip_cons_cons, List.map_cons]
    have hd' := List.nodup_cons.mp hd
    by_cases e : n = k
    · rw [if_pos e] at h
      cases h
      subst e
      rw [if_pos rfl, List.set_cons_zero, List.zip_cons_cons]
      congr 1
      refine (List.map_congr_left fun kv hkv => ?_).trans (List.map_id _)
      rw [if_neg]
      · rfl
      · intro z
        exact hd'.1 (z ▸ (List.of_mem_zip hkv).1)
    · rw [if_neg e] at h
      cases hj : keyIx k ns with
      | none => rw [hj] at h; cases h
      | some l =>
        rw [hj] at h; cases h
        rw [if_neg e, List.set_cons_succ, List.zip_cons_cons, putK_at (by simpa using hl) hd'.2 hj]
theorem keyIx_none {κ : Type} [DecidableEq κ] {k : κ} : ∀ {ks : List κ}, keyIx k ks = none → k ∉ ks
  | [], _ => by simp
  | n :: ns, h => by
    unfold keyIx at h
    by_cases e : n = k
    · rw [if_pos e] at h; cases h
    · rw [if_neg e] at h
      cases hj : keyIx k ns with
      | some l => rw [hj] at h; cases h
      | none =>
        intro z
        rcases List.mem_cons.mp z with z | z
        · exact e z.symm
        · exact keyIx_none hj z
theorem putK_in {κ : Type} [DecidableEq κ] {k : κ} {w : V} {ks : List κ} {vs : List V} {j : Nat} (hl : ks.length = vs.length) (hd : ks.Nodup) (h : keyIx k ks = some j) : putK (ks.zip vs) k w = ks.zip (vs.set j w) := by
  unfold putK
  rw [keyIx_any hl, h, Option.isSome_some, if_pos rfl, putK_at hl hd h]
theorem putK_out {κ : Type} [DecidableEq κ] {k : κ} {w : V} {ks : List κ} {vs : List V} (hl : ks.length = vs.length) (h : keyIx k ks = none) : putK (ks.zip vs) k w = (ks ++ [k]).zip (vs ++ [w]) := by
  unfold putK
  rw [keyIx_any hl, h, if_neg (by simp), List.zip_append hl]
  rfl
theorem nodup_snoc {κ : Type} {k : κ} {ks : List κ} (hd : ks.Nodup) (h : k ∉ ks) : (ks ++ [k]).Nodup := by
  rw [List.nodup_append]
  refine ⟨hd, by simp, fun a ha b hb => ?_⟩
  rw [List.mem_singleton] at hb
  subst hb
  intro z; subst z; exact h ha
theorem snd_dput (hp : SndP c W ta p) (he : SndE c W tb f) (ho : SndO c W te o) : SndS c W (sDPut ta tb te) (sDPutF p f o) := fun fr Γ σ F G H S D q => by
  refine ho fr Γ σ F G H S _ (out_post S q fun u Γ0 m0 F0 G0 H0' _ S0 t0 s0 q0 w N hn0 _ hw0 => ?_)
  refine hp fr Γ0 σ F0 G0 H0' S0 _ (out_post S0 q0 fun a Γ1 m1 F1 G1 H1 _ S1 t1 s1 q1 v v0 h0 hv => ?_)
  refine he fr Γ1 σ F1 G1 H1 S1 _ ?_
  cases ey : f Γ1 with
  | no => rw [ey] at q1; exact q1
  | ex x Γ2 => rw [ey] at q1; exact fun F' G' H' cls dd S' e i => q1 σ F' G' H' cls dd e.1 e.2 S' i
  | ok y Γ2 m2 =>
    rw [ey] at q1
    dsimp only at q1
    intro F2 G2 H2 S2 t2 s2 z iz
    by_cases hm : 1 < m2
    · rw [if_pos (decide_eq_true hm)] at q1; exact q1.elim
    rw [if_neg (by simpa using hm)] at q1
    have hv2 := vAt_mono (s2.1 (by omega)) hv
    have hn := (hn0.tr t1).tr t2
    have hw := (hw0.mono (t1.tp S0) t1.f (Ex.refl _)).mono (t2.tp S1) t2.f (Ex.refl _)
    have q2 := Out.post.mono t2.f (t2.tp S1) q1
    have iz := IsK.h S2 iz
    cases eT2 : treeAt Γ2 a.1 a.2 with
    | none => rw [eT2] at q2; exact q2.elim
    | some u2 =>
      rw [eT2] at q2
      dsimp only at q2
      by_cases hl : 100000 ≤ u2.kids.length
      · rw [if_pos (decide_eq_true hl)] at q2; exact q2.elim
      rw [if_neg (by simpa using hl)] at q2
      cases ed : u2.dput y.2 u with
      | none => rw [ed] at q2; exact q2.elim
      | some u3 =>
        rw [ed] at q2
        dsimp only at q2
        obtain ⟨Gs, hw2, hg, hmut⟩ := S2.place eT2 h0 hv2
        unfold OT.dput at ed
        cases hw2 with
        | fz _ => cases ed
        | l _ _ _ _ => cases ed
        | t _ _ => cases ed
        | ob _ _ _ _ _ => cases ed
        | @dk _ Gk p0 ks vs ts a1 l1 nd1 b1 e1 r1 =>
          dsimp only at ed
          cases ek : y.2.key with
          | none => rw [ek] at ed; cases ed
          | some k =>
            rw [ek] at ed
            simp only [Option.map_some, Option.some.injEq] at ed
            have hp0 := (hg.trans (S2.gh a.1)) _ _ a1
            have hlen : (ks.zip vs).length < 100000 := by
              rw [zip_len l1, l1, r1.len]
              exact Nat.lt_of_not_le hl
            have ez := iz.key ek
            have key : ∀ {o' : HO} {u3 : OT}, putAt Γ2 a.1 a.2 u3 = putAt Γ2 a.1 a.2 u3 → Sta c fr (putAt Γ2 a.1 a.2 u3) σ F2 (fun j => if j = a.1 then un (upd (G2 a.1) p0 o') N else G2 j) (upd H2 p0 o') ∧ Tp H2 (upd H2 p0 o') → True := fun _ _ => trivial
            cases ej : keyIx k ks with
            | some j =>
              rw [ej] at ed
              dsimp only at ed
              subst ed
              have tpx : Tp H2 (upd H2 p0 (.dK (putK (ks.zip vs) k w))) := tp_upd hp0 fun xs z => nomatch z
              obtain ⟨c1, c2, c3⟩ := own_cell (o' := .dK (putK (ks.zip vs) k w)) hn hg a1 b1 e1
              have hj := (keyIx_lt ej).1
              obtain ⟨S3, tp3⟩ := hmut p0 (.dK (putK (ks.zip vs) k w)) N (.dk ks (ts.set j u)) (some_ne a1) (fun xs z => nomatch z) hn
                (.dk (vs := vs.set j w) (by rw [c1, putK_in l1 nd1 ej]) (by rw [List.length_set]; exact l1) nd1 c2 c3 ((r1.mono tpx (Ex.refl _) (Ex.refl _)).set (by rw [← r1.len, ← l1]; exact hj) (kid_ap hn e1 hg) (hw.mono tpx (Ex.refl _) (Ex.refl _))))
              exact ⟨p0, _, rfl, by rw [ez]; exact DPut.k hp0 (sz_lt hlen), q2 σ _ _ _ (Ex.refl _) tp3 S3⟩
            | none =>
              rw [ej] at ed
              dsimp only at ed
              subst ed
              have tpx : Tp H2 (upd H2 p0 (.dK (putK (ks.zip vs) k w))) := tp_upd hp0 fun xs z => nomatch z
              obtain ⟨c1, c2, c3⟩ := own_cell (o' := .dK (putK (ks.zip vs) k w)) hn hg a1 b1 e1
              obtain ⟨S3, tp3⟩ := hmut p0 (.dK (putK (ks.zip vs) k w)) N (.dk (ks ++ [k]) (ts ++ [u])) (some_ne a1) (fun xs z => nomatch z) hn
                (.dk (vs := vs ++ [w]) (by rw [c1, putK_out l1 ej]) (by rw [List.length_append, List.length_append, l1]; rfl) (nodup_snoc nd1 (keyIx_none ej)) c2 c3 ((r1.mono tpx (Ex.refl _) (Ex.refl _)).snoc (kid_ap hn e1 hg) (hw.mono tpx (Ex.refl _) (Ex.refl _))))
              exact ⟨p0, _, rfl, by rw [ez]; exact DPut.k hp0 (sz_lt hlen), q2 σ _ _ _ (Ex.refl _) tp3 S3⟩
        | @dt _ Gk p0 ks vs ts a1 l1 nd1 b1 e1 r1 =>
          dsimp only at ed
          cases ey2 : y.2 with
          | t es =>
            rw [ey2] at ed iz
            dsimp only at ed
            cases ek : NV.D.keys es with
            | none => rw [ek] at ed; cases ed
            | some k =>
              rw [ek] at ed
              simp only [Option.map_some, Option.some.injEq] at ed
              have hp0 := (hg.trans (S2.gh a.1)) _ _ a1
              have hlen : (ks.zip vs).length < 100000 := by
                rw [zip_len l1, l1, r1.len]
                exact Nat.lt_of_not_le hl
              cases iz with
              | @t pk xs _ st rt =>
                have st2 : H2 pk = some (.tup (k.map kV)) := by rw [st, rt.keys ek]
                cases ej : keyIx k ks with
                | some j =>
                  rw [ej] at ed
                  dsimp only at ed
                  subst ed
                  have tpx : Tp H2 (upd H2 p0 (.dT (putK (ks.zip vs) k w))) := tp_upd hp0 fun xs z => nomatch z
                  obtain ⟨c1, c2, c3⟩ := own_cell (o' := .dT (putK (ks.zip vs) k w)) hn hg a1 b1 e1
                  have hj := (keyIx_lt ej).1
                  obtain ⟨S3, tp3⟩ := hmut p0 (.dT (putK (ks.zip vs) k w)) N (.dt ks (ts.set j u)) (some_ne a1) (fun xs z => nomatch z) hn
                    (.dt (vs := vs.set j w) (by rw [c1, putK_in l1 nd1 ej]) (by rw [List.length_set]; exact l1) nd1 c2 c3 ((r1.mono tpx (Ex.refl _) (Ex.refl _)).set (by rw [← r1.len, ← l1]; exact hj) (kid_ap hn e1 hg) (hw.mono tpx (Ex.refl _) (Ex.refl _))))
                  exact ⟨p0, _, rfl, DPut.t hp0 st2 (sz_lt hlen), q2 σ _ _ _ (Ex.refl _) tp3 S3⟩
                | none =>
                  rw [ej] at ed
                  dsimp only at ed
                  subst ed
                  have tpx : Tp H2 (upd H2 p0 (.dT (putK (ks.zip vs) k w))) := tp_upd hp0 fun xs z => nomatch z
                  obtain ⟨c1, c2, c3⟩ := own_cell (o' := .dT (putK (ks.zip vs) k w)) hn hg a1 b1 e1
                  obtain ⟨S3, tp3⟩ := hmut p0 (.dT (putK (ks.zip vs) k w)) N (.dt (ks ++ [k]) (ts ++ [u])) (some_ne a1) (fun xs z => nomatch z) hn
                    (.dt (vs := vs ++ [w]) (by rw [c1, putK_out l1 ej]) (by rw [List.length_append, List.length_append, l1]; rfl) (nodup_snoc nd1 (keyIx_none ej)) c2 c3 ((r1.mono tpx (Ex.refl _) (Ex.refl _)).snoc (kid_ap hn e1 hg) (hw.mono tpx (Ex.refl _) (Ex.refl _))))
                  exact ⟨p0, _, rfl, DPut.t hp0 st2 (sz_lt hlen), q2 σ _ _ _ (Ex.refl _) tp3 S3⟩
          | _ => rw [ey2] at ed; cases ed
theorem putF_at {f : Str} {y : V} : ∀ {ns : List Str} {vs : List V} {j : Nat}, ns.length = vs.length → fldIx f ns = some j → putF f y (ns.zip vs) = ns.zip (vs.set j y)
  | [], _, _, _, h => by cases h
  | n :: ns, [], _, h, _ => by cases h
  | n :: ns, v :: vs, j, hl, h => by
    unfold fldIx at h
    rw [List.zip_cons_cons]
    unfold putF
    by_cases e : n = f
    · subst e
      rw [if_pos (beq_self_eq_true _)] at h
      cases h
      rw [if_pos rfl, List.set_cons_zero, List.zip_cons_cons]
    · have e2 : ¬ (f == n) = true := by
        intro z; exact e (beq_iff_eq.mp z).symm
      rw [if_neg e2] at h
      cases hj : fldIx f ns with
      | none => rw [hj] at h; cases h
      | some l =>
        rw [hj] at h; cases h
        rw [if_neg e, List.set_cons_succ, List.zip_cons_cons, putF_at (by simpa using hl) hj]
theorem putF_out {f : Str} {y : V} : ∀ {ns : List Str} {vs : List V}, ns.length = vs.length → fldIx f ns = none → putF f y (ns.zip vs) = (ns ++ [f]).zip (vs ++ [y])
  | [], [], _, _ => rfl
  | [], _ :: _, h, _ => by cases h
  | n :: ns, [], h, _ => by cases h
  | n :: ns, v :: vs, hl, h => by
    unfold fldIx at h
    by_cases e : (f == n) = true
    · rw [if_pos e] at h; cases h
    · rw [if_neg e] at h
      have e2 : ¬ n = f := fun z => e (by subst z; exact beq_self_eq_true _)
      cases hj : fldIx f ns with
      | some l => rw [hj] at h; cases h
      | none =>
        rw [List.zip_cons_cons]
        unfold putF
        rw [if_neg e2, putF_out (by simpa using hl) hj]
        rfl
theorem snd_fldS {C fn : Str} (hC : Cls c.K (c.cn C)) (hno : NoAttr c.K (c.cn C) fn) (hp : SndP c W ta p) (ho : SndO c W te o) : SndS c W (sFld c.K ta te fn) (sFldF C fn p o) := fun fr Γ σ F G H S D q => by
  refine ho fr Γ σ F G H S _ (out_post S q fun u Γ0 m0 F0 G0 H0' _ S0 t0 s0 q0 w N hn0 _ hw0 => ?_)
  refine hp fr Γ0 σ F0 G0 H0' S0 _ (out_post S0 q0 fun a Γ1 m1 F1 G1 H1 _ S1 t1 s1 q1 v v0 h0 hv => ?_)
  have hn := hn0.tr t1
  have hw := hw0.mono (t1.tp S0) t1.f (Ex.refl _)
  cases eT : treeAt Γ1 a.1 a.2 with
  | none => rw [eT] at q1; exact q1.elim
  | some u2 =>
    rw [eT] at q1
    cases u2 with
    | ob C' ns ts =>
      dsimp only at q1
      by_cases hc : C' = C ∧ ts.length < 900
      · rw [if_pos hc] at q1
        obtain ⟨hc, hl⟩ := hc
        subst hc
        obtain ⟨Gs, hw2, hg, hmut⟩ := S1.place eT h0 hv
        cases hw2 with
        | @ob _ Gk p0 dx _ _ vs _ a1 l1 b1 e1 r1 =>
          have hp0 := (hg.trans (S1.gh a.1)) _ _ a1
          have hlen : (ns.zip vs).length < 1000 := by rw [zip_len l1, l1, r1.len]; omega
          have tpx : Tp H1 (upd H1 p0 (.ins (c.cn C') dx (putF fn w (ns.zip vs)))) := tp_upd hp0 fun xs z => nomatch z
          obtain ⟨c1, c2, c3⟩ := own_cell (o' := .ins (c.cn C') dx (putF fn w (ns.zip vs))) hn hg a1 b1 e1
          cases ej : fldIx fn ns with
          | some j =>
            rw [ej] at q1
            have hj : j < ts.length := by
              obtain ⟨x, h1, _⟩ := fldIx_lookup l1 ej
              rw [← r1.len]
              exact (List.getElem?_eq_some_iff.mp h1).1
            obtain ⟨S3, tp3⟩ := hmut p0 (.ins (c.cn C') dx (putF fn w (ns.zip vs))) N (.ob C' ns (ts.set j u)) (some_ne a1) (fun xs z => nomatch z) hn
              (.ob (vs := vs.set j w) (dx := dx) (by rw [c1, putF_at l1 ej]) (by rw [List.length_set]; exact l1) c2 c3 ((r1.mono tpx (Ex.refl _) (Ex.refl _)).set hj (kid_ap hn e1 hg) (hw.mono tpx (Ex.refl _) (Ex.refl _))))
            exact ⟨p0, _, dx, _, rfl, hp0, hC, hno, hlen, q1 σ _ _ _ (Ex.refl _) tp3 S3⟩
          | none =>
            rw [ej] at q1
            obtain ⟨S3, tp3⟩ := hmut p0 (.ins (c.cn C') dx (putF fn w (ns.zip vs))) N (.ob C' (ns ++ [fn]) (ts ++ [u])) (some_ne a1) (fun xs z => nomatch z) hn
              (.ob (vs := vs ++ [w]) (dx := dx) (by rw [c1, putF_out l1 ej]) (by rw [List.length_append, List.length_append, l1]; rfl) c2 c3 ((r1.mono tpx (Ex.refl _) (Ex.refl _)).snoc (kid_ap hn e1 hg) (hw.mono tpx (Ex.refl _) (Ex.refl _))))
            exact ⟨p0, _, dx, _, rfl, hp0, hC, hno, hlen, q1 σ _ _ _ (Ex.refl _) tp3 S3⟩
      · rw [if_neg hc] at q1; exact q1.elim
    | _ => exact q1.elim
end

end
section
open PySem L2 Evl

/-! ### comprehensions -/
def wipeG : Gm → List Nat → Gm
  | Γ, [] => Γ
  | Γ, v :: vs => (wipeG Γ vs).set v .n
def lcL (t : TgF) (tt : TF) (e : OF) (k : Kd) (Γ0 : Gm) : List D → Option (List OT)
  | [] => some []
  | d :: ds => match t k d Γ0 with
    | none => none
    | some Γ1 => match tt Γ1 with
      | .ok b Γ2 m => if m = 0 then if b = true then match e Γ2 with
          | .ok u _ m2 => if m2 = 0 then (lcL t tt e k Γ0 ds).map (u :: ·) else none
          | _ => none
        else lcL t tt e k Γ0 ds
        else none
      | _ => none
def lcL2 (t : TgF) (tt : TF) (it1 : AF) (t1 : TgF) (tt1 : TF) (e : OF) (vs1 : List Nat) (k : Kd) (Γ0 : Gm) : List D → Option (List OT)
  | [] => some []
  | d :: ds => match t k d Γ0 with
    | none => none
    | some Γ1 => match tt Γ1 with
      | .ok b Γ2 m => if m = 0 then if b = true then match it1 Γ2 with
          | .ok x Γ3 m2 => if m2 = 0 ∧ x.1 ≠ .h then match lcL t1 tt1 e x.1 (wipeG Γ3 vs1) x.2 with
            | some us => (lcL2 t tt it1 t1 tt1 e vs1 k Γ0 ds).map (us ++ ·)
            | none => none
            else none
          | _ => none
        else lcL2 t tt it1 t1 tt1 e vs1 k Γ0 ds
        else none
      | _ => none
def oLc (it : AF) (t : TgF) (tt : TF) (e : OF) (vs : List Nat) : OF := fun Γ => (it Γ).bind fun x Γ1 _ => match lcL t tt e x.1 (wipeG Γ1 vs) x.2 with
  | some ts => if decide (50000 < ts.length) = true then .no else .ok (.l ts) Γ1 0
  | none => .no
def oLc2 (it : AF) (t : TgF) (tt : TF) (it1 : AF) (t1 : TgF) (tt1 : TF) (e : OF) (vs vs1 : List Nat) : OF := fun Γ => (it Γ).bind fun x Γ1 _ => match lcL2 t tt it1 t1 tt1 e vs1 x.1 (wipeG Γ1 vs) x.2 with
  | some ts => if decide (50000 < ts.length) = true then .no else .ok (.l ts) Γ1 0
  | none => .no
section
variable {c : Ct} {W : WX} {te ta tb tc : TE} {f g h : EF} {p : PF} {o : OF} {fr : Fr} {σ σ' : L2.St} {F F' F'' H H' H'' F1 H1 : Hp} {Gx : Hp} {G G' G'' G1 : Nat → Hp} {Γ Γ' Γ1 : Gm} {D : Ends} {L : Addr} {ts : List OT}
theorem Sta.wipe (S : Sta c fr Γ σ F G H) : ∀ vs : List Nat, Sta c fr (wipeG Γ vs) (L2.wipe σ vs) F G H
  | [] => S
  | v :: vs => by
    have S1 := (S.wipe vs).setN v
    unfold wipeG L2.wipe
    refine ⟨by rw [List.length_set]; exact S1.len, S1.bh, S1.fh, S1.bf, S1.gh, S1.gb, S1.gf, S1.gg, S1.gm, fun j s hj => ?_⟩
    by_cases e : j = v
    · subst e
      by_cases hl : j < (wipeG Γ vs).length
      · rw [List.getElem?_set_self hl] at hj
        cases hj; trivial
      · rw [List.getElem?_eq_none (by rw [List.length_set]; omega)] at hj
        cases hj
    · exact (S1.sl j s hj).at_ (List.getElem?_set_ne (Ne.symm e)).symm
theorem wipe_at {m : Nat} : ∀ {vs : List Nat} {σ : L2.St}, m ∈ vs → (L2.wipe σ vs)[m]? = if m < σ.length then some none else none
  | [], σ, h => by cases h
  | v :: vs, σ, h => by
    unfold L2.wipe
    by_cases e : m = v
    · subst e
      by_cases hl : m < σ.length
      · rw [List.getElem?_set_self (by rw [wipe_length]; exact hl), if_pos hl]
      · rw [List.getElem?_eq_none (by rw [List.length_set, wipe_length]; omega), if_neg hl]
    · rw [List.getElem?_set_ne (Ne.symm e)]
      rcases List.mem_cons.mp h with z | z
      · exact absurd z e
      · exact wipe_at z
theorem wipe_same {vs gs : List Nat} {σ σ' : L2.St} (hk : ∀ i, i ∉ gs → σ'[i]? = σ[i]?) (hl : σ'.length = σ.length) (hs : ∀ i ∈ gs, i ∈ vs) : L2.wipe σ' vs = L2.wipe σ vs := by
  refine List.ext_getElem? fun m => ?_
  by_cases hm : m ∈ vs
  · rw [wipe_at hm, wipe_at hm, hl]
  · rw [wipe_out hm, wipe_out hm]
    exact hk m fun z => hm (hs m z)
theorem wipe_idem {vs : List Nat} {σ : L2.St} : L2.wipe (L2.wipe σ vs) vs = L2.wipe σ vs := by
  refine List.ext_getElem? fun m => ?_
  by_cases hm : m ∈ vs
  · rw [wipe_at hm, wipe_at hm, wipe_length]
  · rw [wipe_out hm]
theorem Tmp.at {p : Addr} {oo : HO} (hp : H p = some oo) (ho : ∀ xs, oo ≠ .tup xs) (b : fr.B p = none) (ff : F p = none) (gg : ∀ i, G i p = none) : Tmp fr F G H (one p oo) := by
  refine ⟨one_ex hp, fun a xs e => ?_, fun a z => ?_, fun a z => ?_, fun i a z => ?_⟩
  · have z := one_ne (some_ne e)
    subst z
    rw [show one a oo a = some oo from upd_same] at e
    cases e
    exact ho xs rfl
  · rw [one_ne z]; exact b
  · rw [one_ne z]; exact ff
  · rw [one_ne z]; exact gg i
/-- a list that is being built at L -/
structure Bld (c : Ct) (fr : Fr) (F1 : Hp) (G : Nat → Hp) (H1 : Hp) (L : Addr) (ts : List OT) (F' H' : Hp) : Prop where
  ex : ∃ NA xs, Ex H1 H' ∧ Ex F1 F' ∧ Ex F' H' ∧ (∀ a, F' a ≠ none → F1 a = none → H1 a = none) ∧ Tmp fr F' G H' NA ∧ (∀ a, NA a ≠ none → H1 a = none) ∧ H1 L = none ∧ F' L = none ∧ NA L = none ∧ H' L = some (.lst xs) ∧ OwL c H' F' NA xs ts
theorem Bld.sta (B : Bld c fr F1 G H1 L ts F' H') (S : Sta c fr Γ σ F1 G H1) : Sta c fr Γ σ F' G H' := by
  obtain ⟨NA, xs, e, f, fh, fn, tm, nf, h1, fL, nL, hL, ow⟩ := B.ex
  exact S.grow e f fh fn
theorem Bld.e (B : Bld c fr F1 G H1 L ts F' H') : Ex H1 H' ∧ Ex F1 F' := by
  obtain ⟨NA, xs, e, f, _⟩ := B.ex
  exact ⟨e, f⟩
theorem Bld.fL (B : Bld c fr F1 G H1 L ts F' H') : F' L = none := by
  obtain ⟨NA, xs, e, f, fh, fn, tm, nf, h1, fL, nL, hL, ow⟩ := B.ex
  exact fL
theorem Bld.len (B : Bld c fr F1 G H1 L ts F' H') : ∃ xs, H' L = some (.lst xs) ∧ xs.length = ts.length := by
  obtain ⟨NA, xs, e, f, fh, fn, tm, nf, h1, fL, nL, hL, ow⟩ := B.ex
  exact ⟨xs, hL, ow.len⟩
theorem Bld.start (S : Sta c fr Γ σ F1 G H1) (hL : H1 L = none) : Bld c fr F1 G H1 L [] F1 (upd H1 L (.lst [])) := by
  have e : Ex H1 (upd H1 L (.lst [])) := Ex.new hL
  exact ⟨H0, [], e, Ex.refl _, S.fh.trans e, fun a h1 h2 => absurd h2 h1, (Tmp.zero S).tr (Tr.heap S e), fun a z => absurd rfl z, hL, none_of_ex S.fh hL, rfl, upd_same, .nil⟩
/-- what a turn does to the heap: L apart, it grows -/
structure Gw (L : Addr) (F' H' F2 H2 : Hp) : Prop where
  f : Ex F' F2
  fn : ∀ a, F2 a ≠ none → F' a = none → H' a = none
  h : ∀ X : Hp, Ex X H' → X L = none → Ex X H2
theorem Gw.trans {F2 H2 F3 H3 : Hp} (a : Gw L F' H' F2 H2) (hF : F3 L = none) (b : Gw L F2 H2 F3 H3) : Gw L F' H' F3 H3 := by
  refine ⟨a.f.trans b.f, fun x z1 z2 => ?_, fun X e hx => b.h X (a.h X e hx) hx⟩
  by_cases w : F2 x = none
  · have q := b.fn x z1 w
    refine Classical.byContradiction fun q2 => ?_
    obtain ⟨o, eo⟩ := ne_some q2
    have hl : x ≠ L := fun z => by subst z; exact z1 hF
    have e1 : Ex (one x o) H2 := a.h _ (one_ex eo) (upd_ne (Ne.symm hl))
    rw [e1 x o upd_same] at q; cases q
  · exact a.fn x w z2
theorem Bld.gw {Γ2 Γ3 : Gm} {σ2 : L2.St} {G2 : Nat → Hp} (S3 : Sta c fr Γ3 σ2 F'' G2 H'') (t : Tr F' G2 H' F'' G2 H'') (e : Ex H' H'') : Gw L F' H' F'' H'' :=
  ⟨t.f, fun a z1 z2 => by
    rcases t.fn a z1 z2 with w | ⟨j, w⟩
    · exact w
    · exact absurd (S3.gf j a w) z1, fun X ex _ => ex.trans e⟩
/-- something still happens, in a state that owns no more -/
theorem Bld.step (B : Bld c fr F1 G H1 L ts F' H') {Γ2 Γ3 : Gm} {σ2 : L2.St} {G2 : Nat → Hp} (S2 : Sta c fr Γ2 σ2 F' G2 H') (hG : ∀ i, G2 i = G i ∨ G2 i = H0) (S3 : Sta c fr Γ3 σ2 F'' G2 H'') (t : Tr F' G2 H' F'' G2 H'') (e : Ex H' H'') : Bld c fr F1 G H1 L ts F'' H'' := by
  obtain ⟨NA, xs, e1, f1, fh, fn, tm, nf, h1, fL, nL, hL, ow⟩ := B.ex
  have new : ∀ a, F'' a ≠ none → F' a = none → H' a = none := fun a z1 z2 => by
    rcases t.fn a z1 z2 with w | ⟨j, w⟩
    · exact w
    · exact absurd (S3.gf j a w) z1
  refine ⟨NA, xs, e1.trans e, f1.trans t.f, S3.fh, fun a z1 z2 => ?_, ⟨tm.h.trans e, tm.m, tm.b, fun a z => ?_, tm.g⟩, nf, h1, ?_, nL, e _ _ hL, ow.mono (Tp.of e) t.f (Ex.refl _)⟩
  · by_cases w : F' a = none
    · exact none_of_ex e1 (new a z1 w)
    · exact fn a w z2
  · refine Classical.byContradiction fun q => ?_
    exact ex_ne tm.h z (new a q (tm.f a z))
  · refine Classical.byContradiction fun q => ?_
    have := new L q fL
    rw [hL] at this; cases this
theorem Bld.heap (B : Bld c fr F1 G H1 L ts F' H') (e : Ex H' H'') : Bld c fr F1 G H1 L ts F' H'' := by
  obtain ⟨NA, xs, e1, f1, fh, fn, tm, nf, h1, fL, nL, hL, ow⟩ := B.ex
  exact ⟨NA, xs, e1.trans e, f1, fh.trans e, fn, ⟨tm.h.trans e, tm.m, tm.b, tm.f, tm.g⟩, nf, h1, fL, nL, e _ _ hL, ow.mono (Tp.of e) (Ex.refl _) (Ex.refl _)⟩
/-- a further item -/
theorem Bld.add (B : Bld c fr F1 G H1 L ts F' H') {Γ2 Γ3 : Gm} {σ2 : L2.St} {G2 : Nat → Hp} {N : Hp} {v : V} {u : OT} (S2 : Sta c fr Γ2 σ2 F' G2 H') (hG : ∀ i, G2 i = G i ∨ G2 i = H0) (S3 : Sta c fr Γ3 σ2 F'' G2 H'') (t : Tr F' G2 H' F'' G2 H'') (e : Ex H' H'')
    (hn : Tmp fr F'' G2 H'' N) (ho : ∀ a, N a ≠ none → H' a = none ∨ ∃ j, G2 j a ≠ none) (hw : Ow c H'' F'' N v u) (S1 : Sta c fr Γ σ F1 G H1) :
    ∃ xs, H'' L = some (.lst xs) ∧ xs.length = ts.length ∧ Bld c fr F1 G H1 L (ts ++ [u]) F'' (upd H'' L (.lst (xs ++ [v]))) ∧ Gw L F' H' F'' (upd H'' L (.lst (xs ++ [v]))) := by
  have B' := B.step S2 hG S3 t e
  obtain ⟨NA, xs, e1, f1, fh, fn, tm, nf, h1, fL, nL, hL, ow⟩ := B.ex
  have new : ∀ a, F'' a ≠ none → F' a = none → H' a = none := fun a z1 z2 => by
    rcases t.fn a z1 z2 with w | ⟨j, w⟩
    · exact w
    · exact absurd (S3.gf j a w) z1
  have fL2 : F'' L = none := Classical.byContradiction fun q => by
    have := new L q fL
    rw [hL] at this; cases this
  have nfr : ∀ a, N a ≠ none → H' a = none := fun a z => by
    rcases ho a z with w | ⟨j, w⟩
    · exact w
    · exact absurd (hn.g j a z) w
  have nL2 : N L = none := Classical.byContradiction fun z => by
    have := nfr L z
    rw [hL] at this; cases this
  have nG : ∀ i, Ap N (G i) := fun i a z => Classical.byContradiction fun w => by
    exact ex_ne (S1.gh i) w (none_of_ex e1 (nfr a z))
  have gL : ∀ i, G i L = none := fun i => none_of_ex (S1.gh i) h1
  have ap : Ap NA N := fun a z => Classical.byContradiction fun w => ex_ne tm.h z (nfr a w)
  have hL2 := e _ _ hL
  have off : ∀ {X : Hp}, Ex X H'' → X L = none → Ex X (upd H'' L (.lst (xs ++ [v]))) := fun {X} e hx b o q => by
    rw [upd_ne (fun z => by subst z; rw [hx] at q; cases q)]; exact e b o q
  have tp : Tp H'' (upd H'' L (.lst (xs ++ [v]))) := tp_upd hL2 fun xs z => nomatch z
  have ta : Tmp fr F'' G H'' NA := ⟨tm.h.trans e, tm.m, tm.b, fun a z => Classical.byContradiction fun q => ex_ne tm.h z (new a q (tm.f a z)), tm.g⟩
  have tn : Tmp fr F'' G H'' N := ⟨hn.h, hn.m, hn.b, hn.f, nG⟩
  have tu := ta.un tn
  have uL : un NA N L = none := by unfold un; rw [nL2]; exact nL
  refine ⟨xs, hL2, ow.len, ⟨un NA N, xs ++ [v], off (e1.trans e) h1, f1.trans t.f, off S3.fh fL2, fun a z1 z2 => ?_, ⟨off tu.h uL, tu.m, tu.b, tu.f, tu.g⟩, fun a z => ?_, h1, fL2, uL, upd_same, ?_⟩, ⟨t.f, new, fun X ex hx => off (ex.trans e) hx⟩⟩
  · by_cases w : F' a = none
    · exact none_of_ex e1 (new a z1 w)
    · exact fn a w z2
  · rcases un_or z with w | w
    · exact none_of_ex e1 (nfr a w)
    · exact nf a w
  · exact (ow.mono ((Tp.of e).trans tp) t.f (Ex.refl _)).snoc ap (hw.mono tp (Ex.refl _) (Ex.refl _))
/-- one turn of a comprehension -/
theorem lc_turn {tt : TT} {p : TF} {tg : TgF} {gg : TG} {gs vs : List Nat} {k : Kd} {d : NV.D} {ds : List NV.D} {x : V} {Nx : Hp → Prop} {us : List OT} {Γo : Gm} {σo : L2.St} (hg : SndG c gg tg gs) (ht : SndT c W tt p) (he : SndO c W te o) (hsub : ∀ i ∈ gs, i ∈ vs)
    (So : Sta c fr Γo σo F1 G H1) (S1 : Sta c fr Γ σ F' G' H') (hG : ∀ i, G' i = G i ∨ G' i = H0) (B : Bld c fr F1 G H1 L ts F' H') (ix : IsK c fr.B F' H' x d k) (hl : lcL tg p o k (wipeG Γ vs) (d :: ds) = some us)
    (yes : ∀ u us' F2 H2, lcL tg p o k (wipeG Γ vs) ds = some us' → us = u :: us' → Bld c fr F1 G H1 L (ts ++ [u]) F2 H2 → Gw L F' H' F2 H2 → Nx H2)
    (no : lcL tg p o k (wipeG Γ vs) ds = some us → ∀ F2 H2, Bld c fr F1 G H1 L ts F2 H2 → Gw L F' H' F2 H2 → Nx H2) (hlen : ts.length < 100000) :
    gg x (L2.wipe σ vs) H' fun σ2 H2 => L2.wipe σ2 vs = L2.wipe σ vs ∧ tt σ2 H2 fun b H3 =>
      if b = true then te σ2 H3 fun y H4 => ∃ acc, H4 L = some (.lst acc) ∧ acc.length < sizeLine ∧ Nx (upd H4 L (.lst (acc ++ [y]))) else Nx H3 := by
  unfold lcL at hl
  cases et : tg k d (wipeG Γ vs) with
  | none => rw [et] at hl; cases hl
  | some Γ2 =>
    rw [et] at hl
    dsimp only at hl
    have S0 := S1.wipe vs
    refine hg fr _ _ F' G' H' k d x Γ2 S0 ix et _ fun σ2 G2 S2 k2 l2 g2' => ?_
    have g2 : ∀ i, G2 i = G i ∨ G2 i = H0 := fun i => by
      rcases g2' i with w | w
      · rw [w]; exact hG i
      · exact .inr w
    refine ⟨?_, ?_⟩
    · rw [wipe_same k2 l2 hsub, wipe_idem]
    refine ht fr Γ2 σ2 F' G2 H' S2 _ ?_
    cases ep : p Γ2 with
    | no => rw [ep] at hl; cases hl
    | ex _ _ => rw [ep] at hl; cases hl
    | ok b Γ3 m =>
      rw [ep] at hl
      dsimp only at hl
      intro F3 G3 H3 S3 t3 s3
      by_cases hm : m = 0
      · subst hm
        rw [if_pos rfl] at hl
        have eG := s3.2 rfl
        subst eG
        have e3 := s3.1 (by decide)
        have B3 := B.step S2 g2 S3 t3 e3
        cases b with
        | false =>
          refine iteF ?_
          rw [if_neg (by decide)] at hl
          exact no hl F3 H3 B3 (Bld.gw (Γ2 := Γ2) S3 t3 e3)
        | true =>
          refine iteT ?_
          rw [if_pos rfl] at hl
          refine he fr Γ3 σ2 F3 G3 H3 S3 _ ?_
          cases eo : o Γ3 with
          | no => rw [eo] at hl; cases hl
          | ex _ _ => rw [eo] at hl; cases hl
          | ok u Γ4 m2 =>
            rw [eo] at hl
            dsimp only at hl
            intro F4 G4 H4 S4 t4 s4 v N hn hor hw
            by_cases hm2 : m2 = 0
            · subst hm2
              rw [if_pos rfl] at hl
              have eG := s4.2 rfl
              subst eG
              have e4 := s4.1 (by decide)
              obtain ⟨xs, h1, h2, B5, gw5⟩ := B3.add S3 g2 S4 t4 e4 hn hor hw So
              cases er : lcL tg p o k (wipeG Γ vs) ds with
              | none => rw [er] at hl; cases hl
              | some us' =>
                rw [er] at hl
                simp only [Option.map_some, Option.some.injEq] at hl
                exact ⟨xs, h1, sz_lt (by rw [h2]; exact hlen), yes u us' F4 _ er hl.symm B5 ((Bld.gw (L := L) (Γ2 := Γ2) S3 t3 e3).trans B5.fL gw5)⟩
            · rw [if_neg hm2] at hl; cases hl
      · rw [if_neg hm] at hl; cases hl
theorem Mh_ex2 (S1 : Sta c fr Γ σ F1 G H1) {k : Kd} (B : Bld c fr F1 G H1 L ts F' H') : Ex (Mh k fr.B F1 H1) H' := by
  have S' := B.sta S1
  cases k with
  | f => exact B.e.2.trans S'.fh
  | r => exact un_ex S'.bh (B.e.2.trans S'.fh)
  | h => exact B.e.1
theorem isk_of (S1 : Sta c fr Γ σ F1 G H1) {k : Kd} {x : V} {d : NV.D} (B : Bld c fr F1 G H1 L ts F' H') (hx : Is c H' (Mh k fr.B F1 H1) x d) : IsK c fr.B F' H' x d k := by
  have S' := B.sta S1
  cases k with
  | f => exact hx.mono (Tp.refl _) B.e.2
  | r => exact hx.mono (Tp.refl _) (un_mono B.e.2 S'.bf)
  | h => exact hx.mono (Tp.refl _) B.e.1
theorem lc_end {Q : VK} {Fo Ho : Hp} {Go : Nat → Hp} (S1 : Sta c fr Γ1 σ F1 G1 H1) (t1 : Tr Fo Go Ho F1 G1 H1) (B : Bld c fr F1 G1 H1 L ts F' H')
    (q1 : (Er.ok (OT.l ts) Γ1 0).post c W fr σ F1 G1 H1 (fun t F' G' H' => ∀ v N, Tmp fr F' G' H' N → (∀ a, N a ≠ none → Ho a = none ∨ ∃ j, Go j a ≠ none) → Ow c H' F' N v t → Q v H')) : Q (.ref L) H' := by
  have S' := B.sta S1
  obtain ⟨NA, xs, e, f, fh, fn, tm, nf, h1, fL, nL, hL2, ow⟩ := B.ex
  have bL : fr.B L = none := none_of_ex S1.bh h1
  have gL : ∀ i, G1 i L = none := fun i => none_of_ex (S1.gh i) h1
  have tL : Tmp fr F' G1 H' (one L (.lst xs)) := Tmp.at hL2 (fun ys z => nomatch z) bL fL gL
  refine q1 F' G1 H' S' (Tr.grow S1 e f fn) (Stl.e e) (.ref L) (un NA (one L (.lst xs))) (tm.un tL) (fun a z => ?_) ?_
  · rcases un_or z with w | w
    · rw [one_ne w]; exact t1.back h1
    · exact t1.back (nf a w)
  · exact .l (G0 := NA) (un_l L _ upd_same) nL (un_r fun a z => by rw [one_ne z]; exact nL) ow
theorem snd_lc {wi : TI} {it : AF} {tt : TT} {pt : TF} {tg : TgF} {gg : TG} {gs vs : List Nat} (hi : SndI c W wi it) (hg : SndG c gg tg gs) (ht : SndT c W tt pt) (he : SndO c W te o) (hsub : ∀ i ∈ gs, i ∈ vs) : SndO c W (tLc wi gg tt te vs) (oLc it tg pt o vs) := fun fr Γ σ F G H S Q q => by
  refine hi fr Γ σ F G H S _ (post_bind S q fun x Γ1 m1 F1 G1 H1 _ S1 t1 s1 q1 J hJ L hL => ?_)
  obtain ⟨k, ds⟩ := x
  dsimp only at q1 hJ
  cases el : lcL tg pt o k (wipeG Γ1 vs) ds with
  | none => rw [el] at q1; exact q1.elim
  | some all =>
    rw [el] at q1
    obtain ⟨hlen, q1⟩ := post_if q1
    have hlen : all.length ≤ 50000 := by have := of_decide_eq_false hlen; omega
    refine ⟨fun i m H' => m = ds.length - i ∧ i ≤ ds.length ∧ ∃ F' ts us, Bld c fr F1 G1 H1 L ts F' H' ∧ lcL tg pt o k (wipeG Γ1 vs) (ds.drop i) = some us ∧ all = ts ++ us, ⟨ds.length, by simp, Nat.zero_le _, F1, [], all, Bld.start S1 hL, el, rfl⟩, ?_⟩
    rintro i m H' ⟨rfl, hi, F', ts, us, B, eus, eall⟩
    obtain ⟨hst, hgo⟩ := hJ H' (Mh_ex2 S1 B) (Tp.of B.e.1)
    by_cases hl : i = ds.length
    · subst hl
      rw [List.drop_length] at eus
      unfold lcL at eus
      cases eus
      rw [List.append_nil] at eall
      subst eall
      exact .inl ⟨hst, lc_end S1 t1 B q1⟩
    · have hlt : i < ds.length := by omega
      obtain ⟨d, hd⟩ : ∃ d, ds[i]? = some d := ⟨_, List.getElem?_eq_getElem hlt⟩
      obtain ⟨g1, g2⟩ := hgo i d hd
      rw [List.drop_eq_getElem_cons hlt] at eus
      have hde : ds[i] = d := by rw [List.getElem?_eq_getElem hlt] at hd; exact Option.some.inj hd
      rw [hde] at eus
      refine .inr ⟨g1, fun H2 => ∃ F2 ts us, Bld c fr F1 G1 H1 L ts F2 H2 ∧ lcL tg pt o k (wipeG Γ1 vs) (ds.drop (i + 1)) = some us ∧ all = ts ++ us, fun H2 z => ⟨ds.length - (i + 1), by omega, rfl, hlt, z⟩, fun x H2 hy => ?_⟩
      obtain ⟨e2, hx⟩ := g2 x H2 hy
      have B2 := B.heap e2
      have hts : ts.length < 100000 := by
        have : (ts ++ us).length ≤ 50000 := by rw [← eall]; exact hlen
        rw [List.length_append] at this
        omega
      exact lc_turn hg ht he hsub S1 (B2.sta S1) (fun _ => .inl rfl) B2 (isk_of S1 B2 hx) eus (fun u us' F3 H3 h1 h2 B3 _ => ⟨F3, ts ++ [u], us', B3, h1, by rw [eall, h2]; simp⟩) (fun h1 F3 H3 B3 _ => ⟨F3, ts, us, B3, h1, eall⟩) hts
theorem snd_lc2 {wi wi1 : TI} {it it1 : AF} {tt tt1 : TT} {pt pt1 : TF} {tg tg1 : TgF} {gg gg1 : TG} {gs gs1 vs vs1 : List Nat} (hi : SndI c W wi it) (hg : SndG c gg tg gs) (ht : SndT c W tt pt) (hi1 : SndI c W wi1 it1) (hg1 : SndG c gg1 tg1 gs1) (ht1 : SndT c W tt1 pt1) (he : SndO c W te o) (hsub : ∀ i ∈ gs, i ∈ vs) (hsub1 : ∀ i ∈ gs1, i ∈ vs1) : SndO c W (tLc2 wi gg tt wi1 gg1 tt1 te vs vs1) (oLc2 it tg pt it1 tg1 pt1 o vs vs1) := fun fr Γ σ F G H S Q q => by
  refine hi fr Γ σ F G H S _ (post_bind S q fun x Γ1 m1 F1 G1 H1 _ S1 t1 s1 q1 J hJ L hL => ?_)
  obtain ⟨k, ds⟩ := x
  dsimp only at q1 hJ
  cases el : lcL2 tg pt it1 tg1 pt1 o vs1 k (wipeG Γ1 vs) ds with
  | none => rw [el] at q1; exact q1.elim
  | some all =>
    rw [el] at q1
    obtain ⟨hlen, q1⟩ := post_if q1
    have hlen : all.length ≤ 50000 := by have := of_decide_eq_false hlen; omega
    refine ⟨fun i m H' => m = ds.length - i ∧ i ≤ ds.length ∧ ∃ F' ts us, Bld c fr F1 G1 H1 L ts F' H' ∧ lcL2 tg pt it1 tg1 pt1 o vs1 k (wipeG Γ1 vs) (ds.drop i) = some us ∧ all = ts ++ us, ⟨ds.length, by simp, Nat.zero_le _, F1, [], all, Bld.start S1 hL, el, rfl⟩, ?_⟩
    rintro i m H' ⟨rfl, hi, F', ts, us, B, eus, eall⟩
    obtain ⟨hst, hgo⟩ := hJ H' (Mh_ex2 S1 B) (Tp.of B.e.1)
    by_cases hl : i = ds.length
    · subst hl
      rw [List.drop_length] at eus
      unfold lcL2 at eus
      cases eus
      rw [List.append_nil] at eall
      subst eall
      exact .inl ⟨hst, lc_end S1 t1 B q1⟩
    · have hlt : i < ds.length := by omega
      obtain ⟨d, hd⟩ : ∃ d, ds[i]? = some d := ⟨_, List.getElem?_eq_getElem hlt⟩
      obtain ⟨g1, g2⟩ := hgo i d hd
      rw [List.drop_eq_getElem_cons hlt] at eus
      have hde : ds[i] = d := by rw [List.getElem?_eq_getElem hlt] at hd; exact Option.some.inj hd
      rw [hde] at eus
      refine .inr ⟨g1, fun H2 => ∃ F2 ts us, Bld c fr F1 G1 H1 L ts F2 H2 ∧ lcL2 tg pt it1 tg1 pt1 o vs1 k (wipeG Γ1 vs) (ds.drop (i + 1)) = some us ∧ all = ts ++ us, fun H2 z => ⟨ds.length - (i + 1), by omega, rfl, hlt, z⟩, fun x H2 hy => ?_⟩
      obtain ⟨e2, hx⟩ := g2 x H2 hy
      have B2 := B.heap e2
      have hts : ts.length ≤ 50000 := by
        have : (ts ++ us).length ≤ 50000 := by rw [← eall]; exact hlen
        rw [List.length_append] at this
        omega
      -- the outer target and test
      unfold lcL2 at eus
      cases et : tg k d (wipeG Γ1 vs) with
      | none => rw [et] at eus; cases eus
      | some Γ2 =>
        rw [et] at eus
        dsimp only at eus
        refine hg fr _ _ F' G1 H2 k d x Γ2 ((B2.sta S1).wipe vs) (isk_of S1 B2 hx) et _ fun σ2 G2 S2 k2 l2 gg2 => ?_
        refine ⟨by rw [wipe_same k2 l2 hsub, wipe_idem], ?_⟩
        refine ht fr Γ2 σ2 F' G2 H2 S2 _ ?_
        cases ep : pt Γ2 with
        | no => rw [ep] at eus; cases eus
        | ex _ _ => rw [ep] at eus; cases eus
        | ok b Γ3 m =>
          rw [ep] at eus
          dsimp only at eus
          intro F3 G3 H3 S3 t3 s3
          by_cases hm : m = 0
          · subst hm
            rw [if_pos rfl] at eus
            have eG := s3.2 rfl
            subst eG
            have e3 := s3.1 (by decide)
            have B3 := B2.step S2 gg2 S3 t3 e3
            cases b with
            | false =>
              refine iteF ?_
              rw [if_neg (by decide)] at eus
              exact ⟨F3, ts, us, B3, eus, eall⟩
            | true =>
              refine iteT ?_
              rw [if_pos rfl] at eus
              refine hi1 fr Γ3 σ2 F3 G3 H3 S3 _ ?_
              cases ei : it1 Γ3 with
              | no => rw [ei] at eus; cases eus
              | ex _ _ => rw [ei] at eus; cases eus
              | ok y Γ4 m2 =>
                obtain ⟨k1, ds1⟩ := y
                rw [ei] at eus
                dsimp only at eus
                intro F4 G4 H4 S4 t4 s4 J1 hJ1
                dsimp only at hJ1
                by_cases hm2 : m2 = 0 ∧ k1 ≠ .h
                · rw [if_pos hm2] at eus
                  obtain ⟨hm2, hk1⟩ := hm2
                  subst hm2
                  have eG := s4.2 rfl
                  subst eG
                  have e4 := s4.1 (by decide)
                  have B4 := B3.step S3 gg2 S4 t4 e4
                  cases el1 : lcL tg1 pt1 o k1 (wipeG Γ4 vs1) ds1 with
                  | none => rw [el1] at eus; cases eus
                  | some ws =>
                    rw [el1] at eus
                    dsimp only at eus
                    cases er : lcL2 tg pt it1 tg1 pt1 o vs1 k (wipeG Γ1 vs) (ds.drop (i + 1)) with
                    | none => rw [er] at eus; cases eus
                    | some rest =>
                      rw [er] at eus
                      simp only [Option.map_some, Option.some.injEq] at eus
                      subst eus
                      obtain ⟨xs4, hL4, _⟩ := B4.len
                      have fL4 := B4.fL
                      -- the inner state, whatever L holds
                      have Hb : Sta c fr Γ4 σ2 F4 G4 (mins H4 (one L (.lst xs4))) := by
                        obtain ⟨NA, xs, eb, fb, fhb, fnb, tmb, nfb, h1b, fLb, nLb, hLb, owb⟩ := B4.ex
                        have tpb : Tp H4 (mins H4 (one L (.lst xs4))) := fun a ys e => by
                          rw [mins_none]
                          · exact e
                          · refine Classical.byContradiction fun z => ?_
                            rw [one_ne z, hL4] at e; cases e
                        have offb : ∀ {X : Hp}, Ex X H4 → X L = none → Ex X (mins H4 (one L (.lst xs4))) := fun {X} e hx => ex_mins e fun a z => by rw [one_ne z]; exact hx
                        have gL4 : ∀ j, G4 j L = none := fun j => by
                          rcases gg2 j with w | w
                          · rw [w]; exact none_of_ex (S1.gh j) h1b
                          · rw [w]
                        refine ⟨S4.len, offb S4.bh (none_of_ex S1.bh h1b), offb S4.fh fL4, S4.bf, fun j => offb (S4.gh j) (gL4 j), S4.gb, S4.gf, S4.gg, S4.gm, fun j s hs => ?_⟩
                        have o := S4.sl j s hs
                        cases s with
                        | n => trivial
                        | f d => obtain ⟨v, h1, h2⟩ := o; exact ⟨v, h1, h2.mono tpb (Ex.refl _)⟩
                        | r d => obtain ⟨v, h1, h2⟩ := o; exact ⟨v, h1, h2.mono tpb (Ex.refl _)⟩
                        | o t => obtain ⟨v, h1, h2⟩ := o; exact ⟨v, h1, h2.mono tpb (Ex.refl _) (Ex.refl _)⟩
                        | p t => obtain ⟨v, h0, h1, h2⟩ := o; exact ⟨v, h0, h1, h2.mono tpb (Ex.refl _) (Ex.refl _)⟩
                      have grown : ∀ {F5 H5 : Hp} {ts5 : List OT}, Bld c fr F1 G1 H1 L ts5 F5 H5 → Gw L F4 H4 F5 H5 → Sta c fr Γ4 σ2 F5 G4 H5 := fun {F5 H5 ts5} B5 gw => by
                        refine Hb.grow (gw.h _ mins_ex (mins_some (by rw [show one L (HO.lst xs4) L = some (.lst xs4) from upd_same]; simp))) gw.f ?_ fun a z1 z2 => ?_
                        · obtain ⟨NA, xs, eb, fb, fhb, _⟩ := B5.ex
                          exact fhb
                        · have := gw.fn a z1 z2
                          by_cases w : one L (HO.lst xs4) a = none
                          · rw [mins_none w]; exact this
                          · exact mins_some w
                      have stay : ∀ {F5 H5 : Hp} {ts5 : List OT}, Bld c fr F1 G1 H1 L ts5 F5 H5 → Gw L F4 H4 F5 H5 → Ex (Mh k1 fr.B F4 H4) H5 ∧ Tp H4 H5 := fun {F5 H5 ts5} B5 gw => by
                        have S5 := grown B5 gw
                        refine ⟨?_, fun a ys e => ?_⟩
                        · cases k1 with
                          | f => exact gw.f.trans S5.fh
                          | r => exact un_ex S5.bh (gw.f.trans S5.fh)
                          | h => exact absurd rfl hk1
                        · have : a ≠ L := fun z => by subst z; rw [hL4] at e; cases e
                          exact gw.h (one a (.tup ys)) (one_ex e) (upd_ne (Ne.symm this)) a _ upd_same
                      have idGw : Gw L F4 H4 F4 H4 := ⟨Ex.refl _, fun a z1 z2 => absurd z2 z1, fun X e _ => e⟩
                      refine ⟨fun j m H5 => m = ds1.length - j ∧ j ≤ ds1.length ∧ ∃ F5 ts5 ws5, Bld c fr F1 G1 H1 L ts5 F5 H5 ∧ Gw L F4 H4 F5 H5 ∧ lcL tg1 pt1 o k1 (wipeG Γ4 vs1) (ds1.drop j) = some ws5 ∧ all = ts5 ++ (ws5 ++ rest), ⟨ds1.length, by simp, Nat.zero_le _, F4, ts, ws, B4, idGw, el1, eall⟩, ?_⟩
                      rintro j m H5 ⟨rfl, hj, F5, ts5, ws5, B5, gw5, e5, eall5⟩
                      obtain ⟨st1, st2⟩ := stay B5 gw5
                      obtain ⟨hst1, hgo1⟩ := hJ1 H5 st1 st2
                      by_cases hl1 : j = ds1.length
                      · subst hl1
                        rw [List.drop_length] at e5
                        unfold lcL at e5
                        cases e5
                        exact .inl ⟨hst1, F5, ts5, rest, B5, rfl, by simpa using eall5⟩
                      · have hlt1 : j < ds1.length := by omega
                        obtain ⟨d1, hd1⟩ : ∃ d, ds1[j]? = some d := ⟨_, List.getElem?_eq_getElem hlt1⟩
                        obtain ⟨g3, g4⟩ := hgo1 j d1 hd1
                        rw [List.drop_eq_getElem_cons hlt1] at e5
                        have hde1 : ds1[j] = d1 := by rw [List.getElem?_eq_getElem hlt1] at hd1; exact Option.some.inj hd1
                        rw [hde1] at e5
                        refine .inr ⟨g3, fun H6 => ∃ F6 ts6 ws6, Bld c fr F1 G1 H1 L ts6 F6 H6 ∧ Gw L F4 H4 F6 H6 ∧ lcL tg1 pt1 o k1 (wipeG Γ4 vs1) (ds1.drop (j + 1)) = some ws6 ∧ all = ts6 ++ (ws6 ++ rest), fun H6 z => ⟨ds1.length - (j + 1), by omega, rfl, hlt1, z⟩, fun x1 H6 hy1 => ?_⟩
                        obtain ⟨e6, hx1⟩ := g4 x1 H6 hy1
                        have B6 := B5.heap e6
                        have gw6 : Gw L F4 H4 F5 H6 := ⟨gw5.f, gw5.fn, fun X e hx => (gw5.h X e hx).trans e6⟩
                        have S6 := grown B6 gw6
                        have hts5 : ts5.length < 100000 := by
                          have : (ts5 ++ (ws5 ++ rest)).length ≤ 50000 := by rw [← eall5]; exact hlen
                          rw [List.length_append] at this
                          omega
                        have ix1 : IsK c fr.B F5 H6 x1 d1 k1 := by
                          cases k1 with
                          | f => exact hx1.mono (Tp.refl _) gw5.f
                          | r => exact hx1.mono (Tp.refl _) (un_mono gw5.f S6.bf)
                          | h => exact absurd rfl hk1
                        exact lc_turn hg1 ht1 he hsub1 S1 S6 gg2 B6 ix1 e5 (fun u us' F7 H7 h1 h2 B7 gw7 => ⟨F7, ts5 ++ [u], us', B7, gw6.trans B7.fL gw7, h1, by rw [eall5, h2]; simp⟩) (fun h1 F7 H7 B7 gw7 => ⟨F7, ts5, ws5, B7, gw6.trans B7.fL gw7, h1, eall5⟩) hts5
                · rw [if_neg hm2] at eus; cases eus
          · rw [if_neg hm] at eus; cases eus
end

end
section
open PySem L2 Evl

/-! ### defs -/
inductive Arg where
  /-- read; changed in place -/
  | d (d : D) | o (t : OT)
inductive FO where
  | ok (t : OT) (us : List OT) | ex (e : Xn) (us : List OT) | no
abbrev FM := List Arg → FO
def Arg.slot : Arg → Slot
  | .d a => .r a
  | .o a => .p a
/-- what the caller finds behind it -/
def outsOf : List Arg → Gm → Option (List OT)
  | [], _ => some []
  | .d _ :: as, _ :: Γ => outsOf as Γ
  | .o _ :: as, .p t :: Γ => (outsOf as Γ).map (t :: ·)
  | _, _ => none
def outG : List Arg → List OT → Gm
  | [], _ => []
  | .d _ :: as, us => .n :: outG as us
  | .o _ :: as, u :: us => .p u :: outG as us
  | .o _ :: as, [] => .n :: outG as []
def finO (as : List Arg) (t : OT) (Γ : Gm) : FO := match outsOf as Γ with
  | some us => .ok t us
  | none => .no
def finX (as : List Arg) (e : Xn) (Γ : Gm) : FO := match outsOf as Γ with
  | some us => .ex e us
  | none => .no
/-- a def by its body; n further slots -/
def xRun (k n : Nat) (b : SF) : FM := fun as => if as.length ≠ k then .no else match b (as.map Arg.slot ++ List.replicate n .n) with
  | .nx Γ => finO as (.fz .n) Γ
  | .rt t Γ => finO as t Γ
  | .ex e Γ => finX as e Γ
  | _ => .no
def FO.post (c : Ct) (fr : Fr) (as : List Arg) (vs : List V) (F H : Hp) (Q : VK) (E : XK) : FO → Prop
  | .ok t us => ∀ v F' G' H' N, Ex F F' → Tp H H' → Sta c fr (outG as us) (vs.map some) F' G' H' → Tmp fr F' G' H' N → Ow c H' F' N v t → Q v H'
  | .ex e us => ∀ F' G' H' cls dd, Ex F F' → Tp H H' → Sta c fr (outG as us) (vs.map some) F' G' H' → IsX c H' e cls dd → E cls dd H'
  | .no => False
/-- the promise of a def that computes x -/
def SpF (c : Ct) (x : FM) : Sp := fun vs H Q E => ∃ as fr F G, Sta c fr (as.map Arg.slot) (vs.map some) F G H ∧ (x as).post c fr as vs F H Q E
section
variable {c : Ct} {W : WX} {t : TS} {b : SF} {fr : Fr} {σ σ' : L2.St} {F F' H H' : Hp} {G G' : Nat → Hp} {Γ Γ' : Gm} {as : List Arg} {vs : List V} {us : List OT}
theorem outs_ok : ∀ {as : List Arg} {Γ : Gm} {us : List OT}, outsOf as Γ = some us → ∀ (i : Nat) s, (outG as us)[i]? = some s → s = .n ∨ Γ[i]? = some s ∧ ∃ t, s = .p t
  | [], Γ, us, h, i, s, hs => by simp [outG] at hs
  | .d _ :: as, [], us, h, i, s, hs => by unfold outsOf at h; cases h
  | .d _ :: as, g :: Γ, us, h, 0, s, hs => by unfold outG at hs; simp at hs; exact .inl hs.symm
  | .d _ :: as, g :: Γ, us, h, i + 1, s, hs => by
    unfold outsOf at h
    unfold outG at hs
    have := outs_ok h i s (by simpa using hs)
    simpa using this
  | .o _ :: as, [], us, h, i, s, hs => by unfold outsOf at h; cases h
  | .o _ :: as, g :: Γ, us, h, i, s, hs => by
    cases g with
    | p t =>
      unfold outsOf at h
      cases h1 : outsOf as Γ with
      | none => rw [h1] at h; cases h
      | some us' =>
        rw [h1] at h; cases h
        unfold outG at hs
        cases i with
        | zero => simp at hs; subst hs; exact .inr ⟨rfl, t, rfl⟩
        | succ i =>
          have := outs_ok h1 i s (by simpa using hs)
          simpa using this
    | _ => unfold outsOf at h; cases h
theorem outG_len : ∀ {as : List Arg} {us : List OT}, (outG as us).length = as.length
  | [], _ => rfl
  | .d _ :: as, us => by unfold outG; rw [List.length_cons, List.length_cons, outG_len]
  | .o _ :: as, u :: us => by unfold outG; rw [List.length_cons, List.length_cons, outG_len]
  | .o _ :: as, [] => by unfold outG; rw [List.length_cons, List.length_cons, outG_len]
/-- the state that the caller finds -/
theorem Sta.outs (S : Sta c fr Γ σ F G H) (ho : outsOf as Γ = some us) (hl : as.length = vs.length) (hp : ∀ (i : Nat) v, vs[i]? = some v → fr.pv i = some v) : Sta c fr (outG as us) (vs.map some) F G H := by
  refine ⟨by rw [List.length_map, outG_len, hl], S.bh, S.fh, S.bf, S.gh, S.gb, S.gf, S.gg, S.gm, fun i s hs => ?_⟩
  rcases outs_ok ho i s hs with e | ⟨e1, t, e2⟩
  · subst e; trivial
  · subst e2
    obtain ⟨v, h0, h1, h2⟩ := S.sl i _ e1
    have hi : i < vs.length := by
      have := (List.getElem?_eq_some_iff.mp hs).1
      rw [outG_len, hl] at this
      exact this
    obtain ⟨w, hw⟩ : ∃ w, vs[i]? = some w := ⟨_, List.getElem?_eq_getElem hi⟩
    have := hp i w hw
    rw [h0] at this; cases this
    exact ⟨v, h0, by rw [List.getElem?_map, hw]; rfl, h2⟩
theorem entry {N : List Str} {k n : Nat} {Q : VK} {E : XK} (hs : SndS c W t b) (hN : N.length = k + n) (h : SpF c (xRun k n b) vs H Q E) (hW : ∀ cls dd σ H, E cls dd H → W cls dd σ H) :
    t { nx := fun _ H2 => Q .non H2, rt := Q } (L2.start N vs) H := by
  obtain ⟨as, fr, F, G, S, hx⟩ := h
  -- the pinned values are those that came in
  let fr' : Fr := ⟨fr.B, fun i => vs[i]?⟩
  have hlen : as.length = vs.length := by have := S.len; simpa using this.symm
  unfold xRun at hx
  by_cases hk : as.length ≠ k
  · rw [if_pos hk] at hx; exact hx.elim
  rw [if_neg hk] at hx
  have hk : as.length = k := Classical.byContradiction hk
  have S0 : Sta c fr' (as.map Arg.slot ++ List.replicate n .n) (L2.start N vs) F G H := by
    refine ⟨?_, S.bh, S.fh, S.bf, S.gh, S.gb, S.gf, S.gg, S.gm, fun i s hi => ?_⟩
    · unfold L2.start
      rw [List.length_append, List.length_append, List.length_map, List.length_map, List.length_replicate, List.length_replicate, hlen]
      omega
    · by_cases hl : i < as.length
      · rw [List.getElem?_append_left (by simpa using hl)] at hi
        have o := S.sl i s hi
        have e : (L2.start N vs)[i]? = (vs.map some)[i]? := by
          unfold L2.start
          rw [List.getElem?_append_left (by rw [List.length_map, ← hlen]; exact hl)]
        cases s with
        | n => trivial
        | f d => obtain ⟨v, h1, h2⟩ := o; exact ⟨v, e.trans h1, h2⟩
        | r d => obtain ⟨v, h1, h2⟩ := o; exact ⟨v, e.trans h1, h2⟩
        | o t => obtain ⟨v, h1, h2⟩ := o; exact ⟨v, e.trans h1, h2⟩
        | p t =>
          obtain ⟨v, h0, h1, h2⟩ := o
          refine ⟨v, ?_, e.trans h1, h2⟩
          rw [List.getElem?_map] at h1
          cases hv : vs[i]? with
          | none => rw [hv] at h1; cases h1
          | some w => rw [hv] at h1; cases h1; exact hv
      · rw [List.getElem?_append_right (by simpa using Nat.le_of_not_lt hl), List.getElem?_replicate] at hi
        split at hi
        · cases hi; trivial
        · cases hi
  have back : ∀ {us F' G' H'}, Sta c fr' (outG as us) (vs.map some) F' G' H' → Sta c fr (outG as us) (vs.map some) F' G' H' := fun {us F' G' H'} S' => by
    refine ⟨S'.len, S'.bh, S'.fh, S'.bf, S'.gh, S'.gb, S'.gf, S'.gg, S'.gm, fun i s hi => ?_⟩
    have o := S'.sl i s hi
    cases s with
    | n => trivial
    | f d => exact o
    | r d => exact o
    | o t => exact o
    | p t =>
      obtain ⟨v, h0, h1, h2⟩ := o
      refine ⟨v, ?_, h1, h2⟩
      -- slot i came in changed in place
      have : ∃ t', (as.map Arg.slot)[i]? = some (.p t') := outG_p hi
      obtain ⟨t', ht'⟩ := this
      obtain ⟨v', g0, g1, _⟩ := S.sl i _ ht'
      rw [h1] at g1; cases g1
      exact g0
  refine hs fr' _ _ F G H S0 _ ?_
  cases eb : b (as.map Arg.slot ++ List.replicate n .n) with
  | no => rw [eb] at hx; exact hx
  | bk _ => rw [eb] at hx; exact hx.elim
  | ct _ => rw [eb] at hx; exact hx.elim
  | nx Γ' =>
    rw [eb] at hx
    dsimp only at hx
    unfold finO at hx
    intro σ' F' G' H' e tp S'
    cases ho : outsOf as Γ' with
    | none => rw [ho] at hx; exact hx.elim
    | some us =>
      rw [ho] at hx
      exact hx .non F' G' H' H0 e tp (back (S'.outs ho hlen fun i v h => h)) (let z := Tmp.zero S'; ⟨z.h, z.m, z.b, z.f, z.g⟩) (.fz (.v _))
  | rt t Γ' =>
    rw [eb] at hx
    dsimp only at hx
    unfold finO at hx
    intro σ' v F' G' H' N e tp S' hn hw
    cases ho : outsOf as Γ' with
    | none => rw [ho] at hx; exact hx.elim
    | some us =>
      rw [ho] at hx
      exact hx v F' G' H' N e tp (back (S'.outs ho hlen fun i v h => h)) ⟨hn.h, hn.m, hn.b, hn.f, hn.g⟩ hw
  | ex x Γ' =>
    rw [eb] at hx
    dsimp only at hx
    unfold finX at hx
    intro σ' F' G' H' cls dd e tp S' hi
    cases ho : outsOf as Γ' with
    | none => rw [ho] at hx; exact hx.elim
    | some us =>
      rw [ho] at hx
      exact hW _ _ _ _ (hx F' G' H' cls dd e tp (back (S'.outs ho hlen fun i v h => h)) hi)
where
  outG_p : ∀ {as : List Arg} {us : List OT} {i : Nat} {t : OT}, (outG as us)[i]? = some (.p t) → ∃ t', (as.map Arg.slot)[i]? = some (.p t')
  | [], _, i, t, h => by simp [outG] at h
  | .d _ :: as, us, 0, t, h => by unfold outG at h; simp at h
  | .d _ :: as, us, i + 1, t, h => by
    unfold outG at h
    have := outG_p (as := as) (us := us) (i := i) (t := t) (by simpa using h)
    simpa using this
  | .o t0 :: as, u :: us, 0, t, h => ⟨t0, rfl⟩
  | .o t0 :: as, u :: us, i + 1, t, h => by
    unfold outG at h
    have := outG_p (as := as) (us := us) (i := i) (t := t) (by simpa using h)
    simpa using this
  | .o t0 :: as, [], 0, t, h => ⟨t0, rfl⟩
  | .o t0 :: as, [], i + 1, t, h => by
    unfold outG at h
    have := outG_p (as := as) (us := []) (i := i) (t := t) (by simpa using h)
    simpa using this
theorem xRun_len {k n : Nat} {b : SF} (as : List Arg) (h : xRun k n b as ≠ .no) : as.length = k := Classical.byContradiction fun z => h (by unfold xRun; rw [if_pos z])
theorem SpF.len {x : FM} {n : Nat} {Q : VK} {E : XK} (hx : ∀ as, (x as ≠ .no) → as.length = n) (h : SpF c x vs H Q E) : vs.length = n := by
  obtain ⟨as, fr, F, G, S, hp⟩ := h
  have hlen : as.length = vs.length := by have := S.len; simpa using this.symm
  rw [← hlen]
  exact hx as fun z => by rw [z] at hp; exact hp
end

/-! ### calls that change nothing -/
def FO.res (x : FO) (Γ : Gm) : Er OT := match x with
  | .ok t [] => .ok t Γ 0
  | _ => .no
def oCall (x : FM) (a : AF) : OF := fun Γ => (a Γ).bind fun y Γ1 _ => (x (y.2.map .d)).res Γ1
/-- o.m(..): the object is read -/
def oMeth (C m : Str) (x : FM) (o : EF) (a : AF) : OF := fun Γ => (o Γ).bind fun y Γ1 _ => match y.2 with
  | .ob C' ns ds => if C' = C ∧ fldIx m ns = none then (a Γ1).bind fun z Γ2 k => if bad y.1 y.2 k = true then .no else (x ((y.2 :: z.2).map .d)).res Γ2
    else .no
  | _ => .no
section
variable {c : Ct} {W : WX} {te ta tb tc : TE} {f g h : EF} {p : PF} {o : OF} {a : AF} {x : FM} {fr : Fr} {σ σ' : L2.St} {F F' F'' H H' H'' F1 H1 : Hp} {Gx : Hp} {G G' G'' G1 : Nat → Hp} {Γ Γ' Γ1 : Gm} {D : Ends} {tl : TA}
theorem outG_d : ∀ (ds : List NV.D) (us : List OT), outG (ds.map Arg.d) us = List.replicate ds.length .n
  | [], us => rfl
  | d :: ds, us => by
    rw [List.map_cons]
    unfold outG
    rw [outG_d ds us]; rfl
/-- the promise used: arguments read alone -/
theorem spF_d {ds : List NV.D} {vs : List V} {t : OT} {Q : VK} {E : XK} (hv : IsL c H H vs ds) (hx : x (ds.map .d) = .ok t []) (q : ∀ v F' H' N, Ex H H' → Ex F' H' → Ap F' H → Ex N H' → NoTup N → Ap N H → Ap N F' → Ow c H' F' N v t → Q v H') : SpF c x vs H Q E := by
  refine ⟨ds.map .d, ⟨H, fun _ => none⟩, H0, fun _ => H0, ?_, ?_⟩
  · refine ⟨by simp [hv.len], Ex.refl _, H0_ex, fun a z => absurd rfl z, fun i => H0_ex, fun i a z => absurd rfl z, fun i a z => absurd rfl z, fun i j _ a z => absurd rfl z, fun i a xs z => (nomatch z), fun i s hs => ?_⟩
    rw [List.map_map, List.getElem?_map] at hs
    cases hd : ds[i]? with
    | none => rw [hd] at hs; cases hs
    | some d =>
      rw [hd] at hs; cases hs
      obtain ⟨v, h1, h2⟩ := hv.get hd
      show ∃ v, (vs.map some)[i]? = some (some v) ∧ Is c H (un H H0) v d
      exact ⟨v, by rw [List.getElem?_map, h1]; rfl, h2⟩
  · rw [hx]
    intro v F' G' H' N e tp S' hn hw
    exact q v F' H' N S'.bh S'.fh S'.bf hn.h hn.m hn.b hn.f hw
/-- what came back, in the caller's state -/
theorem ret_in (S : Sta c fr Γ σ F G H) {t : OT} {Q : VK} {Fo Ho : Hp} {Go : Nat → Hp} (tr : Tr Fo Go Ho F G H)
    (q : (Er.ok t Γ 0).post c W fr σ F G H (fun t F' G' H' => ∀ v N, Tmp fr F' G' H' N → (∀ a, N a ≠ none → Ho a = none ∨ ∃ j, Go j a ≠ none) → Ow c H' F' N v t → Q v H')) :
    ∀ v F' H' N, Ex H H' → Ex F' H' → Ap F' H → Ex N H' → NoTup N → Ap N H → Ap N F' → Ow c H' F' N v t → Q v H' := fun v F' H' N e1 e2 e3 e4 e5 e6 e7 hw => by
  have ff : Ex F (un F F') := un_r fun a z => none_of_ex S.fh (e3 a z)
  have fn : ∀ a, un F F' a ≠ none → F a = none → H a = none := fun a z1 z2 => by
    rcases un_or z1 with w | w
    · exact e3 a w
    · exact absurd z2 w
  have S1 := S.grow e1 ff (un_ex (S.fh.trans e1) e2) fn
  refine q (un F F') G H' S1 (Tr.grow S e1 ff fn) (Stl.e e1) v N ⟨e4, e5, fun a z => none_of_ex S.bh (e6 a z), fun a z => Classical.byContradiction fun w => ?_, fun i a z => none_of_ex (S.gh i) (e6 a z)⟩ (fun a z => tr.back (e6 a z)) (hw.mono (Tp.refl _) un_l (Ex.refl _))
  rcases un_or w with w | w
  · exact w (e7 a z)
  · exact w (none_of_ex S.fh (e6 a z))
theorem res_ok {x : FO} {Γ : Gm} {P : OT → Hp → (Nat → Hp) → Hp → Prop} (q : (x.res Γ).post c W fr σ F G H P) : ∃ t, x = .ok t [] ∧ (Er.ok t Γ 0).post c W fr σ F G H P := by
  unfold FO.res at q
  split at q
  · exact ⟨_, rfl, q⟩
  · exact q.elim
theorem snd_call {E : XK} (ha : SndA c W tl a) : SndO c W (tCall (SpF c x) [] E tl) (oCall x a) := fun fr Γ σ F G H S Q q => by
  refine ha fr Γ σ F G H S _ (post_bind S q fun y Γ1 m1 F1 G1 H1 _ S1 t1 s1 q1 vs i1 => ?_)
  obtain ⟨t, ht, q2⟩ := res_ok q1
  show SpF c x (vs ++ []) H1 Q E
  rw [List.append_nil]
  exact spF_d (IsKL.h S1 i1) ht (ret_in S1 t1 q2)
theorem fldIx_none {f : Str} : ∀ {ns : List Str} {vs : List V}, fldIx f ns = none → (ns.zip vs).lookup f = none
  | [], _, _ => by simp
  | n :: ns, [], _ => by simp
  | n :: ns, v :: vs, h => by
    unfold fldIx at h
    by_cases e : (f == n) = true
    · rw [if_pos e] at h; cases h
    · rw [if_neg e] at h
      rw [Bool.not_eq_true] at e
      rw [List.zip_cons_cons, List.lookup_cons, e]
      cases hj : fldIx f ns with
      | some l => rw [hj] at h; cases h
      | none => exact fldIx_none hj
theorem snd_meth {E : XK} {C m : Str} (ho : SndE c W ta f) (ha : SndA c W tl a) : SndO c W (tMeth (c.cn C) m (SpF c x) [] E ta tl) (oMeth C m x f a) := fun fr Γ σ F G H S Q q => by
  refine ho fr Γ σ F G H S _ (post_bind S q fun y Γ1 m1 F1 G1 H1 _ S1 t1 s1 q1 v i1 => ?_)
  obtain ⟨k, d⟩ := y
  dsimp only at q1 i1
  cases d with
  | ob C' ns ds =>
    dsimp only at q1
    by_cases hc : C' = C ∧ fldIx m ns = none
    · rw [if_pos hc] at q1
      obtain ⟨hc, hm⟩ := hc
      subst hc
      have i2 := IsK.h S1 i1
      have i3 := i2
      cases i3 with
      | @ob pa dx _ _ xs _ s l r =>
        refine ⟨pa, dx, _, rfl, s, fldIx_none hm, ?_⟩
        refine ha fr Γ1 σ F1 G1 H1 S1 _ (post_bind S1 q1 fun z Γ2 m2 F2 G2 H2 _ S2 t2 s2 q2 vs iv => ?_)
        obtain ⟨hb, q2⟩ := post_if q2
        obtain ⟨t, ht, q3⟩ := res_ok q2
        show SpF c x (.ref pa :: (vs ++ [])) H2 Q E
        rw [List.append_nil]
        exact spF_d (ds := .ob C' ns ds :: z.2) (.cons (IsK.h S2 (IsK.last S1 S2 t2 s2 hb i1)) (IsKL.h S2 iv)) ht (ret_in S2 (t1.trans t2) q3)
    · rw [if_neg hc] at q1; exact q1.elim
  | _ => exact q1.elim
end

end
section
open PySem L2 Evl

/-! ### calls that change a tree in place -/
section
variable {c : Ct} {W : WX} {te ta tb tc : TE} {f g h : EF} {p : PF} {o : OF} {a : AF} {x : FM} {fr : Fr} {σ σ' : L2.St} {F F' F'' H H' H'' F1 H1 : Hp} {Gx : Hp} {G G' G'' G1 : Nat → Hp} {Γ Γ' Γ1 : Gm} {D : Ends} {tl : TA} {i : Nat} {π : List Nat} {s : OT}
/-- what stays while the place's cells are lent: the frozen part apart -/
def lent (H Gs F : Hp) : Hp := mins (mins H Gs) F
theorem lent_ex {Gs : Hp} : Ex (lent H Gs F) H := fun a o h => mins_ex a o (mins_ex a o h)
theorem lent_ne {Gs : Hp} {a : Addr} (h : lent H Gs F a ≠ none) : H a ≠ none ∧ Gs a = none ∧ F a = none := by
  have h1 := mins_ne h
  have h2 := mins_ne h1.1
  exact ⟨h2.1, h2.2, h1.2⟩
theorem lent_none {Gs : Hp} {a : Addr} (h : lent H Gs F a = none) : H a = none ∨ Gs a ≠ none ∨ F a ≠ none := by
  by_cases h1 : F a = none
  · by_cases h2 : Gs a = none
    · left
      unfold lent at h
      rw [mins_none h1, mins_none h2] at h
      exact h
    · exact .inr (.inl h2)
  · exact .inr (.inr h1)
theorem lent_some {Gs : Hp} {a : Addr} (h1 : Gs a = none) (h2 : F a = none) : lent H Gs F a = H a := by
  unfold lent
  rw [mins_none h2, mins_none h1]
/-- the lent place comes back -/
theorem Sta.plug (S : Sta c fr Γ σ F G H) (hs : treeAt Γ i π = some s) :
    ∃ v0 w Gs, σ[i]? = some (some v0) ∧ vAt H v0 π = some w ∧ Ow c H F Gs w s ∧ Ex Gs (G i) ∧
      ∀ F' H' Gs' s', Ex F F' → Ex (lent H Gs F) H' → Ex F' H' → Ap F' (lent H Gs F) → Ex Gs' H' → Ap Gs' (lent H Gs F) → Ap Gs' F' → NoTup Gs' → Ow c H' F' Gs' w s' →
        Sta c fr (putAt Γ i π s') σ F' (fun j => if j = i then un (mins (G i) Gs) Gs' else G j) H' ∧ Tr F G H F' (fun j => if j = i then un (mins (G i) Gs) Gs' else G j) H' := by
  unfold treeAt at hs
  cases hi : Γ[i]? with
  | none => rw [hi] at hs; cases hs
  | some sl =>
    rw [hi] at hs
    dsimp only at hs
    cases ht : sl.tree with
    | none => rw [ht] at hs; cases hs
    | some t =>
      rw [ht] at hs
      dsimp only at hs
      have ok := S.sl i sl hi
      obtain ⟨v0, h0, how⟩ : ∃ v0, σ[i]? = some (some v0) ∧ Ow c H F (G i) v0 t := by
        cases sl with
        | o t' => cases ht; exact ok
        | p t' => cases ht; obtain ⟨v, _, h1, h2⟩ := ok; exact ⟨v, h1, h2⟩
        | _ => cases ht
      obtain ⟨w, Gs, h1, h2, h3, h4⟩ := Ow.focus (H := H) (fun a xs e => e) (S.gh i) how hs
      refine ⟨v0, w, Gs, h0, h1, h2, h3, fun F' H' Gs' s' eF eL eF' aF eG aG aGF nG hw => ?_⟩
      have off : ∀ {X : Hp}, Ex X H → (∀ a, X a ≠ none → Gs a = none ∧ F a = none) → Ex X H' := fun {X} e hx b oo q => by
        obtain ⟨q1, q2⟩ := hx b (some_ne q)
        exact eL b oo (by rw [lent_some q1 q2]; exact e b oo q)
      have gne : ∀ a, Gs a ≠ none → G i a ≠ none := fun a z => ex_ne h3 z
      have tp : Tp H H' := fun b xs e => by
        by_cases z : F b = none
        · exact off (X := one b (.tup xs)) (one_ex e) (fun a' z' => by rw [one_ne z']; exact ⟨Classical.byContradiction fun q => (gne b q) (S.tup e i), z⟩) b _ upd_same
        · obtain ⟨oo, eo⟩ := ne_some z
          have := S.fh b oo eo
          rw [e] at this; cases this
          exact eF' b _ (eF b _ eo)
      have newF : ∀ a, F' a ≠ none → F a = none → H a = none ∨ Gs a ≠ none := fun a z1 z2 => by
        rcases lent_none (aF a z1) with w' | w' | w'
        · exact .inl w'
        · exact .inr w'
        · exact absurd z2 w'
      have newG : ∀ a, Gs' a ≠ none → H a = none ∨ Gs a ≠ none := fun a z1 => by
        rcases lent_none (aG a z1) with w' | w' | w'
        · exact .inl w'
        · exact .inr w'
        · exact absurd (aGF a z1) (ex_ne eF w')
      have sub : ∀ a, un (mins (G i) Gs) Gs' a ≠ none → Gs' a ≠ none ∨ (G i a ≠ none ∧ Gs a = none) := fun a z => by
        rcases un_or z with q | q
        · exact .inl q
        · exact .inr (mins_ne q)
      have ap : Ap (mins (G i) Gs) Gs' := fun a z => Classical.byContradiction fun q => by
        have n := mins_ne z
        rcases newG a q with w' | w'
        · exact ex_ne (S.gh i) n.1 w'
        · exact w' n.2
      have hB : Ap F' fr.B := fun a z => Classical.byContradiction fun q => by
        by_cases z2 : F a = none
        · rcases newF a z z2 with w' | w'
          · exact ex_ne S.bh q w'
          · exact q (S.gb i a (gne a w'))
        · exact q (S.bf a z2)
      have Gi : ∀ j, j ≠ i → ∀ a, G j a ≠ none → Gs a = none ∧ F a = none ∧ H a ≠ none := fun j hj a z => ⟨Classical.byContradiction fun q => q (Classical.byContradiction fun q2 => (gne a q2) (S.gg j i hj a z)), S.gf j a z, ex_ne (S.gh j) z⟩
      have slotOk : SlotOk c fr F' (un (mins (G i) Gs) Gs') H' σ i (sl.put (t.put π s')) := by
        have fin := h4 H' F' Gs' s' tp eF hw ap
        cases sl with
        | o t' => cases ht; exact ⟨v0, h0, fin⟩
        | p t' =>
          cases ht
          obtain ⟨v, h5, h6, _⟩ := ok
          rw [h0] at h6; cases h6
          exact ⟨v0, h5, h0, fin⟩
        | _ => cases ht
      have eΓ : putAt Γ i π s' = Γ.set i (sl.put (t.put π s')) := by unfold putAt; rw [hi]; dsimp only; rw [ht]
      rw [eΓ]
      refine ⟨⟨by rw [List.length_set]; exact S.len, off S.bh fun a z => ⟨Classical.byContradiction fun q => z (S.gb i a (gne a q)), Classical.byContradiction fun q => z (S.bf a q)⟩, eF', hB, fun j => ?_, fun j => ?_, fun j => ?_, fun j l hjl => ?_, fun j => ?_, fun j s2 hs2 => ?_⟩, ⟨eF, fun a oo e n => ?_, fun j a z => ?_, fun a z1 z2 => ?_⟩⟩
      · by_cases e : j = i
        · simp only [e, if_true]
          refine un_ex (off (mins_ex.trans (S.gh i)) fun a z => ?_) eG
          have n := mins_ne z
          exact ⟨n.2, S.gf i a n.1⟩
        · simp only [e, if_false]; exact off (S.gh j) fun a z => ⟨(Gi j e a z).1, (Gi j e a z).2.1⟩
      · by_cases e : j = i
        · simp only [e, if_true]
          intro a z
          refine Classical.byContradiction fun q => ?_
          rcases sub a z with w' | ⟨w', _⟩
          · rcases newG a w' with w2 | w2
            · exact ex_ne S.bh q w2
            · exact q (S.gb i a (gne a w2))
          · exact q (S.gb i a w')
        · simp only [e, if_false]; exact S.gb j
      · by_cases e : j = i
        · simp only [e, if_true]
          intro a z
          refine Classical.byContradiction fun q => ?_
          rcases sub a z with w' | ⟨w', w3⟩
          · exact q (aGF a w')
          · by_cases z2 : F a = none
            · rcases newF a q z2 with w2 | w2
              · exact ex_ne (S.gh i) w' w2
              · exact w2 w3
            · exact z2 (S.gf i a w')
        · simp only [e, if_false]
          intro a z
          refine Classical.byContradiction fun q => ?_
          obtain ⟨k1, k2, k3⟩ := Gi j e a z
          rcases newF a q k2 with w2 | w2
          · exact k3 w2
          · exact w2 k1
      · by_cases e : j = i
        · have el : l ≠ i := fun z => hjl (e.trans z.symm)
          simp only [e, el, if_true, if_false]
          intro a z
          refine Classical.byContradiction fun q => ?_
          obtain ⟨k1, k2, k3⟩ := Gi l el a q
          rcases sub a z with w' | ⟨w', _⟩
          · rcases newG a w' with w2 | w2
            · exact k3 w2
            · exact w2 k1
          · exact q (S.gg i l (Ne.symm el) a w')
        · by_cases el : l = i
          · simp only [e, el, if_true, if_false]
            intro a z
            refine Classical.byContradiction fun q => ?_
            obtain ⟨k1, k2, k3⟩ := Gi j e a z
            rcases sub a q with w' | ⟨w', _⟩
            · rcases newG a w' with w2 | w2
              · exact k3 w2
              · exact w2 k1
            · exact w' (S.gg j i e a z)
          · simp only [e, el, if_false]; exact S.gg j l hjl
      · by_cases e : j = i
        · simp only [e, if_true]
          intro a xs q
          unfold un at q
          cases hN : Gs' a with
          | some y => rw [hN] at q; exact nG a xs (hN.trans q)
          | none =>
            rw [hN] at q
            dsimp only at q
            have n := mins_ne (some_ne q)
            rw [mins_none n.2] at q
            exact S.gm i a xs q
        · simp only [e, if_false]; exact S.gm j
      · by_cases e : j = i
        · subst e
          by_cases hl : j < Γ.length
          · rw [List.getElem?_set_self hl] at hs2
            cases hs2
            simp only [if_true]; exact slotOk
          · rw [List.getElem?_eq_none (by rw [List.length_set]; omega)] at hs2
            cases hs2
        · rw [List.getElem?_set_ne (Ne.symm e)] at hs2
          simp only [e, if_false]
          have oo := S.sl j s2 hs2
          cases s2 with
          | n => trivial
          | f d => obtain ⟨v, h1, h2⟩ := oo; exact ⟨v, h1, h2.mono tp eF⟩
          | r d => obtain ⟨v, h1, h2⟩ := oo; exact ⟨v, h1, h2.mono tp (un_mono eF hB)⟩
          | o t => obtain ⟨v, h1, h2⟩ := oo; exact ⟨v, h1, h2.mono tp eF (Ex.refl _)⟩
          | p t => obtain ⟨v, h0, h1, h2⟩ := oo; exact ⟨v, h0, h1, h2.mono tp eF (Ex.refl _)⟩
      · by_cases z : F a = none
        · exact off (X := one a oo) (one_ex e) (fun a' z' => by rw [one_ne z']; exact ⟨Classical.byContradiction fun q => (gne a q) (n i), z⟩) a _ upd_same
        · obtain ⟨o2, eo⟩ := ne_some z
          have := S.fh a o2 eo
          rw [e] at this; cases this
          exact eF' a _ (eF a _ eo)
      · by_cases e : j = i
        · subst e
          simp only [if_true] at z
          rcases sub a z with w' | ⟨w', _⟩
          · rcases newG a w' with w2 | w2
            · exact .inl w2
            · exact .inr ⟨j, gne a w2⟩
          · exact .inr ⟨j, w'⟩
        · simp only [e, if_false] at z; exact .inr ⟨j, z⟩
      · rcases newF a z1 z2 with w2 | w2
        · exact .inl w2
        · exact .inr ⟨i, gne a w2⟩
end
/-- o.m(..) where o is changed in place: a place, arguments that stay -/
def FO.res1 (y : FO) (Γ : Gm) (i : Nat) (π : List Nat) : Er OT := match y with
  | .ok t [s'] => .ok t (putAt Γ i π s') 2
  | _ => .no
def oMethP (C m : Str) (x : FM) (p : PF) (a : AF) : OF := fun Γ => (p Γ).bind fun y Γ1 _ => match treeAt Γ1 y.1 y.2 with
  | some (.ob C' ns _) => if C' = C ∧ fldIx m ns = none then (a Γ1).bind fun z Γ2 k => if decide (1 < k) = true then .no else if z.1 = .h then .no else match treeAt Γ2 y.1 y.2 with
    | some s => (x (.o s :: z.2.map .d)).res1 Γ2 y.1 y.2
    | none => .no
    else .no
  | _ => .no
section
variable {c : Ct} {W : WX} {te ta tb tc : TE} {f g h : EF} {p : PF} {o : OF} {a : AF} {x : FM} {fr : Fr} {σ σ' : L2.St} {F F' F'' H H' H'' F1 H1 : Hp} {Gx : Hp} {G G' G'' G1 : Nat → Hp} {Γ Γ' Γ1 : Gm} {D : Ends} {tl : TA} {i : Nat} {π : List Nat} {s : OT}
theorem res1_ok {y : FO} {P : OT → Hp → (Nat → Hp) → Hp → Prop} (q : (y.res1 Γ i π).post c W fr σ F G H P) : ∃ t s', y = .ok t [s'] ∧ (Er.ok t (putAt Γ i π s') 2).post c W fr σ F G H P := by
  unfold FO.res1 at q
  split at q
  · exact ⟨_, _, rfl, q⟩
  · exact q.elim
/-- the call itself, in the caller's state -/
theorem spF_p {ds : List NV.D} {k : Kd} {vs : List V} {v v0 : V} {Q : VK} {E : XK} {Fo Ho : Hp} {Go : Nat → Hp} (S : Sta c fr Γ σ F G H) (hs : treeAt Γ i π = some s) (h0 : σ[i]? = some (some v0)) (hv : vAt H v0 π = some v) (hk : k ≠ .h) (hd : IsKL c fr.B F H vs ds k) (tr : Tr Fo Go Ho F G H)
    (q : ((x (.o s :: ds.map .d)).res1 Γ i π).post c W fr σ F G H (fun t F' G' H' => ∀ v N, Tmp fr F' G' H' N → (∀ a, N a ≠ none → Ho a = none ∨ ∃ j, Go j a ≠ none) → Ow c H' F' N v t → Q v H')) : SpF c x (v :: vs) H Q E := by
  obtain ⟨t, s', ex, q2⟩ := res1_ok q
  obtain ⟨v1, w, Gs, h1, h2, how, hg, plug⟩ := S.plug hs
  rw [h0] at h1; cases h1
  rw [hv] at h2; cases h2
  have gB : ∀ a, Gs a ≠ none → G i a ≠ none := fun a z => ex_ne hg z
  have xB : Ex fr.B (lent H Gs F) := fun a oo e => by
    rw [lent_some (Classical.byContradiction fun z => some_ne e (S.gb i a (gB a z))) (Classical.byContradiction fun z => some_ne e (S.bf a z))]
    exact S.bh a oo e
  have bF : Ap F (lent H Gs F) := fun a z => Classical.byContradiction fun q => z (lent_ne q).2.2
  refine ⟨.o s :: ds.map .d, ⟨lent H Gs F, fun j => if j = 0 then some v else none⟩, F, fun j => if j = 0 then Gs else H0, ?_, ?_⟩
  · refine ⟨by simp [(IsKL.h S hd).len], lent_ex, S.fh, bF, fun j => ?_, fun j => ?_, fun j => ?_, fun j l hjl => ?_, fun j => ?_, fun j sl hsl => ?_⟩
    · by_cases e : j = 0
      · simp only [e, if_true]; exact hg.trans (S.gh i)
      · simp only [e, if_false]; exact H0_ex
    · by_cases e : j = 0
      · simp only [e, if_true]; exact fun a z => Classical.byContradiction fun q => z (lent_ne q).2.1
      · simp only [e, if_false]; exact fun a z => absurd rfl z
    · by_cases e : j = 0
      · simp only [e, if_true]; exact fun a z => S.gf i a (gB a z)
      · simp only [e, if_false]; exact fun a z => absurd rfl z
    · by_cases e : j = 0
      · have el : l ≠ 0 := fun z => hjl (e.trans z.symm)
        simp only [e, el, if_true, if_false]; exact fun a z => rfl
      · simp only [e, if_false]; exact fun a z => absurd rfl z
    · by_cases e : j = 0
      · simp only [e, if_true]; exact fun a xs z => S.gm i a xs (hg a _ z)
      · simp only [e, if_false]; exact fun a xs z => (nomatch z)
    · cases j with
      | zero =>
        simp only [List.map_cons, List.getElem?_cons_zero] at hsl
        cases hsl
        exact ⟨v, rfl, rfl, how⟩
      | succ j =>
        simp only [List.map_cons, List.getElem?_cons_succ, List.map_map, List.getElem?_map] at hsl
        cases hdj : ds[j]? with
        | none => rw [hdj] at hsl; cases hsl
        | some d =>
          rw [hdj] at hsl; cases hsl
          show ∃ w, ((v :: vs).map some)[j + 1]? = some (some w) ∧ Is c H (un (lent H Gs F) F) w d
          have key : ∀ {M : Hp}, Ex M (un (lent H Gs F) F) → IsL c H M vs ds → ∃ w, ((v :: vs).map some)[j + 1]? = some (some w) ∧ Is c H (un (lent H Gs F) F) w d := fun {M} e r => by
            obtain ⟨w, g1, g2⟩ := r.get hdj
            exact ⟨w, by rw [List.map_cons, List.getElem?_cons_succ, List.getElem?_map, g1]; rfl, g2.mono (Tp.refl _) e⟩
          cases k with
          | f => exact key un_l hd
          | r => exact key (un_monoL xB) hd
          | h => exact absurd rfl hk
  · rw [ex]
    intro vr F' G' H' N eF tp S' hn hw
    have o0 := S'.sl 0 (.p s') (by unfold outG; rfl)
    obtain ⟨v2, e1, e2, how'⟩ := o0
    cases e1
    obtain ⟨S3, tr3⟩ := plug F' H' (G' 0) s' eF S'.bh S'.fh S'.bf (S'.gh 0) (S'.gb 0) (S'.gf 0) (S'.gm 0) how'
    have nN : ∀ a, N a ≠ none → H a = none ∨ Gs a ≠ none := fun a z => by
      rcases lent_none (hn.b a z) with w' | w' | w'
      · exact .inl w'
      · exact .inr w'
      · exact absurd (hn.f a z) (ex_ne eF w')
    refine q2 F' _ H' S3 tr3 ⟨fun z => by omega, fun z => by omega⟩ vr N ⟨hn.h, hn.m, fun a z => ?_, hn.f, fun j a z => ?_⟩ (fun a z => ?_) hw
    · refine Classical.byContradiction fun w' => ?_
      rcases nN a z with w2 | w2
      · exact ex_ne S.bh w' w2
      · exact w' (S.gb i a (gB a w2))
    · refine Classical.byContradiction fun w' => ?_
      by_cases e : j = i
      · simp only [e, if_true] at w'
        rcases un_or w' with w3 | w3
        · exact w3 (hn.g 0 a z)
        · have n := mins_ne w3
          rcases nN a z with w2 | w2
          · exact ex_ne (S.gh i) n.1 w2
          · exact w2 n.2
      · simp only [e, if_false] at w'
        rcases nN a z with w2 | w2
        · exact ex_ne (S.gh j) w' w2
        · exact gB a w2 (S.gg j i e a w')
    · rcases nN a z with w2 | w2
      · exact tr.back w2
      · exact tr.gn i a (gB a w2)
theorem snd_methP {E : XK} {C m : Str} (hp : SndP c W ta p) (ha : SndA c W tl a) : SndO c W (tMeth (c.cn C) m (SpF c x) [] E ta tl) (oMethP C m x p a) := fun fr Γ σ F G H S Q q => by
  refine hp fr Γ σ F G H S _ (post_bind S q fun y Γ1 m1 F1 G1 H1 _ S1 t1 s1 q1 v v0 h0 hv => ?_)
  cases eT : treeAt Γ1 y.1 y.2 with
  | none => rw [eT] at q1; exact q1.elim
  | some u =>
    rw [eT] at q1
    cases u with
    | ob C' ns ts =>
      dsimp only at q1
      by_cases hc : C' = C ∧ fldIx m ns = none
      · rw [if_pos hc] at q1
        obtain ⟨hc, hm⟩ := hc
        subst hc
        obtain ⟨v1, w, Gs, h1, h2, how, hg, _⟩ := S1.plug eT
        rw [h0] at h1; cases h1
        rw [hv] at h2; cases h2
        cases how with
        | @ob _ Gk p0 dx _ _ xs _ a1 l1 b1 e1 r1 =>
          refine ⟨p0, dx, _, rfl, (hg.trans (S1.gh y.1)) _ _ a1, fldIx_none hm, ?_⟩
          refine ha fr Γ1 σ F1 G1 H1 S1 _ (post_bind S1 q1 fun z Γ2 m2 F2 G2 H2 _ S2 t2 s2 q2 vs iv => ?_)
          obtain ⟨hk, q2⟩ := post_if q2
          have hk : m2 ≤ 1 := by have := of_decide_eq_false hk; omega
          by_cases hz : z.1 = .h
          · rw [if_pos hz] at q2; exact q2.elim
          rw [if_neg hz] at q2
          cases eT2 : treeAt Γ2 y.1 y.2 with
          | none => rw [eT2] at q2; exact q2.elim
          | some s =>
            rw [eT2] at q2
            show SpF c x (.ref p0 :: (vs ++ [])) H2 Q E
            rw [List.append_nil]
            exact spF_p S2 eT2 h0 (vAt_mono (s2.1 hk) hv) hz iv (t1.trans t2) q2
      · rw [if_neg hc] at q1; exact q1.elim
    | _ => exact q1.elim
end

end
section
open PySem L2 Evl

/-! ### own operators, properties, makers -/
def tInOwn (C : Addr) (sp : Sp) (ta tb : TE) : TE := fun σ H Q => ta σ H fun x H1 => tb σ H1 fun y H2 => ∃ a dx fs, y = .ref a ∧ H2 a = some (.ins C dx fs) ∧ sp [y, x] H2 (fun v H3 => ∃ b, v = .bl b ∧ Q (.bl b) H3) E0
def tGetOwn (C : Addr) (sp : Sp) (ta tb : TE) : TE := fun σ H Q => ta σ H fun x H1 => tb σ H1 fun y H2 => ∃ a dx fs, x = .ref a ∧ H2 a = some (.ins C dx fs) ∧ sp [x, y] H2 Q E0
/-- x op y by the class's own method -/
def rBinOwn (C : Addr) (sp : Sp) : R2 := fun x y H Q => ∃ a dx fs, x = .ref a ∧ H a = some (.ins C dx fs) ∧ sp [x, y] H Q E0
/-- the same, y a text -/
def rBinOwnS (C : Addr) (sp : Sp) : R2 := fun x y H Q => ∃ a dx fs z, x = .ref a ∧ y = .str z ∧ H a = some (.ins C dx fs) ∧ sp [x, y] H Q E0
def rSetOwn (C : Addr) (sp : Sp) : TSet := fun o i v H Q => ∃ a dx fs, o = .ref a ∧ H a = some (.ins C dx fs) ∧ sp [o, i, v] H (fun _ H' => Q H') E0
def isOb (C : Str) : D → Bool
  | .ob C' _ _ => C' == C
  | _ => false
theorem isOb_eq {C : Str} {d : D} (h : isOb C d = true) : ∃ ns ds, d = .ob C ns ds := by
  unfold isOb at h
  split at h
  · have := beq_iff_eq.mp h
    subst this
    exact ⟨_, _, rfl⟩
  · cases h
def oGetOwn (C : Str) (x : FM) (f g : EF) : OF := fun Γ => (f Γ).bind fun y Γ1 _ => (g Γ1).bind fun z Γ2 k => if bad y.1 y.2 k = true then .no else if isOb C y.2 = true then (x [.d y.2, .d z.2]).res Γ2 else .no
def oBinS (C : Str) (x : FM) (f g : EF) : OF := fun Γ => (f Γ).bind fun y Γ1 _ => (g Γ1).bind fun z Γ2 k => if bad y.1 y.2 k = true then .no else if isOb C y.2 = true then match z.2 with
  | .v (.str s) => (x [.d y.2, .d (.v (.str s))]).res Γ2
  | _ => .no
  else .no
def eInOwn (C : Str) (x : FM) (f g : EF) : EF := fun Γ => (f Γ).bind fun y Γ1 _ => (g Γ1).bind fun z Γ2 k => if bad y.1 y.2 k = true then .no else if isOb C z.2 = true then match x [.d z.2, .d y.2] with
  | .ok (.fz (.v (.bl b))) [] => .ok (.f, .b b) Γ2 0
  | _ => .no
  else .no
def oProp (C : Str) (x : FM) (f : EF) : OF := fun Γ => (f Γ).bind fun y Γ1 _ => if isOb C y.2 = true then (x [.d y.2]).res Γ1 else .no
/-- o[i] = v, the class's own -/
def FO.resS (y : FO) (Γ : Gm) (i : Nat) (π : List Nat) : Out := match y with
  | .ok _ [s'] => .nx (putAt Γ i π s')
  | _ => .no
def sSetOwn (C : Str) (x : FM) (p : PF) (f g : EF) : SF := fun Γ => (g Γ).out fun v Γ0 => (p Γ0).out fun y Γ1 => match f Γ1 with
  | .ok z Γ2 m => if decide (1 < m) = true then .no else if v.1.im v.2 = .h ∨ z.1.im z.2 = .h then .no else match treeAt Γ2 y.1 y.2 with
    | some (.ob C' ns ts) => if C' = C then (x [.o (.ob C' ns ts), .d z.2, .d v.2]).resS Γ2 y.1 y.2 else .no
    | _ => .no
  | .ex e Γ2 => .ex e Γ2
  | .no => .no
/-- C(.., k = v): the new object's tree -/
def FO.resM (y : FO) (Γ : Gm) : Er OT := match y with
  | .ok (.fz (.v .non)) [s'] => .ok s' Γ 0
  | _ => .no
def oMakeK (C : Str) (n l : Nat) (x : FM) (a b : AF) : OF := fun Γ => (a Γ).bind fun y Γ1 _ => (b Γ1).bind fun z Γ2 k => if bads y.1 y.2 k = true then .no else if y.2.length = n ∧ z.2.length = l then (x (.o (.ob C [] []) :: (y.2 ++ z.2).map .d)).resM Γ2 else .no
def oMake (C : Str) (x : FM) (dd : List D) (a : AF) : OF := fun Γ => (a Γ).bind fun y Γ1 _ => (x (.o (.ob C [] []) :: (y.2 ++ dd).map .d)).resM Γ1
section
variable {c : Ct} {W : WX} {te ta tb tc : TE} {f g h : EF} {p : PF} {o : OF} {a b : AF} {x : FM} {fr : Fr} {σ σ' : L2.St} {F F' F'' H H' H'' F1 H1 : Hp} {Gx : Hp} {G G' G'' G1 : Nat → Hp} {Γ Γ' Γ1 : Gm} {D : Ends} {tl tk : TA} {i : Nat} {π : List Nat} {s : OT} {C : Str}
theorem Is.obj {T M : Hp} {v : V} {ns : List Str} {ds : List NV.D} (h : Is c T M v (.ob C ns ds)) : ∃ a dx fs, v = .ref a ∧ M a = some (.ins (c.cn C) dx fs) := by
  cases h with
  | ob s l r => exact ⟨_, _, _, rfl, s⟩
theorem snd_getOwn (ha : SndE c W ta f) (hb : SndE c W tb g) : SndO c W (tGetOwn (c.cn C) (SpF c x) ta tb) (oGetOwn C x f g) := fun fr Γ σ F G H S Q q => by
  refine ha fr Γ σ F G H S _ (post_bind S q fun y Γ1 m1 F1 G1 H1 _ S1 t1 s1 q1 v i1 => ?_)
  refine hb fr Γ1 σ F1 G1 H1 S1 _ (post_bind S1 q1 fun z Γ2 m2 F2 G2 H2 _ S2 t2 s2 q2 w i2 => ?_)
  obtain ⟨hbd, q2⟩ := post_if q2
  have j1 := IsK.h S2 (IsK.last S1 S2 t2 s2 hbd i1)
  by_cases ho : isOb C y.2 = true
  · rw [if_pos ho] at q2
    obtain ⟨t, ht, q3⟩ := res_ok q2
    obtain ⟨ns, ds, e⟩ := isOb_eq ho
    have j2 := j1
    rw [e] at j2
    obtain ⟨pa, dx, fs, rfl, hp⟩ := j2.obj
    exact ⟨pa, dx, fs, rfl, hp, spF_d (ds := [y.2, z.2]) (.cons j1 (.cons (IsK.h S2 i2) .nil)) ht (ret_in S2 (t1.trans t2) q3)⟩
  · rw [if_neg ho] at q2; exact q2.elim
theorem snd_binS (ha : SndE c W ta f) (hb : SndE c W tb g) : SndO c W (tOp (rBinOwnS (c.cn C) (SpF c x)) ta tb) (oBinS C x f g) := fun fr Γ σ F G H S Q q => by
  refine ha fr Γ σ F G H S _ (post_bind S q fun y Γ1 m1 F1 G1 H1 _ S1 t1 s1 q1 v i1 => ?_)
  refine hb fr Γ1 σ F1 G1 H1 S1 _ (post_bind S1 q1 fun z Γ2 m2 F2 G2 H2 _ S2 t2 s2 q2 w i2 => ?_)
  obtain ⟨hbd, q2⟩ := post_if q2
  have j1 := IsK.h S2 (IsK.last S1 S2 t2 s2 hbd i1)
  by_cases ho : isOb C y.2 = true
  · rw [if_pos ho] at q2
    obtain ⟨k2, d2⟩ := z
    dsimp only at q2 i2
    cases d2 with
    | v u =>
      cases u with
      | str z =>
        obtain ⟨t, ht, q3⟩ := res_ok q2
        obtain ⟨ns, ds, e⟩ := isOb_eq ho
        have j2 := j1
        rw [e] at j2
        obtain ⟨pa, dx, fs, rfl, hp⟩ := j2.obj
        cases Is.leaf (IsK.h S2 i2)
        exact ⟨pa, dx, fs, z, rfl, rfl, hp, spF_d (ds := [y.2, .v (.str z)]) (.cons j1 (.cons (.v _) .nil)) ht (ret_in S2 (t1.trans t2) q3)⟩
      | _ => exact q2.elim
    | _ => exact q2.elim
  · rw [if_neg ho] at q2; exact q2.elim
theorem snd_inOwn (ha : SndE c W ta f) (hb : SndE c W tb g) : SndE c W (tInOwn (c.cn C) (SpF c x) ta tb) (eInOwn C x f g) := fun fr Γ σ F G H S Q q => by
  refine ha fr Γ σ F G H S _ (post_bind S q fun y Γ1 m1 F1 G1 H1 _ S1 t1 s1 q1 v i1 => ?_)
  refine hb fr Γ1 σ F1 G1 H1 S1 _ (post_bind S1 q1 fun z Γ2 m2 F2 G2 H2 _ S2 t2 s2 q2 w i2 => ?_)
  obtain ⟨hbd, q2⟩ := post_if q2
  have j1 := IsK.h S2 (IsK.last S1 S2 t2 s2 hbd i1)
  have j2 := IsK.h S2 i2
  by_cases ho : isOb C z.2 = true
  · rw [if_pos ho] at q2
    obtain ⟨ns, ds, e⟩ := isOb_eq ho
    have j3 := j2
    rw [e] at j3
    obtain ⟨pa, dx, fs, rfl, hp⟩ := j3.obj
    split at q2
    · rename_i bb hx
      refine ⟨pa, dx, fs, rfl, hp, spF_d (ds := [z.2, y.2]) (.cons j2 (.cons j1 .nil)) hx fun u F' H' N e1 e2 e3 e4 e5 e6 e7 hw => ?_⟩
      cases hw with
      | fz hi =>
        cases Is.leaf hi
        have ff : Ex F2 (un F2 F') := un_r fun a z => none_of_ex S2.fh (e3 a z)
        have fn : ∀ a, un F2 F' a ≠ none → F2 a = none → H2 a = none := fun a z1 z2 => by
          rcases un_or z1 with w | w
          · exact e3 a w
          · exact absurd z2 w
        exact ⟨bb, rfl, q2 (un F2 F') G2 H' (S2.grow e1 ff (un_ex (S2.fh.trans e1) e2) fn) (Tr.grow S2 e1 ff fn) (Stl.e e1) _ (.v _)⟩
    · exact q2.elim
  · rw [if_neg ho] at q2; exact q2.elim
theorem snd_prop {E : XK} (ha : SndE c W ta f) : SndO c W (tProp (c.cn C) (SpF c x) [] E ta) (oProp C x f) := fun fr Γ σ F G H S Q q => by
  refine ha fr Γ σ F G H S _ (post_bind S q fun y Γ1 m1 F1 G1 H1 _ S1 t1 s1 q1 v i1 => ?_)
  by_cases ho : isOb C y.2 = true
  · rw [if_pos ho] at q1
    obtain ⟨t, ht, q3⟩ := res_ok q1
    obtain ⟨ns, ds, e⟩ := isOb_eq ho
    have j1 := IsK.h S1 i1
    have j2 := j1
    rw [e] at j2
    obtain ⟨pa, dx, fs, rfl, hp⟩ := j2.obj
    exact ⟨pa, dx, fs, rfl, hp, spF_d (ds := [y.2]) (.cons j1 .nil) ht (ret_in S1 t1 q3)⟩
  · rw [if_neg ho] at q1; exact q1.elim
theorem resM_ok {y : FO} {P : OT → Hp → (Nat → Hp) → Hp → Prop} (q : (y.resM Γ).post c W fr σ F G H P) : ∃ s', y = .ok (.fz (.v .non)) [s'] ∧ (Er.ok s' Γ 0).post c W fr σ F G H P := by
  unfold FO.resM at q
  split at q
  · exact ⟨_, rfl, q⟩
  · exact q.elim
/-- a new object's __init__ -/
theorem spF_m {ds : List NV.D} {vs : List V} {Q : VK} {E : XK} {Fo Ho : Hp} {Go : Nat → Hp} {pa dx : Addr} (S : Sta c fr Γ σ F G H) (hd : IsL c H H vs ds) (hpa : H pa = none) (hdx : H dx = none) (hne : dx ≠ pa) (tr : Tr Fo Go Ho F G H)
    (q : ((x (.o (.ob C [] []) :: ds.map .d)).resM Γ).post c W fr σ F G H (fun t F' G' H' => ∀ v N, Tmp fr F' G' H' N → (∀ a, N a ≠ none → Ho a = none ∨ ∃ j, Go j a ≠ none) → Ow c H' F' N v t → Q v H')) :
    SpF c x (.ref pa :: vs) (upd (upd H dx (.own pa)) pa (.ins (c.cn C) dx [])) (fun v H2 => v = .non ∧ Q (.ref pa) H2) E := by
  obtain ⟨s', ex, q2⟩ := resM_ok q
  have eB : Ex H (upd H dx (.own pa)) := Ex.new hdx
  have hpa2 : upd H dx (.own pa) pa = none := by rw [upd_ne (Ne.symm hne)]; exact hpa
  have eH : Ex (upd H dx (.own pa)) (upd (upd H dx (.own pa)) pa (.ins (c.cn C) dx [])) := Ex.new hpa2
  refine ⟨.o (.ob C [] []) :: ds.map .d, ⟨upd H dx (.own pa), fun j => if j = 0 then some (.ref pa) else none⟩, H0, fun j => if j = 0 then one pa (.ins (c.cn C) dx []) else H0, ?_, ?_⟩
  · refine ⟨by simp [hd.len], eH, H0_ex, fun a z => absurd rfl z, fun j => ?_, fun j => ?_, fun j => ?_, fun j l hjl => ?_, fun j => ?_, fun j sl hsl => ?_⟩
    · by_cases e : j = 0
      · simp only [e, if_true]; exact one_ex upd_same
      · simp only [e, if_false]; exact H0_ex
    · by_cases e : j = 0
      · simp only [e, if_true]; exact fun a z => by rw [one_ne z]; exact hpa2
      · simp only [e, if_false]; exact fun a z => absurd rfl z
    · by_cases e : j = 0
      · simp only [e, if_true]; exact fun a z => rfl
      · simp only [e, if_false]; exact fun a z => absurd rfl z
    · by_cases e : j = 0
      · have el : l ≠ 0 := fun z => hjl (e.trans z.symm)
        simp only [e, el, if_true, if_false]; exact fun a z => rfl
      · simp only [e, if_false]; exact fun a z => absurd rfl z
    · by_cases e : j = 0
      · simp only [e, if_true]
        intro a xs z
        have := one_ne (some_ne z)
        subst this
        rw [show one a (HO.ins (c.cn C) dx []) a = some (.ins (c.cn C) dx []) from upd_same] at z
        cases z
      · simp only [e, if_false]; exact fun a xs z => (nomatch z)
    · cases j with
      | zero =>
        simp only [List.map_cons, List.getElem?_cons_zero] at hsl
        cases hsl
        refine ⟨.ref pa, rfl, rfl, ?_⟩
        exact .ob (G0 := H0) (dx := dx) (vs := []) upd_same rfl rfl H0_ex .nil
      | succ j =>
        simp only [List.map_cons, List.getElem?_cons_succ, List.map_map, List.getElem?_map] at hsl
        cases hdj : ds[j]? with
        | none => rw [hdj] at hsl; cases hsl
        | some d =>
          rw [hdj] at hsl; cases hsl
          obtain ⟨w, g1, g2⟩ := hd.get hdj
          show ∃ w, ((V.ref pa :: vs).map some)[j + 1]? = some (some w) ∧ Is c _ (un (upd H dx (.own pa)) H0) w d
          exact ⟨w, by rw [List.map_cons, List.getElem?_cons_succ, List.getElem?_map, g1]; rfl, g2.mono (Tp.of (eB.trans eH)) eB⟩
  · rw [ex]
    intro vr F' G' H' N eF tp S' hn hw
    have o0 := S'.sl 0 (.p s') (by unfold outG; rfl)
    obtain ⟨v2, e1, e2, how'⟩ := o0
    cases e1
    cases hw with
    | fz hi =>
      cases Is.leaf hi
      refine ⟨rfl, ?_⟩
      have e1 : Ex H H' := eB.trans S'.bh
      have bH : ∀ a, upd H dx (.own pa) a = none → H a = none := fun a z => none_of_ex eB z
      have ff : Ex F (un F F') := un_r fun a z => none_of_ex S.fh (bH a (S'.bf a z))
      have fn : ∀ a, un F F' a ≠ none → F a = none → H a = none := fun a z1 z2 => by
        rcases un_or z1 with w | w
        · exact bH a (S'.bf a w)
        · exact absurd z2 w
      have gH : ∀ a, G' 0 a ≠ none → H a = none := fun a z => bH a (S'.gb 0 a z)
      refine q2 (un F F') G H' (S.grow e1 ff (un_ex (S.fh.trans e1) S'.fh) fn) (Tr.grow S e1 ff fn) (Stl.e e1) (.ref pa) (G' 0) ⟨S'.gh 0, S'.gm 0, fun a z => none_of_ex S.bh (gH a z), fun a z => ?_, fun j a z => none_of_ex (S.gh j) (gH a z)⟩ (fun a z => tr.back (gH a z)) (how'.mono (Tp.refl _) un_l (Ex.refl _))
      refine Classical.byContradiction fun w => ?_
      rcases un_or w with w | w
      · exact w (S'.gf 0 a z)
      · exact w (none_of_ex S.fh (gH a z))
theorem IsL.append {T M : Hp} {xs ys : List V} {ds es : List NV.D} (h1 : IsL c T M xs ds) (h2 : IsL c T M ys es) : IsL c T M (xs ++ ys) (ds ++ es) := h1.app h2
theorem snd_makeK {E : XK} {n l : Nat} (ha : SndA c W tl a) (hb : SndA c W tk b) : SndO c W (tMakeK (c.cn C) n l (SpF c x) (fun vs zs => vs ++ zs) E tl tk) (oMakeK C n l x a b) := fun fr Γ σ F G H S Q q => by
  refine ha fr Γ σ F G H S _ (post_bind S q fun y Γ1 m1 F1 G1 H1 _ S1 t1 s1 q1 vs i1 => ?_)
  refine hb fr Γ1 σ F1 G1 H1 S1 _ (post_bind S1 q1 fun z Γ2 m2 F2 G2 H2 _ S2 t2 s2 q2 ws i2 => ?_)
  obtain ⟨hbd, q2⟩ := post_if q2
  have j1 := IsKL.h S2 (IsKL.last S1 S2 t2 s2 hbd i1)
  have j2 := IsKL.h S2 i2
  by_cases hl : y.2.length = n ∧ z.2.length = l
  · rw [if_pos hl] at q2
    exact ⟨by rw [j1.len]; exact hl.1, by rw [j2.len]; exact hl.2, fun pa dx h1 h2 h3 => spF_m S2 (j1.append j2) h1 h2 h3 (t1.trans t2) q2⟩
  · rw [if_neg hl] at q2; exact q2.elim
theorem snd_make {E : XK} {dvs : List V} {dd : List NV.D} (hdd : ∀ T M, IsL c T M dvs dd) (ha : SndA c W tl a) : SndO c W (tMake (c.cn C) (SpF c x) dvs E tl) (oMake C x dd a) := fun fr Γ σ F G H S Q q => by
  refine ha fr Γ σ F G H S _ (post_bind S q fun y Γ1 m1 F1 G1 H1 _ S1 t1 s1 q1 vs i1 => ?_)
  exact fun pa dx h1 h2 h3 => spF_m S1 ((IsKL.h S1 i1).append (hdd _ _)) h1 h2 h3 t1 q1
theorem IsKL.of2 {k1 k2 : Kd} {v w : V} {d e : NV.D} (S : Sta c fr Γ σ F G H) (h1 : k1 ≠ .h) (h2 : k2 ≠ .h) (a : IsK c fr.B F H v d k1) (b : IsK c fr.B F H w e k2) : IsKL c fr.B F H [v, w] [d, e] .r := by
  have up : ∀ {k : Kd} {v : V} {d : NV.D}, k ≠ .h → IsK c fr.B F H v d k → Is c H (un fr.B F) v d := fun {k v d} hk i => by
    cases k with
    | f => exact i.mono (Tp.refl _) un_l
    | r => exact i
    | h => exact absurd rfl hk
  exact .cons (up h1 a) (.cons (up h2 b) .nil)
theorem resS_ok {y : FO} (q : (y.resS Γ i π).post c W fr D F H) : ∃ t s', y = .ok t [s'] ∧ (Out.nx (putAt Γ i π s')).post c W fr D F H := by
  unfold FO.resS at q
  split at q
  · exact ⟨_, _, rfl, q⟩
  · exact q.elim
theorem snd_setOwn (hp : SndP c W ta p) (hf : SndE c W tb f) (hg : SndE c W te g) : SndS c W (tAsg te (gSub ta tb (rSetOwn (c.cn C) (SpF c x)))) (sSetOwn C x p f g) := fun fr Γ σ F G H S D q => by
  refine hg fr Γ σ F G H S _ (out_post S q fun vv Γ0 m0 F0 G0 H0' _ S0 t0 s0 q0 w iw0 => ?_)
  refine hp fr Γ0 σ F0 G0 H0' S0 _ (out_post S0 q0 fun y Γ1 m1 F1 G1 H1 _ S1 t1 s1 q1 v v0 h0 hv => ?_)
  refine hf fr Γ1 σ F1 G1 H1 S1 _ ?_
  cases ez : f Γ1 with
  | no => rw [ez] at q1; exact q1
  | ex e Γ2 => rw [ez] at q1; exact fun F' G' H' cls dd S' e i => q1 σ F' G' H' cls dd e.1 e.2 S' i
  | ok z Γ2 m2 =>
    rw [ez] at q1
    dsimp only at q1
    intro F2 G2 H2 S2 t2 s2 u iu
    by_cases hm : 1 < m2
    · rw [if_pos (decide_eq_true hm)] at q1; exact q1.elim
    rw [if_neg (by simpa using hm)] at q1
    by_cases hk : vv.1.im vv.2 = .h ∨ z.1.im z.2 = .h
    · rw [if_pos hk] at q1; exact q1.elim
    rw [if_neg hk] at q1
    have hk1 : vv.1.im vv.2 ≠ .h := fun e => hk (.inl e)
    have hk2 : z.1.im z.2 ≠ .h := fun e => hk (.inr e)
    have hv2 := vAt_mono (s2.1 (by omega)) hv
    have q2 := Out.post.mono t2.f (t2.tp S1) q1
    have iw := IsK.tr S1 S2 t2 (fun e => absurd e hk1) (IsK.tr S0 S1 t1 (fun e => absurd e hk1) (IsK.im S0 iw0))
    cases eT : treeAt Γ2 y.1 y.2 with
    | none => rw [eT] at q2; exact q2.elim
    | some s =>
      rw [eT] at q2
      cases s with
      | ob C' ns ts =>
        dsimp only at q2
        by_cases hc : C' = C
        · rw [if_pos hc] at q2
          subst hc
          obtain ⟨t, s', ex, q3⟩ := resS_ok q2
          obtain ⟨v1, w1, Gs, g1, g2, how, hg', plug⟩ := S2.plug eT
          rw [h0] at g1; cases g1
          rw [hv2] at g2; cases g2
          have hins : ∃ pa dx fs, v = .ref pa ∧ H2 pa = some (.ins (c.cn C') dx fs) := by
            cases how with
            | ob a1 l1 b1 e1 r1 => exact ⟨_, _, _, rfl, (hg'.trans (S2.gh y.1)) _ _ a1⟩
          obtain ⟨pa, dx, fs, rfl, hpa⟩ := hins
          refine ⟨pa, dx, fs, rfl, hpa, ?_⟩
          refine spF_p (W := W) (ds := [z.2, vv.2]) (k := .r) (Q := fun _ H' => D.nx σ H') S2 eT h0 hv2 (fun e => nomatch e) (IsKL.of2 S2 hk2 hk1 (IsK.im S2 iu) iw) (Tr.refl S2) ?_
          show ((x [.o (.ob C' ns ts), .d z.2, .d vv.2]).res1 Γ2 y.1 y.2).post c W fr σ F2 G2 H2 _
          rw [ex]
          exact fun F' G' H' S' tr _ v N _ _ _ => q3 σ F' G' H' tr.f (tr.tp S2) S'
        · rw [if_neg hc] at q2; exact q2.elim
      | _ => exact q2.elim
end

end
section
namespace NE
open PySem PySem.Spec PyProof.Rows
/-! list(enumerate(text)), the text of signs below 128 -/
section
variable {prog : Program} {w : World} {A : Around} {E : Value → Shared → Prop} {s : Shared}
abbrev Asc : String := "str_ascii_iterator"
theorem en_next {u it T : Addr} {n c : Nat} {x : Str} {t : Tok} {old : Value} {f : Bool} {oT : Obj} {Q : Value → Shared → Prop}
    (hu : IsEnumHeld s.heap u it n old T f) (hT : s.heap.get? T = some oT) (nu : T ≠ u) (ni : T ≠ it) (hit : s.heap.IsStrIter it Asc x t n) (hx : x.cps[n]? = some c) (hne : u ≠ it)
    (hQ : ∀ h' tk k1 k2, IsEnumHeld h' u it ((n : Int) + 1) old T true → h'.IsStrIter it Asc x t (n + 1) → h'.get? s.heap.objs.size = some { cls := .type "tuple", data := .seq #[.int n k1, .str ⟨#[c]⟩ k2] } → h'.objs.size = s.heap.objs.size + 1 →
      (∀ b o, b ≠ u → b ≠ it → s.heap.get? b = some o → h'.get? b = some o) → Q (.ref s.heap.objs.size) { s with heap := h', toks := tk }) :
    wpAny (model prog w) A (Builtin.«enumerate.__next__» ⟨[.ref u], []⟩) (fun fin s' => ∃ v, fin = .done (.ret v) ∧ Q v s') E s := by
  obtain ⟨hp, ge, dr, tk, os⟩ := s
  show wpAny _ _ (field (.ref u) 2 >>= _) _ _ _
  refine wpAny_bind (wpAny_field hu rfl (x := .ref it) rfl ?_)
  refine wpAny_bind (wpAny_nextOf_ascii_item hit hx fun h1 hit1 sb1 => ?_)
  replace sb1 : Heap.SameBut it hp h1 := sb1
  have hu1 : IsEnumHeld h1 u it n old T f := (sb1.2 u hne).trans hu
  show wpAny _ _ (field (.ref u) 3 >>= _) _ _ ⟨h1, ge, dr, tk + 1, os⟩
  refine wpAny_bind (wpAny_field hu1 rfl (x := rawInt n) rfl ?_)
  show wpAny _ _ (field (.ref u) 4 >>= _) _ _ ⟨h1, ge, dr, tk + 1, os⟩
  refine wpAny_bind (wpAny_field hu1 rfl (x := .none) rfl ?_)
  show wpAny _ _ (mkInt n >>= _) _ _ ⟨h1, ge, dr, tk + 1, os⟩
  refine wpAny_bind (wpAny_mkInt ?_)
  show wpAny _ _ (setField (.ref u) 3 (rawInt ((n : Int) + 1)) >>= _) _ _ ⟨h1, ge, dr, tk + 1 + 1, os⟩
  refine wpAny_bind (wpAny_setField_rec hu1 (by simp) fun h2 hu2 sb2 => ?_)
  replace sb2 : Heap.SameBut u h1 h2 := sb2
  replace hu2 : IsEnumHeld h2 u it ((n : Int) + 1) old T f := hu2
  show wpAny _ _ (setField (.ref u) 4 .none >>= _) _ _ ⟨h2, ge, dr, tk + 1 + 1, os⟩
  refine wpAny_bind (wpAny_setField_rec hu2 (by simp) fun h3 hu3 sb3 => ?_)
  replace sb3 : Heap.SameBut u h2 h3 := sb3
  replace hu3 : IsEnumHeld h3 u it ((n : Int) + 1) old T f := hu3
  show wpAny _ _ (newTuple [.int n (tk + 1), .str ⟨#[c]⟩ tk] >>= _) _ _ ⟨h3, ge, dr, tk + 1 + 1, os⟩
  refine wpAny_bind (wpAny_newTuple ?_)
  have hz3 : h3.objs.size = hp.objs.size := by rw [sb3.1, sb2.1, sb1.1]
  have kp3 : ∀ b o, b ≠ u → b ≠ it → hp.get? b = some o → h3.get? b = some o := fun b o b1 b2 hb => sb3.extBut b o b1 (sb2.extBut b o b1 (sb1.extBut b o b2 hb))
  have hi3 : h3.IsStrIter it Asc x t (n + 1) := by
    obtain ⟨o, ho, r⟩ := hit1
    exact ⟨o, sb3.extBut it o (Ne.symm hne) (sb2.extBut it o (Ne.symm hne) ho), r⟩
  have ht4 : (h3.push { cls := .type "tuple", data := .seq #[.int n (tk + 1), .str ⟨#[c]⟩ tk] }).get? hp.objs.size = some { cls := .type "tuple", data := .seq #[.int n (tk + 1), .str ⟨#[c]⟩ tk] } := by
    rw [← hz3]; exact Heap.get?_push_size _ rfl
  have pk : ∀ b o, h3.get? b = some o → (h3.push { cls := .type "tuple", data := .seq #[.int n (tk + 1), .str ⟨#[c]⟩ tk] }).get? b = some o := fun b o hb => Heap.get?_push_of_some _ hb
  have hz4 : (h3.push { cls := .type "tuple", data := .seq #[.int n (tk + 1), .str ⟨#[c]⟩ tk] }).objs.size = hp.objs.size + 1 := by rw [Heap.size_push, hz3]
  have hul : u < hp.objs.size := Heap.lt_size hu
  have hu4 := pk u _ hu3
  have hT4 := pk T oT (kp3 T oT nu ni hT)
  have hi4 : (h3.push { cls := .type "tuple", data := .seq #[.int n (tk + 1), .str ⟨#[c]⟩ tk] }).IsStrIter it Asc x t (n + 1) := by
    obtain ⟨o, ho, r⟩ := hi3
    exact ⟨o, pk it o ho, r⟩
  have kp4 : ∀ b o, b ≠ u → b ≠ it → hp.get? b = some o → (h3.push { cls := .type "tuple", data := .seq #[.int n (tk + 1), .str ⟨#[c]⟩ tk] }).get? b = some o := fun b o b1 b2 hb => pk b o (kp3 b o b1 b2 hb)
  generalize h3.push { cls := .type "tuple", data := .seq #[.int n (tk + 1), .str ⟨#[c]⟩ tk] } = h4 at ht4 hz4 hu4 hT4 hi4 kp4
  show wpAny _ _ (Builtin.SmallTypes.ownedTupleIsFree (.ref u) >>= _) _ _ ⟨h4, ge, dr, tk + 1 + 1, os⟩
  rw [hz3]
  refine wpAny_bind (wpAny_tupleHeld_enum (s := ⟨h4, ge, dr, tk + 1 + 1, os⟩) hu4 hT4 fun h5 hu5 sb5 => ?_)
  replace sb5 : Heap.SameBut u h4 h5 := sb5
  simp only [Bool.false_eq_true, if_false]
  have hi5 : h5.IsStrIter it Asc x t (n + 1) := by
    obtain ⟨o, ho, r⟩ := hi4
    exact ⟨o, sb5.extBut it o (Ne.symm hne) ho, r⟩
  refine wpAny_pure ⟨_, rfl, hQ h5 _ _ _ hu5 hi5 (sb5.extBut _ _ (Nat.ne_of_gt hul) ht4) ?_ fun b o b1 b2 hb => sb5.extBut b o b1 (kp4 b o b1 b2 hb)⟩
  show h5.objs.size = hp.objs.size + 1
  rw [sb5.1, hz4]
theorem en_pyNext {u it T : Addr} {n c : Nat} {x : Str} {t : Tok} {old : Value} {f : Bool} {oT : Obj} {Q : Option Value → Shared → Prop}
    (hu : IsEnumHeld s.heap u it n old T f) (hT : s.heap.get? T = some oT) (nu : T ≠ u) (ni : T ≠ it) (hit : s.heap.IsStrIter it Asc x t n) (hx : x.cps[n]? = some c) (hne : u ≠ it)
    (hQ : ∀ h' tk k1 k2, IsEnumHeld h' u it ((n : Int) + 1) old T true → h'.IsStrIter it Asc x t (n + 1) → h'.get? s.heap.objs.size = some { cls := .type "tuple", data := .seq #[.int n k1, .str ⟨#[c]⟩ k2] } → h'.objs.size = s.heap.objs.size + 1 →
      (∀ b o, b ≠ u → b ≠ it → s.heap.get? b = some o → h'.get? b = some o) → Q (some (.ref s.heap.objs.size)) { s with heap := h', toks := tk }) :
    wpAny (model prog w) A (pyNext (.ref u)) Q E s := by
  have ty : s.TypeIs (.ref u) "enumerate" := ⟨_, hu, rfl⟩
  unfold pyNext
  refine wpAny_bind (wpAny_attempt (wpAny_callSpecial?_slot (name := Str.ofString "__next__") ty F.slot_enumerate_next ?_))
  exact wpAny_call_entry F.slot_enumerate_next ty F.entry_enumerate_next (en_next hu hT nu ni hit hx hne fun h' tk k1 k2 a b c d k => wpAny_pure (hQ h' tk k1 k2 a b c d k)) (F.args_enumerate_next_1 _)
theorem en_pyEnd {u it T : Addr} {n : Nat} {x : Str} {t : Tok} {old : Value} {f : Bool} {Q : Option Value → Shared → Prop} (hh : A.handled = none)
    (hu : IsEnumHeld s.heap u it n old T f) (hit : s.heap.IsStrIter it Asc x t n) (hx : x.cps[n]? = none) (hQ : ∀ h', Heap.ExtBut it s.heap h' → Q none { s with heap := h' }) : wpAny (model prog w) A (pyNext (.ref u)) Q E s := by
  have ty : s.TypeIs (.ref u) "enumerate" := ⟨_, hu, rfl⟩
  unfold pyNext
  refine wpAny_bind (wpAny_attempt (wpAny_callSpecial?_slot (name := Str.ofString "__next__") ty F.slot_enumerate_next ?_))
  refine wpAny_call_entry F.slot_enumerate_next ty F.entry_enumerate_next ?_ (F.args_enumerate_next_1 _)
  show wpAny _ _ (field (.ref u) 2 >>= _) _ _ _
  refine wpAny_bind (wpAny_field hu rfl (x := .ref it) rfl ?_)
  refine wpAny_bind (wpAny_nextOf_ascii_end hh hit hx fun h' y ex hy => ?_)
  obtain ⟨o, ho, hc⟩ := hy
  refine wpAny_bind (wpAny_isInstance (T := "StopIteration") (b := true) ⟨o, ho, hc⟩ isSubtype_stop ?_)
  exact wpAny_pure (hQ _ ex)
theorem far {N L : Nat} (h : L < N) (j : Nat) : N + j ≠ L := by omega
/-- what stands after i turns -/
structure EnS (x : Str) (t : Tok) (L u it N : Addr) (h0 : Heap) (i : Nat) (acc : Array Value) (s : Shared) : Prop where
  z : s.heap.objs.size = N + i
  e0 : i = 0 → IsEnum s.heap u it 0 .none
  e1 : 0 < i → ∃ old f, IsEnumHeld s.heap u it i old N f
  si : s.heap.IsStrIter it Asc x t i
  ls : ∃ c, s.heap.get? L = some { cls := .type "list", dict := none, data := .seq acc c, slots := #[] }
  ac : acc.toList = (List.range i).map fun j => Value.ref (N + j)
  tp : ∀ j, j < i → ∃ c k1 k2, x.cps[j]? = some c ∧ s.heap.get? (N + j) = some { cls := .type "tuple", data := .seq #[.int j k1, .str ⟨#[c]⟩ k2] }
  kp : ∀ b o, b ≠ L → b ≠ u → b ≠ it → h0.get? b = some o → s.heap.get? b = some o
theorem EnS.next {x : Str} {t : Tok} {L u it N : Addr} {h0 h' : Heap} {i c tk k1 k2 : Nat} {acc : Array Value} {s : Shared} (S : EnS x t L u it N h0 i acc s) (hc : x.cps[i]? = some c) (hL : L < N) (hu : u < N) (hi : it < N) (nLu : L ≠ u) (nLi : L ≠ it)
    (e : ∃ old f, IsEnumHeld h' u it ((i : Int) + 1) old N f) (hit : h'.IsStrIter it Asc x t (i + 1)) (ht : h'.get? s.heap.objs.size = some { cls := .type "tuple", data := .seq #[.int i k1, .str ⟨#[c]⟩ k2] }) (hz : h'.objs.size = s.heap.objs.size + 1)
    (k : ∀ b o, b ≠ u → b ≠ it → s.heap.get? b = some o → h'.get? b = some o) :
    EnS x t L u it N h0 (i + 1) (acc.push (.ref s.heap.objs.size)) { s with heap := h'.update L (Obj.mapSeq (·.push (.ref s.heap.objs.size))), toks := tk } := by
  obtain ⟨cc, hl⟩ := S.ls
  have hl' := k L _ nLu nLi hl
  have oth : ∀ b o, b ≠ L → h'.get? b = some o → (h'.update L (Obj.mapSeq (·.push (Value.ref s.heap.objs.size)))).get? b = some o := fun b o hb z => (Heap.get?_update_other _ _ (Ne.symm hb)).trans z
  have nN : ∀ j : Nat, N + j ≠ L := fun j => far hL j
  have nU : ∀ j : Nat, N + j ≠ u := fun j => far hu j
  have nI : ∀ j : Nat, N + j ≠ it := fun j => far hi j
  refine ⟨?_, fun z => absurd z (Nat.succ_ne_zero i), fun _ => ?_, ?_, ⟨_, Heap.get?_update_self _ hl' rfl⟩, ?_, fun j hj => ?_, fun b o b1 b2 b3 hb => oth b o b1 (k b o b2 b3 (S.kp b o b1 b2 b3 hb))⟩
  · show (h'.update L _).objs.size = _
    rw [Heap.size_update, hz, S.z]
    rfl
  · obtain ⟨old, f, e⟩ := e
    exact ⟨old, f, oth u _ (Ne.symm nLu) e⟩
  · obtain ⟨o, ho, r⟩ := hit
    exact ⟨o, oth it o (Ne.symm nLi) ho, r⟩
  · rw [Array.toList_push, S.ac, List.range_succ, List.map_append, S.z]
    rfl
  · by_cases hji : j = i
    · subst hji
      refine ⟨c, k1, k2, hc, ?_⟩
      rw [S.z] at ht
      exact oth _ _ (nN j) ht
    · obtain ⟨c', k1', k2', h1, h2⟩ := S.tp j (by omega)
      exact ⟨c', k1', k2', h1, oth _ _ (nN j) (k _ _ (nU j) (nI j) h2)⟩
/-- what stands at the end -/
structure EnF (x : Str) (L u it N : Addr) (h0 : Heap) (acc : Array Value) (h : Heap) : Prop where
  ls : ∃ c, h.get? L = some { cls := .type "list", dict := none, data := .seq acc c, slots := #[] }
  ac : acc.toList = (List.range x.cps.size).map fun j => Value.ref (N + j)
  tp : ∀ j, j < x.cps.size → ∃ c k1 k2, x.cps[j]? = some c ∧ h.get? (N + j) = some { cls := .type "tuple", data := .seq #[.int j k1, .str ⟨#[c]⟩ k2] }
  kp : ∀ b o, b ≠ L → b ≠ u → b ≠ it → h0.get? b = some o → h.get? b = some o
theorem en_loop {x : Str} {t : Tok} {L u it N : Addr} {h0 : Heap} {res : Value} {R : Result → Shared → Prop} (hh : A.handled = none) (hL : L < N) (hu : u < N) (hi : it < N) (nLu : L ≠ u) (nLi : L ≠ it) (nui : u ≠ it) (hx0 : 0 < x.cps.size) (hxs : x.cps.size ≤ 1000) :
    ∀ (k i : Nat) (s : Shared) (acc : Array Value), x.cps.size - i = k → i ≤ x.cps.size → EnS x t L u it N h0 i acc s →
    (∀ h' tk acc', EnF x L u it N h0 acc' h' → R (.ok (.ret res)) { s with heap := h', toks := tk }) →
    codeAny (model prog w) A (.builtin "list.extend.loop" ⟨[.ref L, .ref u, res], []⟩) R s := by
  intro k
  induction k with
  | zero =>
    intro i s acc hk hin S hR
    have e : i = x.cps.size := by omega
    subst e
    refine codeAny_builtin F.entry_extend_loop ?_
    rw [Around.under_plainId F.plain_extend_loop _]
    show wpAny _ A.in1 (pyNext (.ref u) >>= _) _ _ s
    obtain ⟨old, f, e1⟩ := S.e1 hx0
    have nI : ∀ j : Nat, N + j ≠ it := fun j => far hi j
    refine wpAny_bind (en_pyEnd hh e1 S.si (by simp) fun h' hk' => wpAny_pure ?_)
    refine hR h' s.toks acc ⟨?_, S.ac, fun j hj => ?_, fun b o b1 b2 b3 hb => hk' b o b3 (S.kp b o b1 b2 b3 hb)⟩
    · obtain ⟨c, hl⟩ := S.ls
      exact ⟨c, hk' L _ nLi hl⟩
    · obtain ⟨c, k1, k2, h1, h2⟩ := S.tp j hj
      exact ⟨c, k1, k2, h1, hk' _ _ (nI j) h2⟩
  | succ k ih =>
    intro i s acc hk hin S hR
    have hlt : i < x.cps.size := by omega
    obtain ⟨c, hc⟩ : ∃ c, x.cps[i]? = some c := ⟨_, Array.getElem?_eq_getElem hlt⟩
    refine codeAny_builtin F.entry_extend_loop ?_
    rw [Around.under_plainId F.plain_extend_loop _]
    show wpAny _ A.in1 (pyNext (.ref u) >>= _) _ _ s
    obtain ⟨cl, hl⟩ := S.ls
    have hsz : acc.size = i := by
      have := congrArg List.length S.ac
      simpa using this
    have go : ∀ h' tk k1 k2, (∃ old f, IsEnumHeld h' u it ((i : Int) + 1) old N f) → h'.IsStrIter it Asc x t (i + 1) → h'.get? s.heap.objs.size = some { cls := .type "tuple", data := .seq #[.int i k1, .str ⟨#[c]⟩ k2] } → h'.objs.size = s.heap.objs.size + 1 →
        (∀ b o, b ≠ u → b ≠ it → s.heap.get? b = some o → h'.get? b = some o) →
        wpAny (model prog w) A.in1 (updateSeq L (·.push (Value.ref s.heap.objs.size)) >>= fun _ => again (.builtin "list.extend.loop" ⟨[.ref L, .ref u, res], []⟩)) (fun fin s' => match fin with | .done f => R (.ok f) s' | .again c' => c'.quiet = true ∧ codeAny (model prog w) A c' R s') (fun e s' => R (.error e) s') { s with heap := h', toks := tk } := fun h' tk k1 k2 a b d z kp => by
      have S' := S.next (tk := tk) hc hL hu hi nLu nLi a b d z kp
      have hl' := kp L _ nLu nLi hl
      refine wpAny_bind (wpAny_updateSeq hl' rfl (wpAny_pure ⟨plainId_quiet F.plain_extend_loop _, ih (i + 1) _ _ (by omega) hlt S' fun h2 tk2 acc2 z2 => hR h2 tk2 acc2 z2⟩) ?_ ?_)
      · have := sizeLine_eq
        omega
      · show (acc.push (Value.ref s.heap.objs.size)).size ≤ sizeLine + 1
        rw [Array.size_push]
        have := sizeLine_eq
        omega
    by_cases h0 : i = 0
    · subst h0
      have he := S.e0 rfl
      refine wpAny_bind (wpAny_pyNext_enum_itemC (n := x.cps.size) (Draws.strAscii (A := A.in1.in1) hh it x t) he S.si hlt nui (fun z => nui (List.mem_singleton.mp z)) fun y h' tk hy ho hit ht hz kp => ?_)
      obtain ⟨c', k2, hc', rfl⟩ := hy
      have ec : c' = c := by rw [hc] at hc'; exact (Option.some.inj hc').symm
      subst ec
      have eN : s.heap.objs.size = N := S.z
      exact go h' (tk + 1) tk k2 ⟨_, false, by rw [eN] at ho; exact ho⟩ hit ht hz kp
    · obtain ⟨old, f, e1⟩ := S.e1 (by omega)
      obtain ⟨c0, q1, q2, _, hT⟩ := S.tp 0 (by omega)
      have nU : (N : Addr) ≠ u := Nat.ne_of_gt hu
      have nI : (N : Addr) ≠ it := Nat.ne_of_gt hi
      refine wpAny_bind (en_pyNext e1 hT nU nI S.si hc nui fun h' tk k1 k2 a b d z kp => ?_)
      exact go h' tk k1 k2 ⟨_, _, a⟩ b d z kp
theorem enum_no_len : typeLookup (.type "enumerate") "__len__" = pure none := by rw [typeLookup_type, builtinLookup_eq_fast]; kernel_rfl
theorem enum_no_hint : typeLookup (.type "enumerate") "__length_hint__" = pure none := by rw [typeLookup_type, builtinLookup_eq_fast]; kernel_rfl
theorem en_extend {x : Str} {t : Tok} {L u it : Addr} {res : Value} {c0 : Nat} {R : Result → Shared → Prop} (hh : A.handled = none) (nLu : L ≠ u) (nLi : L ≠ it) (nui : u ≠ it) (hx0 : 0 < x.cps.size) (hxs : x.cps.size ≤ 1000)
    (he : IsEnum s.heap u it 0 .none) (hit : s.heap.IsStrIter it Asc x t 0) (hS : s.heap.get? L = some { cls := .type "list", data := .seq #[] c0 })
    (hR : ∀ h' tk acc', EnF x L u it s.heap.objs.size s.heap acc' h' → R (.ok (.ret res)) { s with heap := h', toks := tk }) :
    wpAny (model prog w) A.in1 (Builtin.List.listExtendWith (.ref L) (.ref u) res)
      (fun fin s' => match fin with | .done f => R (.ok f) s' | .again c' => c'.quiet = true ∧ codeAny (model prog w) A c' R s') (fun e s' => R (.error e) s') s := by
  have hL : L < s.heap.objs.size := Heap.lt_size hS
  have hu : u < s.heap.objs.size := Heap.lt_size he
  have hi : it < s.heap.objs.size := by obtain ⟨o, ho, _⟩ := hit; exact Heap.lt_size ho
  have ty : s.TypeIs (.ref u) "enumerate" := ⟨_, he, rfl⟩
  unfold Builtin.List.listExtendWith
  refine wpAny_bind (wpAny_typeOf ty ?_)
  have q1 : Builtin.List.listSameRef (.ref L) (.ref u) = false := by simp [Builtin.List.listSameRef, nLu]
  have q2 : (Value.type "enumerate" == Value.type "list") = false := by decide
  have q3 : (Value.type "enumerate" == Value.type "tuple") = false := by decide
  simp only [q1, q2, q3, Bool.or_false, Bool.false_eq_true, if_false]
  refine wpAny_bind (wpAny_pyIter_enum he ?_)
  refine wpAny_bind (wpAny_holding ?_)
  unfold Builtin.List.listLengthHint
  refine wpAny_bind (wpAny_specialOf ty enum_no_len ?_)
  show wpAny _ A.in1 (specialOf (Value.ref u) (Str.ofString "__length_hint__") >>= _) _ _ _
  refine wpAny_bind (wpAny_specialOf ty enum_no_hint ?_)
  refine wpAny_pure ?_
  show wpAny _ A.in1 (rule "list.extend.makes-room" >>= fun _ => Builtin.List.listTouch (.ref L) >>= fun _ => again (.builtin "list.extend.loop" ⟨[.ref L, .ref u, res], []⟩)) _ _ _
  refine wpAny_bind (wpAny_rule (wpAny_bind ?_))
  show wpAny _ A.in1 (updateSeq L (·.push .none) >>= fun _ => updateSeq L (·.pop)) _ _ _
  refine wpAny_bind (wpAny_updateSeq hS rfl ?_)
  have hS2 := Heap.get?_update_self (Obj.mapSeq (·.push Value.none)) hS rfl
  refine wpAny_updateSeq hS2 rfl ?_
  have hS3 := Heap.get?_update_self (Obj.mapSeq (·.pop)) hS2 rfl
  have oth : ∀ b o, b ≠ L → s.heap.get? b = some o → ((s.heap.update L (Obj.mapSeq (·.push Value.none))).update L (Obj.mapSeq (·.pop))).get? b = some o :=
    fun b o hb z => (Heap.get?_update_other _ _ (Ne.symm hb)).trans ((Heap.get?_update_other _ _ (Ne.symm hb)).trans z)
  have hz : ((s.heap.update L (Obj.mapSeq (·.push Value.none))).update L (Obj.mapSeq (·.pop))).objs.size = s.heap.objs.size := by rw [Heap.size_update, Heap.size_update]
  refine wpAny_pure ⟨plainId_quiet F.plain_extend_loop _, en_loop (x := x) (t := t) (N := s.heap.objs.size) (h0 := s.heap) hh hL hu hi nLu nLi nui hx0 hxs x.cps.size 0 _ #[] rfl (Nat.zero_le _) ⟨hz, fun _ => oth u _ (Ne.symm nLu) he, fun z => absurd z (Nat.lt_irrefl 0), ?_, ⟨_, hS3⟩, rfl, fun j hj => absurd hj (Nat.not_lt_zero j), fun b o b1 _ _ hb => oth b o b1 hb⟩ fun h' tk acc' hF => hR h' tk acc' hF⟩
  obtain ⟨o, ho, r⟩ := hit
  exact ⟨o, oth it o (Ne.symm nLi) ho, r⟩
theorem call_list_enum {x : Str} {t : Tok} {u it : Addr} {Q : Value → Shared → Prop} (hh : A.handled = none) (nui : u ≠ it) (hx0 : 0 < x.cps.size) (hxs : x.cps.size ≤ 1000)
    (he : IsEnum s.heap u it 0 .none) (hit : s.heap.IsStrIter it Asc x t 0)
    (hQ : ∀ h' tk acc', EnF x s.heap.objs.size u it (s.heap.objs.size + 1) s.heap acc' h' → Q (.ref s.heap.objs.size) { s with heap := h', toks := tk }) :
    wpAny (model prog w) A (call (.type "list") [.ref u]) Q E s := by
  refine callType_codes (Q₁ := fun obj s1 => obj = .ref s.heap.objs.size ∧ s1 = { s with heap := s.heap.push { cls := .type "list", data := .seq #[] } }) F.called_list (F.typeCall_list_1 _) F.entry_list_init
    (code_list_new _ ⟨rfl, rfl⟩) fun obj s1 h1 => ?_
  obtain ⟨rfl, rfl⟩ := h1
  have hu : u < s.heap.objs.size := Heap.lt_size he
  have hi : it < s.heap.objs.size := by obtain ⟨o, ho, _⟩ := hit; exact Heap.lt_size ho
  have hS : (s.heap.push { cls := .type "list", data := .seq #[] }).get? s.heap.objs.size = some { cls := .type "list", data := .seq #[] } := Heap.get?_push_size _ rfl
  have pk : ∀ b o, s.heap.get? b = some o → (s.heap.push { cls := .type "list", data := .seq #[] }).get? b = some o := fun b o z => Heap.get?_push_of_some _ z
  have hz : (s.heap.push { cls := .type "list", data := .seq #[] }).objs.size = s.heap.objs.size + 1 := Heap.size_push ..
  refine ⟨⟨_, hS, rfl⟩, F.args_list_init_2 _ _, ?_⟩
  show wpAny _ _ (do let old ← Builtin.List.listItems (.ref s.heap.objs.size); Builtin.List.listUpdate (.ref s.heap.objs.size) (fun _ => #[]); letGo old.toList.reverse; Builtin.List.listExtendWith (.ref s.heap.objs.size) (.ref u) .none) _ _ _
  refine wpAny_bind ?_
  unfold Builtin.List.listItems
  refine wpAny_bind (wpAny_seqItems hS rfl (wpAny_pure ?_))
  show wpAny _ _ (updateSeq s.heap.objs.size (fun _ => #[]) >>= fun _ => letGo (#[] : Array Value).toList.reverse >>= fun _ => Builtin.List.listExtendWith (.ref s.heap.objs.size) (.ref u) .none) _ _ _
  refine wpAny_bind (wpAny_updateSeq hS rfl ?_)
  have hS2 := Heap.get?_update_self (Obj.mapSeq (fun _ => (#[] : Array Value))) hS rfl
  have oth : ∀ b o, b ≠ s.heap.objs.size → s.heap.get? b = some o → ((s.heap.push { cls := .type "list", data := .seq #[] }).update s.heap.objs.size (Obj.mapSeq (fun _ => (#[] : Array Value)))).get? b = some o :=
    fun b o hb z => (Heap.get?_update_other _ _ (Ne.symm hb)).trans (pk b o z)
  have hz2 : ((s.heap.push { cls := .type "list", data := .seq #[] }).update s.heap.objs.size (Obj.mapSeq (fun _ => (#[] : Array Value)))).objs.size = s.heap.objs.size + 1 := by rw [Heap.size_update, hz]
  refine wpAny_bind (wpAny_letGo ?_)
  refine en_extend (A := A.in1) (t := t) hh (Nat.ne_of_gt hu) (Nat.ne_of_gt hi) nui hx0 hxs (oth u _ (Nat.ne_of_lt hu) he) ?_ hS2 fun h' tk acc' hF => ⟨rfl, hQ h' tk acc' ?_⟩
  · obtain ⟨o, ho, r⟩ := hit
    exact ⟨o, oth it o (Nat.ne_of_lt hi) ho, r⟩
  · rw [hz2] at hF
    exact ⟨hF.ls, hF.ac, hF.tp, fun b o b1 b2 b3 hb => hF.kp b o b1 b2 b3 (oth b o b1 hb)⟩
end
end NE

end
section
open PySem L2 Evl PyProof.Rows
/-- the cells that list(enumerate(text)) lays -/
def enHn (H : Nat → Option HO) (L N n : Nat) (f : Nat → V) : Nat → Option HO := fun a => if a = L then some (.lst ((List.range n).map fun j => V.ref ((N + j : Nat) : Addr))) else if N ≤ a ∧ a < N + n then some (.tup [.int ((a - N : Nat) : Int), f (a - N)]) else H a
def enH (H : Hp) (L N n : Nat) (f : Nat → V) : Hp := enHn H L N n f
theorem enH_l {H : Hp} {L N n : Nat} {f : Nat → V} : enH H L N n f L = some (.lst ((List.range n).map fun j => V.ref ((N + j : Nat) : Addr))) := by
  show enHn H L N n f L = _
  unfold enHn
  rw [if_pos rfl]
theorem enH_t {H : Hp} {L N n : Nat} {f : Nat → V} {j : Nat} (hL : L < N) (hj : j < n) : enH H L N n f (N + j : Nat) = some (.tup [.int (j : Int), f j]) := by
  show enHn H L N n f (N + j) = _
  unfold enHn
  rw [if_neg (by omega), if_pos ⟨by omega, by omega⟩, show N + j - N = j by omega]
theorem enH_o {H : Hp} {L N n : Nat} {f : Nat → V} {a : Nat} (h : a < L) (hL : L < N) : enH H L N n f a = H a := by
  show enHn H L N n f a = _
  unfold enHn
  rw [if_neg (by omega), if_neg (by omega)]
theorem enH_n {H : Hp} {L N n : Nat} {f : Nat → V} {a : Nat} (h1 : a ≠ L) (h2 : ¬ (N ≤ a ∧ a < N + n)) : enH H L N n f a = H a := by
  show enHn H L N n f a = _
  unfold enHn
  rw [if_neg h1, if_neg h2]
def rEnS (s : Str) (H : Hp) (Q : VK) : Prop := s.cps.all (· < 128) = true ∧ 0 < s.cps.size ∧ s.cps.size ≤ 1000 ∧ ∀ (l : Addr) (T : Nat → Addr) (H2 : Hp), Ex H H2 → H l = none → H2 l = some (.lst ((List.range s.cps.size).map fun j => V.ref (T j))) →
  (∀ j, j < s.cps.size → H (T j) = none ∧ ∃ c, s.cps[j]? = some c ∧ H2 (T j) = some (.tup [.int (j : Int), .str ⟨#[c]⟩])) → Q (.ref l) H2
def tLstEnumS (ta : TE) : TE := fun σ H Q => ta σ H fun x H1 => ∃ s : Str, x = .str s ∧ rEnS s H1 Q
section
variable {X : Cx} {e : Expr} {ta : TE} {p p2 pos pos2 : Pos}
theorem enS_inv {pins : List (Addr × Obj)} {σ : L2.St} {H : Hp} {s : Shared} {x : Str} {L u it N : Nat} {acc : Array Value} {h0 h' : Heap} {tk : Nat} (I : Inv X pins σ H s) (hF : NE.EnF x L u it N h0 acc h') (k0 : ∀ b o, s.heap.get? b = some o → h0.get? b = some o)
    (hL : s.heap.objs.size ≤ L) (hu : s.heap.objs.size ≤ u) (hi : s.heap.objs.size ≤ it) (hN : L < N) (hxs : x.cps.size ≤ 1000) :
    Inv X pins σ (enH H L N x.cps.size fun j => .str ⟨#[x.cps.getD j 0]⟩) { s with heap := h', toks := tk } := by
  have fr : ∀ a : Nat, s.heap.objs.size ≤ a → H a = none := fun a ha => I.hok.fresh ha
  have ol : ∀ b o, s.heap.get? b = some o → (b : Nat) < L := fun b o hb => Nat.lt_of_lt_of_le (Heap.lt_size hb) hL
  have kp : ∀ b o, s.heap.get? b = some o → h'.get? b = some o := fun b o hb => hF.kp b o (Nat.ne_of_lt (Nat.lt_of_lt_of_le (Heap.lt_size hb) hL)) (Nat.ne_of_lt (Nat.lt_of_lt_of_le (Heap.lt_size hb) hu)) (Nat.ne_of_lt (Nat.lt_of_lt_of_le (Heap.lt_size hb) hi)) (k0 b o hb)
  have old : ∀ (b : Nat) o, H b = some o → enH H L N x.cps.size (fun j => .str ⟨#[x.cps.getD j 0]⟩) b = some o := fun b o hb => by
    have : b < L := by
      by_cases z : s.heap.objs.size ≤ b
      · rw [fr b z] at hb; cases hb
      · omega
    rw [enH_o this hN]; exact hb
  have sl := sizeLine_eq
  refine I.un ⟨fun b o q _ _ _ => kp b o q, fun b o q _ _ _ => ⟨o.slots, kp b o q⟩, fun b o q n _ => ?_, fun b o q _ => ⟨o, kp b o q⟩, fun b xs q => old b _ q, fun b o u q => old b _ q, fun b ps q => ⟨#[], by rw [old b _ q]; simp⟩⟩ ?_
  · exact (enH_o (ol b o q) hN).trans n
  · intro b u e
    by_cases hb : (b : Nat) = L
    · subst hb
      rw [enH_l] at e
      cases e
      obtain ⟨c, hl⟩ := hF.ls
      refine ⟨by rw [List.length_map, List.length_range, sl]; omega, acc.toList, c, ?_, by rw [Array.toArray_toList]; exact hl⟩
      rw [hF.ac]
      exact vals_of_at (by rw [List.length_map, List.length_map]) fun j y v h1 h2 => by
        rw [List.getElem?_map] at h1 h2
        cases q : (List.range x.cps.size)[j]? with
        | none => rw [q] at h1; cases h1
        | some m => rw [q] at h1 h2; cases h1; cases h2; rfl
    · by_cases hr : N ≤ (b : Nat) ∧ (b : Nat) < N + x.cps.size
      · obtain ⟨j, rfl⟩ : ∃ j : Nat, b = N + j := ⟨(b : Nat) - N, by have := hr.1; exact (Nat.add_sub_cancel' this).symm⟩
        have hj : j < x.cps.size := by have := hr.2; exact Nat.lt_of_add_lt_add_left this
        rw [enH_t hN hj] at e
        cases e
        obtain ⟨c, k1, k2, hc, ht⟩ := hF.tp j hj
        have ec : x.cps.getD j 0 = c := by rw [Array.getD_eq_getD_getElem?, hc]; rfl
        refine ⟨by show 2 ≤ sizeLine; rw [sl]; omega, [.int j k1, .str ⟨#[c]⟩ k2], .cons ⟨_, rfl⟩ (.cons ⟨k2, by rw [ec]⟩ .nil), ⟨_, ht, rfl, _, rfl⟩⟩
      · have eb : H b = some u := by
          rw [enH_n hb hr] at e
          exact e
        exact (I.hok b u eb).stay (fun c v _ q => kp c v q) (fun c q => old c _ q) fun c xs q => old c _ q
theorem pe_listEnumS (hg : Gl X "list") (hm : X.mg "list" = none) (hg2 : Gl X "enumerate") (hm2 : X.mg "enumerate" = none) (hc : X.calm = true) (he : PE X e ta) (na : starEach [.Call (.Name "enumerate" p2) [e] [] pos2] X.env = (false, eval (.Call (.Name "enumerate" p2) [e] [] pos2) X.env) :: starEach [] X.env := by rfl) (na2 : starEach [e] X.env = (false, eval e X.env) :: starEach [] X.env := by rfl) :
    PE X (.Call (.Name "list" p) [.Call (.Name "enumerate" p2) [e] [] pos2] [] pos) (tLstEnumS ta) := by
  refine ⟨fun pins s σ H Q I h => ?_⟩
  refine Call_ (ld_blt I hg hm boot_list (PyProof.Rows.callWith_type1 (args_cons ?_ na) na))
  refine Call_ (ld_blt I hg2 hm2 boot_enumerate (PyProof.Rows.callWith_type1 (args_cons (thn (he.run pins s σ H _ I h) fun v s1 ⟨x, H1, I1, rx, q⟩ => args_nil ?_) na2) na2))
  obtain ⟨z, rfl, ha, h0, hl, q⟩ := q
  obtain ⟨t, rfl⟩ := rx
  refine call_enumerate_str fun h2 hu hi hz k2 => args_nil ?_
  have et : strIterType z = "str_ascii_iterator" := by unfold strIterType; rw [if_pos ha]
  rw [et] at hi
  refine NE.call_list_enum (A := X.A) (I1.ok.hd hc) (Nat.succ_ne_self _) h0 hl hu hi fun h' tk acc hF => ?_
  have I2 := enS_inv (tk := tk) I1 hF k2 (by show s1.heap.objs.size ≤ h2.objs.size; omega) (Nat.le_succ _) (Nat.le_refl _) (Nat.lt_succ_self _) hl
  refine ⟨.ref h2.objs.size, _, I2, rfl, q h2.objs.size (fun j => h2.objs.size + 1 + j) _ (fun a o ea => ?_) (I1.hok.fresh (by show s1.heap.objs.size ≤ h2.objs.size; omega)) enH_l fun j hj => ⟨I1.hok.fresh (by show s1.heap.objs.size ≤ h2.objs.size + 1 + j; omega), z.cps.getD j 0, ?_, enH_t (Nat.lt_succ_self _) hj⟩⟩
  · exact (enH_o (Nat.lt_of_lt_of_le (I1.hok.lt ea) (by show s1.heap.objs.size ≤ h2.objs.size; omega)) (Nat.lt_succ_self _)).trans ea
  · rw [Array.getD_eq_getD_getElem?, Array.getElem?_eq_getElem hj]; rfl
end

end
section
open PySem L2 Evl

/-! ### lists and texts from others -/
/-- slices -/
abbrev ZF := Gm → Er (Option Int)
def SndZ (c : Ct) (W : WX) (to : TO) (f : ZF) : Prop := ∀ fr Γ σ F G H, Sta c fr Γ σ F G H → ∀ Q : Option Int → Hp → Prop,
  (f Γ).post c W fr σ F G H (fun b F' G' H' => Q b H') → to σ H Q
def zNo : ZF := fun Γ => .ok none Γ 0
def zSome (a : EF) : ZF := fun Γ => (a Γ).bind fun y Γ1 _ => match oneI [y.2] with
  | some n => .ok (some n) Γ1 0
  | none => .no
def eSlS (a : EF) (l u : ZF) : EF := fun Γ => (a Γ).bind fun y Γ1 _ => (l Γ1).bind fun lo Γ2 _ => (u Γ2).bind fun hi Γ3 _ => match y.2 with
  | .v (.str s) => if s.length ≤ 1000000 then .ok (.f, .s (cutS s lo hi)) Γ3 0 else .no
  | _ => .no
def cutD (ds : List D) (lo hi : Option Int) : List D := (ds.drop (HT.sIx ds.length 0 lo)).take (HT.sIx ds.length ds.length hi - HT.sIx ds.length 0 lo)
/-- a new list of data -/
def freshR (k : Kd) (ds : List D) (Γ : Gm) : Er OT := if k = .f ∨ imms ds = true then .ok (.l (ds.map .fz)) Γ 0 else .no
def oSlL (a : EF) (l u : ZF) : OF := fun Γ => (a Γ).bind fun y Γ1 _ => (l Γ1).bind fun lo Γ2 k1 => (u Γ2).bind fun hi Γ3 k2 => match y.2 with
  | .l ds => if bad y.1 y.2 (max k1 k2) = true then .no else freshR y.1 (cutD ds lo hi) Γ3
  | _ => .no
def oListOf (a : AF) : OF := fun Γ => (a Γ).bind fun y Γ1 _ => match y.2 with
  | [d] => match d.items with
    | some ds => freshR y.1 ds Γ1
    | none => .no
  | _ => .no
def oListT (a : AF) : OF := fun Γ => (a Γ).bind fun y Γ1 _ => match y.2 with
  | [.v (.str s)] => if s.length ≤ 100000 then .ok (.l ((chars s).map .fz)) Γ1 0 else .no
  | _ => .no
def oListRg (a : EF) : OF := fun Γ => (a Γ).bind fun y Γ1 _ => match oneI [y.2] with
  | some n => if decide (n < -100000 ∨ 100000 < n) = true then .no else .ok (.l ((rgD 0 n.toNat).map .fz)) Γ1 0
  | none => .no
def intsOf : List D → Option (List Int)
  | [] => some []
  | .v (.int n) :: r => (intsOf r).map (n :: ·)
  | _ :: _ => none
def strsOf : List D → Option (List Str)
  | [] => some []
  | .v (.str n) :: r => (strsOf r).map (n :: ·)
  | _ :: _ => none
def insI (x : Int) : List Int → List Int
  | [] => [x]
  | y :: ys => if x ≤ y then x :: y :: ys else y :: insI x ys
def sortI : List Int → List Int
  | [] => []
  | x :: xs => insI x (sortI xs)
def oSorted (a : AF) : OF := fun Γ => (a Γ).bind fun y Γ1 _ => match y.2 with
  | [.l ds] => match intsOf ds with
    | some ns => if ns.length < 64 then .ok (.l ((sortI ns).map fun n => .fz (.i n))) Γ1 0 else .no
    | none => .no
  | _ => .no
/-- list(enumerate(text)) -/
def oEnumS (a : EF) : OF := fun Γ => (a Γ).bind fun y Γ1 _ => match y.2 with
  | .v (.str s) => if s.cps.all (· < 128) = true ∧ 0 < s.cps.size ∧ s.cps.size ≤ 1000 then .ok (.l ((enumD 0 (chars s)).map .fz)) Γ1 0 else .no
  | _ => .no
def rJoin (K : PySem.W.Frag) : V → List V → Hp → VK → Prop := fun x xs H Q => ∃ a p, ∃ ys : List Str, x = .str a ∧ xs = [.ref p] ∧ (SqL K H p (ys.map V.str) ∨ SqT K H p (ys.map V.str)) ∧
    (ys.map (·.length)).sum + ys.length * a.length ≤ 16777216 ∧ Q (.str (Txt.join a ys)) H
def gJoin : D → D → Option V
  | .v (.str a), e => match e.items.bind strsOf with
    | some ys => if (ys.map (·.length)).sum + ys.length * a.length ≤ 1000000 then some (.str (Txt.join a ys)) else none
    | none => none
  | _, _ => none
def eM1 (g : D → D → Option V) (a b : EF) : EF := fun Γ => (a Γ).bind fun x Γ1 _ => match x.2 with
  | .v (.str s) => (b Γ1).bind fun y Γ2 _ => leafR (g (.v (.str s)) y.2) Γ2
  | _ => .no
/-- xs.index(x), s.index(t) -/
def ixV (x : V) : List V → Option Nat
  | [] => none
  | y :: ys => if eqV y x = true then some 0 else (ixV x ys).map (· + 1)
def oneV : List D → Option V
  | [.v x] => some x
  | _ => none
theorem oneV_eq {ds : List D} {x : V} (h : oneV ds = some x) : ds = [.v x] := by
  unfold oneV at h
  split at h
  · cases h; rfl
  · cases h
def eIndexL (a : EF) (b : AF) : EF := fun Γ => (a Γ).bind fun x Γ1 _ => match x.2 with
  | .l ds => match lfs ds with
    | some vs => (b Γ1).bind fun y Γ2 k => if decide (1 < k) = true then .no else match oneV y.2 with
      | some u => if flatV u && vs.all flatV then match ixV u vs with
        | some j => .ok (.f, .i (j : Int)) Γ2 0
        | none => .no
        else .no
      | none => .no
    | none => .no
  | _ => .no
def rSIndex : V → List V → Hp → VK → Prop := fun x xs H Q => ∃ a b i rest, x = .str a ∧ xs = [.str b] ∧ Builtin.Str.occurrences a b 0 a.length 1 = i :: rest ∧ Q (.int (i : Nat)) H
def oneS : List D → Option Str
  | [.v (.str x)] => some x
  | _ => none
theorem oneS_eq {ds : List D} {x : Str} (h : oneS ds = some x) : ds = [.s x] := by
  unfold oneS at h
  split at h
  · cases h; rfl
  · cases h
def eIndexS (a : EF) (b : AF) : EF := fun Γ => (a Γ).bind fun x Γ1 _ => match x.2 with
  | .v (.str s) => (b Γ1).bind fun y Γ2 _ => match oneS y.2 with
    | some t => match Builtin.Str.occurrences s t 0 s.length 1 with
      | i :: _ => .ok (.f, .i (i : Nat)) Γ2 0
      | [] => .no
    | none => .no
  | _ => .no
def D.ty : D → Option String
  | .v .non => some "NoneType"
  | .v (.bl _) => some "bool"
  | .v (.int _) => some "int"
  | .v (.str _) => some "str"
  | .l _ => some "list"
  | .t _ => some "tuple"
  | .tk _ => some "tuple"
  | _ => none
def gIsi : List D → Option V
  | [d, .v (.ty t)] => d.ty.bind fun u => (kitB u t).map .bl
  | _ => none
section
variable {c : Ct} {W : WX} {te ta tb tc : TE} {f g h : EF} {p : PF} {o : OF} {a b : AF} {x : FM} {fr : Fr} {σ σ' : L2.St} {F F' F'' H H' H'' F1 H1 : Hp} {Gx : Hp} {G G' G'' G1 : Nat → Hp} {Γ Γ' Γ1 : Gm} {D : Ends} {tl tk : TA} {l u : ZF} {to tu : TO}
theorem IsL.of_get {T M : Hp} : ∀ {vs : List V} {ds : List NV.D}, vs.length = ds.length → (∀ (j : Nat) v d, vs[j]? = some v → ds[j]? = some d → Is c T M v d) → IsL c T M vs ds
  | [], [], _, _ => .nil
  | v :: vs, d :: ds, h, hg => .cons (hg 0 v d rfl rfl) (IsL.of_get (by simpa using h) fun j v d h1 h2 => hg (j + 1) v d (by simpa using h1) (by simpa using h2))
  | [], _ :: _, h, _ => by cases h
  | _ :: _, [], h, _ => by cases h
theorem snd_zno : SndZ c W tNoPart zNo := fun fr Γ σ F G H S Q q => post_ok S q
theorem snd_zsome (ha : SndE c W ta f) : SndZ c W (tPart ta) (zSome f) := fun fr Γ σ F G H S Q q => by
  refine ha fr Γ σ F G H S _ (post_bind S q fun y Γ1 m1 F1 G1 H1 _ S1 t1 s1 q1 v i1 => ?_)
  cases e : oneI [y.2] with
  | none => rw [e] at q1; exact q1.elim
  | some n =>
    rw [e] at q1
    have ey : y.2 = .i n := by have := oneI_eq e; injection this
    have i2 := IsK.h S1 i1
    rw [ey] at i2
    cases Is.leaf i2
    exact ⟨n, rfl, post_ok S1 q1⟩
theorem snd_slS (ha : SndE c W ta f) (hl : SndZ c W to l) (hu : SndZ c W tu u) : SndE c W (tSl rSlS ta to tu) (eSlS f l u) := fun fr Γ σ F G H S Q q => by
  refine ha fr Γ σ F G H S _ (post_bind S q fun y Γ1 m1 F1 G1 H1 _ S1 t1 s1 q1 v i1 => ?_)
  refine hl fr Γ1 σ F1 G1 H1 S1 _ (post_bind S1 q1 fun lo Γ2 m2 F2 G2 H2 _ S2 t2 s2 q2 => ?_)
  refine hu fr Γ2 σ F2 G2 H2 S2 _ (post_bind S2 q2 fun hi Γ3 m3 F3 G3 H3 _ S3 t3 s3 q3 => ?_)
  obtain ⟨k, d⟩ := y
  dsimp only at q3 i1
  cases d with
  | v w =>
    cases w with
    | str s =>
      dsimp only at q3
      by_cases hs : s.length ≤ 1000000
      · rw [if_pos hs] at q3
        cases Is.leaf (IsK.h S1 i1)
        exact ⟨s, rfl, Nat.le_trans hs (by decide), post_ok S3 q3 _ (.v _)⟩
      · rw [if_neg hs] at q3; exact q3.elim
    | _ => exact q3.elim
  | _ => exact q3.elim
theorem IsL.cut {T M : Hp} {xs : List V} {ds : List NV.D} (r : IsL c T M xs ds) (lo hi : Option Int) : IsL c T M (cutV xs lo hi) (cutD ds lo hi) := by
  unfold cutV cutD
  rw [r.len]
  exact (r.drop _).take _
/-- a new list cell of data -/
theorem post_fresh {k : Kd} {ds : List NV.D} {vs : List V} {Q : VK} {Fo Ho : Hp} {Go : Nat → Hp} (S : Sta c fr Γ σ F G H) (i : IsKL c fr.B F H vs ds k) (tr : Tr Fo Go Ho F G H)
    (q : (freshR k ds Γ).post c W fr σ F G H (fun t F' G' H' => ∀ v N, Tmp fr F' G' H' N → (∀ a, N a ≠ none → Ho a = none ∨ ∃ j, Go j a ≠ none) → Ow c H' F' N v t → Q v H')) (p : Addr) (hp : H p = none) : Q (.ref p) (upd H p (.lst vs)) := by
  unfold freshR at q
  by_cases hk : k = .f ∨ imms ds = true
  · rw [if_pos hk] at q
    have i2 : IsL c H F vs ds := by
      rcases hk with hk | hk
      · subst hk; exact i
      · exact (IsKL.h S i).imm hk
    have e1 : Ex H (upd H p (.lst vs)) := Ex.new hp
    refine q F G _ (S.heap e1) (Tr.heap S e1) (Stl.e e1) (.ref p) (one p (.lst vs)) (Tmp.new S hp (fun xs z => nomatch z)) (fun b z => ?_) ?_
    · rw [one_ne z]; exact tr.back hp
    · exact .l (G0 := H0) upd_same rfl H0_ex (OwL.fz (i2.mono (Tp.of e1) (Ex.refl _)))
  · rw [if_neg hk] at q; exact q.elim
theorem IsKL.cut {k : Kd} {xs : List V} {ds : List NV.D} (r : IsKL c fr.B F H xs ds k) (lo hi : Option Int) : IsKL c fr.B F H (cutV xs lo hi) (cutD ds lo hi) k := by
  cases k <;> exact IsL.cut r lo hi
theorem snd_slL (ha : SndE c W ta f) (hl : SndZ c W to l) (hu : SndZ c W tu u) : SndO c W (tSl (rSlL c.K) ta to tu) (oSlL f l u) := fun fr Γ σ F G H S Q q => by
  refine ha fr Γ σ F G H S _ (post_bind S q fun y Γ1 m1 F1 G1 H1 _ S1 t1 s1 q1 v i1 => ?_)
  refine hl fr Γ1 σ F1 G1 H1 S1 _ (post_bind S1 q1 fun lo Γ2 m2 F2 G2 H2 _ S2 t2 s2 q2 => ?_)
  refine hu fr Γ2 σ F2 G2 H2 S2 _ (post_bind S2 q2 fun hi Γ3 m3 F3 G3 H3 _ S3 t3 s3 q3 => ?_)
  obtain ⟨k, d⟩ := y
  dsimp only at q3 i1
  cases d with
  | l ds =>
    dsimp only at q3
    obtain ⟨hb, q3⟩ := post_if q3
    have j := IsK.last S1 S3 (t2.trans t3) (s2.trans s3) hb i1
    obtain ⟨pa, xs, rfl, s, r⟩ := IsK.items S3 j (show NV.D.items (.l ds) = some ds from rfl)
    have sl : SqL c.K H3 pa xs ∨ True := .inr trivial
    have hsq : ∃ xs', SqL c.K H3 pa xs' ∧ IsKL c fr.B F3 H3 xs' ds k := by
      have key : ∀ {M : Hp}, Ex M H3 → Is c H3 M (.ref pa) (.l ds) → ∃ xs', SqL c.K H3 pa xs' ∧ IsL c H3 M xs' ds := fun {M} e h => by
        cases h with
        | l s r => exact ⟨_, ex_l e s, r⟩
      cases k with
      | f => exact key S3.fh j
      | r => exact key S3.rh j
      | h => exact key (Ex.refl _) j
    obtain ⟨xs', sq, r'⟩ := hsq
    exact ⟨pa, xs', rfl, sq, fun p hp => post_fresh S3 (IsKL.cut r' lo hi) ((t1.trans t2).trans t3) q3 p hp⟩
  | _ => exact q3.elim
theorem snd_listOf (ha : SndA c W tl a) : SndO c W (tCB (rListS c.K) tl) (oListOf a) := fun fr Γ σ F G H S Q q => by
  refine ha fr Γ σ F G H S _ (post_bind S q fun y Γ1 m1 F1 G1 H1 _ S1 t1 s1 q1 vs i1 => ?_)
  obtain ⟨k, ds⟩ := y
  dsimp only at q1 i1
  match ds, i1, q1 with
  | [d], i1, q1 =>
    dsimp only at q1
    cases e : d.items with
    | none => rw [e] at q1; exact q1.elim
    | some es =>
      rw [e] at q1
      cases vs with
      | nil => have := (IsKL.h S1 i1).len; cases this
      | cons v vs =>
        obtain ⟨j1, j2⟩ := IsKL.uncons (k := k) i1
        have : vs = [] := by
          have := (IsKL.h S1 j2).len
          cases vs with
          | nil => rfl
          | cons _ _ => cases this
        subst this
        obtain ⟨pa, xs, rfl, s, r⟩ := IsK.items S1 j1 e
        exact ⟨pa, xs, rfl, s, fun p hp => post_fresh S1 r t1 q1 p hp⟩
  | [], i1, q1 => exact q1.elim
  | _ :: _ :: _, i1, q1 => exact q1.elim
def rListT : List V → Hp → VK → Prop := fun xs H Q => ∃ s : Str, xs = [.str s] ∧ s.length ≤ 100000 ∧ ∀ l, H l = none → Q (.ref l) (upd H l (.lst (s.cps.toList.map fun c => V.str ⟨#[c]⟩)))
theorem call_listT {X : Cx} (hc : X.calm = true) : CallR X (.type "list") rListT := by
  intro pins s σ H xs us Q I r h
  obtain ⟨z, e, hz, q⟩ := h
  subst e
  obtain ⟨u, eu, rx⟩ := vals1 r
  subst eu
  obtain ⟨t, rfl⟩ := rx
  refine call_list_str (I.ok.hd hc) z t (fun h' tk acc c' hk e' hi => ?_) (Nat.le_trans hz (by decide))
  have hv : Vals (z.cps.toList.map fun c => V.str ⟨#[c]⟩) acc.toList := by
    refine vals_of_at (by rw [List.length_map, Array.length_toList, Array.length_toList, hi.1]) fun j x u hx hu => ?_
    rw [Array.getElem?_toList] at hu
    obtain ⟨c, u', hc', rfl⟩ := hi.2 j u hu
    rw [List.getElem?_map, Array.getElem?_toList, hc'] at hx
    cases hx
    exact ⟨_, rfl⟩
  refine ⟨.ref s.heap.objs.size, upd H s.heap.objs.size (.lst (z.cps.toList.map fun c => V.str ⟨#[c]⟩)), I.laid hk (Nat.le_refl _) (show ObjOk X.prog X.w _ _ _ (.lst _) from ⟨?_, acc.toList, c', hv, ?_⟩), rfl, q _ (I.hok.fresh (Nat.le_refl _))⟩
  · rw [List.length_map, Array.length_toList]; exact Nat.le_trans hz (by decide)
  · rw [Array.toArray_toList]; exact e'
theorem freshV {vs : List V} {Q : VK} {Fo Ho : Hp} {Go : Nat → Hp} (S : Sta c fr Γ σ F G H) (tr : Tr Fo Go Ho F G H)
    (q : (Er.ok (OT.l ((vs.map NV.D.v).map .fz)) Γ 0).post c W fr σ F G H (fun t F' G' H' => ∀ v N, Tmp fr F' G' H' N → (∀ a, N a ≠ none → Ho a = none ∨ ∃ j, Go j a ≠ none) → Ow c H' F' N v t → Q v H')) (p : Addr) (hp : H p = none) : Q (.ref p) (upd H p (.lst vs)) := by
  refine post_fresh (W := W) (k := .f) (ds := vs.map NV.D.v) S IsL.of_lfs tr ?_ p hp
  unfold freshR
  rw [if_pos (.inl rfl)]
  exact q
theorem snd_listT (ha : SndA c W tl a) : SndO c W (tCB rListT tl) (oListT a) := fun fr Γ σ F G H S Q q => by
  refine ha fr Γ σ F G H S _ (post_bind S q fun y Γ1 m1 F1 G1 H1 _ S1 t1 s1 q1 vs i1 => ?_)
  have i2 := IsKL.h S1 i1
  obtain ⟨k, ds⟩ := y
  dsimp only at q1 i2
  split at q1
  · rename_i s heq
    by_cases hs : s.length ≤ 100000
    · rw [if_pos hs] at q1
      cases i2 with
      | cons b r =>
        cases r; cases b
        refine ⟨s, rfl, hs, fun p hp => freshV (W := W) S1 t1 ?_ p hp⟩
        have e : (s.cps.toList.map fun c => V.str ⟨#[c]⟩).map NV.D.v = chars s := by unfold chars; rw [List.map_map]; rfl
        rw [e]; exact q1
    · rw [if_neg hs] at q1; exact q1.elim
  · exact q1.elim
theorem rgV_rgD (n : Int) : (rgV 0 n).map NV.D.v = rgD 0 n.toNat := by
  unfold rgV rgD
  rw [List.map_map, Int.sub_zero]
  rfl
theorem snd_listRg (ha : SndE c W ta f) : SndO c W (tLstRg (tRg1 ta)) (oListRg f) := fun fr Γ σ F G H S Q q => by
  refine ha fr Γ σ F G H S _ (post_bind S q fun y Γ1 m1 F1 G1 H1 _ S1 t1 s1 q1 v i1 => ?_)
  cases e : oneI [y.2] with
  | none => rw [e] at q1; exact q1.elim
  | some n =>
    rw [e] at q1
    obtain ⟨hb, q1⟩ := post_if q1
    have hb : ¬ (n < -100000 ∨ 100000 < n) := of_decide_eq_false hb
    have ey : y.2 = .i n := by have := oneI_eq e; injection this
    have i2 := IsK.h S1 i1
    rw [ey] at i2
    cases Is.leaf i2
    exact ⟨n, rfl, ⟨by omega, by omega, by omega, by omega, by omega⟩, fun p hp => freshV (W := W) S1 t1 (by rw [rgV_rgD]; exact q1) p hp⟩
theorem intsOf_eq : ∀ {ds : List NV.D} {ns : List Int}, intsOf ds = some ns → ds = ns.map NV.D.i
  | [], ns, h => by cases h; rfl
  | d :: ds, ns, h => by
    cases d with
    | v x =>
      cases x with
      | int n =>
        unfold intsOf at h
        cases e : intsOf ds with
        | none => rw [e] at h; cases h
        | some ms => rw [e] at h; cases h; rw [intsOf_eq e]; rfl
      | _ => unfold intsOf at h; cases h
    | _ => unfold intsOf at h; cases h
theorem strsOf_eq : ∀ {ds : List NV.D} {ns : List Str}, strsOf ds = some ns → ds = ns.map NV.D.s
  | [], ns, h => by cases h; rfl
  | d :: ds, ns, h => by
    cases d with
    | v x =>
      cases x with
      | str n =>
        unfold strsOf at h
        cases e : strsOf ds with
        | none => rw [e] at h; cases h
        | some ms => rw [e] at h; cases h; rw [strsOf_eq e]; rfl
      | _ => unfold strsOf at h; cases h
    | _ => unfold strsOf at h; cases h
theorem IsL.ints {T M : Hp} : ∀ {vs : List V} {ns : List Int}, IsL c T M vs (ns.map NV.D.i) → vs = ns.map V.int
  | _, [], .nil => rfl
  | _, _ :: _, .cons (.v _) r => congrArg _ (IsL.ints r)
theorem IsL.strs {T M : Hp} : ∀ {vs : List V} {ns : List Str}, IsL c T M vs (ns.map NV.D.s) → vs = ns.map V.str
  | _, [], .nil => rfl
  | _, _ :: _, .cons (.v _) r => congrArg _ (IsL.strs r)
theorem insI_perm (x : Int) : ∀ ys : List Int, (insI x ys).Perm (x :: ys)
  | [] => List.Perm.refl _
  | y :: ys => by
    unfold insI
    by_cases h : x ≤ y
    · rw [if_pos h]
    · rw [if_neg h]
      exact ((insI_perm x ys).cons y).trans (List.Perm.swap x y ys)
theorem sortI_perm : ∀ xs : List Int, (sortI xs).Perm xs
  | [] => List.Perm.refl _
  | x :: xs => by unfold sortI; exact (insI_perm x _).trans ((sortI_perm xs).cons x)
theorem insI_sorted (x : Int) : ∀ {ys : List Int}, ys.Pairwise (· ≤ ·) → (insI x ys).Pairwise (· ≤ ·)
  | [], _ => by unfold insI; exact List.pairwise_singleton _ _
  | y :: ys, h => by
    have hc := List.pairwise_cons.mp h
    unfold insI
    by_cases e : x ≤ y
    · rw [if_pos e]
      refine List.pairwise_cons.mpr ⟨fun z hz => ?_, h⟩
      rcases List.mem_cons.mp hz with w | w
      · omega
      · have := hc.1 z w; omega
    · rw [if_neg e]
      refine List.pairwise_cons.mpr ⟨fun z hz => ?_, insI_sorted x hc.2⟩
      rcases List.mem_cons.mp ((insI_perm x ys).mem_iff.mp hz) with w | w
      · omega
      · exact hc.1 z w
theorem sortI_sorted : ∀ xs : List Int, (sortI xs).Pairwise (· ≤ ·)
  | [] => List.Pairwise.nil
  | x :: xs => by unfold sortI; exact insI_sorted x (sortI_sorted xs)
theorem sorted_uniq : ∀ {xs ys : List Int}, xs.Perm ys → xs.Pairwise (· ≤ ·) → ys.Pairwise (· ≤ ·) → xs = ys
  | [], ys, h, _, _ => (List.perm_nil.mp h.symm).symm
  | x :: xs, [], h, _, _ => by have := h.length_eq; cases this
  | x :: xs, y :: ys, h, h1, h2 => by
    have c1 := List.pairwise_cons.mp h1
    have c2 := List.pairwise_cons.mp h2
    have e : x = y := by
      have a1 : x ∈ y :: ys := h.mem_iff.mp List.mem_cons_self
      have a2 : y ∈ x :: xs := h.mem_iff.mpr List.mem_cons_self
      rcases List.mem_cons.mp a1 with w | w
      · exact w
      · rcases List.mem_cons.mp a2 with w2 | w2
        · exact w2.symm
        · have := c2.1 x w
          have := c1.1 y w2
          omega
    subst e
    rw [sorted_uniq (List.Perm.cons_inv h) c1.2 c2.2]
theorem snd_sorted (ha : SndA c W tl a) : SndO c W (tCB (rSorted c.K) tl) (oSorted a) := fun fr Γ σ F G H S Q q => by
  refine ha fr Γ σ F G H S _ (post_bind S q fun y Γ1 m1 F1 G1 H1 _ S1 t1 s1 q1 vs i1 => ?_)
  have i2 := IsKL.h S1 i1
  obtain ⟨k, ds⟩ := y
  dsimp only at q1 i2
  split at q1
  · rename_i es heq
    cases e : intsOf es with
    | none => rw [e] at q1; exact q1.elim
    | some ns =>
      rw [e] at q1
      dsimp only at q1
      by_cases hl : ns.length < 64
      · rw [if_pos hl] at q1
        cases i2 with
        | cons b r =>
          cases r
          rw [intsOf_eq e] at b
          cases b with
          | l s r =>
            have := r.ints
            subst this
            refine ⟨_, ns, rfl, s, hl, fun ns' p h1 h2 hp => ?_⟩
            have : ns' = sortI ns := sorted_uniq (h1.trans (sortI_perm ns).symm) h2 (sortI_sorted ns)
            subst this
            refine freshV (W := W) S1 t1 ?_ p hp
            have e : (((sortI ns).map V.int).map NV.D.v).map OT.fz = (sortI ns).map fun n => .fz (.i n) := by rw [List.map_map, List.map_map]; rfl
            rw [e]; exact q1
      · rw [if_neg hl] at q1; exact q1.elim
  · exact q1.elim
theorem rl_join {x y : V} {d e : NV.D} {w : V} {Q : VK} (hx : Is c H H x d) (hy : Is c H H y e) (h : gJoin d e = some w) (q : Q w H) : rJoin c.K x [y] H Q := by
  unfold gJoin at h
  split at h
  · rename_i a
    cases hi : e.items with
    | none => rw [hi] at h; cases h
    | some es =>
      rw [hi] at h
      simp only [Option.bind_some] at h
      cases hs : strsOf es with
      | none => rw [hs] at h; cases h
      | some ys =>
        rw [hs] at h
        dsimp only at h
        by_cases hl : (ys.map (·.length)).sum + ys.length * a.length ≤ 1000000
        · rw [if_pos hl] at h
          cases h
          obtain ⟨p, xs, rfl, s, r⟩ := hy.items hi (Ex.refl _)
          rw [strsOf_eq hs] at r
          have := r.strs
          subst this
          cases hx
          exact ⟨a, p, ys, rfl, rfl, s, Nat.le_trans hl (by decide), q⟩
        · rw [if_neg hl] at h; cases h
  · cases h
theorem snd_join (ha : SndE c W ta f) (hb : SndE c W tb g) : SndE c W (tM1 (rJoin c.K) ta tb) (eM1 gJoin f g) := fun fr Γ σ F G H S Q q => by
  refine ha fr Γ σ F G H S _ (post_bind S q fun x Γ1 m1 F1 G1 H1 _ S1 t1 s1 q1 v i1 => ?_)
  obtain ⟨k, d⟩ := x
  dsimp only at q1 i1
  cases d with
  | v w =>
    cases w with
    | str s =>
      dsimp only at q1
      cases Is.leaf (IsK.h S1 i1)
      refine ⟨⟨s, rfl⟩, hb fr Γ1 σ F1 G1 H1 S1 _ (post_bind S1 q1 fun y Γ2 m2 F2 G2 H2 _ S2 t2 s2 q2 w i2 => ?_)⟩
      obtain ⟨z, e, q3⟩ := post_leaf S2 q2
      exact rl_join (.v _) (IsK.h S2 i2) e (q3 z (.v z))
    | _ => exact q1.elim
  | _ => exact q1.elim
theorem ixV_some {x : V} : ∀ {ys : List V} {j : Nat}, ixV x ys = some j → ∃ z, ys[j]? = some z ∧ eqV z x = true ∧ ∀ (m : Nat) z', m < j → ys[m]? = some z' → eqV z' x = false
  | [], _, h => by cases h
  | y :: ys, j, h => by
    unfold ixV at h
    by_cases e : eqV y x = true
    · rw [if_pos e] at h; cases h
      exact ⟨y, rfl, e, fun m z' hm => absurd hm (Nat.not_lt_zero _)⟩
    · rw [if_neg e] at h
      cases hj : ixV x ys with
      | none => rw [hj] at h; cases h
      | some l =>
        rw [hj] at h; cases h
        obtain ⟨z, h1, h2, h3⟩ := ixV_some hj
        refine ⟨z, by simpa using h1, h2, fun m z' hm hz => ?_⟩
        cases m with
        | zero => simp at hz; subst hz; simpa using e
        | succ m => exact h3 m z' (Nat.lt_of_succ_lt_succ hm) (by simpa using hz)
theorem indexL_fin {pa : Addr} {uu : V} {xs : List V} {Q : VK} (S2 : Sta c fr Γ σ F G H) (s2' : SqL c.K H pa xs)
    (q2 : (if flatV uu && xs.all flatV then match ixV uu xs with | some j => Er.ok (Kd.f, NV.D.i (j : Int)) Γ 0 | none => Er.no else Er.no : Er (Kd × NV.D)).post c W fr σ F G H (fun a F' G' H' => ∀ v, IsK c fr.B F' H' v a.2 a.1 → Q v H')) : rIndex c.K (.ref pa) [uu] H Q := by
  by_cases hf : (flatV uu && xs.all flatV) = true
  · rw [if_pos hf] at q2
    rw [Bool.and_eq_true] at hf
    cases ej : ixV uu xs with
    | none => rw [ej] at q2; exact q2.elim
    | some j =>
      rw [ej] at q2
      obtain ⟨z, h1, h2, h3⟩ := ixV_some ej
      exact ⟨pa, xs, uu, j, z, rfl, rfl, s2', hf.1, hf.2, h1, h2, h3, post_ok S2 q2 _ (.v _)⟩
  · rw [if_neg hf] at q2; exact q2.elim
theorem snd_indexL (ha : SndE c W ta f) (hb : SndA c W tl a) : SndE c W (tBM c.K "list" (rIndex c.K) ta tl) (eIndexL f a) := fun fr Γ σ F G H S Q q => by
  refine ha fr Γ σ F G H S _ (post_bind S q fun x Γ1 m1 F1 G1 H1 _ S1 t1 s1 q1 v i1 => ?_)
  obtain ⟨k, d⟩ := x
  dsimp only at q1 i1
  cases d with
  | l ds =>
    dsimp only at q1
    cases el : lfs ds with
    | none => rw [el] at q1; exact q1.elim
    | some vs =>
      rw [el] at q1
      have i2 := IsK.h S1 i1
      cases i2 with
      | l s r =>
        have := r.lfs el
        subst this
        refine ⟨.inl ⟨rfl, _, s⟩, hb fr Γ1 σ F1 G1 H1 S1 _ (post_bind S1 q1 fun y Γ2 m2 F2 G2 H2 _ S2 t2 s2 q2 ws i3 => ?_)⟩
        obtain ⟨hm, q2⟩ := post_if q2
        have hm : m2 ≤ 1 := by have := of_decide_eq_false hm; omega
        have s2' := ex_l (s2.1 hm) s
        have i3 := IsKL.h S2 i3
        cases eu : oneV y.2 with
        | none => rw [eu] at q2; exact q2.elim
        | some uu =>
          rw [eu] at q2
          rw [oneV_eq eu] at i3
          cases i3 with
          | cons b r3 =>
            cases r3
            cases Is.leaf b
            dsimp only at q2
            rename_i pa xs
            exact indexL_fin S2 s2' q2
  | _ => exact q1.elim
theorem snd_indexS (ha : SndE c W ta f) (hb : SndA c W tl a) : SndE c W (tBM c.K "str" rSIndex ta tl) (eIndexS f a) := fun fr Γ σ F G H S Q q => by
  refine ha fr Γ σ F G H S _ (post_bind S q fun x Γ1 m1 F1 G1 H1 _ S1 t1 s1 q1 v i1 => ?_)
  obtain ⟨k, d⟩ := x
  dsimp only at q1 i1
  cases d with
  | v w =>
    cases w with
    | str s =>
      dsimp only at q1
      cases Is.leaf (IsK.h S1 i1)
      refine ⟨rfl, hb fr Γ1 σ F1 G1 H1 S1 _ (post_bind S1 q1 fun y Γ2 m2 F2 G2 H2 _ S2 t2 s2 q2 ws i3 => ?_)⟩
      have i3 := IsKL.h S2 i3
      cases et : oneS y.2 with
      | none => rw [et] at q2; exact q2.elim
      | some t =>
        rw [et] at q2
        rw [oneS_eq et] at i3
        cases i3 with
        | cons b r3 =>
          cases r3
          cases Is.leaf b
          dsimp only at q2
          cases ho : Builtin.Str.occurrences s t 0 s.length 1 with
          | nil => rw [ho] at q2; exact q2.elim
          | cons i rest =>
            rw [ho] at q2
            exact ⟨s, t, i, rest, rfl, rfl, ho, post_ok S2 q2 _ (.v _)⟩
    | _ => exact q1.elim
  | _ => exact q1.elim
theorem enumD_imm (s : Str) : ∀ n, imms (enumD n (chars s)) = true := by
  unfold chars
  generalize s.cps.toList = l
  induction l with
  | nil => intro n; unfold enumD; rfl
  | cons a l ih =>
    intro n
    rw [List.map_cons]
    unfold enumD
    unfold imms
    rw [ih (n + 1), Bool.and_true]
    rfl
theorem snd_enumS (ha : SndE c W ta f) : SndO c W (tLstEnumS ta) (oEnumS f) := fun fr Γ σ F G H S Q q => by
  refine ha fr Γ σ F G H S _ (post_bind S q fun x Γ1 m1 F1 G1 H1 _ S1 t1 s1 q1 v i1 => ?_)
  obtain ⟨k, d⟩ := x
  dsimp only at q1 i1
  cases d with
  | v w =>
    cases w with
    | str s =>
      dsimp only at q1
      by_cases hs : s.cps.all (· < 128) = true ∧ 0 < s.cps.size ∧ s.cps.size ≤ 1000
      · rw [if_pos hs] at q1
        cases Is.leaf (IsK.h S1 i1)
        refine ⟨s, rfl, hs.1, hs.2.1, hs.2.2, fun l T H2 e hl h2 hT => ?_⟩
        have r : IsL c H2 F1 ((List.range s.cps.size).map fun j => V.ref (T j)) (enumD 0 (chars s)) := by
          refine IsL.of_get (by rw [enumD_len]; unfold chars; simp) fun j v d hv hd => ?_
          rw [enumD_get] at hd
          have hj : j < s.cps.size := by
            have := (List.getElem?_eq_some_iff.mp hv).1
            simpa using this
          rw [List.getElem?_map, List.getElem?_range hj] at hv
          cases hv
          obtain ⟨_, z, hz, ht⟩ := hT j hj
          unfold chars at hd
          rw [List.getElem?_map, Array.getElem?_toList, hz] at hd
          cases hd
          refine .t ht (.cons ?_ (.cons (.v _) .nil))
          rw [Nat.zero_add]
          exact .v _
        have S2 := S1.heap e
        refine q1 F1 G1 H2 S2 (Tr.heap S1 e) (Stl.e e) (.ref l) (one l (.lst ((List.range s.cps.size).map fun j => V.ref (T j)))) (Tmp.at h2 (fun xs z => nomatch z) (none_of_ex S1.bh hl) (none_of_ex S1.fh hl) fun i => none_of_ex (S1.gh i) hl) (fun b z => ?_) ?_
        · rw [one_ne z]; exact t1.back hl
        · exact .l (G0 := H0) upd_same rfl H0_ex (OwL.fz r)
      · rw [if_neg hs] at q1; exact q1.elim
    | _ => exact q1.elim
  | _ => exact q1.elim
theorem Is.ty {x : V} {d : NV.D} {t : String} (h : Is c H H x d) (e : d.ty = some t) : TyX c.K H x (.type t) := by
  cases h with
  | v x =>
    cases x <;> first | (cases e; done) | skip
    · cases e; exact .base .non
    · cases e; exact .base (.bl _)
    · cases e; exact .base (.int _)
    · cases e; exact .base (.str _)
  | l s r =>
    cases e
    rcases s with (s | ⟨o, s⟩) | ⟨o, its, n, h1, h2, h3, h4⟩
    · exact .base (.lst s)
    · exact .base (.frz s)
    · exact .kList h1 h2
  | t s r => cases e; exact .base (.tup s)
  | tk s r =>
    cases e
    rcases s H with (s | ⟨o, s⟩) | ⟨o, its, n, h1, h2, h3⟩
    · exact .base (.tup s)
    · exact .fTuple s
    · exact .kTuple h1 h2
  | dk _ _ _ => cases e
  | dt _ _ _ => cases e
  | ob _ _ _ => cases e
theorem rl_isi : RLn c (rIsi c.K) gIsi := fun xs ds w H Q hx h q => by
  unfold gIsi at h
  split at h
  · rename_i d t
    cases hu : d.ty with
    | none => rw [hu] at h; cases h
    | some u =>
      rw [hu] at h
      simp only [Option.bind_some] at h
      cases hk : kitB u t with
      | none => rw [hk] at h; cases h
      | some b =>
        rw [hk] at h; cases h
        cases hx with
        | cons a r =>
          cases r with
          | cons a2 r =>
            cases r; cases a2
            exact ⟨_, .ty t, .type u, .type t, b, rfl, .ty t, Is.ty a hu, kit_ty hk, q⟩
  · cases h
end

end
section
open PySem L2 Evl PyProof.Rows

/-! ### what may be called -/
structure Cal (P : Program) (w : World) (K : PySem.W.Frag) (mg : Str → Option Value) (base : Heap) (x : Str) (k : Nat) (ps : List Str) (sp : Sp) : Prop where
  ex : ∃ (f : Addr) (fd : FuncData), FnOk P w K mg base CX0 k f fd ps sp ∧ Binds K fd ps [] ∧ mg x = some (.ref f) ∧ PySem.W.keepIn K (.ref f) = true
structure MCal (P : Program) (w : World) (K : PySem.W.Frag) (mg : Str → Option Value) (base : Heap) (C : Addr) (m : Str) (k : Nat) (ps : List Str) (sp : Sp) : Prop where
  ex : ∃ (f : Addr) (fd : FuncData), FnOk P w K mg base CX0 k f fd ps sp ∧ Binds K fd ps [] ∧ Meth K C m f
structure KCal (P : Program) (w : World) (K : PySem.W.Frag) (mg : Str → Option Value) (base : Heap) (x : Str) (C : Addr) (k n : Nat) (ps ks : List Str) (sp : Sp) : Prop where
  ex : ∃ (f : Addr) (fd : FuncData) (g : List Value → List Value → List Value), FnOk P w K mg base CX0 k f fd ps sp ∧ KBn K fd ps (n + 1) ks g (fun vs zs => vs ++ zs) ∧ Mk K C f ∧ mg x = some (.ref C)
structure GCal (P : Program) (w : World) (K : PySem.W.Frag) (mg : Str → Option Value) (base : Heap) (C : Addr) (m : Str) (k : Nat) (ps : List Str) (sp : Sp) : Prop where
  ex : ∃ (f : Addr) (fd : FuncData), FnOk P w K mg base CX0 k f fd ps sp ∧ Binds K fd ps [] ∧ Meth K C m f ∧ PySem.W.fnIn K f = true
structure PCal (P : Program) (w : World) (K : PySem.W.Frag) (mg : Str → Option Value) (base : Heap) (C : Addr) (m : Str) (k : Nat) (ps : List Str) (sp : Sp) : Prop where
  ex : ∃ (p f : Addr) (fd : FuncData), FnOk P w K mg base CX0 k f fd ps sp ∧ Binds K fd ps [] ∧ PropOf K C m p f
/-- an operator's method, the other operand a text -/
structure BCal (P : Program) (w : World) (K : PySem.W.Frag) (mg : Str → Option Value) (base : Heap) (C : Addr) (op : Operator) (k : Nat) (ps : List Str) (sp : Sp) : Prop where
  ex : ∃ (f : Addr) (fd : FuncData), FnOk P w K mg base CX0 k f fd ps sp ∧ Binds K fd ps [] ∧ PySem.W.selfFirst K C = true ∧ PySem.W.findIn K (.ref C) (PySem.dunder op.info.2) = some (some (.ref f)) ∧ PySem.W.isFn K (.ref f) = true ∧
    PySem.W.findIn K (.ref C) (dunderR op.info.2) = some none ∧ PySem.W.findIn K (.type "str") (PySem.dunder op.info.2) = some none ∧ PySem.W.findIn K (.type "str") (dunderR op.info.2) = some none ∧ PySem.W.subIn K (.type "str") (.ref C) = some false
/-- a method for o[i] = v -/
structure SCal (P : Program) (w : World) (K : PySem.W.Frag) (mg : Str → Option Value) (base : Heap) (C : Addr) (k : Nat) (ps : List Str) (sp : Sp) : Prop where
  ex : ∃ (f : Addr) (fd : FuncData), FnOk P w K mg base CX0 k f fd ps sp ∧ Binds K fd ps [] ∧ Meth K C "__setitem__" f ∧ PySem.W.noSeq K C = true
section
variable {X : Cx} {x m : Str} {k n : Nat} {ps ks : List Str} {sp : Sp} {e o : Expr} {es : List Expr} {kws : List Keyword} {t tk : TA} {ta tb : TE} {p pos apos : Pos} {C : Addr}
theorem pe_cal (c : Cal X.prog X.w X.K X.mg X.base x k ps sp) (hr : Room k X.A) (hg : Gl X x) (ha : PA X (e :: es) t) (hdb : (x == ("__debug__" : Str)) = false := by decide)
    (he : starEach (e :: es) X.env = (false, eval e X.env) :: starEach es X.env := by rfl) (hpl : (backTo pos (starEach es X.env)).any (·.1) = false := by rfl) :
    PE X (.Call (.Name x p) (e :: es) [] pos) (tCall sp [] E0 t) := by
  obtain ⟨f, fd, F, b, m, kp⟩ := c.ex
  exact pe_call F hr hg m kp b .nil pass0 ha hdb he hpl
theorem pe_mcal {pl : Sem Bool} (he : PE X o ta) (c : Cls X.K C) (q : MCal X.prog X.w X.K X.mg X.base C m k ps sp) (hr : Room k X.A) (ha : PA X (e :: es) t)
    (hst : starEach (e :: es) X.env = (false, eval e X.env) :: starEach es X.env := by rfl) (hpl : (backTo pos (starEach es X.env)).any (·.1) = false := by rfl)
    (ht : eval (.Call (.Attribute o m apos) (e :: es) [] pos) X.env = (do
      let ov ← eval o X.env
      standAt apos.atName
      let (f, first) ← holding [ov] (getMethod ov m pl)
      callWith pos f first (backTo pos (starEach (e :: es) X.env)) (backToKw pos (keywordEach [] X.env))) := by rfl) :
    PE X (.Call (.Attribute o m apos) (e :: es) [] pos) (tMeth C m sp [] E0 ta t) := by
  obtain ⟨f, fd, F, b, hm⟩ := q.ex
  exact pe_meth he c hm F hr b .nil pass0 ha hst hpl ht
theorem pe_mcal0 {pl : Sem Bool} (he : PE X o ta) (c : Cls X.K C) (q : MCal X.prog X.w X.K X.mg X.base C m k ps sp) (hr : Room k X.A)
    (ht : eval (.Call (.Attribute o m apos) [] [] pos) X.env = (do
      let ov ← eval o X.env
      standAt apos.atName
      let (f, first) ← holding [ov] (getMethod ov m pl)
      callWith pos f first (backTo pos (starEach [] X.env)) (backToKw pos (keywordEach [] X.env))) := by rfl) :
    PE X (.Call (.Attribute o m apos) [] [] pos) (tMeth C m sp [] E0 ta tNil) := by
  obtain ⟨f, fd, F, b, hm⟩ := q.ex
  exact pe_meth0 he c hm F hr b .nil pass0 ht
theorem pe_kcal (q : KCal X.prog X.w X.K X.mg X.base x C k n ps ks sp) (hr : Room (k + 1) X.A) (hg : Gl X x) (ha : PA X (e :: es) t) (hkw : PK X kws tk)
    (hall : (backToKw pos (keywordEach kws X.env)).all (·.1.isSome) = true := by rfl) (hks : (backToKw pos (keywordEach kws X.env)).filterMap (·.1) = ks := by rfl) (hdb : (x == ("__debug__" : Str)) = false := by decide)
    (he : starEach (e :: es) X.env = (false, eval e X.env) :: starEach es X.env := by rfl) (hpl : ((backTo pos (starEach (e :: es) X.env)).any (·.1) || (backToKw pos (keywordEach kws X.env)).any (·.1.isNone)) = false := by rfl) :
    PE X (.Call (.Name x p) (e :: es) kws pos) (tMakeK C n ks.length sp (fun vs zs => vs ++ zs) E0 t tk) := by
  obtain ⟨f, fd, g, F, b, M, hm⟩ := q.ex
  exact pe_makeK M F hr hg hm b pass0 ha hkw hall hks hdb he hpl
theorem pe_inOwn (ha : PE X e ta) (hb : PE X o tb) (c : Cls X.K C) (q : MCal X.prog X.w X.K X.mg X.base C "__contains__" k ps sp) (hr : Room k X.A) (hm : behindInMarks .In o = false) :
    PE X (.Compare e [.In] [o] pos) (tInOwn C sp ta tb) := by
  obtain ⟨f, fd, F, b, hmt⟩ := q.ex
  refine ⟨fun pins s σ H Q I h => ?_⟩
  refine wpAny_Compare1 (binT ha hb I h fun v u s2 x y H2 I2 rx ry hq => ?_) hm
  obtain ⟨a, dx, fs, rfl, hi, q⟩ := hq
  obtain rfl : u = Value.ref a := ry
  obtain ⟨mA, O, _⟩ := ins_get I2.hok hi
  obtain ⟨od, J, _⟩ := O.look
  obtain ⟨mm, Fr⟩ := I2.fr
  refine PySem.W.in_K Fr I2.mod.kin J hmt.at_ hmt.fn ?_
  refine thn (run_fn (us := [.ref a, v]) (vs := [.ref a, x]) F hr b .nil pass0 I2 (.cons rfl (.cons rx .nil)) q) fun r s3 ⟨w, H3, I3, rw', b', ew, q3⟩ => ?_
  subst ew
  cases rw'
  exact wpAny_truthy_bool ⟨.bl b', H3, I3, rfl, q3⟩
theorem pe_getOwn (ha : PE X o ta) (hb : PE X e tb) (c : Cls X.K C) (q : GCal X.prog X.w X.K X.mg X.base C "__getitem__" k ps sp) (hr : Room (k + 1) X.A) (hsl : ∀ a i, subscripted e true (.ref a) i = runValue (.builtin "lifetime.subscript" ⟨[.ref a, i], []⟩)) : PE X (.Subscript o e pos) (tGetOwn C sp ta tb) := by
  obtain ⟨f, fd, F, b, hmt, hfi⟩ := q.ex
  refine ⟨fun pins s σ H Q I h => ?_⟩
  refine Subscript_ (binT ha hb I h fun v u s2 x y H2 I2 rx ry hq => ?_)
  obtain ⟨a, dx, fs, rfl, hi, q⟩ := hq
  obtain rfl : v = Value.ref a := rx
  obtain ⟨mA, O, _⟩ := ins_get I2.hok hi
  obtain ⟨od, J, _⟩ := O.look
  obtain ⟨mm, Fr⟩ := I2.fr
  refine PySem.W.sub_K Fr I2.mod.kin J hmt.at_ hfi hmt.fn ?_ (hsl a u)
  have hl : ([Value.ref a, u] ++ []).length = ps.length := by
    rw [← F.len _ _ _ _ q]
    rfl
  refine wpAny_call (codeAny_mono (F.run X.A.in1 X.stack s2 H2 ⟨[.ref a, u], []⟩ [.ref a, u] [.ref a, y] Q E0 hr.in1 I2.env0.in1 (b s2 [.ref a, u] I2.kIn hl) (.cons rfl (.cons ry .nil)) q) fun r s' hq => ?_)
  cases r with
  | error er => exact False.elim hq
  | ok fl =>
    cases fl with
    | ret u2 => exact I2.after hq
    | next => exact False.elim hq
    | brk => exact False.elim hq
    | cont => exact False.elim hq
theorem pe_pcal (he : PE X o ta) (c : Cls X.K C) (q : PCal X.prog X.w X.K X.mg X.base C m k ps sp) (hr : Room (k + 1) X.A) (hab : attributeBase o m X.env (eval o X.env) = eval o X.env) : PE X (.Attribute o m pos) (tProp C sp [] E0 ta) := by
  obtain ⟨pp, f, fd, F, b, hp⟩ := q.ex
  exact pe_prop he c hp F hr b .nil pass0 hab
theorem back_of {pins : List (Addr × Obj)} {σ : L2.St} {Q : VK} {v : Value} {s' : Shared} (h : EP X pins σ Q v s') : PySem.W.CmpBack (EP X pins σ Q) v s' := by
  obtain ⟨w, H', I', r, q⟩ := h
  cases w with
  | non => cases (show v = Value.none from r); exact ⟨.non, H', I', rfl, q⟩
  | bl b => cases (show v = Value.bool b from r); exact ⟨.bl b, H', I', rfl, q⟩
  | int i => obtain ⟨t, e⟩ := (show ∃ t, v = Value.int i t from r); subst e; exact ⟨.int i, H', I', ⟨t, rfl⟩, q⟩
  | str i => obtain ⟨t, e⟩ := (show ∃ t, v = Value.str i t from r); subst e; exact ⟨.str i, H', I', ⟨t, rfl⟩, q⟩
  | byt i => obtain ⟨t, e⟩ := (show ∃ t, v = Value.bytes i t from r); subst e; exact ⟨.byt i, H', I', ⟨t, rfl⟩, q⟩
  | flt i => obtain ⟨t, e⟩ := (show ∃ t, v = Value.float i t from r); subst e; exact ⟨.flt i, H', I', ⟨t, rfl⟩, q⟩
  | ref a => cases (show v = Value.ref a from r); exact ⟨.ref a, H', I', rfl, q⟩
  | ty a => cases (show v = Value.type a from r); exact ⟨.ty a, H', I', rfl, q⟩
theorem op_binS {op : Operator} (c : Cls X.K C) (q : BCal X.prog X.w X.K X.mg X.base C op k ps sp) (hr : Room k X.A) : OpR X (binaryOp op) (rBinOwnS C sp) := by
  obtain ⟨f, fd, F, b, h1, h2, h3, h4, h5, h6, h7⟩ := q.ex
  intro pins s σ H x y v u Q I rx ry hq
  obtain ⟨a, dx, fs, z, rfl, rfl, hi, q⟩ := hq
  obtain rfl : v = Value.ref a := rx
  obtain ⟨t, rfl⟩ := ry
  obtain ⟨mA, O, _⟩ := ins_get I.hok hi
  obtain ⟨od, J, _⟩ := O.look
  obtain ⟨mm, Fr⟩ := I.fr
  refine PySem.W.ksp_binT (T := "str") Fr I.mod.kin J rfl h1 h2 h3 h4 (.inl rfl) h5 h6 h7 ?_
  exact thn (run_fn (us := [.ref a, .str z t]) (vs := [.ref a, .str z]) F hr b .nil pass0 I (.cons rfl (.cons ⟨t, rfl⟩ .nil)) q) fun r s3 h => back_of h
theorem set_own (c : Cls X.K C) (q : SCal X.prog X.w X.K X.mg X.base C k ps sp) (hr : Room k X.A) : PSet X (rSetOwn C sp) := by
  obtain ⟨f, fd, F, b, hmt, h1⟩ := q.ex
  intro pins s σ H o i v ov iv u Q I ro ri rv h
  obtain ⟨a, dx, fs, rfl, hi, q⟩ := h
  obtain rfl : ov = Value.ref a := ro
  obtain ⟨mA, O, _⟩ := ins_get I.hok hi
  obtain ⟨od, J, _⟩ := O.look
  obtain ⟨mm, Fr⟩ := I.fr
  refine PySem.W.ksp_setItem Fr I.mod.kin J h1 hmt.at_ hmt.fn ?_
  exact thn (run_fn (us := [.ref a, iv, u]) (vs := [.ref a, i, v]) F hr b .nil pass0 I (.cons rfl (.cons ri (.cons rv .nil))) q) fun r s3 ⟨w, H3, I3, _, q3⟩ => ⟨H3, I3, q3⟩
end
/-- the built-in names that a text leaves as they are -/
structure Bt (mg : Str → Option Value) : Prop where
  b_len : mg "len" = none
  b_int : mg "int" = none
  b_str : mg "str" = none
  b_range : mg "range" = none
  b_abs : mg "abs" = none
  b_min : mg "min" = none
  b_list : mg "list" = none
  b_isinstance : mg "isinstance" = none
  b_sorted : mg "sorted" = none
  b_enumerate : mg "enumerate" = none
  b_zip : mg "zip" = none
  b_bool : mg "bool" = none
  b_dict : mg "dict" = none
  b_tuple : mg "tuple" = none
  b_max : mg "max" = none
  b_sum : mg "sum" = none
  b_all : mg "all" = none
  b_any : mg "any" = none
theorem pe_globI {X : Cx} {x : Str} {n : Int} {pos : Pos} (hg : Gl X x) (hm : ∃ t, X.mg x = some (.int n t)) (hd : (x == ("__debug__" : Str)) = false := by decide) : PE X (.Name x pos) (tC (.int n)) := by
  obtain ⟨t, hm⟩ := hm
  exact pe_glob hg hm ⟨t, rfl⟩ hd
/-- the classes by their names -/
def cnOf (mg : Str → Option Value) (x : Str) : Addr := match mg x with
  | some (.ref a) => a
  | _ => 0
abbrev ct (K : PySem.W.Frag) (mg : Str → Option Value) : Ct := ⟨K, cnOf mg⟩
theorem cn_of {mg : Str → Option Value} {x : Str} {a : Addr} (h : mg x = some (.ref a)) : cnOf mg x = a := by unfold cnOf; rw [h]

end
section
open PySem L2 Evl
/-- what cannot change, read as new -/
def immS : Slot → Slot
  | .r d => if d.imm = true then .f d else .r d
  | s => s
def immG (i : Nat) (Γ : Gm) : Gm := match Γ[i]? with
  | some s => Γ.set i (immS s)
  | none => Γ
def sImm : List Nat → SF → SF
  | [], a => a
  | i :: is, a => fun Γ => sImm is a (immG i Γ)
/-- how often a while may turn -/
def fuel : Nat := 100000
def oDNewT : OF := fun Γ => .ok (.dt [] []) Γ 0
section
variable {c : Ct} {W : WX} {t u : TS} {a b : SF} {fr : Fr} {σ : L2.St} {F F' H H' : Hp} {G G' : Nat → Hp} {Γ Γ' : Gm}
theorem snd_cut (ha : SndS c W t a) (hb : SndS c W u b) : SndS c W (tCut t u) (sSeq a b) := fun fr Γ σ F G H S D q => by
  unfold sSeq at q
  cases e : a Γ with
  | nx Γ1 =>
    rw [e] at q
    refine ⟨fun σ' H' => ∃ F' G', Ex F F' ∧ Tp H H' ∧ Sta c fr Γ1 σ' F' G' H', ha fr Γ σ F G H S _ (by rw [e]; exact fun σ' F' G' H' e1 t1 S1 => ⟨F', G', e1, t1, S1⟩), ?_⟩
    rintro σ' H' ⟨F', G', e1, t1, S1⟩
    exact hb fr Γ1 σ' F' G' H' S1 D (Out.post.mono e1 t1 q)
  | rt r Γ1 => rw [e] at q; exact ⟨fun _ _ => False, ha fr Γ σ F G H S _ (by rw [e]; exact q), fun _ _ z => z.elim⟩
  | bk Γ1 => rw [e] at q; exact ⟨fun _ _ => False, ha fr Γ σ F G H S _ (by rw [e]; exact q), fun _ _ z => z.elim⟩
  | ct Γ1 => rw [e] at q; exact ⟨fun _ _ => False, ha fr Γ σ F G H S _ (by rw [e]; exact q), fun _ _ z => z.elim⟩
  | ex r Γ1 => rw [e] at q; exact ⟨fun _ _ => False, ha fr Γ σ F G H S _ (by rw [e]; exact q), fun _ _ z => z.elim⟩
  | no => rw [e] at q; exact q.elim
theorem Sta.immG (S : Sta c fr Γ σ F G H) (i : Nat) : Sta c fr (immG i Γ) σ F G H := by
  unfold NV.immG
  cases e : Γ[i]? with
  | none => exact S
  | some s =>
    dsimp only
    refine { S with len := by rw [List.length_set]; exact S.len, sl := fun j s' h => ?_ }
    by_cases ej : i = j
    · subst ej
      have hl : i < Γ.length := (List.getElem?_eq_some_iff.mp e).1
      rw [List.getElem?_set_self hl] at h
      cases h
      have o := S.sl i s e
      unfold immS
      cases s with
      | r d =>
        dsimp only
        by_cases hd : d.imm = true
        · rw [if_pos hd]
          obtain ⟨v, h1, h2⟩ := o
          exact ⟨v, h1, h2.imm hd⟩
        · rw [if_neg hd]; exact o
      | n => exact o
      | f d => exact o
      | o t => exact o
      | p t => exact o
    · rw [List.getElem?_set_ne ej] at h
      exact S.sl j s' h
theorem snd_imm (ha : SndS c W t a) : ∀ {is : List Nat}, SndS c W t (sImm is a)
  | [] => ha
  | i :: is => fun fr Γ σ F G H S D q => snd_imm ha (is := is) fr _ σ F G H (S.immG i) D q
theorem snd_dnewT : SndO c W tDNewT oDNewT := fun fr Γ σ F G H S Q q => fun p hp => by
  refine q F G (upd H p (.dT [])) (S.heap (Ex.new hp)) (Tr.heap S (Ex.new hp)) (Stl.e (Ex.new hp)) (.ref p) (one p (.dT [])) (Tmp.new S hp (fun xs => HO.noConfusion)) (fun a ha => ?_) ?_
  · cases one_ne ha; exact .inl hp
  · exact .dt (ks := []) (vs := []) (G0 := H0) (by unfold one upd; simp) rfl List.nodup_nil rfl H0_ex .nil
end

end
section
open PySem L2 Evl
/-! ### running the computed side -/
def Go (o : Out) (P : Out → Prop) : Prop := P o
theorem bad_f {d : D} {m : Nat} : bad .f d m = false := rfl
theorem bad_r {d : D} {m : Nat} : bad .r d m = false := rfl
theorem bad_h0 {d : D} : bad .h d 0 = false := rfl
theorem bad_h1 {d : D} : bad .h d 1 = false := rfl
theorem bads_f {d : List D} {m : Nat} : bads .f d m = false := rfl
theorem bads_r {d : List D} {m : Nat} : bads .r d m = false := rfl
theorem bads_h0 {d : List D} : bads .h d 0 = false := rfl
theorem bads_h1 {d : List D} : bads .h d 1 = false := rfl
theorem im_f {d : D} : Kd.im .f d = .f := by unfold Kd.im; split <;> rfl
theorem im_v {k : Kd} {x : V} : Kd.im k (.v x) = .f := rfl
theorem max_fk {k : Kd} : Kd.max .f k = k := rfl
theorem max_kf {k : Kd} : Kd.max k .f = k := by cases k <;> rfl
theorem max_rr : Kd.max .r .r = .r := rfl
theorem max_rh : Kd.max .r .h = .h := rfl
theorem max_hr : Kd.max .h .r = .h := rfl
theorem max_hh : Kd.max .h .h = .h := rfl
theorem ne_fh : (Kd.f = Kd.h) = False := by simp
theorem ne_rh : (Kd.r = Kd.h) = False := by simp
section
variable {P : Out → Prop} {a b : SF} {Γ Γ1 Γ2 : Gm}
theorem bind_ok {α β : Type} {a : α} {m : Nat} {k : α → Gm → Nat → Er β} : (Er.ok a Γ m).bind k = match k a Γ m with | .ok b Γ' m' => .ok b Γ' (max m m') | .ex e Γ' => .ex e Γ' | .no => .no := rfl
theorem bind_ok0 {α β : Type} {a : α} {k : α → Gm → Nat → Er β} : (Er.ok a Γ 0).bind k = k a Γ 0 := by
  unfold Er.bind; dsimp only; cases k a Γ 0 <;> simp
theorem out_ok {α : Type} {a : α} {m : Nat} {k : α → Gm → Out} : (Er.ok a Γ m).out k = k a Γ := rfl
theorem go_seq (h : a Γ = .nx Γ1) (g : Go (b Γ1) P) : Go (sSeq a b Γ) P := by unfold Go sSeq at *; rw [h]; exact g
theorem go_seqG (h : Go (a Γ) fun o => ∃ Γ1, o = .nx Γ1 ∧ Go (b Γ1) P) : Go (sSeq a b Γ) P := by
  obtain ⟨Γ1, e, g⟩ := h
  exact go_seq e g
theorem go_seqX (R : Gm → Prop) (h : Go (a Γ) fun o => ∃ Γ1, o = .nx Γ1 ∧ R Γ1) (g : ∀ Γ1, R Γ1 → Go (b Γ1) P) : Go (sSeq a b Γ) P := by
  obtain ⟨Γ1, e, r⟩ := h
  exact go_seq e (g Γ1 r)
theorem go_end (h : a Γ = .nx Γ1) (g : P (.nx Γ1)) : Go (a Γ) P := by unfold Go; rw [h]; exact g
theorem go_if {p : TF} {x : Bool} {m : Nat} (h : p Γ = .ok x Γ1 m) (g : Go (if x = true then a Γ1 else b Γ1) P) : Go (sIf p a b Γ) P := by
  unfold sIf; rw [h]; exact g
theorem go_ifC {p : TF} {c : Prop} [Decidable c] {m : Nat} (h : p Γ = .ok (decide c) Γ1 m) (t : c → Go (a Γ1) P) (f : ¬ c → Go (b Γ1) P) : Go (sIf p a b Γ) P := go_if h (by
  by_cases hc : c
  · rw [decide_eq_true hc, if_pos rfl]; exact t hc
  · rw [decide_eq_false hc, if_neg (by simp)]; exact f hc)
theorem go_ifB {p : TF} {x : Bool} {m : Nat} (h : p Γ = .ok x Γ1 m) (t : x = true → Go (a Γ1) P) (f : x = false → Go (b Γ1) P) : Go (sIf p a b Γ) P := go_if h (by
  cases x
  · rw [if_neg (by simp)]; exact f rfl
  · rw [if_pos rfl]; exact t rfl)
theorem go_ifT {p : TF} {m : Nat} (h : p Γ = .ok true Γ1 m) (g : Go (a Γ1) P) : Go (sIf p a b Γ) P := go_if h (by rw [if_pos rfl]; exact g)
theorem go_ifF {p : TF} {m : Nat} (h : p Γ = .ok false Γ1 m) (g : Go (b Γ1) P) : Go (sIf p a b Γ) P := go_if h (by rw [if_neg (by simp)]; exact g)
theorem go_seqF {p : TF} {a' : SF} {m : Nat} (h : p Γ = .ok false Γ1 m) (g : Go (b Γ1) P) : Go (sSeq (sIf p a' sNext) b Γ) P := go_seq (Γ1 := Γ1) (by unfold sIf; rw [h]; rfl) g
/-- an if that leaves the def -/
theorem go_seqT {p : TF} {a' b' : SF} {m : Nat} {t : OT} {Γ2 : Gm} (h : p Γ = .ok true Γ1 m) (h2 : a' Γ1 = .rt t Γ2) (g : P (.rt t Γ2)) : Go (sSeq (sIf p a' b') b Γ) P := by
  unfold Go sSeq sIf; rw [h]; dsimp only [Er.out]; rw [if_pos rfl, h2]; exact g
theorem go_ret {o : OF} {t : OT} {m : Nat} (h : o Γ = .ok t Γ1 m) (g : P (.rt t Γ1)) : Go (sRet o Γ) P := by unfold Go sRet; rw [h]; exact g
theorem go_imm {is : List Nat} (g : Go (a (is.foldl (fun Γ i => immG i Γ) Γ)) P) : Go (sImm is a Γ) P := by
  induction is generalizing Γ with
  | nil => exact g
  | cons i is ih => exact ih g
theorem go_kb {vs : List Nat} (g : Go (a (killG vs Γ)) P) : Go (sKB vs a Γ) P := g
theorem go_fz {i : Nat} (g : Go (a (fzG i Γ)) P) : Go (sFz i a Γ) P := g
theorem go_kill {vs : List Nat} (g : Go (a Γ) fun o => match o with | .nx Γ1 => P (.nx (killG vs Γ1)) | .ct Γ1 => P (.ct (killG vs Γ1)) | o => P o) : Go (sKill vs a Γ) P := by
  unfold Go sKill at *
  cases h : a Γ <;> rw [h] at g <;> exact g
theorem go_for {it : AF} {t : TgF} {k : Kd} {ds : List D} {m : Nat} (h : it Γ = .ok (k, ds) Γ1 m) (hk : k ≠ .h) (g : Go (forL t a k ds Γ1) P) : Go (sFor it t a Γ) P := by
  unfold sFor; rw [h]; unfold Er.out; dsimp only; rw [if_neg hk]; exact g
theorem go_mono {P P' : Out → Prop} {o : Out} (g : Go o P) (h : ∀ o, P o → P' o) : Go o P' := h _ g
end
/-- what a def gives -/
def RtQ (as : List Arg) (Q : OT → List OT → Prop) (o : Out) : Prop := ∃ t us Γ, (o = .rt t Γ ∨ o = .nx Γ ∧ t = .fz .n) ∧ outsOf as Γ = some us ∧ Q t us
theorem run_ex {k n : Nat} {b : SF} {as : List Arg} {Q : OT → List OT → Prop} (hl : as.length = k) (h : Go (b (as.map Arg.slot ++ List.replicate n .n)) (RtQ as Q)) : ∃ t us, xRun k n b as = .ok t us ∧ Q t us := by
  obtain ⟨t, us, Γ, h1, h2, h3⟩ := h
  refine ⟨t, us, ?_, h3⟩
  unfold xRun
  rw [if_neg (by simp [hl])]
  rcases h1 with h1 | ⟨h1, rfl⟩ <;> rw [h1] <;> dsimp only <;> unfold finO <;> rw [h2]
theorem run_ok {k n : Nat} {b : SF} {as : List Arg} {t : OT} {us : List OT} (hl : as.length = k) (h : Go (b (as.map Arg.slot ++ List.replicate n .n)) (RtQ as fun t' us' => t' = t ∧ us' = us)) : xRun k n b as = .ok t us := by
  obtain ⟨t', us', h1, rfl, rfl⟩ := run_ex hl h
  exact h1
theorem rt_of {as : List Arg} {Q : OT → List OT → Prop} {t : OT} {Γ : Gm} {us : List OT} (h : outsOf as Γ = some us) (q : Q t us) : RtQ as Q (.rt t Γ) := ⟨t, us, Γ, .inl rfl, h, q⟩
theorem nx_of {as : List Arg} {Q : OT → List OT → Prop} {Γ : Gm} {us : List OT} (h : outsOf as Γ = some us) (q : Q (.fz .n) us) : RtQ as Q (.nx Γ) := ⟨_, us, Γ, .inr ⟨rfl, rfl⟩, h, q⟩
/-! ### loops -/
theorem forL_fold {α β : Type} (enc : α → Gm) (el : β → D) (f : α → β → α) (Pre : α → Prop) {t : TgF} {b : SF} {k : Kd} : ∀ (xs : List β) (a : α), Pre a →
    (∀ a x, x ∈ xs → Pre a → Pre (f a x) ∧ ∃ Γ1, t k (el x) (enc a) = some Γ1 ∧ Go (b Γ1) (· = .nx (enc (f a x)))) → forL t b k (xs.map el) (enc a) = .nx (enc (xs.foldl f a))
  | [], a, _, _ => rfl
  | x :: xs, a, h, st => by
    obtain ⟨h1, Γ1, e, h2⟩ := st a x List.mem_cons_self h
    show (match t k (el x) (enc a) with | none => Out.no | some Γ1 => match b Γ1 with | .nx Γ2 => forL t b k (xs.map el) Γ2 | .ct Γ2 => forL t b k (xs.map el) Γ2 | .bk Γ2 => .nx Γ2 | o => o) = _
    have h2 : b Γ1 = .nx (enc (f a x)) := h2
    rw [e]
    dsimp only
    rw [h2]
    exact forL_fold enc el f Pre xs (f a x) h1 fun a y hy ha => st a y (List.mem_cons_of_mem _ hy) ha
/-- an invariant over the items behind -/
theorem forL_inv (I : Nat → Gm → Prop) {t : TgF} {b : SF} {k : Kd} {P : Out → Prop} : ∀ (ds : List D) (Γ : Gm) (n : Nat), I n Γ →
    (∀ i d Γ, ds[i]? = some d → I (n + i) Γ → ∃ Γ1, t k d Γ = some Γ1 ∧ Go (b Γ1) fun o => ∃ Γ2, o = .nx Γ2 ∧ I (n + i + 1) Γ2) → (∀ Γ', I (n + ds.length) Γ' → P (.nx Γ')) → Go (forL t b k ds Γ) P
  | [], Γ, n, h, _, q => q Γ h
  | d :: ds, Γ, n, h, st, q => by
    obtain ⟨Γ1, e, Γ2, h1, h2⟩ := st 0 d Γ rfl h
    show P (match t k d Γ with | none => Out.no | some Γ1 => match b Γ1 with | .nx Γ2 => forL t b k ds Γ2 | .ct Γ2 => forL t b k ds Γ2 | .bk Γ2 => .nx Γ2 | o => o)
    rw [e]
    dsimp only
    rw [h1]
    exact forL_inv I ds Γ2 (n + 1) h2 (fun i d' Γ' hd hI => by
        rw [show n + 1 + i = n + (i + 1) by omega] at hI ⊢
        exact st (i + 1) d' Γ' hd hI) fun Γ' hI => q Γ' (by rw [List.length_cons, show n + (ds.length + 1) = n + 1 + ds.length by omega]; exact hI)
/-! ### one step at a time -/
section
variable {Γ Γ1 Γ2 : Gm} {i n l : Nat} {f g h : EF} {o : OF} {a b : AF} {p q : TF} {r : LF} {pl : PF} {d e : D} {x y : V} {k k' : Kd} {C m : Str} {X : FM} {A B : SF} {T : TgF} {Ts : TgsF} {vs ws : List Nat} {it it1 : AF}
theorem bind_cg {α β : Type} {x x' : Er α} {k : α → Gm → Nat → Er β} (h : x = x') : x.bind k = x'.bind k := by rw [h]
theorem out_cg {α : Type} {x x' : Er α} {k : α → Gm → Out} (h : x = x') : x.out k = x'.out k := by rw [h]
def orK (x : Option Bool) (r : Er (Kd × D)) (Γ : Gm) : Er (Kd × D) := match x with
  | some true => .ok (.f, .b true) Γ 0
  | some false => r.bind fun y Γ2 _ => leafR (y.2.tru.map V.bl) Γ2
  | none => .no
def andK (x : Option Bool) (r : Er (Kd × D)) (Γ : Gm) : Er (Kd × D) := match x with
  | some true => r.bind fun y Γ2 _ => leafR (y.2.tru.map V.bl) Γ2
  | some false => .ok (.f, .b false) Γ 0
  | none => .no
def anK (x : Bool) (r : Er Bool) (Γ : Gm) : Er Bool := if x = true then r else .ok false Γ 0
def ooK (x : Bool) (r : Er Bool) (Γ : Gm) : Er Bool := if x = true then .ok true Γ 0 else r
def chK (w : Option V) (r : Er (Kd × D)) (Γ : Gm) : Er (Kd × D) := match w with
  | some (.bl true) => r
  | some (.bl false) => .ok (.f, .b false) Γ 0
  | _ => .no
theorem orK_v {u v : Bool} : orK (some u) (.ok (k, .v (.bl v)) Γ 0) Γ = .ok (.f, .v (.bl (u || v))) Γ 0 := by cases u <;> rfl
theorem orK_t {r : Er (Kd × D)} : orK (some true) r Γ = .ok (.f, .v (.bl true)) Γ 0 := rfl
theorem andK_v {u v : Bool} : andK (some u) (.ok (k, .v (.bl v)) Γ 0) Γ = .ok (.f, .v (.bl (u && v))) Γ 0 := by cases u <;> rfl
theorem andK_f {r : Er (Kd × D)} : andK (some false) r Γ = .ok (.f, .v (.bl false)) Γ 0 := rfl
theorem anK_v {u v : Bool} : anK u (.ok v Γ 0) Γ = .ok (u && v) Γ 0 := by cases u <;> rfl
theorem anK_f {r : Er Bool} : anK false r Γ = .ok false Γ 0 := rfl
theorem ooK_v {u v : Bool} : ooK u (.ok v Γ 0) Γ = .ok (u || v) Γ 0 := by cases u <;> rfl
theorem ooK_t {r : Er Bool} : ooK true r Γ = .ok true Γ 0 := rfl
theorem chK_v {u v : Bool} : chK (some (.bl u)) (.ok (.f, .v (.bl v)) Γ 0) Γ = .ok (.f, .v (.bl (u && v))) Γ 0 := by cases u <;> rfl
theorem chK_f {r : Er (Kd × D)} : chK (some (.bl false)) r Γ = .ok (.f, .v (.bl false)) Γ 0 := rfl
theorem q_var : eVar i Γ = match Γ[i]? with | some (.f d) => .ok (.f, d) Γ 0 | some (.r d) => .ok (.r, d) Γ 0 | some (.o t) => .ok (.h, t.d) Γ 0 | some (.p t) => .ok (.h, t.d) Γ 0 | _ => .no := rfl
theorem q_c : eC x Γ = .ok (.f, .v x) Γ 0 := rfl
theorem q_tk {ds : List D} : eTk ds Γ = .ok (.f, .tk ds) Γ 0 := rfl
theorem q_ovar : oVar i Γ = match Γ[i]? with | some (.o t) => .ok t (Γ.set i .n) 1 | _ => .no := rfl
theorem q_op {G : D → D → Option V} : eOp G f g Γ = (f Γ).bind fun x Γ1 _ => (g Γ1).bind fun y Γ2 m => if bad x.1 x.2 m = true then .no else leafR (G x.2 y.2) Γ2 := rfl
theorem q_un {G : D → Option V} : eUn G f Γ = (f Γ).bind fun x Γ1 _ => leafR (G x.2) Γ1 := rfl
theorem q_cb {G : List D → Option V} : eCB G a Γ = (a Γ).bind fun x Γ1 _ => leafR (G x.2) Γ1 := rfl
theorem q_leaf {w : V} : leafR (some w) Γ = .ok (.f, .v w) Γ 0 := rfl
theorem q_data {w : D} : dataR k (some w) Γ = .ok (k.im w, w) Γ 0 := rfl
theorem q_bool {w : Bool} : boolR (some w) Γ = .ok w Γ 0 := rfl
theorem q_nil : aNil Γ = .ok (.f, []) Γ 0 := rfl
theorem q_cons : aCons f a Γ = (f Γ).bind fun x Γ1 _ => (a Γ1).bind fun y Γ2 m => if bad x.1 x.2 m = true then .no else .ok ((x.1.im x.2).max y.1, x.2 :: y.2) Γ2 0 := rfl
theorem q_tup : eTup a Γ = (a Γ).bind fun x Γ1 _ => if decide (100000 < x.2.length) = true then .no else .ok (x.1, .t x.2) Γ1 0 := rfl
theorem q_lst : eLst a Γ = (a Γ).bind fun x Γ1 _ => if decide (100000 < x.2.length) = true then .no else .ok (x.1, .l x.2) Γ1 0 := rfl
theorem q_olst : oLst a Γ = (a Γ).bind fun x Γ1 _ => if decide (100000 < x.2.length) = true then .no else match x.1 with | .f => .ok (.l (x.2.map .fz)) Γ1 0 | _ => .no := rfl
theorem q_ix : eIx f g Γ = (f Γ).bind fun x Γ1 _ => (g Γ1).bind fun y Γ2 m => if bad x.1 x.2 m = true then .no else dataR x.1 (gIx x.2 y.2) Γ2 := rfl
theorem q_fld : eFld C m f Γ = (f Γ).bind fun x Γ1 _ => dataR x.1 (gFld C m x.2) Γ1 := rfl
theorem q_fz : eFz o Γ = (o Γ).bind fun t Γ1 _ => .ok (.f, t.d) Γ1 0 := rfl
theorem q_ofz : oFz f Γ = (f Γ).bind fun x Γ1 _ => match x.1.im x.2 with | .f => .ok (.fz x.2) Γ1 0 | _ => .no := rfl
theorem q_and : eAnd f g Γ = (f Γ).bind fun x Γ1 _ => andK x.2.tru (g Γ1) Γ1 := rfl
theorem q_or : eOr f g Γ = (f Γ).bind fun x Γ1 _ => orK x.2.tru (g Γ1) Γ1 := rfl
theorem q_not : eNot f Γ = (f Γ).bind fun x Γ1 _ => leafR (x.2.tru.map fun b => .bl (!b)) Γ1 := rfl
theorem q_if : eIf p f g Γ = (p Γ).bind fun b' Γ1 _ => if b' = true then f Γ1 else g Γ1 := rfl
theorem q_chain {G G' : D → D → Option V} : eChain G G' f g h Γ = (f Γ).bind fun x Γ1 _ => (g Γ1).bind fun y Γ2 m => if bad x.1 x.2 m = true then .no else chK (G x.2 y.2) ((h Γ2).bind fun z Γ3 m => if bad y.1 y.2 m = true then .no else match G' y.2 z.2 with | some (.bl k) => .ok (.f, .b k) Γ3 0 | _ => .no) Γ2 := rfl
theorem q_te : tTe f Γ = (f Γ).bind fun x Γ1 _ => boolR x.2.tru Γ1 := rfl
theorem q_tr : tTr f Γ = (f Γ).bind fun x Γ1 _ => boolR x.2.truth Γ1 := rfl
theorem q_an : tAn p q Γ = (p Γ).bind fun b Γ1 _ => anK b (q Γ1) Γ1 := rfl
theorem q_oo : tOo p q Γ = (p Γ).bind fun b Γ1 _ => ooK b (q Γ1) Γ1 := rfl
theorem q_no : tNo p Γ = (p Γ).bind fun b Γ1 _ => .ok (!b) Γ1 0 := rfl
theorem q_ye : tYe Γ = .ok true Γ 0 := rfl
theorem q_dget : eDGet f g Γ = (f Γ).bind fun x Γ1 _ => (g Γ1).bind fun y Γ2 m => if bad x.1 x.2 m = true then .no else dataR x.1 ((gDGet x.2 y.2).bind id) Γ2 := rfl
theorem q_din {w : Bool} : eDIn w f g Γ = (f Γ).bind fun x Γ1 _ => (g Γ1).bind fun y Γ2 m => if bad x.1 x.2 m = true then .no else leafR ((gDGet y.2 x.2).map fun o => .bl (if w then !o.isSome else o.isSome)) Γ2 := rfl
theorem q_lnil : lNil Γ = .ok [] Γ 0 := rfl
theorem q_lcons : lCons o r Γ = (o Γ).bind fun t Γ1 _ => (r Γ1).bind fun ts Γ2 _ => .ok (t :: ts) Γ2 0 := rfl
theorem q_lstO : oLstO r Γ = (r Γ).bind fun ts Γ1 _ => if decide (100000 < ts.length) = true then .no else .ok (.l ts) Γ1 0 := rfl
theorem q_tupO : oTupO r Γ = (r Γ).bind fun ts Γ1 _ => if decide (100000 < ts.length) = true then .no else .ok (.t ts) Γ1 0 := rfl
theorem q_name : tgName i k d Γ = match k.im d with | .f => some (Γ.set i (.f d)) | .r => some (Γ.set i (.r d)) | .h => none := rfl
theorem q_tgt {ds : List D} : tgTup n Ts k (.t ds) Γ = if ds.length = n then Ts k ds Γ else none := rfl
theorem q_tgnil : tgNil k [] Γ = some Γ := rfl
theorem q_tgcons {ds : List D} : tgCons T Ts k (d :: ds) Γ = (T k d Γ).bind (Ts k ds) := rfl
theorem q_r1 : iR1 a Γ = (a Γ).bind fun x Γ1 _ => match oneI x.2 with | some n => if decide (n < -100000 ∨ 100000 < n) = true then .no else .ok (.f, rgD 0 n.toNat) Γ1 0 | none => .no := rfl
theorem q_r2 : iR2 a Γ = (a Γ).bind fun x Γ1 _ => match twoI x.2 with | some (m, n) => if decide (m < -100000 ∨ 100000 < m ∨ n < -100000 ∨ 100000 < n) = true then .no else .ok (.f, rgD m (n - m).toNat) Γ1 0 | none => .no := rfl
theorem q_li : iLi f Γ = (f Γ).bind fun x Γ1 _ => match x.2 with | .l ds => .ok (x.1, ds) Γ1 0 | _ => .no := rfl
theorem q_tu : iTu f Γ = (f Γ).bind fun x Γ1 _ => match x.2 with | .t ds => .ok (x.1, ds) Γ1 0 | .tk ds => .ok (x.1, ds) Γ1 0 | _ => .no := rfl
theorem q_st : iSt f Γ = (f Γ).bind fun x Γ1 _ => match x.2 with | .v (.str s) => .ok (.f, chars s) Γ1 0 | _ => .no := rfl
theorem q_en : iEn a Γ = (a Γ).bind fun x Γ1 _ => match x.2 with | [.l ds] => .ok (x.1, enumD 0 ds) Γ1 0 | _ => .no := rfl
theorem q_zi : iZi a Γ = (a Γ).bind fun x Γ1 _ => match x.2 with | [.l ds, .l es] => .ok (x.1, zipD ds es) Γ1 0 | _ => .no := rfl
theorem q_asg : sAsg f T Γ = (f Γ).out fun x Γ1 => match T x.1 x.2 Γ1 with | some Γ2 => .nx Γ2 | none => .no := rfl
theorem q_asgO : sAsgO o i Γ = (o Γ).out fun t Γ1 => .nx (Γ1.set i (.o t)) := rfl
theorem q_drop : sDrop f Γ = (f Γ).out fun _ Γ1 => .nx Γ1 := rfl
theorem q_ret : sRet o Γ = (o Γ).out fun t Γ1 => .rt t Γ1 := rfl
theorem q_next : sNext Γ = .nx Γ := rfl
theorem q_aug {G : D → D → Option V} : sAug i G f Γ = match Γ[i]? with | some (.f d) => (f Γ).out fun x Γ1 => (match G d x.2 with | some w => .nx (Γ1.set i (.f (.v w))) | none => .no) | _ => .no := rfl
theorem q_ifS : sIf p A B Γ = (p Γ).out fun x Γ1 => if x = true then A Γ1 else B Γ1 := rfl
theorem q_app : sApp pl o Γ = (pl Γ).out fun a Γ1 => match treeAt Γ1 a.1 a.2 with
  | some (.l _) => match o Γ1 with
    | .ok u Γ2 m => if decide (1 < m) = true then .no else match treeAt Γ2 a.1 a.2 with
      | some (.l ts) => if decide (100000 ≤ ts.length) = true then .no else .nx (putAt Γ2 a.1 a.2 (.l (ts ++ [u])))
      | _ => .no
    | .ex e Γ2 => .ex e Γ2
    | .no => .no
  | _ => .no := rfl
theorem q_setIx : sSetIx pl f o Γ = (o Γ).out fun u Γ0 => (pl Γ0).out fun a Γ1 => match f Γ1 with
  | .ok y Γ2 m => if decide (1 < m) = true then .no else match treeAt Γ2 a.1 a.2 with
    | some (.l ts) => match oneI [y.2] with
      | some n => match ixN ts.length n with
        | some j => .nx (putAt Γ2 a.1 a.2 (.l (ts.set j u)))
        | none => .no
      | none => .no
    | _ => .no
  | .ex e Γ2 => .ex e Γ2
  | .no => .no := rfl
theorem q_dput : sDPutF pl f o Γ = (o Γ).out fun u Γ0 => (pl Γ0).out fun a Γ1 => match f Γ1 with
  | .ok y Γ2 m => if decide (1 < m) = true then .no else match treeAt Γ2 a.1 a.2 with
    | some w => if decide (100000 ≤ w.kids.length) = true then .no else match w.dput y.2 u with
      | some w' => .nx (putAt Γ2 a.1 a.2 w')
      | none => .no
    | none => .no
  | .ex e Γ2 => .ex e Γ2
  | .no => .no := rfl
theorem q_fldF : sFldF C m pl o Γ = (o Γ).out fun u Γ0 => (pl Γ0).out fun a Γ1 => match treeAt Γ1 a.1 a.2 with
  | some (.ob C' ns ts) => if C' = C ∧ ts.length < 900 then match fldIx m ns with
    | some j => .nx (putAt Γ1 a.1 a.2 (.ob C ns (ts.set j u)))
    | none => .nx (putAt Γ1 a.1 a.2 (.ob C (ns ++ [m]) (ts ++ [u])))
    else .no
  | _ => .no := rfl
theorem q_pvar : pVar i Γ = match treeAt Γ i [] with | some _ => .ok (i, []) Γ 0 | none => .no := rfl
theorem q_pix : pIx pl f Γ = (pl Γ).bind fun a Γ1 _ => (f Γ1).bind fun y Γ2 m => if decide (1 < m) = true then .no else match treeAt Γ2 a.1 a.2 with
  | some u => match u.seqK with
    | some ts => match oneI [y.2] with
      | some n => match ixN ts.length n with
        | some j => .ok (a.1, a.2 ++ [j]) Γ2 0
        | none => .no
      | none => .no
    | none => .no
  | none => .no := rfl
theorem q_pfld : pFld C m pl Γ = (pl Γ).bind fun a Γ1 _ => match treeAt Γ1 a.1 a.2 with
  | some (.ob C' ns ts) => if C' = C then match fldIx m ns with
      | some j => .ok (a.1, a.2 ++ [j]) Γ1 0
      | none => .no
    else .no
  | _ => .no := rfl
theorem q_tree {π : List Nat} : treeAt Γ i π = match Γ[i]? with | some s => (match s.tree with | some t => t.at π | none => none) | none => none := rfl
theorem q_put {π : List Nat} {u : OT} : putAt Γ i π u = match Γ[i]? with | some s => (match s.tree with | some t => Γ.set i (s.put (t.put π u)) | none => Γ) | none => Γ := rfl
theorem q_at0 {u : OT} : u.at [] = some u := by unfold OT.at; rfl
theorem q_at1 {u : OT} {j : Nat} {π : List Nat} : u.at (j :: π) = match u.kids[j]? with | some w => w.at π | none => none := by
  conv => lhs; unfold OT.at
  all_goals (cases u.kids[j]? <;> rfl)
theorem q_put0 {u s : OT} : u.put [] s = s := by unfold OT.put; rfl
theorem q_put1 {u s : OT} {j : Nat} {π : List Nat} : u.put (j :: π) s = match u.kids[j]? with | some w => u.setK (u.kids.set j (w.put π s)) | none => u := by
  conv => lhs; unfold OT.put
  all_goals (cases u.kids[j]? <;> rfl)
theorem q_treeO {t : OT} : (Slot.o t).tree = some t := rfl
theorem q_treeP {t : OT} : (Slot.p t).tree = some t := rfl
theorem q_sputO {t u : OT} : (Slot.o t).put u = .o u := rfl
theorem q_sputP {t u : OT} : (Slot.p t).put u = .p u := rfl
theorem q_call : oCall X a Γ = (a Γ).bind fun y Γ1 _ => (X (y.2.map .d)).res Γ1 := rfl
theorem q_res {t : OT} : (FO.ok t []).res Γ = .ok t Γ 0 := rfl
theorem q_meth : oMeth C m X f a Γ = (f Γ).bind fun y Γ1 _ => match y.2 with
  | .ob C' ns ds => if C' = C ∧ fldIx m ns = none then (a Γ1).bind fun z Γ2 k => if bad y.1 y.2 k = true then .no else (X ((y.2 :: z.2).map .d)).res Γ2
    else .no
  | _ => .no := rfl
theorem q_lc : oLc it T p o vs Γ = (it Γ).bind fun x Γ1 _ => match lcL T p o x.1 (wipeG Γ1 vs) x.2 with | some ts => if decide (50000 < ts.length) = true then .no else .ok (.l ts) Γ1 0 | none => .no := rfl
theorem q_zno : zNo Γ = .ok none Γ 0 := rfl
theorem q_zsome : zSome f Γ = (f Γ).bind fun y Γ1 _ => match oneI [y.2] with | some n => .ok (some n) Γ1 0 | none => .no := rfl
theorem q_getOwn : oGetOwn C X f g Γ = (f Γ).bind fun y Γ1 _ => (g Γ1).bind fun z Γ2 k => if bad y.1 y.2 k = true then .no else if isOb C y.2 = true then (X [.d y.2, .d z.2]).res Γ2 else .no := rfl
theorem q_prop : oProp C X f Γ = (f Γ).bind fun y Γ1 _ => if isOb C y.2 = true then (X [.d y.2]).res Γ1 else .no := rfl
theorem q_indexS : eIndexS f a Γ = (f Γ).bind fun x Γ1 _ => match x.2 with
  | .v (.str s) => (a Γ1).bind fun y Γ2 _ => match oneS y.2 with
    | some t => match Builtin.Str.occurrences s t 0 s.length 1 with
      | i :: _ => .ok (.f, .i (i : Nat)) Γ2 0
      | [] => .no
    | none => .no
  | _ => .no := rfl
theorem q_listOf : oListOf a Γ = (a Γ).bind fun y Γ1 _ => match y.2 with
  | [d] => match d.items with
    | some ds => freshR y.1 ds Γ1
    | none => .no
  | _ => .no := rfl
theorem q_listT : oListT a Γ = (a Γ).bind fun y Γ1 _ => match y.2 with
  | [.v (.str s)] => if s.length ≤ 100000 then .ok (.l ((chars s).map .fz)) Γ1 0 else .no
  | _ => .no := rfl
theorem q_listRg : oListRg f Γ = (f Γ).bind fun y Γ1 _ => match oneI [y.2] with
  | some n => if decide (n < -100000 ∨ 100000 < n) = true then .no else .ok (.l ((rgD 0 n.toNat).map .fz)) Γ1 0
  | none => .no := rfl
theorem q_sorted : oSorted a Γ = (a Γ).bind fun y Γ1 _ => match y.2 with
  | [.l ds] => match intsOf ds with
    | some ns => if ns.length < 64 then .ok (.l ((sortI ns).map fun n => .fz (.i n))) Γ1 0 else .no
    | none => .no
  | _ => .no := rfl
theorem q_slS {l u : ZF} : eSlS f l u Γ = (f Γ).bind fun y Γ1 _ => (l Γ1).bind fun lo Γ2 _ => (u Γ2).bind fun hi Γ3 _ => match y.2 with
  | .v (.str s) => if s.length ≤ 1000000 then .ok (.f, .s (cutS s lo hi)) Γ3 0 else .no
  | _ => .no := rfl
theorem q_slL {l u : ZF} : oSlL f l u Γ = (f Γ).bind fun y Γ1 _ => (l Γ1).bind fun lo Γ2 k1 => (u Γ2).bind fun hi Γ3 k2 => match y.2 with
  | .l ds => if bad y.1 y.2 (max k1 k2) = true then .no else freshR y.1 (cutD ds lo hi) Γ3
  | _ => .no := rfl
theorem q_makeK {n l : Nat} : oMakeK C n l X a b Γ = (a Γ).bind fun y Γ1 _ => (b Γ1).bind fun z Γ2 k => if bads y.1 y.2 k = true then .no else if y.2.length = n ∧ z.2.length = l then (X (.o (.ob C [] []) :: (y.2 ++ z.2).map .d)).resM Γ2 else .no := rfl
theorem q_make {dd : List D} : oMake C X dd a Γ = (a Γ).bind fun y Γ1 _ => (X (.o (.ob C [] []) :: (y.2 ++ dd).map .d)).resM Γ1 := rfl
theorem q_resM {t : OT} : (FO.ok (.fz (.v .non)) [t]).resM Γ = .ok t Γ 0 := rfl
theorem q_methP : oMethP C m X pl a Γ = (pl Γ).bind fun y Γ1 _ => match treeAt Γ1 y.1 y.2 with
  | some (.ob C' ns _) => if C' = C ∧ fldIx m ns = none then (a Γ1).bind fun z Γ2 k => if decide (1 < k) = true then .no else if z.1 = .h then .no else match treeAt Γ2 y.1 y.2 with
    | some s => (X (.o s :: z.2.map .d)).res1 Γ2 y.1 y.2
    | none => .no
    else .no
  | _ => .no := rfl
theorem q_res1 {t u : OT} {π : List Nat} : (FO.ok t [u]).res1 Γ i π = .ok t (putAt Γ i π u) 2 := rfl
theorem q_binS : oBinS C X f g Γ = (f Γ).bind fun y Γ1 _ => (g Γ1).bind fun z Γ2 k => if bad y.1 y.2 k = true then .no else if isOb C y.2 = true then match z.2 with
  | .v (.str s) => (X [.d y.2, .d (.v (.str s))]).res Γ2
  | _ => .no
  else .no := rfl
theorem q_inOwn : eInOwn C X f g Γ = (f Γ).bind fun y Γ1 _ => (g Γ1).bind fun z Γ2 k => if bad y.1 y.2 k = true then .no else if isOb C z.2 = true then match X [.d z.2, .d y.2] with
  | .ok (.fz (.v (.bl b))) [] => .ok (.f, .b b) Γ2 0
  | _ => .no
  else .no := rfl
theorem q_setOwn : sSetOwn C X pl f g Γ = (g Γ).out fun v Γ0 => (pl Γ0).out fun y Γ1 => match f Γ1 with
  | .ok z Γ2 m => if decide (1 < m) = true then .no else if v.1.im v.2 = .h ∨ z.1.im z.2 = .h then .no else match treeAt Γ2 y.1 y.2 with
    | some (.ob C' ns ts) => if C' = C then (X [.o (.ob C' ns ts), .d z.2, .d v.2]).resS Γ2 y.1 y.2 else .no
    | _ => .no
  | .ex e Γ2 => .ex e Γ2
  | .no => .no := rfl
theorem q_resS {t u : OT} {π : List Nat} : (FO.ok t [u]).resS Γ i π = .nx (putAt Γ i π u) := rfl
theorem q_m1 {G : D → D → Option V} : eM1 G f g Γ = (f Γ).bind fun x Γ1 _ => match x.2 with
  | .v (.str s) => (g Γ1).bind fun y Γ2 _ => leafR (G (.v (.str s)) y.2) Γ2
  | _ => .no := rfl
theorem q_indexL : eIndexL f a Γ = (f Γ).bind fun x Γ1 _ => match x.2 with
  | .l ds => match lfs ds with
    | some vs => (a Γ1).bind fun y Γ2 k => if decide (1 < k) = true then .no else match oneV y.2 with
      | some u => if flatV u && vs.all flatV then match ixV u vs with
        | some j => .ok (.f, .i (j : Int)) Γ2 0
        | none => .no
        else .no
      | none => .no
    | none => .no
  | _ => .no := rfl
theorem oneV_v : oneV [.v x] = some x := rfl
theorem fresh_f {ds : List D} : freshR .f ds Γ = .ok (.l (ds.map .fz)) Γ 0 := by unfold freshR; rw [if_pos (.inl rfl)]
theorem fresh_i {ds : List D} (h : imms ds = true) : freshR k ds Γ = .ok (.l (ds.map .fz)) Γ 0 := by unfold freshR; rw [if_pos (.inr h)]
theorem im_l {ds : List D} : Kd.im k (.l ds) = k := by unfold Kd.im D.imm; rfl
theorem im_ob {ns : List Str} {ds : List D} : Kd.im k (.ob C ns ds) = k := by unfold Kd.im D.imm; rfl
theorem im_dk {ks : List Key} {ds : List D} : Kd.im k (.dk ks ds) = k := by unfold Kd.im D.imm; rfl
theorem im_dt {ks : List (List Key)} {ds : List D} : Kd.im k (.dt ks ds) = k := by unfold Kd.im D.imm; rfl
theorem gIx_l {ds : List D} {i : Int} : gIx (.l ds) (.v (.int i)) = atI ds i := rfl
theorem gIx_t {ds : List D} {i : Int} : gIx (.t ds) (.v (.int i)) = atI ds i := rfl
theorem gIx_tk {ds : List D} {i : Int} : gIx (.tk ds) (.v (.int i)) = atI ds i := rfl
theorem gFld_ob {ns : List Str} {ds : List D} : gFld C m (.ob C ns ds) = (ns.zip ds).lookup m := by unfold gFld; simp
theorem gI_i {F : Int → Int → V} {i j : Int} : gI F (.v (.int i)) (.v (.int j)) = some (F i j) := rfl
theorem gIc_i {c : Int → Int → Bool} {F : Int → Int → V} {i j : Int} : gIc c F (.v (.int i)) (.v (.int j)) = if c i j = true then some (F i j) else none := rfl
theorem cMod_p {i j : Int} (h : 0 < j) : cMod i j = true := decide_eq_true h
theorem cDiv_p {i j : Int} (h : 0 < j ∧ j < 1073741824) : cDiv i j = true := decide_eq_true h
theorem cMul_l {i j : Int} (h : -(2 ^ 64) < i ∧ i < 2 ^ 64) : cMul i j = true := by unfold cMul; rw [decide_eq_true h]; rfl
theorem cMul_r {i j : Int} (h : -(2 ^ 64) < j ∧ j < 2 ^ 64) : cMul i j = true := by unfold cMul; rw [decide_eq_true h, Bool.or_true]
theorem cMod_l {i : Int} {j : Nat} : cMod i (OfNat.ofNat (j + 2)) = true := by unfold cMod; exact decide_eq_true (by show (0 : Int) < ((j + 2 : Nat) : Int); omega)
theorem gLen_l {ds : List D} : gLen [.l ds] = some (.int (ds.length : Int)) := by unfold gLen; rfl
theorem gLen_t {ds : List D} : gLen [.t ds] = some (.int (ds.length : Int)) := by unfold gLen; rfl
theorem gInt_i {i : Int} : gInt [.v (.int i)] = some (.int i) := rfl
theorem gInt_b {b : Bool} : gInt [.v (.bl b)] = some (.int (if b = true then 1 else 0)) := rfl
theorem gMin_i {i j : Int} : gMin [.v (.int i), .v (.int j)] = some (.int (if j < i then j else i)) := rfl
theorem gMax_i {i j : Int} : gMax [.v (.int i), .v (.int j)] = some (.int (if j > i then j else i)) := rfl
theorem gAbs_i {i : Int} : gAbs [.v (.int i)] = some (.int (if i < 0 then -i else i)) := rfl
theorem oneI_i {i : Int} : oneI [.v (.int i)] = some i := rfl
theorem eq_i {i j : Int} : gEq false (.v (.int i)) (.v (.int j)) = some (.bl (decide (i = j))) := by unfold gEq; simp [scal]
theorem ne_i {i j : Int} : gEq true (.v (.int i)) (.v (.int j)) = some (.bl (!decide (i = j))) := by unfold gEq; simp [scal]
theorem eq_s {i j : Str} : gEq false (.v (.str i)) (.v (.str j)) = some (.bl (decide (i = j))) := by unfold gEq; simp [scal]
theorem ne_s {i j : Str} : gEq true (.v (.str i)) (.v (.str j)) = some (.bl (!decide (i = j))) := by unfold gEq; simp [scal]
theorem eq_b {i j : Bool} : gEq false (.v (.bl i)) (.v (.bl j)) = some (.bl (decide (i = j))) := by unfold gEq; simp [scal]
theorem ne_b {i j : Bool} : gEq true (.v (.bl i)) (.v (.bl j)) = some (.bl (!decide (i = j))) := by unfold gEq; simp [scal]
theorem imm_v : (D.v x).imm = true := rfl
theorem im_im : Kd.im (Kd.im k d) d = Kd.im k d := by unfold Kd.im; split <;> rfl
end
/-! ### tables -/
def tab (n : Nat) (f : Nat → D) : List D := (List.range n).map f
theorem tab_len {n : Nat} {f : Nat → D} : (tab n f).length = n := by unfold tab; simp
theorem ixN_lt {n i : Nat} (h : i < n) : ixN n (i : Int) = some i := by
  unfold ixN
  rw [if_pos (Int.natCast_nonneg i), if_pos (by omega)]
  simp
theorem atI_at {α : Type} {xs : List α} {i : Nat} {x : α} (h : xs[i]? = some x) : atI xs (i : Int) = some x := by
  unfold atI
  rw [ixN_lt (List.getElem?_eq_some_iff.mp h).1]
  exact h
theorem tab_get {n i : Nat} {f : Nat → D} (h : i < n) : (tab n f)[i]? = some (f i) := by unfold tab; simp [h]
theorem atI_0 {α : Type} {a : α} {r : List α} : atI (a :: r) 0 = some a := atI_at (i := 0) rfl
theorem atI_1 {α : Type} {a b : α} {r : List α} : atI (a :: b :: r) 1 = some b := atI_at (i := 1) rfl
theorem atI_2 {α : Type} {a b c : α} {r : List α} : atI (a :: b :: c :: r) 2 = some c := atI_at (i := 2) rfl
theorem atI_3 {α : Type} {a b c d : α} {r : List α} : atI (a :: b :: c :: d :: r) 3 = some d := atI_at (i := 3) rfl
theorem atI_4 {α : Type} {a b c d e : α} {r : List α} : atI (a :: b :: c :: d :: e :: r) 4 = some e := atI_at (i := 4) rfl
theorem atI_tab {n i : Nat} {f : Nat → D} (h : i < n) : atI (tab n f) (i : Int) = some (f i) := atI_at (tab_get h)
/-- the rules of running, together -/
def XS0 := And.intro @out_ok <| And.intro @bind_ok0 <| And.intro @orK_v <| And.intro @orK_t <| And.intro @andK_v <| And.intro @andK_f <| And.intro @anK_v <| And.intro @anK_f <| And.intro @ooK_v <| And.intro @ooK_t <| And.intro @chK_v <| And.intro @chK_f <| And.intro @q_var <| And.intro @q_c <| And.intro @q_tk <| And.intro @q_ovar <| And.intro @q_op <| And.intro @q_un <| And.intro @q_cb <| And.intro @q_leaf <| And.intro @q_data <| And.intro @q_bool <| And.intro @q_nil <| And.intro @q_cons <| And.intro @q_tup <| And.intro @q_lst <| And.intro @q_olst <| And.intro @q_ix <| And.intro @q_fld <| And.intro @q_fz <| And.intro @q_ofz <| And.intro @q_and <| And.intro @q_or <| And.intro @q_not <| And.intro @q_if <| And.intro @q_chain <| And.intro @q_te <| And.intro @q_tr <| And.intro @q_an <| And.intro @q_oo <| And.intro @q_no <| And.intro @q_ye <| And.intro @q_dget <| And.intro @q_din <| And.intro @q_lnil <| And.intro @q_lcons <| And.intro @q_lstO <| And.intro @q_tupO <| And.intro @q_name <| And.intro @q_tgt <| And.intro @q_tgnil <| And.intro @q_tgcons <| And.intro @q_r1 <| And.intro @q_r2 <| And.intro @q_li <| And.intro @q_tu <| And.intro @q_st <| And.intro @q_en <| And.intro @q_zi <| And.intro @q_asg <| And.intro @q_asgO <| And.intro @q_drop <| And.intro @q_ret <| And.intro @q_next <| And.intro @q_aug <| And.intro @q_app <| And.intro @q_setIx <| And.intro @q_dput <| And.intro @q_fldF <| And.intro @q_pvar <| And.intro @q_pix <| And.intro @q_pfld <| And.intro @q_tree <| And.intro @q_put <| And.intro @q_at0 <| And.intro @q_at1 <| And.intro @q_put0 <| And.intro @q_put1 <| And.intro @q_treeO <| And.intro @q_treeP <| And.intro @q_sputO <| And.intro @q_sputP <| And.intro @q_call <| And.intro @q_res <| And.intro @q_zno <| And.intro @q_zsome <| And.intro @q_getOwn <| And.intro @q_prop <| And.intro @q_indexS <| And.intro @q_listOf <| And.intro @q_listT <| And.intro @q_listRg <| And.intro @q_sorted <| And.intro @q_slS <| And.intro @q_slL <| And.intro @q_makeK <| And.intro @q_make <| And.intro @q_resM <| And.intro @q_methP <| And.intro @q_res1 <| And.intro @q_binS <| And.intro @q_inOwn <| And.intro @q_setOwn <| And.intro @q_resS <| And.intro @q_m1 <| And.intro @q_indexL <| And.intro @oneV_v <| And.intro @fresh_f <| And.intro @im_l <| And.intro @im_ob <| And.intro @im_dk <| And.intro @im_dt <| And.intro @im_im <| And.intro @imm_v <| And.intro @gIx_l <| And.intro @gIx_t <| And.intro @gIx_tk <| And.intro @gI_i <| And.intro @gIc_i <| And.intro @gLen_l <| And.intro @gLen_t <| And.intro @gInt_i <| And.intro @gInt_b <| And.intro @gMin_i <| And.intro @gMax_i <| And.intro @gAbs_i <| And.intro @oneI_i <| And.intro @gFld_ob <| And.intro @eq_i <| And.intro @ne_i <| And.intro @eq_s <| And.intro @ne_s <| And.intro @eq_b <| And.intro @ne_b <| And.intro @bad_f <| And.intro @bad_r <| And.intro @bad_h0 <| And.intro @bad_h1 <| And.intro @bads_f <| And.intro @bads_r <| And.intro @bads_h0 <| And.intro @bads_h1 <| And.intro @im_f <| And.intro @im_v <| And.intro @max_fk <| And.intro @max_kf <| And.intro @max_rr <| And.intro @max_rh <| And.intro @max_hr <| And.intro @max_hh <| And.intro @ne_fh <| And.intro @ne_rh <| And.intro @Bool.false_eq_true <| And.intro @decide_true <| And.intro @decide_false <| And.intro @Nat.max_self <| And.intro @Nat.zero_max <| And.intro @Nat.max_zero <| And.intro @Bool.true_and <| And.intro @Bool.and_true <| And.intro @Bool.false_and <| And.intro @Bool.and_false <| And.intro @Bool.or_true <| And.intro @Bool.true_or <| And.intro @Bool.or_false <| And.intro @Bool.false_or <| And.intro @Bool.not_true <| And.intro @Bool.not_false <| And.intro @atI_0 <| And.intro @atI_1 <| And.intro @atI_2 <| And.intro @atI_3 <| And.intro @atI_4 <| And.intro @true_and <| And.intro @and_true <| And.intro @and_self <| And.intro @or_self <| And.intro @or_false <| And.intro @false_or <| And.intro @Nat.not_lt_zero <| And.intro (@List.getElem?_cons_zero Slot) <| And.intro (@List.getElem?_cons_succ Slot) <| And.intro (@List.set_cons_zero Slot) <| And.intro (@List.set_cons_succ Slot) <| And.intro (@List.getElem?_cons_zero OT) <| And.intro (@List.getElem?_cons_succ OT) <| And.intro (@List.set_cons_zero OT) <| And.intro (@List.set_cons_succ OT) <| And.intro (@List.length_cons D) <| And.intro (@List.length_nil D) <| And.intro (@List.length_cons OT) <| And.intro (@List.length_nil OT) <| And.intro (@List.length_cons Arg) <| And.intro (@List.length_nil Arg) <| And.intro (@List.map_cons D Arg) <| And.intro (@List.map_nil D Arg) <| And.intro (@List.map_cons Arg Slot) <| And.intro (@List.map_nil Arg Slot) <| And.intro (@List.map_cons D OT) <| And.intro (@List.map_nil D OT) <| And.intro (@List.cons_append Str) <| And.intro (@List.nil_append Str) <| And.intro (@List.cons_append Nat) <| And.intro (@List.nil_append Nat) <| And.intro (@List.cons_append D) <| And.intro (@List.nil_append D) <| And.intro (@List.cons_append Slot) <| And.intro (@List.nil_append Slot) <| And.intro (@List.cons_append Arg) <| And.intro (@List.nil_append Arg) <| And.intro (@List.cons_append OT) <| And.intro (@List.nil_append OT) <| And.intro (@Option.map_some Bool V) <| And.intro (@Option.map_none Bool V) <| And.intro (@Option.map_some (Option D) V) <| And.intro (@Option.map_none (Option D) V) <| And.intro (@Option.map_some D D) <| And.intro (@Option.map_none D D) <| And.intro (@Option.bind_some (Option D) D) <| And.intro (@Option.bind_none (Option D) D) <| And.intro (@Option.bind_some Gm Gm) <| And.intro (@Option.bind_none Gm Gm) <| And.intro (@Option.bind_some (List D) D) <| And.intro (@Option.bind_none (List D) D) <| And.intro (@Option.bind_some (List D) (List Str)) <| (@Option.bind_none (List D) (List Str))
theorem XS : type_of% XS0 := XS0

end
section
open PySem L2 Evl
/-! ### machines as data -/
structure Mach where
  (n c : Nat) (tg : Nat → Nat → Nat) (fl : Nat → Nat → Bool) (st : Nat)
structure Mach.Ok (m : Mach) : Prop where
  n1 : 1 ≤ m.n
  n8 : m.n ≤ 8
  c1 : 1 ≤ m.c
  c4 : m.c ≤ 4
  tg : ∀ s k, s < m.n → k < m.c → m.tg s k < m.n
  st : m.st < m.n
def lt (j : Nat) : Str := ⟨#[97 + j]⟩
def wd (js : List Nat) : Str := ⟨(js.map (97 + ·)).toArray⟩
def alpha (c : Nat) : Str := wd (List.range c)
theorem wd_len (js : List Nat) : (wd js).length = js.length := by unfold wd; show (js.map (97 + ·)).toArray.size = _; simp
theorem wd_cps (js : List Nat) : (wd js).cps.toList = js.map (97 + ·) := by unfold wd; simp
theorem wd_app (a b : List Nat) : wd a ++ wd b = wd (a ++ b) := by
  show (⟨(wd a).cps ++ (wd b).cps⟩ : Str) = _
  unfold wd
  simp
theorem wd_one (j : Nat) : wd [j] = lt j := by unfold wd lt; simp
theorem wd_inj {a b : List Nat} (h : wd a = wd b) : a = b := by
  have e : (wd a).cps.toList = (wd b).cps.toList := by rw [h]
  rw [wd_cps, wd_cps] at e
  exact List.map_inj_right (fun x y h => by omega) |>.mp e
theorem lt_inj {a b : Nat} (h : lt a = lt b) : a = b := by
  rw [← wd_one, ← wd_one] at h
  have := wd_inj h
  simpa using this
theorem chars_wd (js : List Nat) : chars (wd js) = js.map fun j => D.s (lt j) := by
  unfold chars wd lt
  simp
theorem four {j : Nat} (h : j < 4) : j = 0 ∨ j = 1 ∨ j = 2 ∨ j = 3 := by omega
theorem four1 {c : Nat} (h1 : 1 ≤ c) (h : c ≤ 4) : c = 1 ∨ c = 2 ∨ c = 3 ∨ c = 4 := by omega
theorem occ_abcd {j : Nat} (h : j < 4) : ∃ rest, Builtin.Str.occurrences ("abcd" : Str) (lt j) 0 ("abcd" : Str).length 1 = j :: rest := by
  rcases four h with rfl | rfl | rfl | rfl <;> exact ⟨[], by decide +kernel⟩
theorem occ_alpha {c j : Nat} (hc : c ≤ 4) (h : j < c) : ∃ rest, Builtin.Str.occurrences (alpha c) (lt j) 0 (alpha c).length 1 = j :: rest := by
  have h1 : 1 ≤ c := by omega
  rcases four1 h1 hc with rfl | rfl | rfl | rfl <;> rcases four (by omega : j < 4) with rfl | rfl | rfl | rfl <;> first | omega | exact ⟨[], by decide +kernel⟩
theorem cut_abcd {c : Nat} (hc : c ≤ 4) : cutS ("abcd" : Str) none (some (c : Int)) = alpha c := by
  have : c = 0 ∨ c = 1 ∨ c = 2 ∨ c = 3 ∨ c = 4 := by omega
  rcases this with rfl | rfl | rfl | rfl | rfl <;> decide +kernel
theorem alpha_len {c : Nat} : (alpha c).length = c := by unfold alpha; rw [wd_len, List.length_range]
theorem wd_at {js : List Nat} {m j : Nat} (h : js[m]? = some j) : atI (wd js).cps.toList (m : Int) = some (97 + j) := by
  rw [wd_cps]
  refine atI_at ?_
  rw [List.getElem?_map, h]
  rfl
def tgR (m : Mach) (s : Nat) : D := .l (tab m.c fun k => .i (m.tg s k : Nat))
def flR (m : Mach) (s : Nat) : D := .l (tab m.c fun k => .b (m.fl s k))
def tgD (m : Mach) : D := .l (tab m.n (tgR m))
def flD (m : Mach) : D := .l (tab m.n (flR m))
def mD (m : Mach) : D := .l [.s (alpha m.c), tgD m, flD m, .i (m.st : Nat)]
def wD (m : Mach) : D := .ob "Wish" ["flags", "letters", "size", "start", "targets"] [flD m, .s (alpha m.c), .i (m.n : Nat), .i (m.st : Nat), tgD m]
section
variable {m : Mach} {s k : Nat}
theorem m_0 : gIx (mD m) (.v (.int 0)) = some (.v (.str (alpha m.c))) := rfl
theorem m_1 : gIx (mD m) (.v (.int 1)) = some (tgD m) := rfl
theorem m_2 : gIx (mD m) (.v (.int 2)) = some (flD m) := rfl
theorem m_3 : gIx (mD m) (.v (.int 3)) = some (.v (.int m.st)) := rfl
theorem tg_1 (h : s < m.n) : gIx (tgD m) (.v (.int (s : Nat))) = some (tgR m s) := atI_tab h
theorem tg_2 (h : k < m.c) : gIx (tgR m s) (.v (.int (k : Nat))) = some (.v (.int (m.tg s k : Nat))) := atI_tab h
theorem fl_1 (h : s < m.n) : gIx (flD m) (.v (.int (s : Nat))) = some (flR m s) := atI_tab h
theorem fl_2 (h : k < m.c) : gIx (flR m s) (.v (.int (k : Nat))) = some (.v (.bl (m.fl s k))) := atI_tab h
theorem im_tg {k : Kd} : k.im (tgD m) = k := im_l
theorem im_fl {k : Kd} : k.im (flD m) = k := im_l
theorem im_mD {k : Kd} : k.im (mD m) = k := im_l
theorem im_wD {k : Kd} : k.im (wD m) = k := im_ob
theorem im_tgR {k : Kd} : k.im (tgR m s) = k := im_l
theorem im_flR {k : Kd} : k.im (flR m s) = k := im_l
theorem w_fl : gFld "Wish" "flags" (wD m) = some (flD m) := rfl
theorem w_le : gFld "Wish" "letters" (wD m) = some (.v (.str (alpha m.c))) := rfl
theorem w_si : gFld "Wish" "size" (wD m) = some (.v (.int (m.n : Nat))) := rfl
theorem w_st : gFld "Wish" "start" (wD m) = some (.v (.int (m.st : Nat))) := rfl
theorem w_tg : gFld "Wish" "targets" (wD m) = some (tgD m) := rfl
theorem isOb_w : isOb "Wish" (wD m) = true := rfl
theorem len_tg : gLen [tgD m] = some (.int (m.n : Nat)) := by
  unfold gLen tgD
  simp [D.items, tab_len]
end
/-- ints of a range -/
theorem rgD_tab (n : Nat) : rgD 0 n = tab n fun i => .i (i : Nat) := by
  unfold rgD tab
  refine List.map_congr_left fun i _ => ?_
  rw [Int.zero_add]
theorem rg_map (n : Nat) : rgD 0 n = (List.range n).map fun i => D.i ((i : Nat) : Int) := rgD_tab n
/-- a for over a range -/
theorem forL_rg (I : Nat → Gm → Prop) {t : TgF} {b : SF} {k : Kd} {P : Out → Prop} {n : Nat} {Γ : Gm} (h0 : I 0 Γ)
    (st : ∀ i Γ, i < n → I i Γ → ∃ Γ1, t k (.i (i : Nat)) Γ = some Γ1 ∧ Go (b Γ1) fun o => ∃ Γ2, o = .nx Γ2 ∧ I (i + 1) Γ2) (q : ∀ Γ', I n Γ' → P (.nx Γ')) : Go (forL t b k (rgD 0 n) Γ) P := by
  refine forL_inv I (rgD 0 n) Γ 0 h0 (fun i d Γ hd hI => ?_) fun Γ' hI => q Γ' ?_
  · obtain ⟨h1, rfl⟩ := rgD_get hd
    simp only [Int.zero_add, Nat.zero_add] at hI ⊢
    exact st i Γ h1 hI
  · rw [rgD_len, Nat.zero_add] at hI
    exact hI
/-- a for over a table -/
theorem forL_tabI (I : Nat → Gm → Prop) {t : TgF} {b : SF} {k : Kd} {P : Out → Prop} {n : Nat} {f : Nat → D} {Γ : Gm} (h0 : I 0 Γ)
    (st : ∀ i Γ, i < n → I i Γ → ∃ Γ1, t k (f i) Γ = some Γ1 ∧ Go (b Γ1) fun o => ∃ Γ2, o = .nx Γ2 ∧ I (i + 1) Γ2) (q : ∀ Γ', I n Γ' → P (.nx Γ')) : Go (forL t b k (tab n f) Γ) P := by
  refine forL_inv I (tab n f) Γ 0 h0 (fun i d Γ hd hI => ?_) fun Γ' hI => q Γ' ?_
  · have hi : i < n := by
      have := (List.getElem?_eq_some_iff.mp hd).1
      rwa [tab_len] at this
    rw [tab_get hi] at hd
    cases hd
    simp only [Nat.zero_add] at hI ⊢
    exact st i Γ hi hI
  · rw [tab_len, Nat.zero_add] at hI
    exact hI
/-- comprehensions -/
theorem lcL_map {β : Type} {t : TgF} {tt : TF} {e : OF} {k : Kd} {Γ0 : Gm} (el : β → D) (g : β → OT) (p : β → Bool) : ∀ (xs : List β),
    (∀ x ∈ xs, ∃ Γ1 Γ2, t k (el x) Γ0 = some Γ1 ∧ tt Γ1 = .ok (p x) Γ2 0 ∧ (p x = true → ∃ Γ3, e Γ2 = .ok (g x) Γ3 0)) → lcL t tt e k Γ0 (xs.map el) = some ((xs.filter p).map g)
  | [], _ => rfl
  | x :: xs, h => by
    have ih := lcL_map el g p xs fun y hy => h y (List.mem_cons_of_mem _ hy)
    obtain ⟨Γ1, Γ2, h1, h2, h3⟩ := h x List.mem_cons_self
    rw [List.map_cons]
    unfold lcL
    rw [h1]
    dsimp only
    rw [h2]
    dsimp only
    rw [if_pos rfl]
    cases hp : p x with
    | false => rw [if_neg (by simp), ih, List.filter_cons_of_neg (by simp [hp])]
    | true =>
      obtain ⟨Γ3, h3⟩ := h3 hp
      rw [if_pos rfl, h3]
      dsimp only
      rw [if_pos rfl, ih, List.filter_cons_of_pos hp]
      rfl
theorem lc_ok {β : Type} {it : AF} {t : TgF} {tt : TF} {e : OF} {vs : List Nat} {k : Kd} {Γ Γ1 : Gm} (xs : List β) (el : β → D) (g : β → OT) (p : β → Bool) (hi : it Γ = .ok (k, xs.map el) Γ1 0) (hl : xs.length ≤ 50000)
    (h : ∀ x ∈ xs, ∃ Γ2 Γ3, t k (el x) (wipeG Γ1 vs) = some Γ2 ∧ tt Γ2 = .ok (p x) Γ3 0 ∧ (p x = true → ∃ Γ4, e Γ3 = .ok (g x) Γ4 0)) : oLc it t tt e vs Γ = .ok (.l ((xs.filter p).map g)) Γ1 0 := by
  unfold oLc
  rw [hi, bind_ok0]
  dsimp only
  rw [lcL_map el g p xs h]
  dsimp only
  rw [if_neg]
  rw [decide_eq_true_eq, List.length_map]
  have := List.length_filter_le p xs
  omega
/-- all of them -/
theorem lc_all {β : Type} {it : AF} {t : TgF} {e : OF} {vs : List Nat} {k : Kd} {Γ Γ1 : Gm} (xs : List β) (el : β → D) (g : β → OT) (hi : it Γ = .ok (k, xs.map el) Γ1 0) (hl : xs.length ≤ 50000)
    (h : ∀ x ∈ xs, ∃ Γ2 Γ4, t k (el x) (wipeG Γ1 vs) = some Γ2 ∧ e Γ2 = .ok (g x) Γ4 0) : oLc it t tYe e vs Γ = .ok (.l (xs.map g)) Γ1 0 := by
  have := lc_ok (tt := tYe) xs el g (fun _ => true) hi hl fun x hx => by
    obtain ⟨Γ2, Γ4, h1, h2⟩ := h x hx
    exact ⟨Γ2, Γ2, h1, rfl, fun _ => ⟨Γ4, h2⟩⟩
  rwa [List.filter_eq_self.mpr fun _ _ => rfl] at this
/-- a for that changes nothing -/
theorem forL_skip {t : TgF} {b : SF} {k : Kd} {Γ : Gm} : ∀ (ds : List D), (∀ d ∈ ds, ∃ Γ1, t k d Γ = some Γ1 ∧ Go (b Γ1) (· = .nx Γ)) → forL t b k ds Γ = .nx Γ
  | [], _ => rfl
  | d :: ds, h => by
    obtain ⟨Γ1, e, h2⟩ := h d List.mem_cons_self
    unfold forL
    have h2 : b Γ1 = .nx Γ := h2
    rw [e]
    dsimp only
    rw [h2]
    exact forL_skip ds fun d hd => h d (List.mem_cons_of_mem _ hd)
theorem forL_tab {t : TgF} {b : SF} {k : Kd} {Γ : Gm} {n : Nat} {f : Nat → D} (h : ∀ i, i < n → ∃ Γ1, t k (f i) Γ = some Γ1 ∧ Go (b Γ1) (· = .nx Γ)) : forL t b k (tab n f) Γ = .nx Γ := forL_skip _ fun d hd => by
  obtain ⟨i, hi, rfl⟩ := List.mem_map.mp hd
  exact h i (List.mem_range.mp hi)
def tabO (n : Nat) (f : Nat → OT) : List OT := (List.range n).map f
/-- over a range -/
theorem lc_rg {it : AF} {t : TgF} {e : OF} {vs : List Nat} {k : Kd} {Γ Γ1 : Gm} (n : Nat) (g : Nat → OT) (hi : it Γ = .ok (k, rgD 0 n) Γ1 0) (hl : n ≤ 50000)
    (h : ∀ i, i < n → ∃ Γ2 Γ4, t k (.i (i : Nat)) (wipeG Γ1 vs) = some Γ2 ∧ e Γ2 = .ok (g i) Γ4 0) : oLc it t tYe e vs Γ = .ok (.l (tabO n g)) Γ1 0 :=
  lc_all (List.range n) (fun i => D.i ((i : Nat) : Int)) g (by rw [hi, rg_map]) (by rw [List.length_range]; exact hl) fun i hi => h i (List.mem_range.mp hi)
/-- over a table -/
theorem lc_tab {it : AF} {t : TgF} {e : OF} {vs : List Nat} {k : Kd} {Γ Γ1 : Gm} (n : Nat) (el : Nat → D) (g : Nat → OT) (hi : it Γ = .ok (k, tab n el) Γ1 0) (hl : n ≤ 50000)
    (h : ∀ i, i < n → ∃ Γ2 Γ4, t k (el i) (wipeG Γ1 vs) = some Γ2 ∧ e Γ2 = .ok (g i) Γ4 0) : oLc it t tYe e vs Γ = .ok (.l (tabO n g)) Γ1 0 :=
  lc_all (List.range n) el g hi (by rw [List.length_range]; exact hl) fun i hi => h i (List.mem_range.mp hi)
theorem lfs_ints : ∀ js : List Nat, lfs (js.map fun j => D.s (lt j)) = some (js.map fun j => V.str (lt j))
  | [] => rfl
  | j :: js => by
    show (lfs (js.map fun j => D.s (lt j))).map _ = _
    rw [lfs_ints js]; rfl
/-! ### owned tables -/
theorem tabO_len {n : Nat} {f : Nat → OT} : (tabO n f).length = n := by unfold tabO; simp
theorem tabO_get {n i : Nat} {f : Nat → OT} (h : i < n) : (tabO n f)[i]? = some (f i) := by unfold tabO; simp [h]
theorem tabO_set {n i : Nat} {f : Nat → OT} {x : OT} : (tabO n f).set i x = tabO n fun j => if j = i then x else f j := by
  refine List.ext_getElem? fun j => ?_
  rw [List.getElem?_set, tabO_len]
  by_cases hj : j < n
  · rw [tabO_get hj, tabO_get hj]
    by_cases e : i = j
    · subst e; rw [if_pos rfl, if_pos hj, if_pos rfl]
    · rw [if_neg e, if_neg (Ne.symm e)]
  · have h1 : ∀ g : Nat → OT, (tabO n g)[j]? = none := fun g => List.getElem?_eq_none (by rw [tabO_len]; omega)
    rw [h1, h1]
    by_cases e : i = j
    · rw [if_pos e, if_neg (by omega)]
    · rw [if_neg e]
theorem tabO_snoc {n : Nat} {f : Nat → OT} : tabO n f ++ [f n] = tabO (n + 1) f := by unfold tabO; rw [List.range_succ, List.map_append]; rfl
theorem tabO_congr {n : Nat} {f g : Nat → OT} (h : ∀ i, i < n → f i = g i) : tabO n f = tabO n g := List.map_congr_left fun i hi => h i (List.mem_range.mp hi)
theorem tab_congr {n : Nat} {f g : Nat → D} (h : ∀ i, i < n → f i = g i) : tab n f = tab n g := List.map_congr_left fun i hi => h i (List.mem_range.mp hi)
theorem ds_map {α : Type} (f : α → OT) : ∀ xs : List α, OT.ds (xs.map f) = xs.map fun x => (f x).d
  | [] => rfl
  | x :: xs => by simp only [List.map_cons, OT.ds, ds_map f xs]
theorem tabO_ds {n : Nat} {f : Nat → OT} : OT.ds (tabO n f) = tab n fun i => (f i).d := by
  unfold tabO tab
  rw [ds_map]
theorem tabO_d {n : Nat} {f : Nat → OT} : (OT.l (tabO n f)).d = .l (tab n fun i => (f i).d) := by
  show D.l (OT.ds (tabO n f)) = _
  unfold tabO tab
  rw [ds_map]
theorem kids_l {ts : List OT} : (OT.l ts).kids = ts := rfl
theorem setK_l {ts us : List OT} : (OT.l ts).setK us = .l us := rfl
/-- x[a] = e, of a table -/
theorem set1 {Γ Γ0 : Gm} {i a n s : Nat} {G : Nat → OT} {o : OF} {u : OT} (ho : o Γ = .ok u Γ0 0) (hi : Γ0[i]? = some (.o (.l (tabO n G)))) (ha : Γ0[a]? = some (.f (.i (s : Nat)))) (hs : s < n) :
    sSetIx (pVar i) (eVar a) o Γ = .nx (Γ0.set i (.o (.l (tabO n fun j => if j = s then u else G j)))) := by
  rw [q_setIx, ho]
  simp only [NV.XS, NV.killG, NV.fzG, NV.immG, NV.immS, NV.D.tru, NV.gNeg, NV.D.items, NV.twoI, NV.OT.d, NV.OT.ds, NV.cMod, NV.cDiv, NV.cMul, NV.oneS, NV.oneV, NV.Arg.slot, Int.reducePow, Int.reduceNeg, reduceIte, Nat.reduceLT, Nat.reduceLeDiff, Int.reduceLT, Int.reduceLE, Int.reduceToNat, reduceCtorEq, Nat.reduceAdd, eq_self, hi, ha, tabO_len, ixN_lt hs, tabO_set]
/-- x[a][b] = e -/
theorem set2 {Γ Γ0 : Gm} {i a b n l s k : Nat} {G : Nat → Nat → OT} {o : OF} {u : OT} (ho : o Γ = .ok u Γ0 0) (hi : Γ0[i]? = some (.o (.l (tabO n fun s => .l (tabO l (G s)))))) (ha : Γ0[a]? = some (.f (.i (s : Nat)))) (hb : Γ0[b]? = some (.f (.i (k : Nat)))) (hs : s < n) (hk : k < l) :
    sSetIx (pIx (pVar i) (eVar a)) (eVar b) o Γ = .nx (Γ0.set i (.o (.l (tabO n fun s' => .l (tabO l fun k' => if s' = s ∧ k' = k then u else G s' k'))))) := by
  rw [q_setIx, ho]
  simp only [NV.XS, NV.killG, NV.fzG, NV.immG, NV.immS, NV.D.tru, NV.gNeg, NV.D.items, NV.twoI, NV.OT.d, NV.OT.ds, NV.cMod, NV.cDiv, NV.cMul, NV.oneS, NV.oneV, NV.Arg.slot, Int.reducePow, Int.reduceNeg, reduceIte, Nat.reduceLT, Nat.reduceLeDiff, Int.reduceLT, Int.reduceLE, Int.reduceToNat, reduceCtorEq, Nat.reduceAdd, eq_self, hi, ha, hb, tabO_len, ixN_lt hs, ixN_lt hk, kids_l, OT.seqK, setK_l, tabO_get hs, tabO_set]
  congr 4
  refine tabO_congr fun s' _ => ?_
  by_cases e : s' = s
  · subst e
    rw [if_pos rfl]
    congr 1
    refine tabO_congr fun k' _ => ?_
    by_cases e2 : k' = k
    · rw [if_pos e2, if_pos ⟨rfl, e2⟩]
    · rw [if_neg e2, if_neg fun h => e2 h.2]
  · rw [if_neg e]
    congr 1
    refine tabO_congr fun k' _ => ?_
    rw [if_neg fun h => e h.1]
/-- a row is added -/
theorem app1 {Γ : Gm} {i n : Nat} {G : Nat → OT} {o : OF} (hi : Γ[i]? = some (.o (.l (tabO n G)))) (ho : o Γ = .ok (G n) Γ 0) (hn : n < 100000) :
    sApp (pVar i) o Γ = .nx (Γ.set i (.o (.l (tabO (n + 1) G)))) := by
  rw [q_app]
  have : decide (100000 ≤ n) = false := decide_eq_false (by omega)
  simp only [NV.XS, NV.killG, NV.fzG, NV.immG, NV.immS, NV.D.tru, NV.gNeg, NV.D.items, NV.twoI, NV.OT.d, NV.OT.ds, NV.cMod, NV.cDiv, NV.cMul, NV.oneS, NV.oneV, NV.Arg.slot, Int.reducePow, Int.reduceNeg, reduceIte, Nat.reduceLT, Nat.reduceLeDiff, Int.reduceLT, Int.reduceLE, Int.reduceToNat, reduceCtorEq, Nat.reduceAdd, eq_self, hi, ho, tabO_len, this, ← tabO_snoc]
/-- sorting a column -/
theorem intsOf_tab (n : Nat) (f : Nat → Nat) : intsOf (tab n fun s => .i (f s : Nat)) = some ((List.range n).map fun s => (f s : Int)) := by
  unfold tab
  induction List.range n with
  | nil => rfl
  | cons x xs ih =>
    simp only [List.map_cons]
    unfold intsOf
    rw [ih]; rfl
theorem sort_tab {n : Nat} {f : Nat → Nat} (hf : ∀ s, s < n → f s < n) : ∃ col : Nat → Nat, (∀ s, s < n → col s < n) ∧ sortI ((List.range n).map fun s => (f s : Int)) = (List.range n).map fun s => (col s : Int) := by
  have hp := sortI_perm ((List.range n).map fun s => (f s : Int))
  have hl : (sortI ((List.range n).map fun s => (f s : Int))).length = n := by rw [hp.length_eq]; simp
  generalize sortI ((List.range n).map fun s => (f s : Int)) = L at hp hl
  have hb : ∀ s, s < n → ∃ v : Nat, v < n ∧ L.getD s 0 = v := fun s hs => by
    have hm : L.getD s 0 ∈ L := by
      rw [List.getD_eq_getElem?_getD, List.getElem?_eq_getElem (by omega)]
      exact List.getElem_mem _
    obtain ⟨j, hj, e⟩ := List.mem_map.mp (hp.mem_iff.mp hm)
    exact ⟨f j, hf j (List.mem_range.mp hj), e.symm⟩
  refine ⟨fun s => (L.getD s 0).toNat, fun s hs => ?_, ?_⟩
  · obtain ⟨v, h1, h2⟩ := hb s hs
    show (L.getD s 0).toNat < n
    rw [h2]; simpa using h1
  · refine List.ext_getElem? fun s => ?_
    by_cases hs : s < n
    · obtain ⟨v, h1, h2⟩ := hb s hs
      rw [List.getElem?_map, List.getElem?_range hs]
      rw [List.getD_eq_getElem?_getD, List.getElem?_eq_getElem (by omega)] at h2
      rw [List.getElem?_eq_getElem (by omega)]
      show some _ = some (((L.getD s 0).toNat : Nat) : Int)
      rw [List.getD_eq_getElem?_getD, List.getElem?_eq_getElem (by omega)]
      simp only [Option.getD_some] at h2 ⊢
      rw [h2]; simp
    · rw [List.getElem?_eq_none (by omega), List.getElem?_eq_none (by simp; omega)]
theorem rgO {n : Nat} : (rgD 0 n).map OT.fz = tabO n fun i => .fz (.i (i : Nat)) := by rw [rg_map, List.map_map]; rfl
theorem tab_fz {n : Nat} {f : Nat → D} : (tab n f).map OT.fz = tabO n fun i => .fz (f i) := by unfold tab tabO; rw [List.map_map]; rfl
theorem imms_of : ∀ {ds : List D}, (∀ d ∈ ds, d.imm = true) → imms ds = true
  | [], _ => rfl
  | d :: ds, h => by
    unfold imms
    rw [h d List.mem_cons_self, imms_of fun e he => h e (List.mem_cons_of_mem _ he)]
    rfl
theorem imms_tab {n : Nat} {f : Nat → D} (h : ∀ i, i < n → (f i).imm = true) : imms (tab n f) = true := imms_of fun d hd => by
  obtain ⟨i, hi, rfl⟩ := List.mem_map.mp hd
  exact h i (List.mem_range.mp hi)
theorem fresh_b {k : Kd} {n : Nat} {f : Nat → Bool} {Γ : Gm} : freshR k (tab n fun i => .b (f i)) Γ = .ok (.l (tabO n fun i => .fz (.b (f i)))) Γ 0 := by rw [fresh_i (imms_tab fun _ _ => rfl), tab_fz]
theorem fresh_n {k : Kd} {n : Nat} {f : Nat → Int} {Γ : Gm} : freshR k (tab n fun i => .i (f i)) Γ = .ok (.l (tabO n fun i => .fz (.i (f i)))) Γ 0 := by rw [fresh_i (imms_tab fun _ _ => rfl), tab_fz]
/-- names.index(s) -/
theorem lfs_tab (n : Nat) (p : Nat → Nat) : lfs (tab n fun i => .i (p i : Nat)) = some ((List.range n).map fun i => V.int (p i : Nat)) := by
  unfold tab
  induction List.range n with
  | nil => rfl
  | cons x xs ih =>
    simp only [List.map_cons]
    unfold lfs
    rw [ih]; rfl
theorem ixV_ex {s : Nat} {p : Nat → Nat} : ∀ (l : List Nat), (∃ j ∈ l, p j = s) → ∃ j, j < l.length ∧ ixV (.int (s : Nat)) (l.map fun i => V.int (p i : Nat)) = some j
  | [], h => by obtain ⟨j, h, _⟩ := h; cases h
  | x :: l, h => by
    by_cases e : p x = s
    · refine ⟨0, by simp, ?_⟩
      rw [List.map_cons]
      unfold ixV
      rw [e, if_pos (by simp [eqV])]
    · obtain ⟨j, hj, ej⟩ := h
      have hjl : j ∈ l := by
        cases hj with
        | head => exact absurd ej e
        | tail _ h => exact h
      obtain ⟨i, h1, h2⟩ := ixV_ex l ⟨j, hjl, ej⟩
      refine ⟨i + 1, by simpa using h1, ?_⟩
      rw [List.map_cons]
      unfold ixV
      rw [if_neg, h2]
      · rfl
      · simp [eqV]; omega
theorem index_tab {n : Nat} {p : Nat → Nat} (h : ∀ s, s < n → ∃ j, j < n ∧ p j = s) : ∃ pl : Nat → Nat, ∀ s, s < n → pl s < n ∧ ∀ (Γ : Gm) (i a : Nat), Γ[i]? = some (.o (.l (tabO n fun i => .fz (.i (p i : Nat))))) → Γ[a]? = some (.f (.i (s : Nat))) → eIndexL (eVar i) (aCons (eVar a) aNil) Γ = .ok (.f, .i (pl s : Nat)) Γ 0 := by
  have ex : ∀ s, s < n → ∃ j, j < n ∧ ixV (.int (s : Nat)) ((List.range n).map fun i => V.int (p i : Nat)) = some j := fun s hs => by
    obtain ⟨j, h1, h2⟩ := h s hs
    obtain ⟨i, h3, h4⟩ := ixV_ex (s := s) (p := p) (List.range n) ⟨j, List.mem_range.mpr h1, h2⟩
    exact ⟨i, by simpa using h3, h4⟩
  refine ⟨fun s => if hs : s < n then (ex s hs).choose else 0, fun s hs => ?_⟩
  dsimp only
  rw [dif_pos hs]
  have hc := (ex s hs).choose_spec
  generalize (ex s hs).choose = q at hc ⊢
  refine ⟨hc.1, fun Γ i a hi ha => ?_⟩
  have fl : (flatV (.int (s : Nat)) && (((List.range n).map fun i => V.int (p i : Nat)).all flatV)) = true := by
    rw [Bool.and_eq_true]
    refine ⟨rfl, List.all_eq_true.mpr fun x hx => ?_⟩
    obtain ⟨i, _, rfl⟩ := List.mem_map.mp hx
    rfl
  unfold eIndexL
  simp only [NV.XS, NV.killG, NV.fzG, NV.immG, NV.immS, NV.D.tru, NV.gNeg, NV.D.items, NV.twoI, NV.OT.d, NV.OT.ds, NV.cMod, NV.cDiv, NV.cMul, NV.oneS, NV.oneV, NV.Arg.slot, Int.reducePow, Int.reduceNeg, reduceIte, Nat.reduceLT, Nat.reduceLeDiff, Int.reduceLT, Int.reduceLE, Int.reduceToNat, reduceCtorEq, Nat.reduceAdd, eq_self, hi, ha, tabO_ds, lfs_tab n p, oneV, fl, hc.2, Nat.not_lt_zero]
theorem zip_tab {n : Nat} {f g : Nat → D} : zipD (tab n f) (tab n g) = tab n fun k => .t [f k, g k] := by
  unfold tab
  induction List.range n with
  | nil => rfl
  | cons x xs ih => simp only [List.map_cons, zipD, ih]
/-! ### texts -/
theorem slen (a b : Str) : (a ++ b).length = a.length + b.length := by
  show (a.cps ++ b.cps).size = a.cps.size + b.cps.size
  exact Array.size_append
theorem sassoc (a b c : Str) : a ++ b ++ c = a ++ (b ++ c) := by
  show (⟨a.cps ++ b.cps ++ c.cps⟩ : Str) = ⟨a.cps ++ (b.cps ++ c.cps)⟩
  rw [Array.append_assoc]
theorem gAddS_s {a b : Str} (h : a.length + b.length ≤ 1000000) : gAddS (.v (.str a)) (.v (.str b)) = some (.str (a ++ b)) := by
  unfold gAddS; dsimp only; rw [if_pos h]
def dg (n : Nat) : Str := toString (n : Int)
theorem gStr_n {n : Nat} (h : n ≤ 1000000) : gStr [.v (.int (n : Nat))] = some (.str (dg n)) := by
  unfold gStr; dsimp only; rw [if_pos (by omega)]; rfl
theorem dg_len {n : Nat} (h : n < 10) : (dg n).length = 1 := by
  have : n = 0 ∨ n = 1 ∨ n = 2 ∨ n = 3 ∨ n = 4 ∨ n = 5 ∨ n = 6 ∨ n = 7 ∨ n = 8 ∨ n = 9 := by omega
  rcases this with rfl | rfl | rfl | rfl | rfl | rfl | rfl | rfl | rfl | rfl <;> decide +kernel
def star (b : Bool) : Str := if b = true then "*" else ""
theorem gMulS_b {b : Bool} : gMulS (.v (.str "*")) (.v (.int (if b = true then 1 else 0))) = some (.str (star b)) := by cases b <;> decide +kernel
theorem star_len {b : Bool} : (star b).length ≤ 1 := by cases b <;> decide +kernel
theorem sum_ones : ∀ n : Nat, (List.replicate n 1).sum = n
  | 0 => rfl
  | n + 1 => by rw [List.replicate_succ, List.sum_cons, sum_ones n]; omega
theorem join_lts : ∀ js : List Nat, Txt.join "" (js.map lt) = wd js := by
  intro js
  rw [TL.join_eq]
  have key : ∀ js : List Nat, (Str.join "" (js.map lt)).cps.toList = (wd js).cps.toList := by
    intro js
    induction js with
    | nil => rfl
    | cons a js ih =>
      cases js with
      | nil => rw [wd_cps]; rfl
      | cons b js =>
        show ((lt a ++ "" ++ Str.join "" ((b :: js).map lt) : Str)).cps.toList = _
        have e : ∀ x y : Str, (x ++ y).cps.toList = x.cps.toList ++ y.cps.toList := fun x y => by
          show (x.cps ++ y.cps).toList = _
          simp
        rw [e, e, ih, wd_cps, wd_cps, show ("" : Str).cps.toList = [] by decide +kernel]
        rfl
  have h := key js
  have : (Str.join "" (js.map lt)).cps = (wd js).cps := Array.toList_inj.mp h
  cases hs : Str.join "" (js.map lt) with
  | mk x => rw [hs] at this; cases hw : wd js with
    | mk y => rw [hw] at this; simp only at this; rw [this]
theorem strsOf_map : ∀ ys : List Str, strsOf (ys.map D.s) = some ys
  | [] => rfl
  | y :: ys => by
    rw [List.map_cons]
    unfold strsOf
    rw [strsOf_map ys]; rfl
theorem gJoin_l {a : Str} {ys : List Str} (h : (ys.map (·.length)).sum + ys.length * a.length ≤ 1000000) : gJoin (.v (.str a)) (.l (ys.map D.s)) = some (.str (Txt.join a ys)) := by
  unfold gJoin
  simp only [D.items, Option.bind, strsOf_map]
  rw [if_pos h]
theorem lt_len (j : Nat) : (lt j).length = 1 := rfl
theorem gJoin_lts {js : List Nat} (h : js.length ≤ 1000000) : gJoin (.v (.str "")) (.l ((js.map lt).map D.s)) = some (.str (wd js)) := by
  rw [gJoin_l, join_lts]
  have e : ((js.map lt).map (·.length)) = List.replicate js.length 1 := by
    rw [List.map_map]
    show js.map (fun j => (lt j).length) = _
    rw [show (fun j => (lt j).length) = fun _ => 1 from funext lt_len, List.map_const']
  rw [e, sum_ones]
  have e0 : ("" : Str).length = 0 := by decide +kernel
  rw [e0]
  omega
/-- the lap of a word -/
def lapM (m : Mach) (s : Nat) (w : List Nat) : Nat × Bool := w.foldl (fun a k => (m.tg a.1 k, a.2 || m.fl a.1 k)) (s, false)
theorem lap_in {m : Mach} (h : m.Ok) : ∀ (w : List Nat) (a : Nat × Bool), a.1 < m.n → (∀ j ∈ w, j < m.c) → (w.foldl (fun a k => (m.tg a.1 k, a.2 || m.fl a.1 k)) a).1 < m.n
  | [], a, ha, _ => ha
  | k :: w, a, ha, hw => lap_in h w _ (h.tg _ _ ha (hw k List.mem_cons_self)) fun j hj => hw j (List.mem_cons_of_mem _ hj)

end
section
open PySem L2 Evl
def its (m : Mach) (v : List Nat) : Nat → Nat → Nat
  | 0, s => s
  | k + 1, s => (lapM m (its m v k s) v).1
theorem lapM_st {m : Mach} (h : m.Ok) {js : List Nat} {s : Nat} (hj : ∀ j ∈ js, j < m.c) (hs : s < m.n) : (lapM m s js).1 < m.n := lap_in h js (s, false) hs hj
theorem its_in {m : Mach} (h : m.Ok) {v : List Nat} (hv : ∀ j ∈ v, j < m.c) {s : Nat} (hs : s < m.n) : ∀ k, its m v k s < m.n
  | 0 => hs
  | k + 1 => lapM_st h hv (its_in h hv hs k)
/-- the loop is good from s -/
def goodM (m : Mach) (v : List Nat) (s : Nat) : Bool := (List.range m.n).any fun i => (lapM m (its m v (m.n + i) s) v).2
theorem any_range_succ (f : Nat → Bool) (k : Nat) : (List.range (k + 1)).any f = ((List.range k).any f || f k) := by
  rw [List.range_succ, List.any_append]
  simp
theorem contains_any {f : Nat → Bool} {n : Nat} : ∀ k, (List.range k).any (fun i => f i && decide (n ≤ i)) = (List.range (k - n)).any fun i => f (n + i)
  | 0 => by rw [Nat.zero_sub]; rfl
  | k + 1 => by
    rw [any_range_succ, contains_any k]
    by_cases h : n ≤ k
    · rw [decide_eq_true h, Nat.succ_sub h, any_range_succ, show n + (k - n) = k by omega, Bool.and_true]
    · rw [decide_eq_false h, Nat.sub_eq_zero_of_le (by omega), Nat.sub_eq_zero_of_le (by omega)]
      simp
/-! ### the plain law: marks infinitely often -/
theorem php : ∀ (n : Nat) (f : Nat → Nat), (∀ i, i ≤ n → f i < n) → ∃ a b, a < b ∧ b ≤ n ∧ f a = f b
  | 0, f, h => absurd (h 0 (Nat.le_refl _)) (Nat.not_lt_zero _)
  | n + 1, f, h => by
    by_cases hx : ∃ i, i ≤ n ∧ f i = f (n + 1)
    · obtain ⟨i, h1, h2⟩ := hx
      exact ⟨i, n + 1, by omega, Nat.le_refl _, h2⟩
    · have hne : ∀ i, i ≤ n → f i ≠ f (n + 1) := fun i hi e => hx ⟨i, hi, e⟩
      obtain ⟨a, b, h1, h2, h3⟩ := php n (fun i => if f i = n then f (n + 1) else f i) (fun i hi => by
        have := h i (by omega)
        have := h (n + 1) (Nat.le_refl _)
        have := hne i hi
        show (if f i = n then f (n + 1) else f i) < n
        split <;> omega)
      have ha := hne a (by omega)
      have hb := hne b (by omega)
      refine ⟨a, b, h1, by omega, ?_⟩
      split at h3 <;> split at h3 <;> omega
theorem its_add {m : Mach} {v : List Nat} {s : Nat} (a : Nat) : ∀ b, its m v (a + b) s = its m v b (its m v a s)
  | 0 => rfl
  | b + 1 => by
    show (lapM m (its m v (a + b) s) v).1 = (lapM m (its m v b (its m v a s)) v).1
    rw [its_add a b]
/-- the word's marks, turn by turn -/
def mk (m : Mach) (v : List Nat) (s : Nat) (i : Nat) : Bool := (lapM m (its m v i s) v).2
def Inf (f : Nat → Bool) : Prop := ∀ N, ∃ i, N ≤ i ∧ f i = true
theorem good_iff {m : Mach} (h : m.Ok) {v : List Nat} (hv : ∀ j ∈ v, j < m.c) {s : Nat} (hs : s < m.n) : goodM m v s = true ↔ Inf (mk m v s) := by
  have hin := its_in h hv hs
  obtain ⟨a, b, hab, hbn, he⟩ := php m.n (fun i => its m v i s) (fun i _ => hin i)
  have he2 : its m v a s = its m v b s := he
  have per : ∀ k, a ≤ k → its m v (k + (b - a)) s = its m v k s := fun k hk => by
    obtain ⟨d, rfl⟩ : ∃ d, k = a + d := ⟨k - a, by omega⟩
    rw [show a + d + (b - a) = b + d by omega, its_add b d, its_add a d, he2]
  have per2 : ∀ t k, a ≤ k → its m v (k + t * (b - a)) s = its m v k s := by
    intro t
    induction t with
    | zero => intro k _; rw [Nat.zero_mul]; rfl
    | succ t ih =>
      intro k hk
      rw [Nat.succ_mul, ← Nat.add_assoc, per _ (by omega), ih k hk]
  unfold goodM
  rw [List.any_eq_true]
  constructor
  · rintro ⟨i, _, hi⟩ N
    refine ⟨m.n + i + N * (b - a), ?_, ?_⟩
    · have : N * 1 ≤ N * (b - a) := Nat.mul_le_mul_left _ (by omega)
      omega
    · unfold mk
      rw [per2 N (m.n + i) (by omega)]
      exact hi
  · intro hI
    obtain ⟨i, hi, hm⟩ := hI m.n
    -- i = k + t * (b - a), n ≤ k < n + (b - a)
    have hp : 0 < b - a := by omega
    refine ⟨(i - m.n) % (b - a), List.mem_range.mpr (Nat.lt_of_lt_of_le (Nat.mod_lt _ hp) (by omega)), ?_⟩
    have e : i = m.n + (i - m.n) % (b - a) + (i - m.n) / (b - a) * (b - a) := by
      have := Nat.mod_add_div (i - m.n) (b - a)
      rw [Nat.mul_comm (b - a)] at this
      omega
    unfold mk at hm
    rw [e, per2 _ _ (by omega)] at hm
    exact hm
theorem bool_iff {a b : Bool} (h : a = true ↔ b = true) : a = b := by
  cases a <;> cases b <;> simp_all
def stepM (m : Mach) (a : Nat × Bool) (k : Nat) : Nat × Bool := (m.tg a.1 k, a.2 || m.fl a.1 k)
theorem foldl_step_or {m : Mach} : ∀ (js : List Nat) (s : Nat) (b : Bool), js.foldl (stepM m) (s, b) = ((js.foldl (stepM m) (s, false)).1, b || (js.foldl (stepM m) (s, false)).2)
  | [], s, b => by simp
  | j :: js, s, b => by
    show js.foldl (stepM m) (m.tg s j, b || m.fl s j) = ((js.foldl (stepM m) (m.tg s j, false || m.fl s j)).1, b || (js.foldl (stepM m) (m.tg s j, false || m.fl s j)).2)
    rw [foldl_step_or js _ (b || _), foldl_step_or js _ (false || _)]
    simp [Bool.or_assoc]
theorem lapM_app {m : Mach} {s : Nat} {a b : List Nat} : lapM m s (a ++ b) = ((lapM m (lapM m s a).1 b).1, (lapM m s a).2 || (lapM m (lapM m s a).1 b).2) := by
  show List.foldl (stepM m) (s, false) (a ++ b) = ((List.foldl (stepM m) ((List.foldl (stepM m) (s, false) a).1, false) b).1, (List.foldl (stepM m) (s, false) a).2 || (List.foldl (stepM m) ((List.foldl (stepM m) (s, false) a).1, false) b).2)
  rw [List.foldl_append]
  generalize hq : a.foldl (stepM m) (s, false) = q
  obtain ⟨q1, q2⟩ := q
  exact foldl_step_or b q1 q2
theorem inf_shift {f g : Nat → Bool} (k : Nat) (h : ∀ i, g i = f (i + k)) : Inf f ↔ Inf g := by
  constructor
  · intro hf N
    obtain ⟨i, hi, e⟩ := hf (N + k)
    exact ⟨i - k, by omega, by rw [h, show i - k + k = i by omega]; exact e⟩
  · intro hg N
    obtain ⟨i, hi, e⟩ := hg N
    exact ⟨i + k, by omega, by rw [← h]; exact e⟩
theorem inf_or {f g : Nat → Bool} : Inf (fun i => f i || g i) ↔ Inf f ∨ Inf g := by
  constructor
  · intro h
    by_cases hf : Inf f
    · exact .inl hf
    · refine .inr fun N => ?_
      have hf' : ∃ M, ∀ i, M ≤ i → f i = false := Classical.byContradiction fun hc => hf fun M => Classical.byContradiction fun hd => hc ⟨M, fun i hi => by
        cases e : f i with
        | false => rfl
        | true => exact absurd ⟨i, hi, e⟩ hd⟩
      obtain ⟨M, hM⟩ := hf'
      obtain ⟨i, hi, e⟩ := h (max M N)
      have h1 := hM i (by omega)
      refine ⟨i, by omega, ?_⟩
      simp only [h1, Bool.false_or] at e
      exact e
  · rintro (h | h) N
    · obtain ⟨i, hi, e⟩ := h N
      exact ⟨i, hi, by show (f i || g i) = true; rw [e]; rfl⟩
    · obtain ⟨i, hi, e⟩ := h N
      exact ⟨i, hi, by show (f i || g i) = true; rw [e]; simp⟩
/-- one turn more ahead -/
theorem good_turn {m : Mach} (h : m.Ok) {v : List Nat} (hv : ∀ j ∈ v, j < m.c) {s : Nat} (hs : s < m.n) : goodM m v (lapM m s v).1 = goodM m v s := by
  refine bool_iff ((good_iff h hv (lapM_st h hv hs)).trans (Iff.trans ?_ (good_iff h hv hs).symm))
  refine (inf_shift 1 fun i => ?_).symm
  unfold mk
  rw [Nat.add_comm i 1, its_add 1 i]
  rfl
/-- the word twice -/
theorem good_twice {m : Mach} (h : m.Ok) {v : List Nat} (hv : ∀ j ∈ v, j < m.c) {s : Nat} (hs : s < m.n) : goodM m (v ++ v) s = goodM m v s := by
  have hvv : ∀ j ∈ v ++ v, j < m.c := fun j hj => (List.mem_append.mp hj).elim (hv j) (hv j)
  refine bool_iff ((good_iff h hvv hs).trans (Iff.trans ?_ (good_iff h hv hs).symm))
  have e : ∀ i, its m (v ++ v) i s = its m v (2 * i) s := by
    intro i
    induction i with
    | zero => rfl
    | succ i ih =>
      show (lapM m (its m (v ++ v) i s) (v ++ v)).1 = _
      rw [ih, lapM_app]
      rfl
  have em : ∀ i, mk m (v ++ v) s i = (mk m v s (2 * i) || mk m v s (2 * i + 1)) := fun i => by
    unfold mk
    rw [e, lapM_app]
    rfl
  constructor
  · intro hi N
    obtain ⟨i, h1, h2⟩ := hi N
    rw [em, Bool.or_eq_true] at h2
    rcases h2 with h2 | h2
    · exact ⟨_, by omega, h2⟩
    · exact ⟨_, by omega, h2⟩
  · intro hi N
    obtain ⟨i, h1, h2⟩ := hi (2 * N)
    refine ⟨i / 2, by omega, ?_⟩
    rw [em, Bool.or_eq_true]
    by_cases p : i % 2 = 0
    · exact .inl (by rw [show 2 * (i / 2) = i by omega]; exact h2)
    · exact .inr (by rw [show 2 * (i / 2) + 1 = i by omega]; exact h2)
/-- the word turned -/
theorem good_rot {m : Mach} (h : m.Ok) {a : Nat} {w : List Nat} (hv : ∀ j ∈ a :: w, j < m.c) {s : Nat} (hs : s < m.n) : goodM m (w ++ [a]) (lapM m s [a]).1 = goodM m (a :: w) s := by
  have ha : ∀ j ∈ [a], j < m.c := fun j hj => hv j (by rw [List.mem_singleton.mp hj]; exact List.mem_cons_self)
  have hw : ∀ j ∈ w ++ [a], j < m.c := fun j hj => (List.mem_append.mp hj).elim (fun z => hv j (List.mem_cons_of_mem _ z)) (ha j)
  refine bool_iff ((good_iff h hw (lapM_st h ha hs)).trans (Iff.trans ?_ (good_iff h hv hs).symm))
  have ev : (a :: w) = [a] ++ w := rfl
  have e : ∀ i, its m (w ++ [a]) i (lapM m s [a]).1 = (lapM m (its m (a :: w) i s) [a]).1 := by
    intro i
    induction i with
    | zero => rfl
    | succ i ih =>
      show (lapM m (its m (w ++ [a]) i (lapM m s [a]).1) (w ++ [a])).1 = (lapM m (lapM m (its m (a :: w) i s) (a :: w)).1 [a]).1
      rw [ih, lapM_app, ev, lapM_app]
  have e1 : ∀ i, mk m (a :: w) s i = ((lapM m (its m (a :: w) i s) [a]).2 || (lapM m (lapM m (its m (a :: w) i s) [a]).1 w).2) := fun i => by
    show (lapM m (its m (a :: w) i s) ([a] ++ w)).2 = _
    rw [lapM_app]
  have e2 : ∀ i, mk m (w ++ [a]) (lapM m s [a]).1 i = ((lapM m (lapM m (its m (a :: w) i s) [a]).1 w).2 || (lapM m (its m (a :: w) (i + 1) s) [a]).2) := fun i => by
    show (lapM m (its m (w ++ [a]) i (lapM m s [a]).1) (w ++ [a])).2 = _
    rw [e, lapM_app]
    show _ = ((lapM m (lapM m (its m (a :: w) i s) [a]).1 w).2 || (lapM m (lapM m (its m (a :: w) i s) ([a] ++ w)).1 [a]).2)
    rw [lapM_app (a := [a]) (b := w)]
  rw [show mk m (a :: w) s = _ from funext e1, show mk m (w ++ [a]) (lapM m s [a]).1 = _ from funext e2, inf_or, inf_or]
  have sh : Inf (fun i => (lapM m (its m (a :: w) i s) [a]).2) ↔ Inf (fun i => (lapM m (its m (a :: w) (i + 1) s) [a]).2) := inf_shift 1 fun i => rfl
  rw [sh]
  exact Or.comm
theorem wd_tail (v : List Nat) (h : v ≠ []) : cutS (wd v) (some 1) none = wd v.tail := by
  cases v with
  | nil => exact absurd rfl h
  | cons a v =>
    unfold cutS
    rw [wd_len, HT.sIx_none, show HT.sIx (a :: v).length 0 (some 1) = 1 from (HT.sIx_nat _ _ 1).trans (by simp), wd_cps]
    show (⟨_⟩ : Str) = ⟨_⟩
    congr 1
    congr 1
    simp only [List.map_cons, List.drop_succ_cons, List.drop_zero, List.tail_cons]
    exact List.take_of_length_le (by simp)
theorem wd_take (v : List Nat) (k : Nat) : cutS (wd v) none (some (k : Int)) = wd (v.take k) := by
  unfold cutS
  rw [wd_len, HT.sIx_none, HT.sIx_nat, wd_cps]
  show (⟨_⟩ : Str) = ⟨_⟩
  congr 1
  congr 1
  rw [List.drop_zero, Nat.sub_zero, List.map_take]
  by_cases h : k ≤ v.length
  · rw [Nat.min_eq_left h]
  · rw [Nat.min_eq_right (by omega), List.take_of_length_le (by simp), List.take_of_length_le (by simp; omega)]
theorem wd_mul (v : List Nat) (k : Nat) (hk : 2 ≤ k) (hv : v ≠ []) : Txt.mul (wd v) (k : Int) = wd (List.replicate k v).flatten := by
  unfold Txt.mul
  rw [if_neg (by omega), if_neg]
  · rw [Int.toNat_natCast]
    have key : ∀ (k : Nat) (acc : Array Nat), (List.replicate k (wd v).cps).foldl (· ++ ·) acc = acc ++ (wd (List.replicate k v).flatten).cps := by
      intro k
      induction k with
      | zero => intro acc; rw [show (List.replicate 0 (wd v).cps) = [] from rfl]; unfold wd; simp
      | succ k ih =>
        intro acc
        rw [List.replicate_succ, List.foldl_cons, ih, List.replicate_succ, List.flatten_cons, Array.append_assoc]
        congr 1
        unfold wd
        simp
    rw [key k #[]]
    unfold wd
    simp
  · rw [wd_len, Bool.or_eq_true]
    rintro (h | h)
    · have := beq_iff_eq.mp h; omega
    · have := beq_iff_eq.mp h
      exact hv (List.length_eq_zero_iff.mp this)
theorem wd_c0 {v : List Nat} {m : Nat} (h : m < v.length) : (⟨#[97 + v.getD m 0]⟩ : Str) = wd [v.getD m 0] := by rw [wd_one]; rfl
theorem mem_rep {w : List Nat} {n c : Nat} (h : ∀ j ∈ w, j < c) : ∀ j ∈ (List.replicate n w).flatten, j < c := fun j hj => by
  obtain ⟨l, h1, h2⟩ := List.mem_flatten.mp hj
  rw [List.eq_of_mem_replicate h1] at h2
  exact h j h2
theorem gMulS_w {v : List Nat} (hl : v.length ≤ 50000) (hv : v ≠ []) : gMulS (.v (.str (wd v))) (.v (.int 300)) = some (.str (wd (List.replicate 300 v).flatten)) := by
  unfold gMulS
  dsimp only
  rw [if_pos ⟨by rw [wd_len]; exact hl, by omega, by omega⟩, show ((300 : Int)) = ((300 : Nat) : Int) from rfl, wd_mul v 300 (by omega) hv]
theorem cut_w {v : List Nat} : cutS (wd v) none (some 300) = wd (v.take 300) := by
  rw [show ((300 : Int)) = ((300 : Nat) : Int) from rfl, wd_take]
/-- the wish behind -/
def Mach.at (m : Mach) (s : Nat) : Mach := { m with st := s }
def Mach.mark (m : Mach) (ps : List (Nat × Nat)) : Mach := { m with fl := fun s k => decide ((s, k) ∈ ps) }
def Mach.setT (m : Mach) (s k v : Nat) : Mach := { m with tg := fun s' k' => if s' = s ∧ k' = k then v else m.tg s' k' }
theorem Mach.Ok.at {m : Mach} (h : m.Ok) {s : Nat} (hs : s < m.n) : (m.at s).Ok := ⟨h.n1, h.n8, h.c1, h.c4, h.tg, hs⟩
theorem Mach.Ok.mark {m : Mach} (h : m.Ok) (ps : List (Nat × Nat)) : (m.mark ps).Ok := ⟨h.n1, h.n8, h.c1, h.c4, h.tg, h.st⟩
theorem Mach.Ok.setT {m : Mach} (h : m.Ok) {s k v : Nat} (hv : v < m.n) : (m.setT s k v).Ok := ⟨h.n1, h.n8, h.c1, h.c4, fun s' k' h1 h2 => by
  show (if _ then v else m.tg s' k') < m.n
  split
  · exact hv
  · exact h.tg s' k' h1 h2, h.st⟩
theorem wd_nil : wd [] = "" := by decide +kernel
theorem lt_a : ("a" : Str) = lt 0 := by decide +kernel
def methK (C m : Str) (d : D) (r : Er OT) : Er OT := match d with
  | .ob C' ns _ => if C' = C ∧ fldIx m ns = none then r else .no
  | _ => .no
theorem q_methK {C m : Str} {X : FM} {f : EF} {a : AF} {Γ : Gm} : oMeth C m X f a Γ = (f Γ).bind fun y Γ1 _ => methK C m y.2 ((a Γ1).bind fun z Γ2 k => if bad y.1 y.2 k = true then .no else (X ((y.2 :: z.2).map .d)).res Γ2) := by
  rfl
theorem methK_w {mn : Str} {m : Mach} {r : Er OT} (h : fldIx mn ["flags", "letters", "size", "start", "targets"] = none) : methK "Wish" mn (wD m) r = r := if_pos ⟨rfl, h⟩

end
def kALPHABETS : List D := [.s ("a" : Str), .s ("ab" : Str), .s ("abc" : Str), .s ("abcd" : Str)]
/-- what the text tells of classes and constants -/
structure Kc (c : Ct) : Prop where
  cl_Wish : Cls c.K (c.cn "Wish")
  n_Wish_flags : NoAttr c.K (c.cn "Wish") "flags"
  n_Wish_letters : NoAttr c.K (c.cn "Wish") "letters"
  n_Wish_size : NoAttr c.K (c.cn "Wish") "size"
  n_Wish_start : NoAttr c.K (c.cn "Wish") "start"
  n_Wish_targets : NoAttr c.K (c.cn "Wish") "targets"
  k_ALPHABETS : ∀ T M, Is c T M (.ref (c.cn "ALPHABETS")) (.tk kALPHABETS)
-- law_draws: 0:_law_script, 1:_law_k, 2:_law_many, 3:_law_cell, 4:_law_left, 5:_law_row, 6:_law_i, 7:_law_x; changed ['_law_row']
def x_law_draws_b : SF := sImm [1, 2] (sSeq (sIf (tTe (eOp (gEqD false) (eVar 0) (eLst (aNil)))) (sRet (oLc (iR1 (aCons (eVar 2) (aNil))) (tgName 6) (tYe) (oFz (eC (.int 0))) [6])) (sNext)) (
    sSeq (sAsg (eCB gInt (aCons (eIx (eVar 0) (eOp (gIc cMod fun i j => .int (i % j)) (eCB gInt (aCons (eVar 1) (aNil))) (eCB gLen (aCons (eVar 0) (aNil))))) (aNil))) (tgName 3)) (
    sSeq (sIf (tTe (eOp (gI fun i j => .bl (decide (j ≤ i))) (eVar 1) (eCB gLen (aCons (eVar 0) (aNil))))) (sAsg (eOp (gI fun i j => .int (i + j)) (eOp (gIc cMod fun i j => .int (i % j)) (eVar 3) (eC (.int 9973))) (eOp (gIc cMul fun i j => .int (i * j)) (eC (.int 7)) (eVar 1))) (tgName 3)) (sNext)) (
    sSeq (sAsg (eCB gAbs (aCons (eVar 3) (aNil))) (tgName 4)) (
    sSeq (sAsgO (oLst (aNil)) 5) (
    sSeq (sKB [6, 7] (sFor (iR1 (aCons (eVar 2) (aNil))) (tgName 6) (sKill [6, 7] (sKill [7] (sIf (tTe (eOp (gI fun i j => .bl (decide (j ≤ i))) (eCB gAbs (aCons (eVar 3) (aNil))) (eOp (gIc cPow fun i j => .int (i ^ j.toNat)) (eC (.int 10)) (eC (.int 18))))) (sSeq (sApp (pVar 5) (oFz (eOp (gIc cMod fun i j => .int (i % j)) (eVar 4) (eC (.int 5040))))) (
    sAsg (eOp (gIc cDiv fun i j => .int (i / j)) (eVar 4) (eC (.int 5040))) (tgName 4))) (sSeq (sAsg (eOp (gIc cMod fun i j => .int (i % j)) (eOp (gI fun i j => .int (i + j)) (eOp (gI fun i j => .int (i + j)) (eOp (gIc cMul fun i j => .int (i * j)) (eOp (gIc cMod fun i j => .int (i % j)) (eVar 3) (eC (.int 9973))) (eC (.int 37))) (eOp (gIc cMul fun i j => .int (i * j)) (eVar 6) (eC (.int 101)))) (eC (.int 11))) (eC (.int 997))) (tgName 7)) (
    sApp (pVar 5) (oFz (eOp (gIc cMod fun i j => .int (i % j)) (eOp (gIc cMod fun i j => .int (i % j)) (eOp (gI fun i j => .int (i + j)) (eOp (gI fun i j => .int (i + j)) (eOp (gIc cMul fun i j => .int (i * j)) (eOp (gIc cMul fun i j => .int (i * j)) (eC (.int 3)) (eVar 7)) (eVar 7)) (eVar 7)) (eC (.int 577))) (eC (.int 7919))) (eC (.int 5040))))))))))) (
    sRet (oVar 5))))))))
def x_law_draws : FM := xRun 3 5 x_law_draws_b
-- law_machine: 0:_law_row, 1:_law_top, 2:_law_size, 3:_law_many, 4:_law_mode, 5:_law_share, 6:_law_targets, 7:_law_marks, 8:_law_s, 9:_law_c, 10:_law_names, 11:_law_places, 12:_law_moved, 13:_law_flags, 14:_law_cells, 15:_law_column, 16:_law_bar, 17:_law_t, 18:_law_kept, 19:_law_cell; changed ['_law_marks', '_law_names', '_law_targets']
def x_law_machine_b : SF := sImm [1] (sSeq (sAsg (eOp (gI fun i j => .int (i + j)) (eC (.int 1)) (eOp (gIc cMod fun i j => .int (i % j)) (eCB gInt (aCons (eIx (eVar 0) (eC (.int 0))) (aNil))) (eCB gMin (aCons (eCB gInt (aCons (eVar 1) (aNil))) (aCons (eIx (eLst (aCons (eC (.int 4)) (aCons (eC (.int 5)) (aCons (eC (.int 6)) (aCons (eC (.int 8)) (aNil)))))) (eOp (gIc cMod fun i j => .int (i % j)) (eOp (gIc cDiv fun i j => .int (i / j)) (eCB gInt (aCons (eIx (eVar 0) (eC (.int 0))) (aNil))) (eC (.int 840))) (eC (.int 4)))) (aNil)))))) (tgName 2)) (
    sSeq (sAsg (eOp (gI fun i j => .int (i + j)) (eC (.int 1)) (eOp (gIc cMod fun i j => .int (i % j)) (eCB gInt (aCons (eIx (eVar 0) (eC (.int 1))) (aNil))) (eC (.int 4)))) (tgName 3)) (
    sSeq (sAsg (eOp (gIc cMod fun i j => .int (i % j)) (eCB gInt (aCons (eIx (eVar 0) (eC (.int 2))) (aNil))) (eC (.int 4))) (tgName 4)) (
    sSeq (sAsg (eOp (gIc cMod fun i j => .int (i % j)) (eOp (gIc cDiv fun i j => .int (i / j)) (eCB gInt (aCons (eIx (eVar 0) (eC (.int 2))) (aNil))) (eC (.int 4))) (eC (.int 7))) (tgName 5)) (
    sSeq (sAsgO (oLst (aNil)) 6) (
    sSeq (sAsgO (oLst (aNil)) 7) (
    sSeq (sKB [8, 14] (sFor (iR1 (aCons (eVar 2) (aNil))) (tgName 8) (sKill [8, 14] (sSeq (sAsg (eFz (oLc (iR1 (aCons (eVar 3) (aNil))) (tgName 9) (tYe) (oFz (eCB gInt (aCons (eIx (eVar 0) (eOp (gI fun i j => .int (i + j)) (eOp (gI fun i j => .int (i + j)) (eC (.int 4)) (eOp (gIc cMul fun i j => .int (i * j)) (eC (.int 4)) (eVar 8))) (eVar 9))) (aNil)))) [9])) (tgName 14)) (
    sSeq (sApp (pVar 6) (oLc (iLi (eVar 14)) (tgName 19) (tYe) (oFz (eOp (gIc cMod fun i j => .int (i % j)) (eCB gInt (aCons (eVar 19) (aNil))) (eVar 2))) [19])) (
    sApp (pVar 7) (oLc (iLi (eVar 14)) (tgName 19) (tYe) (oFz (eOp (gI fun i j => .bl (decide (i < j))) (eOp (gIc cDiv fun i j => .int (i / j)) (eVar 19) (eC (.int 840))) (eVar 5))) [19]))))))) (
    sSeq (sKB [8, 9, 15, 16] (sFor (iR1 (aCons (eVar 3) (aNil))) (tgName 9) (sKill [8, 9, 15, 16] (sSeq (sAsg (eFz (oSorted (aCons (eFz (oLc (iR1 (aCons (eVar 2) (aNil))) (tgName 8) (tYe) (oFz (eCB gInt (aCons (eIx (eIx (eVar 6) (eVar 8)) (eVar 9)) (aNil)))) [8])) (aNil)))) (tgName 15)) (
    sSeq (sAsg (eOp (gIc cMod fun i j => .int (i % j)) (eCB gInt (aCons (eIx (eVar 0) (eOp (gI fun i j => .int (i + j)) (eC (.int 36)) (eVar 9))) (aNil))) (eOp (gI fun i j => .int (i + j)) (eVar 2) (eC (.int 1)))) (tgName 16)) (
    sSeq (sKB [8] (sFor (iR1 (aCons (eVar 2) (aNil))) (tgName 8) (sKill [8] (sIf (tAn (tTe (eOp (gEq true) (eVar 4) (eC (.int 2)))) (tTe (eOp (gI fun i j => .bl (decide (j < i))) (eIx (eVar 15) (eVar 8)) (eVar 8)))) (sAsg (eCB gMin (aCons (eCB gInt (aCons (eVar 16) (aNil))) (aCons (eVar 8) (aNil)))) (tgName 16)) (sNext))))) (
    sKB [8] (sFor (iR1 (aCons (eVar 2) (aNil))) (tgName 8) (sKill [8] (sIf (tTe (eOp (gI fun i j => .bl (decide (j < i))) (eVar 4) (eC (.int 0)))) (sSeq (sSetIx (pIx (pVar 6) (eVar 8)) (eVar 9) (oFz (eIx (eVar 15) (eVar 8)))) (
    sSetIx (pIx (pVar 7) (eVar 8)) (eVar 9) (oFz (eOp (gI fun i j => .bl (decide (j ≤ i))) (eVar 8) (eVar 16))))) (sNext))))))))))) (
    sSeq (sAsg (eOp (gIc cMod fun i j => .int (i % j)) (eCB gInt (aCons (eIx (eVar 0) (eC (.int 48))) (aNil))) (eVar 2)) (tgName 8)) (
    sSeq (sAsg (eOp (gIc cMod fun i j => .int (i % j)) (eCB gInt (aCons (eIx (eVar 0) (eC (.int 49))) (aNil))) (eVar 3)) (tgName 9)) (
    sSeq (sIf (tAn (tTe (eOp (gEq false) (eVar 4) (eC (.int 3)))) (tTe (eOp (gEq false) (eOp (gIc cMod fun i j => .int (i % j)) (eCB gInt (aCons (eIx (eVar 0) (eC (.int 50))) (aNil))) (eC (.int 2))) (eC (.int 0))))) (sSetIx (pIx (pVar 7) (eVar 8)) (eVar 9) (oFz (eNot (eIx (eIx (eVar 7) (eVar 8)) (eVar 9))))) (sNext)) (
    sSeq (sIf (tAn (tTe (eOp (gEq false) (eVar 4) (eC (.int 3)))) (tTe (eOp (gEq false) (eOp (gIc cMod fun i j => .int (i % j)) (eCB gInt (aCons (eIx (eVar 0) (eC (.int 50))) (aNil))) (eC (.int 2))) (eC (.int 1))))) (sSetIx (pIx (pVar 6) (eVar 8)) (eVar 9) (oFz (eOp (gIc cMod fun i j => .int (i % j)) (eOp (gIc cDiv fun i j => .int (i / j)) (eCB gInt (aCons (eIx (eVar 0) (eC (.int 50))) (aNil))) (eC (.int 2))) (eVar 2)))) (sNext)) (
    sSeq (sAsgO (oListRg (eVar 2)) 10) (
    sSeq (sKB [8, 17, 18] (sFor (iR1 (aCons (eVar 2) (aNil))) (tgName 8) (sKill [8, 17, 18] (sSeq (sAsg (eOp (gI fun i j => .int (i + j)) (eVar 8) (eOp (gIc cMod fun i j => .int (i % j)) (eCB gInt (aCons (eIx (eVar 0) (eOp (gI fun i j => .int (i + j)) (eC (.int 40)) (eVar 8))) (aNil))) (eOp (gI fun i j => .int (i - j)) (eVar 2) (eVar 8)))) (tgName 17)) (
    sSeq (sAsg (eIx (eVar 10) (eVar 8)) (tgName 18)) (
    sSeq (sSetIx (pVar 10) (eVar 8) (oFz (eIx (eVar 10) (eVar 17)))) (
    sSetIx (pVar 10) (eVar 17) (oFz (eVar 18))))))))) (
    sSeq (sAsg (eFz (oLc (iR1 (aCons (eVar 2) (aNil))) (tgName 8) (tYe) (oFz (eIndexL (eVar 10) (aCons (eVar 8) (aNil)))) [8])) (tgName 11)) (
    sSeq (sAsg (eFz (oLc (iR1 (aCons (eVar 2) (aNil))) (tgName 8) (tYe) (oLc (iLi (eIx (eVar 6) (eIx (eVar 11) (eVar 8)))) (tgName 17) (tYe) (oFz (eIx (eVar 10) (eVar 17))) [17]) [8])) (tgName 12)) (
    sSeq (sAsg (eFz (oLc (iR1 (aCons (eVar 2) (aNil))) (tgName 8) (tYe) (oListOf (aCons (eIx (eVar 7) (eIx (eVar 11) (eVar 8))) (aNil))) [8])) (tgName 13)) (
    sRet (oLst (aCons (eSlS (eC (.str ("abcd" : Str))) (zNo) (zSome (eVar 3))) (aCons (eVar 12) (aCons (eVar 13) (aCons (eIx (eVar 10) (eOp (gIc cMod fun i j => .int (i % j)) (eCB gInt (aCons (eIx (eVar 0) (eC (.int 3))) (aNil))) (eVar 2))) (aNil))))))))))))))))))))))))
def x_law_machine : FM := xRun 2 18 x_law_machine_b
-- law_pairs: 0:_law_m, 1:_law_pairs_here, 2:_law_s, 3:_law_c; changed ['_law_pairs_here']
def x_law_pairs_b : SF := sSeq (sAsgO (oLst (aNil)) 1) (
    sSeq (sKB [2, 3] (sFor (iR1 (aCons (eCB gLen (aCons (eIx (eVar 0) (eC (.int 1))) (aNil))) (aNil))) (tgName 2) (sKill [2, 3] (sKB [3] (sFor (iR1 (aCons (eCB gLen (aCons (eIx (eVar 0) (eC (.int 0))) (aNil))) (aNil))) (tgName 3) (sKill [3] (sIf (tTe (eIx (eIx (eIx (eVar 0) (eC (.int 2))) (eVar 2)) (eVar 3))) (sApp (pVar 1) (oFz (eTup (aCons (eVar 2) (aCons (eIx (eIx (eVar 0) (eC (.int 0))) (eVar 3)) (aNil)))))) (sNext)))))))) (
    sRet (oVar 1)))
def x_law_pairs : FM := xRun 1 3 x_law_pairs_b
-- flag_table: 0:letters, 1:size, 2:pairs, 3:known, 4:marked, 5:state, 6:letter; changed ['marked']
def x_flag_table_b : SF := sImm [0, 1] (sSeq (sAsg (eFz (oListT (aCons (eVar 0) (aNil)))) (tgName 3)) (
    sSeq (sAsgO (oDNewT) 4) (
    sSeq (sKB [5, 6] (sFor (iLi (eVar 2)) (tgTup 2 (tgCons (tgName 5) (tgCons (tgName 6) (tgNil)))) (sKill [5, 6] (sSeq (sIf (tOo (tNo (tTe (eChain (gI fun i j => .bl (decide (i ≤ j))) (gI fun i j => .bl (decide (i < j))) (eC (.int 0)) (eVar 5) (eVar 1)))) (tTe (eOp (gIn true) (eVar 6) (eVar 3)))) (sNever) (sNext)) (
    sDPutF (pVar 4) (eTup (aCons (eVar 5) (aCons (eVar 6) (aNil)))) (oFz (eC (.bl true)))))))) (
    sRet (oLc (iR1 (aCons (eVar 1) (aNil))) (tgName 5) (tYe) (oLc (iLi (eVar 3)) (tgName 6) (tYe) (oFz (eDIn false (eTup (aCons (eVar 5) (aCons (eVar 6) (aNil)))) (eVar 4))) [6]) [5])))))
def x_flag_table : FM := xRun 3 4 x_flag_table_b
-- Wish_init: 0:self, 1:letters, 2:targets, 3:marks, 4:start, 5:size, 6:row, 7:target; changed ['self']
def x_Wish_init_b : SF := sImm [1, 4] (sSeq (sAsg (eCB gLen (aCons (eVar 2) (aNil))) (tgName 5)) (
    sSeq (sIf (tOo (tTe (eOp (gIn true) (eVar 1) (eTk kALPHABETS))) (tOo (tNo (tTe (eChain (gI fun i j => .bl (decide (i ≤ j))) (gI fun i j => .bl (decide (i ≤ j))) (eC (.int 1)) (eVar 5) (eC (.int 8))))) (tNo (tTe (eChain (gI fun i j => .bl (decide (i ≤ j))) (gI fun i j => .bl (decide (i < j))) (eC (.int 0)) (eVar 4) (eVar 5)))))) (sNever) (sNext)) (
    sSeq (sKB [6, 7] (sFor (iLi (eVar 2)) (tgName 6) (sKill [6, 7] (sSeq (sIf (tTe (eOp (gEq true) (eCB gLen (aCons (eVar 6) (aNil))) (eCB gLen (aCons (eVar 1) (aNil))))) (sNever) (sNext)) (
    sKB [7] (sFor (iLi (eVar 6)) (tgName 7) (sKill [7] (sIf (tNo (tTe (eChain (gI fun i j => .bl (decide (i ≤ j))) (gI fun i j => .bl (decide (i < j))) (eC (.int 0)) (eVar 7) (eVar 5)))) (sNever) (sNext))))))))) (
    sSeq (sFldF "Wish" "flags" (pVar 0) (oCall x_flag_table (aCons (eVar 1) (aCons (eVar 5) (aCons (eVar 3) (aNil)))))) (
    sSeq (sFldF "Wish" "letters" (pVar 0) (oFz (eVar 1))) (
    sSeq (sFldF "Wish" "size" (pVar 0) (oFz (eVar 5))) (
    sSeq (sFldF "Wish" "start" (pVar 0) (oFz (eVar 4))) (
    sFldF "Wish" "targets" (pVar 0) (oLc (iLi (eVar 2)) (tgName 6) (tYe) (oListOf (aCons (eVar 6) (aNil))) [6])))))))))
def x_Wish_init : FM := xRun 5 3 x_Wish_init_b
-- law_made: 0:_law_m, 1:_law_row; changed []
def x_law_made_b : SF := sRet (oMakeK "Wish" 3 1 x_Wish_init (aCons (eIx (eVar 0) (eC (.int 0))) (aCons (eFz (oLc (iLi (eIx (eVar 0) (eC (.int 1)))) (tgName 1) (tYe) (oListOf (aCons (eVar 1) (aNil))) [1])) (aCons (eFz (oCall x_law_pairs (aCons (eVar 0) (aNil)))) (aNil)))) (aCons (eIx (eVar 0) (eC (.int 3))) (aNil)))
def x_law_made : FM := xRun 1 1 x_law_made_b
-- law_word: 0:_law_row, 1:_law_letters, 2:_law_top, 3:_law_size, 4:_law_k; changed []
def x_law_word_b : SF := sImm [1, 2] (sSeq (sAsg (eOp (gIc cMod fun i j => .int (i % j)) (eCB gInt (aCons (eIx (eVar 0) (eC (.int 0))) (aNil))) (eOp (gI fun i j => .int (i + j)) (eVar 2) (eC (.int 1)))) (tgName 3)) (
    sRet (oFz (eM1 gJoin (eC (.str ("" : Str))) (eFz (oLc (iR1 (aCons (eVar 3) (aNil))) (tgName 4) (tYe) (oFz (eIx (eVar 1) (eOp (gIc cMod fun i j => .int (i % j)) (eCB gInt (aCons (eIx (eVar 0) (eOp (gI fun i j => .int (i + j)) (eC (.int 1)) (eVar 4))) (aNil))) (eCB gLen (aCons (eVar 1) (aNil)))))) [4]))))))
def x_law_word : FM := xRun 3 2 x_law_word_b
-- law_lap: 0:_law_m, 1:_law_state, 2:_law_word_here, 3:_law_seen, 4:_law_letter, 5:_law_c; changed []
def x_law_lap_b : SF := sImm [1, 2] (sSeq (sAsg (eC (.bl false)) (tgName 3)) (
    sSeq (sKB [4, 5] (sFor (iSt (eVar 2)) (tgName 4) (sKill [4, 5] (sSeq (sAsg (eIndexS (eC (.str ("abcd" : Str))) (aCons (eVar 4) (aNil))) (tgName 5)) (
    sSeq (sAsg (eOr (eVar 3) (eIx (eIx (eIx (eVar 0) (eC (.int 2))) (eVar 1)) (eVar 5))) (tgName 3)) (
    sAsg (eIx (eIx (eIx (eVar 0) (eC (.int 1))) (eVar 1)) (eVar 5)) (tgName 1))))))) (
    sRet (oLst (aCons (eVar 1) (aCons (eVar 3) (aNil)))))))
def x_law_lap : FM := xRun 3 3 x_law_lap_b
-- Wish_marks: 0:self, 1:columns, 2:state, 3:k, 4:letter; changed []
def x_Wish_marks_b : SF := sSeq (sAsg (eFz (oEnumS (eFld "Wish" "letters" (eVar 0)))) (tgName 1)) (
    sRet (oLc2 (iR1 (aCons (eFld "Wish" "size" (eVar 0)) (aNil))) (tgName 2) (tYe) (iLi (eVar 1)) (tgTup 2 (tgCons (tgName 3) (tgCons (tgName 4) (tgNil)))) (tTe (eIx (eIx (eFld "Wish" "flags" (eVar 0)) (eVar 2)) (eVar 3))) (oFz (eTup (aCons (eVar 2) (aCons (eVar 4) (aNil))))) [2, 3, 4] [3, 4]))
def x_Wish_marks : FM := xRun 1 4 x_Wish_marks_b
-- Wish_lap: 0:self, 1:state, 2:word, 3:seen, 4:letter, 5:column; changed []
def x_Wish_lap_b : SF := sImm [1, 2] (sSeq (sAsg (eC (.bl false)) (tgName 3)) (
    sSeq (sKB [4, 5] (sFor (iSt (eVar 2)) (tgName 4) (sKill [4, 5] (sSeq (sIf (tTe (eOp (gInS true) (eVar 4) (eFld "Wish" "letters" (eVar 0)))) (sNever) (sNext)) (
    sSeq (sAsg (eIndexS (eFld "Wish" "letters" (eVar 0)) (aCons (eVar 4) (aNil))) (tgName 5)) (
    sSeq (sAsg (eOr (eVar 3) (eIx (eIx (eFld "Wish" "flags" (eVar 0)) (eVar 1)) (eVar 5))) (tgName 3)) (
    sAsg (eIx (eIx (eFld "Wish" "targets" (eVar 0)) (eVar 1)) (eVar 5)) (tgName 1)))))))) (
    sRet (oFz (eTup (aCons (eVar 1) (aCons (eVar 3) (aNil))))))))
def x_Wish_lap : FM := xRun 3 3 x_Wish_lap_b
-- Wish_reach: 0:self, 1:word; changed []
def x_Wish_reach_b : SF := sImm [1] (sRet (oFz (eIx (eFz (oMeth "Wish" "lap" x_Wish_lap (eVar 0) (aCons (eFld "Wish" "start" (eVar 0)) (aCons (eVar 1) (aNil))))) (eC (.int 0)))))
def x_Wish_reach : FM := xRun 2 0 x_Wish_reach_b
-- Wish_rshift: 0:self, 1:word; changed []
def x_Wish_rshift_b : SF := sImm [1] (sRet (oMakeK "Wish" 3 1 x_Wish_init (aCons (eFld "Wish" "letters" (eVar 0)) (aCons (eFld "Wish" "targets" (eVar 0)) (aCons (eFz (oProp "Wish" x_Wish_marks (eVar 0))) (aNil)))) (aCons (eFz (oMeth "Wish" "reach" x_Wish_reach (eVar 0) (aCons (eVar 1) (aNil)))) (aNil))))
def x_Wish_rshift : FM := xRun 2 0 x_Wish_rshift_b
-- Wish_text: 0:self, 1:lines, 2:state, 3:line, 4:target, 5:marked; changed ['lines']
def x_Wish_text_b : SF := sSeq (sAsgO (oLst (aCons (eOp gAddS (eC (.str ("letters " : Str))) (eFld "Wish" "letters" (eVar 0))) (aCons (eOp gAddS (eC (.str ("start " : Str))) (eCB gStr (aCons (eFld "Wish" "start" (eVar 0)) (aNil)))) (aNil)))) 1) (
    sSeq (sKB [2, 3, 4, 5] (sFor (iR1 (aCons (eFld "Wish" "size" (eVar 0)) (aNil))) (tgName 2) (sKill [2, 3, 4, 5] (sSeq (sAsg (eOp gAddS (eCB gStr (aCons (eVar 2) (aNil))) (eC (.str (":" : Str)))) (tgName 3)) (
    sSeq (sKB [4, 5] (sFor (iZi (aCons (eIx (eFld "Wish" "targets" (eVar 0)) (eVar 2)) (aCons (eIx (eFld "Wish" "flags" (eVar 0)) (eVar 2)) (aNil)))) (tgTup 2 (tgCons (tgName 4) (tgCons (tgName 5) (tgNil)))) (sKill [4, 5] (sAug 3 gAddS (eOp gAddS (eOp gAddS (eC (.str (" " : Str))) (eCB gStr (aCons (eVar 4) (aNil)))) (eOp gMulS (eC (.str ("*" : Str))) (eCB gInt (aCons (eVar 5) (aNil))))))))) (
    sApp (pVar 1) (oFz (eVar 3)))))))) (
    sRet (oFz (eM1 gJoin (eC (.str ("\n" : Str))) (eVar 1)))))
def x_Wish_text : FM := xRun 1 5 x_Wish_text_b
-- law_text: 0:_law_m, 1:_law_lines, 2:_law_s, 3:_law_line, 4:_law_c; changed ['_law_lines']
def x_law_text_b : SF := sSeq (sAsgO (oLst (aCons (eOp gAddS (eC (.str ("letters " : Str))) (eIx (eVar 0) (eC (.int 0)))) (aCons (eOp gAddS (eC (.str ("start " : Str))) (eCB gStr (aCons (eIx (eVar 0) (eC (.int 3))) (aNil)))) (aNil)))) 1) (
    sSeq (sKB [2, 3, 4] (sFor (iR1 (aCons (eCB gLen (aCons (eIx (eVar 0) (eC (.int 1))) (aNil))) (aNil))) (tgName 2) (sKill [2, 3, 4] (sSeq (sAsg (eOp gAddS (eCB gStr (aCons (eVar 2) (aNil))) (eC (.str (":" : Str)))) (tgName 3)) (
    sSeq (sKB [4] (sFor (iR1 (aCons (eCB gLen (aCons (eIx (eVar 0) (eC (.int 0))) (aNil))) (aNil))) (tgName 4) (sKill [4] (sAsg (eOp gAddS (eOp gAddS (eOp gAddS (eVar 3) (eC (.str (" " : Str)))) (eCB gStr (aCons (eIx (eIx (eIx (eVar 0) (eC (.int 1))) (eVar 2)) (eVar 4)) (aNil)))) (eOp gMulS (eC (.str ("*" : Str))) (eCB gInt (aCons (eIx (eIx (eIx (eVar 0) (eC (.int 2))) (eVar 2)) (eVar 4)) (aNil))))) (tgName 3))))) (
    sApp (pVar 1) (oFz (eVar 3)))))))) (
    sRet (oFz (eM1 gJoin (eC (.str ("\n" : Str))) (eVar 1)))))
def x_law_text : FM := xRun 1 4 x_law_text_b
-- law_good: 0:_law_m, 1:_law_state, 2:_law_stem, 3:_law_loop, 4:_law_k, 5:_law_seen, 6:_law_told; changed []
def x_law_good_b : SF := sImm [1, 2, 3] (sSeq (sAsg (eIx (eFz (oCall x_law_lap (aCons (eVar 0) (aCons (eVar 1) (aCons (eVar 2) (aNil)))))) (eC (.int 0))) (tgName 1)) (
    sSeq (sKB [4] (sFor (iR1 (aCons (eCB gLen (aCons (eIx (eVar 0) (eC (.int 1))) (aNil))) (aNil))) (tgName 4) (sKill [4] (sAsg (eIx (eFz (oCall x_law_lap (aCons (eVar 0) (aCons (eVar 1) (aCons (eVar 3) (aNil)))))) (eC (.int 0))) (tgName 1))))) (
    sSeq (sAsg (eC (.bl false)) (tgName 5)) (
    sSeq (sKB [4, 6] (sFor (iR1 (aCons (eCB gLen (aCons (eIx (eVar 0) (eC (.int 1))) (aNil))) (aNil))) (tgName 4) (sKill [4, 6] (sSeq (sAsg (eFz (oCall x_law_lap (aCons (eVar 0) (aCons (eVar 1) (aCons (eVar 3) (aNil)))))) (tgName 6)) (
    sSeq (sAsg (eIx (eVar 6) (eC (.int 0))) (tgName 1)) (
    sAsg (eOr (eVar 5) (eIx (eVar 6) (eC (.int 1)))) (tgName 5))))))) (
    sRet (oFz (eVar 5)))))))
def x_law_good : FM := xRun 4 3 x_law_good_b
-- Wish_contains: 0:self, 1:lasso, 2:state, 3:seen, 4:count, 5:stem, 6:loop, 7:marked; changed []
def x_Wish_contains_b : SF := sImm [1] (sSeq (sAsg (eVar 1) (tgTup 2 (tgCons (tgName 5) (tgCons (tgName 6) (tgNil))))) (
    sSeq (sIf (tTe (eOp (gEq false) (eVar 6) (eC (.str ("" : Str))))) (sNever) (sNext)) (
    sSeq (sAsg (eFz (oMeth "Wish" "reach" x_Wish_reach (eVar 0) (aCons (eVar 5) (aNil)))) (tgName 2)) (
    sSeq (sAsg (eC (.bl false)) (tgName 3)) (
    sSeq (sKB [4, 7] (sFor (iR1 (aCons (eOp (gIc cMul fun i j => .int (i * j)) (eC (.int 2)) (eFld "Wish" "size" (eVar 0))) (aNil))) (tgName 4) (sKill [4, 7] (sSeq (sAsg (eFz (oMeth "Wish" "lap" x_Wish_lap (eVar 0) (aCons (eVar 2) (aCons (eVar 6) (aNil))))) (tgTup 2 (tgCons (tgName 2) (tgCons (tgName 7) (tgNil))))) (
    sAsg (eOr (eVar 3) (eAnd (eVar 7) (eOp (gI fun i j => .bl (decide (j ≤ i))) (eVar 4) (eFld "Wish" "size" (eVar 0))))) (tgName 3)))))) (
    sRet (oFz (eVar 3))))))))
def x_Wish_contains : FM := xRun 2 6 x_Wish_contains_b
-- Wish_remark: 0:self, 1:pairs; changed ['self']
def x_Wish_remark_b : SF := sFldF "Wish" "flags" (pVar 0) (oCall x_flag_table (aCons (eFld "Wish" "letters" (eVar 0)) (aCons (eFld "Wish" "size" (eVar 0)) (aCons (eVar 1) (aNil)))))
def x_Wish_remark : FM := xRun 2 0 x_Wish_remark_b
-- Wish_column: 0:self, 1:state, 2:letter, 3:known; changed []
def x_Wish_column_b : SF := sImm [1, 2] (sSeq (sAsg (eFz (oListT (aCons (eFld "Wish" "letters" (eVar 0)) (aNil)))) (tgName 3)) (
    sSeq (sIf (tOo (tNo (tTe (eChain (gI fun i j => .bl (decide (i ≤ j))) (gI fun i j => .bl (decide (i < j))) (eC (.int 0)) (eVar 1) (eFld "Wish" "size" (eVar 0))))) (tTe (eOp (gIn true) (eVar 2) (eVar 3)))) (sNever) (sNext)) (
    sRet (oFz (eIndexL (eVar 3) (aCons (eVar 2) (aNil)))))))
def x_Wish_column : FM := xRun 3 1 x_Wish_column_b
-- Wish_setitem: 0:self, 1:at, 2:worth, 3:column, 4:state, 5:letter; changed ['self']
def x_Wish_setitem_b : SF := sImm [1, 2] (sSeq (sAsg (eVar 1) (tgTup 2 (tgCons (tgName 4) (tgCons (tgName 5) (tgNil))))) (
    sSeq (sAsg (eFz (oMeth "Wish" "column" x_Wish_column (eVar 0) (aCons (eVar 4) (aCons (eVar 5) (aNil))))) (tgName 3)) (
    sSeq (sIf (tNo (tTe (eChain (gI fun i j => .bl (decide (i ≤ j))) (gI fun i j => .bl (decide (i < j))) (eC (.int 0)) (eVar 2) (eFld "Wish" "size" (eVar 0))))) (sNever) (sNext)) (
    sSetIx (pIx (pFld "Wish" "targets" (pVar 0)) (eVar 4)) (eVar 3) (oFz (eVar 2))))))
def x_Wish_setitem : FM := xRun 3 3 x_Wish_setitem_b
-- law: 0:_law_script, 1:_law_m, 2:_law_wish, 3:_law_first, 4:_law_second, 5:_law_row, 6:_law_loop, 7:_law_middle, 8:_law_last, 9:_law_behind, 10:_law_both, 11:_law_longest, 12:_law_due, 13:_law_changed, 14:_law_s; changed ['_law_behind', '_law_both', '_law_wish']
def x_law_b : SF := sSeq (sAsg (eFz (oCall x_law_machine (aCons (eFz (oCall x_law_draws (aCons (eVar 0) (aCons (eC (.int 0)) (aCons (eC (.int 51)) (aNil)))))) (aCons (eC (.int 8)) (aNil))))) (tgName 1)) (
    sSeq (sAsgO (oCall x_law_made (aCons (eVar 1) (aNil))) 2) (
    sSeq (sAsg (eFz (oCall x_law_word (aCons (eFz (oCall x_law_draws (aCons (eVar 0) (aCons (eC (.int 1)) (aCons (eC (.int 21)) (aNil)))))) (aCons (eIx (eVar 1) (eC (.int 0))) (aCons (eC (.int 20)) (aNil)))))) (tgName 3)) (
    sSeq (sAsg (eFz (oCall x_law_word (aCons (eFz (oCall x_law_draws (aCons (eVar 0) (aCons (eC (.int 2)) (aCons (eC (.int 21)) (aNil)))))) (aCons (eIx (eVar 1) (eC (.int 0))) (aCons (eC (.int 20)) (aNil)))))) (tgName 4)) (
    sSeq (sAsg (eFz (oCall x_law_draws (aCons (eVar 0) (aCons (eC (.int 3)) (aCons (eC (.int 12)) (aNil)))))) (tgName 5)) (
    sSeq (sAsg (eOp gAddS (eIx (eIx (eVar 1) (eC (.int 0))) (eOp (gIc cMod fun i j => .int (i % j)) (eCB gInt (aCons (eIx (eVar 5) (eC (.int 11))) (aNil))) (eCB gLen (aCons (eIx (eVar 1) (eC (.int 0))) (aNil))))) (eFz (oCall x_law_word (aCons (eVar 5) (aCons (eIx (eVar 1) (eC (.int 0))) (aCons (eC (.int 9)) (aNil))))))) (tgName 6)) (
    sSeq (sAsg (eIx (eFz (oCall x_law_lap (aCons (eVar 1) (aCons (eIx (eVar 1) (eC (.int 3))) (aCons (eVar 3) (aNil)))))) (eC (.int 0))) (tgName 7)) (
    sSeq (sAsg (eIx (eFz (oCall x_law_lap (aCons (eVar 1) (aCons (eVar 7) (aCons (eVar 4) (aNil)))))) (eC (.int 0))) (tgName 8)) (
    sSeq (sAsgO (oBinS "Wish" x_Wish_rshift (eVar 2) (eVar 3)) 9) (
    sSeq (sAsgO (oBinS "Wish" x_Wish_rshift (eVar 9) (eVar 4)) 10) (
    sSeq (sIf (tOo (tTe (eOp (gEq true) (eFz (oMeth "Wish" "text" x_Wish_text (eVar 9) (aNil))) (eFz (oCall x_law_text (aCons (eLst (aCons (eIx (eVar 1) (eC (.int 0))) (aCons (eIx (eVar 1) (eC (.int 1))) (aCons (eIx (eVar 1) (eC (.int 2))) (aCons (eVar 7) (aNil)))))) (aNil)))))) (tTe (eOp (gEq true) (eFz (oMeth "Wish" "text" x_Wish_text (eVar 2) (aNil))) (eFz (oCall x_law_text (aCons (eVar 1) (aNil))))))) (sRet (oFz (eC (.bl false)))) (sNext)) (
    sSeq (sIf (tOo (tTe (eOp (gEq true) (eFz (oMeth "Wish" "text" x_Wish_text (eVar 10) (aNil))) (eFz (oCall x_law_text (aCons (eLst (aCons (eIx (eVar 1) (eC (.int 0))) (aCons (eIx (eVar 1) (eC (.int 1))) (aCons (eIx (eVar 1) (eC (.int 2))) (aCons (eVar 8) (aNil)))))) (aNil)))))) (tTe (eOp (gEq true) (eFz (oMeth "Wish" "text" x_Wish_text (eFz (oBinS "Wish" x_Wish_rshift (eVar 2) (eOp gAddS (eVar 3) (eVar 4)))) (aNil))) (eFz (oMeth "Wish" "text" x_Wish_text (eVar 10) (aNil)))))) (sRet (oFz (eC (.bl false)))) (sNext)) (
    sSeq (sAsg (eSlS (eOp gMulS (eOp gAddS (eVar 3) (eIx (eVar 1) (eC (.int 0)))) (eC (.int 300))) (zNo) (zSome (eC (.int 300)))) (tgName 11)) (
    sSeq (sIf (tTe (eOp (gEq true) (eFz (oMeth "Wish" "text" x_Wish_text (eFz (oBinS "Wish" x_Wish_rshift (eVar 2) (eVar 11))) (aNil))) (eFz (oCall x_law_text (aCons (eLst (aCons (eIx (eVar 1) (eC (.int 0))) (aCons (eIx (eVar 1) (eC (.int 1))) (aCons (eIx (eVar 1) (eC (.int 2))) (aCons (eIx (eFz (oCall x_law_lap (aCons (eVar 1) (aCons (eIx (eVar 1) (eC (.int 3))) (aCons (eVar 11) (aNil)))))) (eC (.int 0))) (aNil)))))) (aNil)))))) (sRet (oFz (eC (.bl false)))) (sNext)) (
    sSeq (sAsg (eFz (oCall x_law_good (aCons (eVar 1) (aCons (eVar 8) (aCons (eC (.str ("" : Str))) (aCons (eVar 6) (aNil))))))) (tgName 12)) (
    sSeq (sIf (tOo (tTe (eOp (gEq true) (eInOwn "Wish" x_Wish_contains (eTup (aCons (eC (.str ("" : Str))) (aCons (eVar 6) (aNil)))) (eVar 10)) (eVar 12))) (tTe (eOp (gEq true) (eInOwn "Wish" x_Wish_contains (eTup (aCons (eVar 4) (aCons (eVar 6) (aNil)))) (eVar 9)) (eVar 12)))) (sRet (oFz (eC (.bl false)))) (sNext)) (
    sSeq (sIf (tOo (tTe (eOp (gEq true) (eInOwn "Wish" x_Wish_contains (eTup (aCons (eOp gAddS (eVar 3) (eVar 4)) (aCons (eVar 6) (aNil)))) (eVar 2)) (eVar 12))) (tTe (eOp (gEq true) (eInOwn "Wish" x_Wish_contains (eTup (aCons (eC (.str ("" : Str))) (aCons (eOp gAddS (eVar 6) (eVar 6)) (aNil)))) (eVar 9)) (eFz (oCall x_law_good (aCons (eVar 1) (aCons (eVar 7) (aCons (eC (.str ("" : Str))) (aCons (eVar 6) (aNil)))))))))) (sRet (oFz (eC (.bl false)))) (sNext)) (
    sSeq (sDrop (eFz (oMethP "Wish" "remark" x_Wish_remark (pVar 9) (aCons (eFz (oLc (iR1 (aCons (eCB gLen (aCons (eIx (eVar 1) (eC (.int 1))) (aNil))) (aNil))) (tgName 14) (tNo (tTe (eIx (eIx (eIx (eVar 1) (eC (.int 2))) (eVar 14)) (eC (.int 0))))) (oFz (eTup (aCons (eVar 14) (aCons (eC (.str ("a" : Str))) (aNil))))) [14])) (aNil))))) (
    sSeq (sSetOwn "Wish" x_Wish_setitem (pVar 10) (eTup (aCons (eIx (eVar 1) (eC (.int 3))) (aCons (eC (.str ("a" : Str))) (aNil)))) (eOp (gI fun i j => .int (i - j)) (eCB gLen (aCons (eIx (eVar 1) (eC (.int 1))) (aNil))) (eC (.int 1)))) (
    sSeq (sIf (tOo (tTe (eOp (gEq true) (eFz (oMeth "Wish" "text" x_Wish_text (eVar 2) (aNil))) (eFz (oCall x_law_text (aCons (eVar 1) (aNil)))))) (tTe (eOp (gEq true) (eFz (oMeth "Wish" "text" x_Wish_text (eFz (oBinS "Wish" x_Wish_rshift (eVar 2) (eVar 3))) (aNil))) (eFz (oCall x_law_text (aCons (eLst (aCons (eIx (eVar 1) (eC (.int 0))) (aCons (eIx (eVar 1) (eC (.int 1))) (aCons (eIx (eVar 1) (eC (.int 2))) (aCons (eVar 7) (aNil)))))) (aNil))))))) (sRet (oFz (eC (.bl false)))) (sNext)) (
    sSeq (sAsg (eFz (oMeth "Wish" "text" x_Wish_text (eVar 9) (aNil))) (tgName 13)) (
    sSeq (sDrop (eFz (oMethP "Wish" "remark" x_Wish_remark (pVar 2) (aCons (eLst (aNil)) (aNil))))) (
    sSeq (sSetOwn "Wish" x_Wish_setitem (pVar 2) (eTup (aCons (eC (.int 0)) (aCons (eC (.str ("a" : Str))) (aNil)))) (eC (.int 0))) (
    sRet (oFz (eAnd (eOp (gEq false) (eFz (oMeth "Wish" "text" x_Wish_text (eVar 9) (aNil))) (eVar 13)) (eOp (gEq false) (eFz (oMeth "Wish" "text" x_Wish_text (eFz (oBinS "Wish" x_Wish_rshift (eVar 2) (eC (.str ("" : Str))))) (aNil))) (eFz (oMeth "Wish" "text" x_Wish_text (eVar 2) (aNil)))))))))))))))))))))))))))))
def x_law : FM := xRun 1 14 x_law_b
def t_law_draws (c : Ct) : TS := tSeq (tIfS (tTest (tOp (rEqD c.K) (tVar 0) (tLst (tNil)))) (tRet (tLc (iRng1 (tCons (tVar 2) (tNil))) (gName 6) (tYes) (tC (.int 0)) [6])) (tNext)) (
    tSeq (tAsg (tCB rInt1 (tCons (tOp (rIx c.K) (tVar 0) (tOp (rI (fun _ j => 0 < j) fun i j => .int (i % j)) (tCB rInt1 (tCons (tVar 1) (tNil))) (tCB (rLenG c.K) (tCons (tVar 0) (tNil))))) (tNil))) (gName 3)) (
    tCut (tIfS (tTest (tOp (rI0 fun i j => .bl (decide (j ≤ i))) (tVar 1) (tCB (rLenG c.K) (tCons (tVar 0) (tNil))))) (tAsg (tOp (rI0 fun i j => .int (i + j)) (tOp (rI (fun _ j => 0 < j) fun i j => .int (i % j)) (tVar 3) (tC (.int 9973))) (tOp (rI CMul fun i j => .int (i * j)) (tC (.int 7)) (tVar 1))) (gName 3)) (tNext)) (
    tSeq (tAsg (tCB rAbs (tCons (tVar 3) (tNil))) (gName 4)) (
    tSeq (tAsg (tLst (tNil)) (gName 5)) (
    tSeq (tFor (iRng1 (tCons (tVar 2) (tNil))) (gName 6) (tIfS (tTest (tOp (rI0 fun i j => .bl (decide (j ≤ i))) (tCB rAbs (tCons (tVar 3) (tNil))) (tOp (rI CPow fun i j => .int (i ^ j.toNat)) (tC (.int 10)) (tC (.int 18))))) (tSeq (tDrop (tBM c.K "list" rAppend (tVar 5) (tCons (tOp (rI (fun _ j => 0 < j) fun i j => .int (i % j)) (tVar 4) (tC (.int 5040))) (tNil)))) (
    tAsg (tOp (rI CDiv fun i j => .int (i / j)) (tVar 4) (tC (.int 5040))) (gName 4))) (tSeq (tAsg (tOp (rI (fun _ j => 0 < j) fun i j => .int (i % j)) (tOp (rI0 fun i j => .int (i + j)) (tOp (rI0 fun i j => .int (i + j)) (tOp (rI CMul fun i j => .int (i * j)) (tOp (rI (fun _ j => 0 < j) fun i j => .int (i % j)) (tVar 3) (tC (.int 9973))) (tC (.int 37))) (tOp (rI CMul fun i j => .int (i * j)) (tVar 6) (tC (.int 101)))) (tC (.int 11))) (tC (.int 997))) (gName 7)) (
    tDrop (tBM c.K "list" rAppend (tVar 5) (tCons (tOp (rI (fun _ j => 0 < j) fun i j => .int (i % j)) (tOp (rI (fun _ j => 0 < j) fun i j => .int (i % j)) (tOp (rI0 fun i j => .int (i + j)) (tOp (rI0 fun i j => .int (i + j)) (tOp (rI CMul fun i j => .int (i * j)) (tOp (rI CMul fun i j => .int (i * j)) (tC (.int 3)) (tVar 7)) (tVar 7)) (tVar 7)) (tC (.int 577))) (tC (.int 7919))) (tC (.int 5040))) (tNil))))))) (
    tRet (tVar 5)))))))
def t_law_machine (c : Ct) : TS := tSeq (tAsg (tOp (rI0 fun i j => .int (i + j)) (tC (.int 1)) (tOp (rI (fun _ j => 0 < j) fun i j => .int (i % j)) (tCB rInt1 (tCons (tOp (rIx c.K) (tVar 0) (tC (.int 0))) (tNil))) (tCB rMin2 (tCons (tCB rInt1 (tCons (tVar 1) (tNil))) (tCons (tOp (rIx c.K) (tLst (tCons (tC (.int 4)) (tCons (tC (.int 5)) (tCons (tC (.int 6)) (tCons (tC (.int 8)) (tNil)))))) (tOp (rI (fun _ j => 0 < j) fun i j => .int (i % j)) (tOp (rI CDiv fun i j => .int (i / j)) (tCB rInt1 (tCons (tOp (rIx c.K) (tVar 0) (tC (.int 0))) (tNil))) (tC (.int 840))) (tC (.int 4)))) (tNil)))))) (gName 2)) (
    tSeq (tAsg (tOp (rI0 fun i j => .int (i + j)) (tC (.int 1)) (tOp (rI (fun _ j => 0 < j) fun i j => .int (i % j)) (tCB rInt1 (tCons (tOp (rIx c.K) (tVar 0) (tC (.int 1))) (tNil))) (tC (.int 4)))) (gName 3)) (
    tSeq (tAsg (tOp (rI (fun _ j => 0 < j) fun i j => .int (i % j)) (tCB rInt1 (tCons (tOp (rIx c.K) (tVar 0) (tC (.int 2))) (tNil))) (tC (.int 4))) (gName 4)) (
    tSeq (tAsg (tOp (rI (fun _ j => 0 < j) fun i j => .int (i % j)) (tOp (rI CDiv fun i j => .int (i / j)) (tCB rInt1 (tCons (tOp (rIx c.K) (tVar 0) (tC (.int 2))) (tNil))) (tC (.int 4))) (tC (.int 7))) (gName 5)) (
    tSeq (tAsg (tLst (tNil)) (gName 6)) (
    tSeq (tAsg (tLst (tNil)) (gName 7)) (
    tSeq (tFor (iRng1 (tCons (tVar 2) (tNil))) (gName 8) (tSeq (tAsg (tLc (iRng1 (tCons (tVar 3) (tNil))) (gName 9) (tYes) (tCB rInt1 (tCons (tOp (rIx c.K) (tVar 0) (tOp (rI0 fun i j => .int (i + j)) (tOp (rI0 fun i j => .int (i + j)) (tC (.int 4)) (tOp (rI CMul fun i j => .int (i * j)) (tC (.int 4)) (tVar 8))) (tVar 9))) (tNil))) [9]) (gName 14)) (
    tSeq (tDrop (tBM c.K "list" rAppend (tVar 6) (tCons (tLc (iList c.K (tVar 14)) (gName 19) (tYes) (tOp (rI (fun _ j => 0 < j) fun i j => .int (i % j)) (tCB rInt1 (tCons (tVar 19) (tNil))) (tVar 2)) [19]) (tNil)))) (
    tDrop (tBM c.K "list" rAppend (tVar 7) (tCons (tLc (iList c.K (tVar 14)) (gName 19) (tYes) (tOp (rI0 fun i j => .bl (decide (i < j))) (tOp (rI CDiv fun i j => .int (i / j)) (tVar 19) (tC (.int 840))) (tVar 5)) [19]) (tNil))))))) (
    tSeq (tFor (iRng1 (tCons (tVar 3) (tNil))) (gName 9) (tSeq (tAsg (tCB (rSorted c.K) (tCons (tLc (iRng1 (tCons (tVar 2) (tNil))) (gName 8) (tYes) (tCB rInt1 (tCons (tOp (rIx c.K) (tOp (rIx c.K) (tVar 6) (tVar 8)) (tVar 9)) (tNil))) [8]) (tNil))) (gName 15)) (
    tSeq (tAsg (tOp (rI (fun _ j => 0 < j) fun i j => .int (i % j)) (tCB rInt1 (tCons (tOp (rIx c.K) (tVar 0) (tOp (rI0 fun i j => .int (i + j)) (tC (.int 36)) (tVar 9))) (tNil))) (tOp (rI0 fun i j => .int (i + j)) (tVar 2) (tC (.int 1)))) (gName 16)) (
    tSeq (tFor (iRng1 (tCons (tVar 2) (tNil))) (gName 8) (tIfS (tAnd (tTest (tOp rNe (tVar 4) (tC (.int 2)))) (tTest (tOp (rI0 fun i j => .bl (decide (j < i))) (tOp (rIx c.K) (tVar 15) (tVar 8)) (tVar 8)))) (tAsg (tCB rMin2 (tCons (tCB rInt1 (tCons (tVar 16) (tNil))) (tCons (tVar 8) (tNil)))) (gName 16)) (tNext))) (
    tFor (iRng1 (tCons (tVar 2) (tNil))) (gName 8) (tIfS (tTest (tOp (rI0 fun i j => .bl (decide (j < i))) (tVar 4) (tC (.int 0)))) (tSeq (tAsg (tOp (rIx c.K) (tVar 15) (tVar 8)) (gSub (tOp (rIx c.K) (tVar 6) (tVar 8)) (tVar 9) rSetL)) (
    tAsg (tOp (rI0 fun i j => .bl (decide (j ≤ i))) (tVar 8) (tVar 16)) (gSub (tOp (rIx c.K) (tVar 7) (tVar 8)) (tVar 9) rSetL))) (tNext))))))) (
    tSeq (tAsg (tOp (rI (fun _ j => 0 < j) fun i j => .int (i % j)) (tCB rInt1 (tCons (tOp (rIx c.K) (tVar 0) (tC (.int 48))) (tNil))) (tVar 2)) (gName 8)) (
    tSeq (tAsg (tOp (rI (fun _ j => 0 < j) fun i j => .int (i % j)) (tCB rInt1 (tCons (tOp (rIx c.K) (tVar 0) (tC (.int 49))) (tNil))) (tVar 3)) (gName 9)) (
    tCut (tIfS (tAnd (tTest (tOp rEq (tVar 4) (tC (.int 3)))) (tTest (tOp rEq (tOp (rI (fun _ j => 0 < j) fun i j => .int (i % j)) (tCB rInt1 (tCons (tOp (rIx c.K) (tVar 0) (tC (.int 50))) (tNil))) (tC (.int 2))) (tC (.int 0))))) (tAsg (tNotV (tOp (rIx c.K) (tOp (rIx c.K) (tVar 7) (tVar 8)) (tVar 9))) (gSub (tOp (rIx c.K) (tVar 7) (tVar 8)) (tVar 9) rSetL)) (tNext)) (
    tCut (tIfS (tAnd (tTest (tOp rEq (tVar 4) (tC (.int 3)))) (tTest (tOp rEq (tOp (rI (fun _ j => 0 < j) fun i j => .int (i % j)) (tCB rInt1 (tCons (tOp (rIx c.K) (tVar 0) (tC (.int 50))) (tNil))) (tC (.int 2))) (tC (.int 1))))) (tAsg (tOp (rI (fun _ j => 0 < j) fun i j => .int (i % j)) (tOp (rI CDiv fun i j => .int (i / j)) (tCB rInt1 (tCons (tOp (rIx c.K) (tVar 0) (tC (.int 50))) (tNil))) (tC (.int 2))) (tVar 2)) (gSub (tOp (rIx c.K) (tVar 6) (tVar 8)) (tVar 9) rSetL)) (tNext)) (
    tSeq (tAsg (tLstRg (tRg1 (tVar 2))) (gName 10)) (
    tSeq (tFor (iRng1 (tCons (tVar 2) (tNil))) (gName 8) (tSeq (tAsg (tOp (rI0 fun i j => .int (i + j)) (tVar 8) (tOp (rI (fun _ j => 0 < j) fun i j => .int (i % j)) (tCB rInt1 (tCons (tOp (rIx c.K) (tVar 0) (tOp (rI0 fun i j => .int (i + j)) (tC (.int 40)) (tVar 8))) (tNil))) (tOp (rI0 fun i j => .int (i - j)) (tVar 2) (tVar 8)))) (gName 17)) (
    tSeq (tAsg (tOp (rIx c.K) (tVar 10) (tVar 8)) (gName 18)) (
    tSeq (tAsg (tOp (rIx c.K) (tVar 10) (tVar 17)) (gSub (tVar 10) (tVar 8) rSetL)) (
    tAsg (tVar 18) (gSub (tVar 10) (tVar 17) rSetL)))))) (
    tSeq (tAsg (tLc (iRng1 (tCons (tVar 2) (tNil))) (gName 8) (tYes) (tBM c.K "list" (rIndex c.K) (tVar 10) (tCons (tVar 8) (tNil))) [8]) (gName 11)) (
    tSeq (tAsg (tLc (iRng1 (tCons (tVar 2) (tNil))) (gName 8) (tYes) (tLc (iList c.K (tOp (rIx c.K) (tVar 6) (tOp (rIx c.K) (tVar 11) (tVar 8)))) (gName 17) (tYes) (tOp (rIx c.K) (tVar 10) (tVar 17)) [17]) [8]) (gName 12)) (
    tSeq (tAsg (tLc (iRng1 (tCons (tVar 2) (tNil))) (gName 8) (tYes) (tCB (rListS c.K) (tCons (tOp (rIx c.K) (tVar 7) (tOp (rIx c.K) (tVar 11) (tVar 8))) (tNil))) [8]) (gName 13)) (
    tRet (tLst (tCons (tSl rSlS (tC (.str ("abcd" : Str))) (tNoPart) (tPart (tVar 3))) (tCons (tVar 12) (tCons (tVar 13) (tCons (tOp (rIx c.K) (tVar 10) (tOp (rI (fun _ j => 0 < j) fun i j => .int (i % j)) (tCB rInt1 (tCons (tOp (rIx c.K) (tVar 0) (tC (.int 3))) (tNil))) (tVar 2))) (tNil)))))))))))))))))))))))
def t_law_pairs (c : Ct) : TS := tSeq (tAsg (tLst (tNil)) (gName 1)) (
    tSeq (tFor (iRng1 (tCons (tCB (rLenG c.K) (tCons (tOp (rIx c.K) (tVar 0) (tC (.int 1))) (tNil))) (tNil))) (gName 2) (tFor (iRng1 (tCons (tCB (rLenG c.K) (tCons (tOp (rIx c.K) (tVar 0) (tC (.int 0))) (tNil))) (tNil))) (gName 3) (tIfS (tB (tOp (rIx c.K) (tOp (rIx c.K) (tOp (rIx c.K) (tVar 0) (tC (.int 2))) (tVar 2)) (tVar 3))) (tDrop (tBM c.K "list" rAppend (tVar 1) (tCons (tTup (tCons (tVar 2) (tCons (tOp (rIx c.K) (tOp (rIx c.K) (tVar 0) (tC (.int 0))) (tVar 3)) (tNil)))) (tNil)))) (tNext)))) (
    tRet (tVar 1)))
def t_flag_table (c : Ct) : TS := tSeq (tAsg (tCB rListT (tCons (tVar 0) (tNil))) (gName 3)) (
    tSeq (tAsg tDNewT (gName 4)) (
    tSeq (tFor (iList c.K (tVar 2)) (gTup c.K 2 (gCons (gName 5) (gCons (gName 6) (gNil)))) (tSeq (tIfS (tOr (tNot (tTest (tChain (rI0 fun i j => .bl (decide (i ≤ j))) (rI0 fun i j => .bl (decide (i < j))) (tC (.int 0)) (tVar 5) (tVar 1)))) (tTest (tOp (rIn c.K true) (tVar 6) (tVar 3)))) (tNever) (tNext)) (
    sDPut (tVar 4) (tTup (tCons (tVar 5) (tCons (tVar 6) (tNil)))) (tC (.bl true))))) (
    tRet (tLc (iRng1 (tCons (tVar 1) (tNil))) (gName 5) (tYes) (tLc (iList c.K (tVar 3)) (gName 6) (tYes) (tDIn (tTup (tCons (tVar 5) (tCons (tVar 6) (tNil)))) (tVar 4)) [6]) [5]))))
def t_Wish_init (c : Ct) : TS := tSeq (tAsg (tCB (rLenG c.K) (tCons (tVar 2) (tNil))) (gName 5)) (
    tSeq (tIfS (tOr (tTest (tOp (rIn c.K true) (tVar 1) (tC (.ref (c.cn "ALPHABETS"))))) (tOr (tNot (tTest (tChain (rI0 fun i j => .bl (decide (i ≤ j))) (rI0 fun i j => .bl (decide (i ≤ j))) (tC (.int 1)) (tVar 5) (tC (.int 8))))) (tNot (tTest (tChain (rI0 fun i j => .bl (decide (i ≤ j))) (rI0 fun i j => .bl (decide (i < j))) (tC (.int 0)) (tVar 4) (tVar 5)))))) (tNever) (tNext)) (
    tSeq (tFor (iList c.K (tVar 2)) (gName 6) (tSeq (tIfS (tTest (tOp rNe (tCB (rLenG c.K) (tCons (tVar 6) (tNil))) (tCB (rLenG c.K) (tCons (tVar 1) (tNil))))) (tNever) (tNext)) (
    tFor (iList c.K (tVar 6)) (gName 7) (tIfS (tNot (tTest (tChain (rI0 fun i j => .bl (decide (i ≤ j))) (rI0 fun i j => .bl (decide (i < j))) (tC (.int 0)) (tVar 7) (tVar 5)))) (tNever) (tNext))))) (
    tSeq (sFld c.K (tVar 0) (tCall (SpF c x_flag_table) [] E0 (tCons (tVar 1) (tCons (tVar 5) (tCons (tVar 3) (tNil))))) ("flags" : Str)) (
    tSeq (sFld c.K (tVar 0) (tVar 1) ("letters" : Str)) (
    tSeq (sFld c.K (tVar 0) (tVar 5) ("size" : Str)) (
    tSeq (sFld c.K (tVar 0) (tVar 4) ("start" : Str)) (
    sFld c.K (tVar 0) (tLc (iList c.K (tVar 2)) (gName 6) (tYes) (tCB (rListS c.K) (tCons (tVar 6) (tNil))) [6]) ("targets" : Str))))))))
def t_law_made (c : Ct) : TS := tRet (tMakeK (c.cn "Wish") 3 (["start"] : List Str).length (SpF c x_Wish_init) (fun vs zs => vs ++ zs) E0 (tCons (tOp (rIx c.K) (tVar 0) (tC (.int 0))) (tCons (tLc (iList c.K (tOp (rIx c.K) (tVar 0) (tC (.int 1)))) (gName 1) (tYes) (tCB (rListS c.K) (tCons (tVar 1) (tNil))) [1]) (tCons (tCall (SpF c x_law_pairs) [] E0 (tCons (tVar 0) (tNil))) (tNil)))) (tCons (tOp (rIx c.K) (tVar 0) (tC (.int 3))) (tNil)))
def t_law_word (c : Ct) : TS := tSeq (tAsg (tOp (rI (fun _ j => 0 < j) fun i j => .int (i % j)) (tCB rInt1 (tCons (tOp (rIx c.K) (tVar 0) (tC (.int 0))) (tNil))) (tOp (rI0 fun i j => .int (i + j)) (tVar 2) (tC (.int 1)))) (gName 3)) (
    tRet (tM1 (rJoin c.K) (tC (.str ("" : Str))) (tLc (iRng1 (tCons (tVar 3) (tNil))) (gName 4) (tYes) (tOp (rIx c.K) (tVar 1) (tOp (rI (fun _ j => 0 < j) fun i j => .int (i % j)) (tCB rInt1 (tCons (tOp (rIx c.K) (tVar 0) (tOp (rI0 fun i j => .int (i + j)) (tC (.int 1)) (tVar 4))) (tNil))) (tCB (rLenG c.K) (tCons (tVar 1) (tNil))))) [4])))
def t_law_lap (c : Ct) : TS := tSeq (tAsg (tC (.bl false)) (gName 3)) (
    tSeq (tFor (iStr (tVar 2)) (gName 4) (tSeq (tAsg (tBM c.K "str" rSIndex (tC (.str ("abcd" : Str))) (tCons (tVar 4) (tNil))) (gName 5)) (
    tSeq (tAsg (tOrV (tVar 3) (tOp (rIx c.K) (tOp (rIx c.K) (tOp (rIx c.K) (tVar 0) (tC (.int 2))) (tVar 1)) (tVar 5))) (gName 3)) (
    tAsg (tOp (rIx c.K) (tOp (rIx c.K) (tOp (rIx c.K) (tVar 0) (tC (.int 1))) (tVar 1)) (tVar 5)) (gName 1))))) (
    tRet (tLst (tCons (tVar 1) (tCons (tVar 3) (tNil))))))
def t_Wish_marks (c : Ct) : TS := tSeq (tAsg (tLstEnumS (tFld c.K (tVar 0) ("letters" : Str))) (gName 1)) (
    tRet (tLc2 (iRng1 (tCons (tFld c.K (tVar 0) ("size" : Str)) (tNil))) (gName 2) (tYes) (iList c.K (tVar 1)) (gTup c.K 2 (gCons (gName 3) (gCons (gName 4) (gNil)))) (tB (tOp (rIx c.K) (tOp (rIx c.K) (tFld c.K (tVar 0) ("flags" : Str)) (tVar 2)) (tVar 3))) (tTup (tCons (tVar 2) (tCons (tVar 4) (tNil)))) [2, 3, 4] [3, 4]))
def t_Wish_lap (c : Ct) : TS := tSeq (tAsg (tC (.bl false)) (gName 3)) (
    tSeq (tFor (iStr (tVar 2)) (gName 4) (tSeq (tIfS (tTest (tOp rNotInS (tVar 4) (tFld c.K (tVar 0) ("letters" : Str)))) (tNever) (tNext)) (
    tSeq (tAsg (tBM c.K "str" rSIndex (tFld c.K (tVar 0) ("letters" : Str)) (tCons (tVar 4) (tNil))) (gName 5)) (
    tSeq (tAsg (tOrV (tVar 3) (tOp (rIx c.K) (tOp (rIx c.K) (tFld c.K (tVar 0) ("flags" : Str)) (tVar 1)) (tVar 5))) (gName 3)) (
    tAsg (tOp (rIx c.K) (tOp (rIx c.K) (tFld c.K (tVar 0) ("targets" : Str)) (tVar 1)) (tVar 5)) (gName 1)))))) (
    tRet (tTup (tCons (tVar 1) (tCons (tVar 3) (tNil))))))
def t_Wish_reach (c : Ct) : TS := tRet (tOp (rIx c.K) (tMeth (c.cn "Wish") "lap" (SpF c x_Wish_lap) [] E0 (tVar 0) (tCons (tFld c.K (tVar 0) ("start" : Str)) (tCons (tVar 1) (tNil)))) (tC (.int 0)))
def t_Wish_rshift (c : Ct) : TS := tRet (tMakeK (c.cn "Wish") 3 (["start"] : List Str).length (SpF c x_Wish_init) (fun vs zs => vs ++ zs) E0 (tCons (tFld c.K (tVar 0) ("letters" : Str)) (tCons (tFld c.K (tVar 0) ("targets" : Str)) (tCons (tProp (c.cn "Wish") (SpF c x_Wish_marks) [] E0 (tVar 0)) (tNil)))) (tCons (tMeth (c.cn "Wish") "reach" (SpF c x_Wish_reach) [] E0 (tVar 0) (tCons (tVar 1) (tNil))) (tNil)))
def t_Wish_text (c : Ct) : TS := tSeq (tAsg (tLst (tCons (tOp rAddS2 (tC (.str ("letters " : Str))) (tFld c.K (tVar 0) ("letters" : Str))) (tCons (tOp rAddS2 (tC (.str ("start " : Str))) (tCB rStrI (tCons (tFld c.K (tVar 0) ("start" : Str)) (tNil)))) (tNil)))) (gName 1)) (
    tSeq (tFor (iRng1 (tCons (tFld c.K (tVar 0) ("size" : Str)) (tNil))) (gName 2) (tSeq (tAsg (tOp rAddS2 (tCB rStrI (tCons (tVar 2) (tNil))) (tC (.str (":" : Str)))) (gName 3)) (
    tSeq (tFor (iZip c.K (tCons (tOp (rIx c.K) (tFld c.K (tVar 0) ("targets" : Str)) (tVar 2)) (tCons (tOp (rIx c.K) (tFld c.K (tVar 0) ("flags" : Str)) (tVar 2)) (tNil)))) (gTup c.K 2 (gCons (gName 4) (gCons (gName 5) (gNil)))) (tAug 3 (tOp rAddS2 (tOp rAddS2 (tC (.str (" " : Str))) (tCB rStrI (tCons (tVar 4) (tNil)))) (tOp rMulS (tC (.str ("*" : Str))) (tCB rInt1 (tCons (tVar 5) (tNil))))) rAddS)) (
    tDrop (tBM c.K "list" rAppend (tVar 1) (tCons (tVar 3) (tNil))))))) (
    tRet (tM1 (rJoin c.K) (tC (.str ("\n" : Str))) (tVar 1))))
def t_law_text (c : Ct) : TS := tSeq (tAsg (tLst (tCons (tOp rAddS2 (tC (.str ("letters " : Str))) (tOp (rIx c.K) (tVar 0) (tC (.int 0)))) (tCons (tOp rAddS2 (tC (.str ("start " : Str))) (tCB rStrI (tCons (tOp (rIx c.K) (tVar 0) (tC (.int 3))) (tNil)))) (tNil)))) (gName 1)) (
    tSeq (tFor (iRng1 (tCons (tCB (rLenG c.K) (tCons (tOp (rIx c.K) (tVar 0) (tC (.int 1))) (tNil))) (tNil))) (gName 2) (tSeq (tAsg (tOp rAddS2 (tCB rStrI (tCons (tVar 2) (tNil))) (tC (.str (":" : Str)))) (gName 3)) (
    tSeq (tFor (iRng1 (tCons (tCB (rLenG c.K) (tCons (tOp (rIx c.K) (tVar 0) (tC (.int 0))) (tNil))) (tNil))) (gName 4) (tAsg (tOp rAddS2 (tOp rAddS2 (tOp rAddS2 (tVar 3) (tC (.str (" " : Str)))) (tCB rStrI (tCons (tOp (rIx c.K) (tOp (rIx c.K) (tOp (rIx c.K) (tVar 0) (tC (.int 1))) (tVar 2)) (tVar 4)) (tNil)))) (tOp rMulS (tC (.str ("*" : Str))) (tCB rInt1 (tCons (tOp (rIx c.K) (tOp (rIx c.K) (tOp (rIx c.K) (tVar 0) (tC (.int 2))) (tVar 2)) (tVar 4)) (tNil))))) (gName 3))) (
    tDrop (tBM c.K "list" rAppend (tVar 1) (tCons (tVar 3) (tNil))))))) (
    tRet (tM1 (rJoin c.K) (tC (.str ("\n" : Str))) (tVar 1))))
def t_law_good (c : Ct) : TS := tSeq (tAsg (tOp (rIx c.K) (tCall (SpF c x_law_lap) [] E0 (tCons (tVar 0) (tCons (tVar 1) (tCons (tVar 2) (tNil))))) (tC (.int 0))) (gName 1)) (
    tSeq (tFor (iRng1 (tCons (tCB (rLenG c.K) (tCons (tOp (rIx c.K) (tVar 0) (tC (.int 1))) (tNil))) (tNil))) (gName 4) (tAsg (tOp (rIx c.K) (tCall (SpF c x_law_lap) [] E0 (tCons (tVar 0) (tCons (tVar 1) (tCons (tVar 3) (tNil))))) (tC (.int 0))) (gName 1))) (
    tSeq (tAsg (tC (.bl false)) (gName 5)) (
    tSeq (tFor (iRng1 (tCons (tCB (rLenG c.K) (tCons (tOp (rIx c.K) (tVar 0) (tC (.int 1))) (tNil))) (tNil))) (gName 4) (tSeq (tAsg (tCall (SpF c x_law_lap) [] E0 (tCons (tVar 0) (tCons (tVar 1) (tCons (tVar 3) (tNil))))) (gName 6)) (
    tSeq (tAsg (tOp (rIx c.K) (tVar 6) (tC (.int 0))) (gName 1)) (
    tAsg (tOrV (tVar 5) (tOp (rIx c.K) (tVar 6) (tC (.int 1)))) (gName 5))))) (
    tRet (tVar 5)))))
def t_Wish_contains (c : Ct) : TS := tSeq (tAsg (tVar 1) (gTup c.K 2 (gCons (gName 5) (gCons (gName 6) (gNil))))) (
    tSeq (tIfS (tTest (tOp rEq (tVar 6) (tC (.str ("" : Str))))) (tNever) (tNext)) (
    tSeq (tAsg (tMeth (c.cn "Wish") "reach" (SpF c x_Wish_reach) [] E0 (tVar 0) (tCons (tVar 5) (tNil))) (gName 2)) (
    tSeq (tAsg (tC (.bl false)) (gName 3)) (
    tSeq (tFor (iRng1 (tCons (tOp (rI CMul fun i j => .int (i * j)) (tC (.int 2)) (tFld c.K (tVar 0) ("size" : Str))) (tNil))) (gName 4) (tSeq (tAsg (tMeth (c.cn "Wish") "lap" (SpF c x_Wish_lap) [] E0 (tVar 0) (tCons (tVar 2) (tCons (tVar 6) (tNil)))) (gTup c.K 2 (gCons (gName 2) (gCons (gName 7) (gNil))))) (
    tAsg (tOrV (tVar 3) (tAndV (tVar 7) (tOp (rI0 fun i j => .bl (decide (j ≤ i))) (tVar 4) (tFld c.K (tVar 0) ("size" : Str))))) (gName 3)))) (
    tRet (tVar 3))))))
def t_Wish_remark (c : Ct) : TS := sFld c.K (tVar 0) (tCall (SpF c x_flag_table) [] E0 (tCons (tFld c.K (tVar 0) ("letters" : Str)) (tCons (tFld c.K (tVar 0) ("size" : Str)) (tCons (tVar 1) (tNil))))) ("flags" : Str)
def t_Wish_column (c : Ct) : TS := tSeq (tAsg (tCB rListT (tCons (tFld c.K (tVar 0) ("letters" : Str)) (tNil))) (gName 3)) (
    tSeq (tIfS (tOr (tNot (tTest (tChain (rI0 fun i j => .bl (decide (i ≤ j))) (rI0 fun i j => .bl (decide (i < j))) (tC (.int 0)) (tVar 1) (tFld c.K (tVar 0) ("size" : Str))))) (tTest (tOp (rIn c.K true) (tVar 2) (tVar 3)))) (tNever) (tNext)) (
    tRet (tBM c.K "list" (rIndex c.K) (tVar 3) (tCons (tVar 2) (tNil)))))
def t_Wish_setitem (c : Ct) : TS := tSeq (tAsg (tVar 1) (gTup c.K 2 (gCons (gName 4) (gCons (gName 5) (gNil))))) (
    tSeq (tAsg (tMeth (c.cn "Wish") "column" (SpF c x_Wish_column) [] E0 (tVar 0) (tCons (tVar 4) (tCons (tVar 5) (tNil)))) (gName 3)) (
    tSeq (tIfS (tNot (tTest (tChain (rI0 fun i j => .bl (decide (i ≤ j))) (rI0 fun i j => .bl (decide (i < j))) (tC (.int 0)) (tVar 2) (tFld c.K (tVar 0) ("size" : Str))))) (tNever) (tNext)) (
    tAsg (tVar 2) (gSub (tOp (rIx c.K) (tFld c.K (tVar 0) ("targets" : Str)) (tVar 4)) (tVar 3) rSetL))))
def t_law (c : Ct) : TS := tSeq (tAsg (tCall (SpF c x_law_machine) [] E0 (tCons (tCall (SpF c x_law_draws) [] E0 (tCons (tVar 0) (tCons (tC (.int 0)) (tCons (tC (.int 51)) (tNil))))) (tCons (tC (.int 8)) (tNil)))) (gName 1)) (
    tSeq (tAsg (tCall (SpF c x_law_made) [] E0 (tCons (tVar 1) (tNil))) (gName 2)) (
    tSeq (tAsg (tCall (SpF c x_law_word) [] E0 (tCons (tCall (SpF c x_law_draws) [] E0 (tCons (tVar 0) (tCons (tC (.int 1)) (tCons (tC (.int 21)) (tNil))))) (tCons (tOp (rIx c.K) (tVar 1) (tC (.int 0))) (tCons (tC (.int 20)) (tNil))))) (gName 3)) (
    tSeq (tAsg (tCall (SpF c x_law_word) [] E0 (tCons (tCall (SpF c x_law_draws) [] E0 (tCons (tVar 0) (tCons (tC (.int 2)) (tCons (tC (.int 21)) (tNil))))) (tCons (tOp (rIx c.K) (tVar 1) (tC (.int 0))) (tCons (tC (.int 20)) (tNil))))) (gName 4)) (
    tSeq (tAsg (tCall (SpF c x_law_draws) [] E0 (tCons (tVar 0) (tCons (tC (.int 3)) (tCons (tC (.int 12)) (tNil))))) (gName 5)) (
    tSeq (tAsg (tOp rAddS2 (tOp (rIx c.K) (tOp (rIx c.K) (tVar 1) (tC (.int 0))) (tOp (rI (fun _ j => 0 < j) fun i j => .int (i % j)) (tCB rInt1 (tCons (tOp (rIx c.K) (tVar 5) (tC (.int 11))) (tNil))) (tCB (rLenG c.K) (tCons (tOp (rIx c.K) (tVar 1) (tC (.int 0))) (tNil))))) (tCall (SpF c x_law_word) [] E0 (tCons (tVar 5) (tCons (tOp (rIx c.K) (tVar 1) (tC (.int 0))) (tCons (tC (.int 9)) (tNil)))))) (gName 6)) (
    tSeq (tAsg (tOp (rIx c.K) (tCall (SpF c x_law_lap) [] E0 (tCons (tVar 1) (tCons (tOp (rIx c.K) (tVar 1) (tC (.int 3))) (tCons (tVar 3) (tNil))))) (tC (.int 0))) (gName 7)) (
    tSeq (tAsg (tOp (rIx c.K) (tCall (SpF c x_law_lap) [] E0 (tCons (tVar 1) (tCons (tVar 7) (tCons (tVar 4) (tNil))))) (tC (.int 0))) (gName 8)) (
    tSeq (tAsg (tOp (rBinOwnS (c.cn "Wish") (SpF c x_Wish_rshift)) (tVar 2) (tVar 3)) (gName 9)) (
    tSeq (tAsg (tOp (rBinOwnS (c.cn "Wish") (SpF c x_Wish_rshift)) (tVar 9) (tVar 4)) (gName 10)) (
    tSeq (tIfS (tOr (tTest (tOp rNe (tMeth (c.cn "Wish") "text" (SpF c x_Wish_text) [] E0 (tVar 9) tNil) (tCall (SpF c x_law_text) [] E0 (tCons (tLst (tCons (tOp (rIx c.K) (tVar 1) (tC (.int 0))) (tCons (tOp (rIx c.K) (tVar 1) (tC (.int 1))) (tCons (tOp (rIx c.K) (tVar 1) (tC (.int 2))) (tCons (tVar 7) (tNil)))))) (tNil))))) (tTest (tOp rNe (tMeth (c.cn "Wish") "text" (SpF c x_Wish_text) [] E0 (tVar 2) tNil) (tCall (SpF c x_law_text) [] E0 (tCons (tVar 1) (tNil)))))) (tRet (tC (.bl false))) (tNext)) (
    tSeq (tIfS (tOr (tTest (tOp rNe (tMeth (c.cn "Wish") "text" (SpF c x_Wish_text) [] E0 (tVar 10) tNil) (tCall (SpF c x_law_text) [] E0 (tCons (tLst (tCons (tOp (rIx c.K) (tVar 1) (tC (.int 0))) (tCons (tOp (rIx c.K) (tVar 1) (tC (.int 1))) (tCons (tOp (rIx c.K) (tVar 1) (tC (.int 2))) (tCons (tVar 8) (tNil)))))) (tNil))))) (tTest (tOp rNe (tMeth (c.cn "Wish") "text" (SpF c x_Wish_text) [] E0 (tOp (rBinOwnS (c.cn "Wish") (SpF c x_Wish_rshift)) (tVar 2) (tOp rAddS2 (tVar 3) (tVar 4))) tNil) (tMeth (c.cn "Wish") "text" (SpF c x_Wish_text) [] E0 (tVar 10) tNil)))) (tRet (tC (.bl false))) (tNext)) (
    tSeq (tAsg (tSl rSlS (tOp rMulS (tOp rAddS2 (tVar 3) (tOp (rIx c.K) (tVar 1) (tC (.int 0)))) (tC (.int 300))) (tNoPart) (tPart (tC (.int 300)))) (gName 11)) (
    tSeq (tIfS (tTest (tOp rNe (tMeth (c.cn "Wish") "text" (SpF c x_Wish_text) [] E0 (tOp (rBinOwnS (c.cn "Wish") (SpF c x_Wish_rshift)) (tVar 2) (tVar 11)) tNil) (tCall (SpF c x_law_text) [] E0 (tCons (tLst (tCons (tOp (rIx c.K) (tVar 1) (tC (.int 0))) (tCons (tOp (rIx c.K) (tVar 1) (tC (.int 1))) (tCons (tOp (rIx c.K) (tVar 1) (tC (.int 2))) (tCons (tOp (rIx c.K) (tCall (SpF c x_law_lap) [] E0 (tCons (tVar 1) (tCons (tOp (rIx c.K) (tVar 1) (tC (.int 3))) (tCons (tVar 11) (tNil))))) (tC (.int 0))) (tNil)))))) (tNil))))) (tRet (tC (.bl false))) (tNext)) (
    tSeq (tAsg (tCall (SpF c x_law_good) [] E0 (tCons (tVar 1) (tCons (tVar 8) (tCons (tC (.str ("" : Str))) (tCons (tVar 6) (tNil)))))) (gName 12)) (
    tSeq (tIfS (tOr (tTest (tOp rNe (tInOwn (c.cn "Wish") (SpF c x_Wish_contains) (tTup (tCons (tC (.str ("" : Str))) (tCons (tVar 6) (tNil)))) (tVar 10)) (tVar 12))) (tTest (tOp rNe (tInOwn (c.cn "Wish") (SpF c x_Wish_contains) (tTup (tCons (tVar 4) (tCons (tVar 6) (tNil)))) (tVar 9)) (tVar 12)))) (tRet (tC (.bl false))) (tNext)) (
    tSeq (tIfS (tOr (tTest (tOp rNe (tInOwn (c.cn "Wish") (SpF c x_Wish_contains) (tTup (tCons (tOp rAddS2 (tVar 3) (tVar 4)) (tCons (tVar 6) (tNil)))) (tVar 2)) (tVar 12))) (tTest (tOp rNe (tInOwn (c.cn "Wish") (SpF c x_Wish_contains) (tTup (tCons (tC (.str ("" : Str))) (tCons (tOp rAddS2 (tVar 6) (tVar 6)) (tNil)))) (tVar 9)) (tCall (SpF c x_law_good) [] E0 (tCons (tVar 1) (tCons (tVar 7) (tCons (tC (.str ("" : Str))) (tCons (tVar 6) (tNil))))))))) (tRet (tC (.bl false))) (tNext)) (
    tSeq (tDrop (tMeth (c.cn "Wish") "remark" (SpF c x_Wish_remark) [] E0 (tVar 9) (tCons (tLc (iRng1 (tCons (tCB (rLenG c.K) (tCons (tOp (rIx c.K) (tVar 1) (tC (.int 1))) (tNil))) (tNil))) (gName 14) (tNot (tB (tOp (rIx c.K) (tOp (rIx c.K) (tOp (rIx c.K) (tVar 1) (tC (.int 2))) (tVar 14)) (tC (.int 0))))) (tTup (tCons (tVar 14) (tCons (tC (.str ("a" : Str))) (tNil)))) [14]) (tNil)))) (
    tSeq (tAsg (tOp (rI0 fun i j => .int (i - j)) (tCB (rLenG c.K) (tCons (tOp (rIx c.K) (tVar 1) (tC (.int 1))) (tNil))) (tC (.int 1))) (gSub (tVar 10) (tTup (tCons (tOp (rIx c.K) (tVar 1) (tC (.int 3))) (tCons (tC (.str ("a" : Str))) (tNil)))) (rSetOwn (c.cn "Wish") (SpF c x_Wish_setitem)))) (
    tSeq (tIfS (tOr (tTest (tOp rNe (tMeth (c.cn "Wish") "text" (SpF c x_Wish_text) [] E0 (tVar 2) tNil) (tCall (SpF c x_law_text) [] E0 (tCons (tVar 1) (tNil))))) (tTest (tOp rNe (tMeth (c.cn "Wish") "text" (SpF c x_Wish_text) [] E0 (tOp (rBinOwnS (c.cn "Wish") (SpF c x_Wish_rshift)) (tVar 2) (tVar 3)) tNil) (tCall (SpF c x_law_text) [] E0 (tCons (tLst (tCons (tOp (rIx c.K) (tVar 1) (tC (.int 0))) (tCons (tOp (rIx c.K) (tVar 1) (tC (.int 1))) (tCons (tOp (rIx c.K) (tVar 1) (tC (.int 2))) (tCons (tVar 7) (tNil)))))) (tNil)))))) (tRet (tC (.bl false))) (tNext)) (
    tSeq (tAsg (tMeth (c.cn "Wish") "text" (SpF c x_Wish_text) [] E0 (tVar 9) tNil) (gName 13)) (
    tSeq (tDrop (tMeth (c.cn "Wish") "remark" (SpF c x_Wish_remark) [] E0 (tVar 2) (tCons (tLst (tNil)) (tNil)))) (
    tSeq (tAsg (tC (.int 0)) (gSub (tVar 2) (tTup (tCons (tC (.int 0)) (tCons (tC (.str ("a" : Str))) (tNil)))) (rSetOwn (c.cn "Wish") (SpF c x_Wish_setitem)))) (
    tRet (tAndV (tOp rEq (tMeth (c.cn "Wish") "text" (SpF c x_Wish_text) [] E0 (tVar 9) tNil) (tVar 13)) (tOp rEq (tMeth (c.cn "Wish") "text" (SpF c x_Wish_text) [] E0 (tOp (rBinOwnS (c.cn "Wish") (SpF c x_Wish_rshift)) (tVar 2) (tC (.str ("" : Str)))) tNil) (tMeth (c.cn "Wish") "text" (SpF c x_Wish_text) [] E0 (tVar 2) tNil))))))))))))))))))))))))))
theorem snd_x_law_draws {c : Ct} {W : WX} (k : Kc c) : SndS c W (t_law_draws c) x_law_draws_b := by
  unfold t_law_draws x_law_draws_b
  exact snd_imm (snd_seq (snd_ifS (snd_test (snd_op rl_eqD (snd_var) (snd_lst (snd_nil)))) (snd_ret (snd_lc (snd_r1 (snd_cons (snd_var) (snd_nil))) (snd_gname) (snd_yes) (snd_ofz (snd_c)) (by decide))) (snd_next)) (
    snd_seq (snd_asg (snd_cb rl_int (snd_cons (snd_ix (snd_var) (snd_op rl_mod (snd_cb rl_int (snd_cons (snd_var) (snd_nil))) (snd_cb rl_len (snd_cons (snd_var) (snd_nil))))) (snd_nil))) snd_gname) (
    snd_cut (snd_ifS (snd_test (snd_op rl_I0 (snd_var) (snd_cb rl_len (snd_cons (snd_var) (snd_nil))))) (snd_asg (snd_op rl_I0 (snd_op rl_mod (snd_var) (snd_c)) (snd_op rl_mul (snd_c) (snd_var))) snd_gname) (snd_next)) (
    snd_seq (snd_asg (snd_cb rl_abs (snd_cons (snd_var) (snd_nil))) snd_gname) (
    snd_seq (snd_asgO (snd_olst (snd_nil))) (
    snd_seq (snd_kb (snd_for (snd_r1 (snd_cons (snd_var) (snd_nil))) (snd_gname) (snd_kill (snd_kill (snd_ifS (snd_test (snd_op rl_I0 (snd_cb rl_abs (snd_cons (snd_var) (snd_nil))) (snd_op rl_pow (snd_c) (snd_c)))) (snd_seq (snd_app (snd_pvar) (snd_ofz (snd_op rl_mod (snd_var) (snd_c)))) (
    snd_asg (snd_op rl_div (snd_var) (snd_c)) snd_gname)) (snd_seq (snd_asg (snd_op rl_mod (snd_op rl_I0 (snd_op rl_I0 (snd_op rl_mul (snd_op rl_mod (snd_var) (snd_c)) (snd_c)) (snd_op rl_mul (snd_var) (snd_c))) (snd_c)) (snd_c)) snd_gname) (
    snd_app (snd_pvar) (snd_ofz (snd_op rl_mod (snd_op rl_mod (snd_op rl_I0 (snd_op rl_I0 (snd_op rl_mul (snd_op rl_mul (snd_c) (snd_var)) (snd_var)) (snd_var)) (snd_c)) (snd_c)) (snd_c)))))))))) (
    snd_ret (snd_ovar))))))))
theorem snd_x_law_machine {c : Ct} {W : WX} (k : Kc c) : SndS c W (t_law_machine c) x_law_machine_b := by
  unfold t_law_machine x_law_machine_b
  exact snd_imm (snd_seq (snd_asg (snd_op rl_I0 (snd_c) (snd_op rl_mod (snd_cb rl_int (snd_cons (snd_ix (snd_var) (snd_c)) (snd_nil))) (snd_cb rl_min (snd_cons (snd_cb rl_int (snd_cons (snd_var) (snd_nil))) (snd_cons (snd_ix (snd_lst (snd_cons (snd_c) (snd_cons (snd_c) (snd_cons (snd_c) (snd_cons (snd_c) (snd_nil)))))) (snd_op rl_mod (snd_op rl_div (snd_cb rl_int (snd_cons (snd_ix (snd_var) (snd_c)) (snd_nil))) (snd_c)) (snd_c))) (snd_nil)))))) snd_gname) (
    snd_seq (snd_asg (snd_op rl_I0 (snd_c) (snd_op rl_mod (snd_cb rl_int (snd_cons (snd_ix (snd_var) (snd_c)) (snd_nil))) (snd_c))) snd_gname) (
    snd_seq (snd_asg (snd_op rl_mod (snd_cb rl_int (snd_cons (snd_ix (snd_var) (snd_c)) (snd_nil))) (snd_c)) snd_gname) (
    snd_seq (snd_asg (snd_op rl_mod (snd_op rl_div (snd_cb rl_int (snd_cons (snd_ix (snd_var) (snd_c)) (snd_nil))) (snd_c)) (snd_c)) snd_gname) (
    snd_seq (snd_asgO (snd_olst (snd_nil))) (
    snd_seq (snd_asgO (snd_olst (snd_nil))) (
    snd_seq (snd_kb (snd_for (snd_r1 (snd_cons (snd_var) (snd_nil))) (snd_gname) (snd_kill (snd_seq (snd_asg (snd_fz (snd_lc (snd_r1 (snd_cons (snd_var) (snd_nil))) (snd_gname) (snd_yes) (snd_ofz (snd_cb rl_int (snd_cons (snd_ix (snd_var) (snd_op rl_I0 (snd_op rl_I0 (snd_c) (snd_op rl_mul (snd_c) (snd_var))) (snd_var))) (snd_nil)))) (by decide))) snd_gname) (
    snd_seq (snd_app (snd_pvar) (snd_lc (snd_li (snd_var)) (snd_gname) (snd_yes) (snd_ofz (snd_op rl_mod (snd_cb rl_int (snd_cons (snd_var) (snd_nil))) (snd_var))) (by decide))) (
    snd_app (snd_pvar) (snd_lc (snd_li (snd_var)) (snd_gname) (snd_yes) (snd_ofz (snd_op rl_I0 (snd_op rl_div (snd_var) (snd_c)) (snd_var))) (by decide)))))))) (
    snd_seq (snd_kb (snd_for (snd_r1 (snd_cons (snd_var) (snd_nil))) (snd_gname) (snd_kill (snd_seq (snd_asg (snd_fz (snd_sorted (snd_cons (snd_fz (snd_lc (snd_r1 (snd_cons (snd_var) (snd_nil))) (snd_gname) (snd_yes) (snd_ofz (snd_cb rl_int (snd_cons (snd_ix (snd_ix (snd_var) (snd_var)) (snd_var)) (snd_nil)))) (by decide))) (snd_nil)))) snd_gname) (
    snd_seq (snd_asg (snd_op rl_mod (snd_cb rl_int (snd_cons (snd_ix (snd_var) (snd_op rl_I0 (snd_c) (snd_var))) (snd_nil))) (snd_op rl_I0 (snd_var) (snd_c))) snd_gname) (
    snd_seq (snd_kb (snd_for (snd_r1 (snd_cons (snd_var) (snd_nil))) (snd_gname) (snd_kill (snd_ifS (snd_and (snd_test (snd_op rl_ne (snd_var) (snd_c))) (snd_test (snd_op rl_I0 (snd_ix (snd_var) (snd_var)) (snd_var)))) (snd_asg (snd_cb rl_min (snd_cons (snd_cb rl_int (snd_cons (snd_var) (snd_nil))) (snd_cons (snd_var) (snd_nil)))) snd_gname) (snd_next))))) (
    snd_kb (snd_for (snd_r1 (snd_cons (snd_var) (snd_nil))) (snd_gname) (snd_kill (snd_ifS (snd_test (snd_op rl_I0 (snd_var) (snd_c))) (snd_seq (snd_setIx (snd_pix (snd_pvar) (snd_var)) (snd_var) (snd_ofz (snd_ix (snd_var) (snd_var)))) (
    snd_setIx (snd_pix (snd_pvar) (snd_var)) (snd_var) (snd_ofz (snd_op rl_I0 (snd_var) (snd_var))))) (snd_next))))))))))) (
    snd_seq (snd_asg (snd_op rl_mod (snd_cb rl_int (snd_cons (snd_ix (snd_var) (snd_c)) (snd_nil))) (snd_var)) snd_gname) (
    snd_seq (snd_asg (snd_op rl_mod (snd_cb rl_int (snd_cons (snd_ix (snd_var) (snd_c)) (snd_nil))) (snd_var)) snd_gname) (
    snd_cut (snd_ifS (snd_and (snd_test (snd_op rl_eq (snd_var) (snd_c))) (snd_test (snd_op rl_eq (snd_op rl_mod (snd_cb rl_int (snd_cons (snd_ix (snd_var) (snd_c)) (snd_nil))) (snd_c)) (snd_c)))) (snd_setIx (snd_pix (snd_pvar) (snd_var)) (snd_var) (snd_ofz (snd_notV (snd_ix (snd_ix (snd_var) (snd_var)) (snd_var))))) (snd_next)) (
    snd_cut (snd_ifS (snd_and (snd_test (snd_op rl_eq (snd_var) (snd_c))) (snd_test (snd_op rl_eq (snd_op rl_mod (snd_cb rl_int (snd_cons (snd_ix (snd_var) (snd_c)) (snd_nil))) (snd_c)) (snd_c)))) (snd_setIx (snd_pix (snd_pvar) (snd_var)) (snd_var) (snd_ofz (snd_op rl_mod (snd_op rl_div (snd_cb rl_int (snd_cons (snd_ix (snd_var) (snd_c)) (snd_nil))) (snd_c)) (snd_var)))) (snd_next)) (
    snd_seq (snd_asgO (snd_listRg (snd_var))) (
    snd_seq (snd_kb (snd_for (snd_r1 (snd_cons (snd_var) (snd_nil))) (snd_gname) (snd_kill (snd_seq (snd_asg (snd_op rl_I0 (snd_var) (snd_op rl_mod (snd_cb rl_int (snd_cons (snd_ix (snd_var) (snd_op rl_I0 (snd_c) (snd_var))) (snd_nil))) (snd_op rl_I0 (snd_var) (snd_var)))) snd_gname) (
    snd_seq (snd_asg (snd_ix (snd_var) (snd_var)) snd_gname) (
    snd_seq (snd_setIx (snd_pvar) (snd_var) (snd_ofz (snd_ix (snd_var) (snd_var)))) (
    snd_setIx (snd_pvar) (snd_var) (snd_ofz (snd_var))))))))) (
    snd_seq (snd_asg (snd_fz (snd_lc (snd_r1 (snd_cons (snd_var) (snd_nil))) (snd_gname) (snd_yes) (snd_ofz (snd_indexL (snd_var) (snd_cons (snd_var) (snd_nil)))) (by decide))) snd_gname) (
    snd_seq (snd_asg (snd_fz (snd_lc (snd_r1 (snd_cons (snd_var) (snd_nil))) (snd_gname) (snd_yes) (snd_lc (snd_li (snd_ix (snd_var) (snd_ix (snd_var) (snd_var)))) (snd_gname) (snd_yes) (snd_ofz (snd_ix (snd_var) (snd_var))) (by decide)) (by decide))) snd_gname) (
    snd_seq (snd_asg (snd_fz (snd_lc (snd_r1 (snd_cons (snd_var) (snd_nil))) (snd_gname) (snd_yes) (snd_listOf (snd_cons (snd_ix (snd_var) (snd_ix (snd_var) (snd_var))) (snd_nil))) (by decide))) snd_gname) (
    snd_ret (snd_olst (snd_cons (snd_slS (snd_c) (snd_zno) (snd_zsome (snd_var))) (snd_cons (snd_var) (snd_cons (snd_var) (snd_cons (snd_ix (snd_var) (snd_op rl_mod (snd_cb rl_int (snd_cons (snd_ix (snd_var) (snd_c)) (snd_nil))) (snd_var))) (snd_nil))))))))))))))))))))))))
theorem snd_x_law_pairs {c : Ct} {W : WX} (k : Kc c) : SndS c W (t_law_pairs c) x_law_pairs_b := by
  unfold t_law_pairs x_law_pairs_b
  exact snd_seq (snd_asgO (snd_olst (snd_nil))) (
    snd_seq (snd_kb (snd_for (snd_r1 (snd_cons (snd_cb rl_len (snd_cons (snd_ix (snd_var) (snd_c)) (snd_nil))) (snd_nil))) (snd_gname) (snd_kill (snd_kb (snd_for (snd_r1 (snd_cons (snd_cb rl_len (snd_cons (snd_ix (snd_var) (snd_c)) (snd_nil))) (snd_nil))) (snd_gname) (snd_kill (snd_ifS (snd_B (snd_ix (snd_ix (snd_ix (snd_var) (snd_c)) (snd_var)) (snd_var))) (snd_app (snd_pvar) (snd_ofz (snd_tup (snd_cons (snd_var) (snd_cons (snd_ix (snd_ix (snd_var) (snd_c)) (snd_var)) (snd_nil)))))) (snd_next)))))))) (
    snd_ret (snd_ovar)))
theorem snd_x_flag_table {c : Ct} {W : WX} (k : Kc c) : SndS c W (t_flag_table c) x_flag_table_b := by
  unfold t_flag_table x_flag_table_b
  exact snd_imm (snd_seq (snd_asg (snd_fz (snd_listT (snd_cons (snd_var) (snd_nil)))) snd_gname) (
    snd_seq (snd_asgO (snd_dnewT)) (
    snd_seq (snd_kb (snd_for (snd_li (snd_var)) (snd_gtup (snd_gcons (snd_gname) (snd_gcons (snd_gname) (snd_gnil)))) (snd_kill (snd_seq (snd_ifS (snd_or (snd_not (snd_test (snd_chain rl_I0 rl_I0 (snd_c) (snd_var) (snd_var)))) (snd_test (snd_op rl_in (snd_var) (snd_var)))) (snd_never) (snd_next)) (
    snd_dput (snd_pvar) (snd_tup (snd_cons (snd_var) (snd_cons (snd_var) (snd_nil)))) (snd_ofz (snd_c))))))) (
    snd_ret (snd_lc (snd_r1 (snd_cons (snd_var) (snd_nil))) (snd_gname) (snd_yes) (snd_lc (snd_li (snd_var)) (snd_gname) (snd_yes) (snd_ofz (snd_din (snd_tup (snd_cons (snd_var) (snd_cons (snd_var) (snd_nil)))) (snd_var))) (by decide)) (by decide))))))
theorem snd_x_Wish_init {c : Ct} {W : WX} (k : Kc c) : SndS c W (t_Wish_init c) x_Wish_init_b := by
  unfold t_Wish_init x_Wish_init_b
  exact snd_imm (snd_seq (snd_asg (snd_cb rl_len (snd_cons (snd_var) (snd_nil))) snd_gname) (
    snd_seq (snd_ifS (snd_or (snd_test (snd_op rl_in (snd_var) (snd_tk k.k_ALPHABETS))) (snd_or (snd_not (snd_test (snd_chain rl_I0 rl_I0 (snd_c) (snd_var) (snd_c)))) (snd_not (snd_test (snd_chain rl_I0 rl_I0 (snd_c) (snd_var) (snd_var)))))) (snd_never) (snd_next)) (
    snd_seq (snd_kb (snd_for (snd_li (snd_var)) (snd_gname) (snd_kill (snd_seq (snd_ifS (snd_test (snd_op rl_ne (snd_cb rl_len (snd_cons (snd_var) (snd_nil))) (snd_cb rl_len (snd_cons (snd_var) (snd_nil))))) (snd_never) (snd_next)) (
    snd_kb (snd_for (snd_li (snd_var)) (snd_gname) (snd_kill (snd_ifS (snd_not (snd_test (snd_chain rl_I0 rl_I0 (snd_c) (snd_var) (snd_var)))) (snd_never) (snd_next))))))))) (
    snd_seq (snd_fldS k.cl_Wish k.n_Wish_flags (snd_pvar) (snd_call (snd_cons (snd_var) (snd_cons (snd_var) (snd_cons (snd_var) (snd_nil)))))) (
    snd_seq (snd_fldS k.cl_Wish k.n_Wish_letters (snd_pvar) (snd_ofz (snd_var))) (
    snd_seq (snd_fldS k.cl_Wish k.n_Wish_size (snd_pvar) (snd_ofz (snd_var))) (
    snd_seq (snd_fldS k.cl_Wish k.n_Wish_start (snd_pvar) (snd_ofz (snd_var))) (
    snd_fldS k.cl_Wish k.n_Wish_targets (snd_pvar) (snd_lc (snd_li (snd_var)) (snd_gname) (snd_yes) (snd_listOf (snd_cons (snd_var) (snd_nil))) (by decide))))))))))
theorem snd_x_law_made {c : Ct} {W : WX} (k : Kc c) : SndS c W (t_law_made c) x_law_made_b := by
  unfold t_law_made x_law_made_b
  exact snd_ret (snd_makeK (snd_cons (snd_ix (snd_var) (snd_c)) (snd_cons (snd_fz (snd_lc (snd_li (snd_ix (snd_var) (snd_c))) (snd_gname) (snd_yes) (snd_listOf (snd_cons (snd_var) (snd_nil))) (by decide))) (snd_cons (snd_fz (snd_call (snd_cons (snd_var) (snd_nil)))) (snd_nil)))) (snd_cons (snd_ix (snd_var) (snd_c)) (snd_nil)))
theorem snd_x_law_word {c : Ct} {W : WX} (k : Kc c) : SndS c W (t_law_word c) x_law_word_b := by
  unfold t_law_word x_law_word_b
  exact snd_imm (snd_seq (snd_asg (snd_op rl_mod (snd_cb rl_int (snd_cons (snd_ix (snd_var) (snd_c)) (snd_nil))) (snd_op rl_I0 (snd_var) (snd_c))) snd_gname) (
    snd_ret (snd_ofz (snd_join (snd_c) (snd_fz (snd_lc (snd_r1 (snd_cons (snd_var) (snd_nil))) (snd_gname) (snd_yes) (snd_ofz (snd_ix (snd_var) (snd_op rl_mod (snd_cb rl_int (snd_cons (snd_ix (snd_var) (snd_op rl_I0 (snd_c) (snd_var))) (snd_nil))) (snd_cb rl_len (snd_cons (snd_var) (snd_nil)))))) (by decide)))))))
theorem snd_x_law_lap {c : Ct} {W : WX} (k : Kc c) : SndS c W (t_law_lap c) x_law_lap_b := by
  unfold t_law_lap x_law_lap_b
  exact snd_imm (snd_seq (snd_asg (snd_c) snd_gname) (
    snd_seq (snd_kb (snd_for (snd_st (snd_var)) (snd_gname) (snd_kill (snd_seq (snd_asg (snd_indexS (snd_c) (snd_cons (snd_var) (snd_nil))) snd_gname) (
    snd_seq (snd_asg (snd_orV (snd_var) (snd_ix (snd_ix (snd_ix (snd_var) (snd_c)) (snd_var)) (snd_var))) snd_gname) (
    snd_asg (snd_ix (snd_ix (snd_ix (snd_var) (snd_c)) (snd_var)) (snd_var)) snd_gname)))))) (
    snd_ret (snd_olst (snd_cons (snd_var) (snd_cons (snd_var) (snd_nil)))))))
theorem snd_x_Wish_marks {c : Ct} {W : WX} (k : Kc c) : SndS c W (t_Wish_marks c) x_Wish_marks_b := by
  unfold t_Wish_marks x_Wish_marks_b
  exact snd_seq (snd_asg (snd_fz (snd_enumS (snd_fld k.cl_Wish k.n_Wish_letters (snd_var)))) snd_gname) (
    snd_ret (snd_lc2 (snd_r1 (snd_cons (snd_fld k.cl_Wish k.n_Wish_size (snd_var)) (snd_nil))) (snd_gname) (snd_yes) (snd_li (snd_var)) (snd_gtup (snd_gcons (snd_gname) (snd_gcons (snd_gname) (snd_gnil)))) (snd_B (snd_ix (snd_ix (snd_fld k.cl_Wish k.n_Wish_flags (snd_var)) (snd_var)) (snd_var))) (snd_ofz (snd_tup (snd_cons (snd_var) (snd_cons (snd_var) (snd_nil))))) (by decide) (by decide)))
theorem snd_x_Wish_lap {c : Ct} {W : WX} (k : Kc c) : SndS c W (t_Wish_lap c) x_Wish_lap_b := by
  unfold t_Wish_lap x_Wish_lap_b
  exact snd_imm (snd_seq (snd_asg (snd_c) snd_gname) (
    snd_seq (snd_kb (snd_for (snd_st (snd_var)) (snd_gname) (snd_kill (snd_seq (snd_ifS (snd_test (snd_op rl_notInS (snd_var) (snd_fld k.cl_Wish k.n_Wish_letters (snd_var)))) (snd_never) (snd_next)) (
    snd_seq (snd_asg (snd_indexS (snd_fld k.cl_Wish k.n_Wish_letters (snd_var)) (snd_cons (snd_var) (snd_nil))) snd_gname) (
    snd_seq (snd_asg (snd_orV (snd_var) (snd_ix (snd_ix (snd_fld k.cl_Wish k.n_Wish_flags (snd_var)) (snd_var)) (snd_var))) snd_gname) (
    snd_asg (snd_ix (snd_ix (snd_fld k.cl_Wish k.n_Wish_targets (snd_var)) (snd_var)) (snd_var)) snd_gname))))))) (
    snd_ret (snd_ofz (snd_tup (snd_cons (snd_var) (snd_cons (snd_var) (snd_nil))))))))
theorem snd_x_Wish_reach {c : Ct} {W : WX} (k : Kc c) : SndS c W (t_Wish_reach c) x_Wish_reach_b := by
  unfold t_Wish_reach x_Wish_reach_b
  exact snd_imm (snd_ret (snd_ofz (snd_ix (snd_fz (snd_meth (snd_var) (snd_cons (snd_fld k.cl_Wish k.n_Wish_start (snd_var)) (snd_cons (snd_var) (snd_nil))))) (snd_c))))
theorem snd_x_Wish_rshift {c : Ct} {W : WX} (k : Kc c) : SndS c W (t_Wish_rshift c) x_Wish_rshift_b := by
  unfold t_Wish_rshift x_Wish_rshift_b
  exact snd_imm (snd_ret (snd_makeK (snd_cons (snd_fld k.cl_Wish k.n_Wish_letters (snd_var)) (snd_cons (snd_fld k.cl_Wish k.n_Wish_targets (snd_var)) (snd_cons (snd_fz (snd_prop (snd_var))) (snd_nil)))) (snd_cons (snd_fz (snd_meth (snd_var) (snd_cons (snd_var) (snd_nil)))) (snd_nil))))
theorem snd_x_Wish_text {c : Ct} {W : WX} (k : Kc c) : SndS c W (t_Wish_text c) x_Wish_text_b := by
  unfold t_Wish_text x_Wish_text_b
  exact snd_seq (snd_asgO (snd_olst (snd_cons (snd_op rl_addS (snd_c) (snd_fld k.cl_Wish k.n_Wish_letters (snd_var))) (snd_cons (snd_op rl_addS (snd_c) (snd_cb rl_str (snd_cons (snd_fld k.cl_Wish k.n_Wish_start (snd_var)) (snd_nil)))) (snd_nil))))) (
    snd_seq (snd_kb (snd_for (snd_r1 (snd_cons (snd_fld k.cl_Wish k.n_Wish_size (snd_var)) (snd_nil))) (snd_gname) (snd_kill (snd_seq (snd_asg (snd_op rl_addS (snd_cb rl_str (snd_cons (snd_var) (snd_nil))) (snd_c)) snd_gname) (
    snd_seq (snd_kb (snd_for (snd_zi (snd_cons (snd_ix (snd_fld k.cl_Wish k.n_Wish_targets (snd_var)) (snd_var)) (snd_cons (snd_ix (snd_fld k.cl_Wish k.n_Wish_flags (snd_var)) (snd_var)) (snd_nil)))) (snd_gtup (snd_gcons (snd_gname) (snd_gcons (snd_gname) (snd_gnil)))) (snd_kill (snd_aug rl_augS (snd_op rl_addS (snd_op rl_addS (snd_c) (snd_cb rl_str (snd_cons (snd_var) (snd_nil)))) (snd_op rl_mulS (snd_c) (snd_cb rl_int (snd_cons (snd_var) (snd_nil))))))))) (
    snd_app (snd_pvar) (snd_ofz (snd_var)))))))) (
    snd_ret (snd_ofz (snd_join (snd_c) (snd_var)))))
theorem snd_x_law_text {c : Ct} {W : WX} (k : Kc c) : SndS c W (t_law_text c) x_law_text_b := by
  unfold t_law_text x_law_text_b
  exact snd_seq (snd_asgO (snd_olst (snd_cons (snd_op rl_addS (snd_c) (snd_ix (snd_var) (snd_c))) (snd_cons (snd_op rl_addS (snd_c) (snd_cb rl_str (snd_cons (snd_ix (snd_var) (snd_c)) (snd_nil)))) (snd_nil))))) (
    snd_seq (snd_kb (snd_for (snd_r1 (snd_cons (snd_cb rl_len (snd_cons (snd_ix (snd_var) (snd_c)) (snd_nil))) (snd_nil))) (snd_gname) (snd_kill (snd_seq (snd_asg (snd_op rl_addS (snd_cb rl_str (snd_cons (snd_var) (snd_nil))) (snd_c)) snd_gname) (
    snd_seq (snd_kb (snd_for (snd_r1 (snd_cons (snd_cb rl_len (snd_cons (snd_ix (snd_var) (snd_c)) (snd_nil))) (snd_nil))) (snd_gname) (snd_kill (snd_asg (snd_op rl_addS (snd_op rl_addS (snd_op rl_addS (snd_var) (snd_c)) (snd_cb rl_str (snd_cons (snd_ix (snd_ix (snd_ix (snd_var) (snd_c)) (snd_var)) (snd_var)) (snd_nil)))) (snd_op rl_mulS (snd_c) (snd_cb rl_int (snd_cons (snd_ix (snd_ix (snd_ix (snd_var) (snd_c)) (snd_var)) (snd_var)) (snd_nil))))) snd_gname)))) (
    snd_app (snd_pvar) (snd_ofz (snd_var)))))))) (
    snd_ret (snd_ofz (snd_join (snd_c) (snd_var)))))
theorem snd_x_law_good {c : Ct} {W : WX} (k : Kc c) : SndS c W (t_law_good c) x_law_good_b := by
  unfold t_law_good x_law_good_b
  exact snd_imm (snd_seq (snd_asg (snd_ix (snd_fz (snd_call (snd_cons (snd_var) (snd_cons (snd_var) (snd_cons (snd_var) (snd_nil)))))) (snd_c)) snd_gname) (
    snd_seq (snd_kb (snd_for (snd_r1 (snd_cons (snd_cb rl_len (snd_cons (snd_ix (snd_var) (snd_c)) (snd_nil))) (snd_nil))) (snd_gname) (snd_kill (snd_asg (snd_ix (snd_fz (snd_call (snd_cons (snd_var) (snd_cons (snd_var) (snd_cons (snd_var) (snd_nil)))))) (snd_c)) snd_gname)))) (
    snd_seq (snd_asg (snd_c) snd_gname) (
    snd_seq (snd_kb (snd_for (snd_r1 (snd_cons (snd_cb rl_len (snd_cons (snd_ix (snd_var) (snd_c)) (snd_nil))) (snd_nil))) (snd_gname) (snd_kill (snd_seq (snd_asg (snd_fz (snd_call (snd_cons (snd_var) (snd_cons (snd_var) (snd_cons (snd_var) (snd_nil)))))) snd_gname) (
    snd_seq (snd_asg (snd_ix (snd_var) (snd_c)) snd_gname) (
    snd_asg (snd_orV (snd_var) (snd_ix (snd_var) (snd_c))) snd_gname)))))) (
    snd_ret (snd_ofz (snd_var)))))))
theorem snd_x_Wish_contains {c : Ct} {W : WX} (k : Kc c) : SndS c W (t_Wish_contains c) x_Wish_contains_b := by
  unfold t_Wish_contains x_Wish_contains_b
  exact snd_imm (snd_seq (snd_asg (snd_var) (snd_gtup (snd_gcons (snd_gname) (snd_gcons (snd_gname) (snd_gnil))))) (
    snd_seq (snd_ifS (snd_test (snd_op rl_eq (snd_var) (snd_c))) (snd_never) (snd_next)) (
    snd_seq (snd_asg (snd_fz (snd_meth (snd_var) (snd_cons (snd_var) (snd_nil)))) snd_gname) (
    snd_seq (snd_asg (snd_c) snd_gname) (
    snd_seq (snd_kb (snd_for (snd_r1 (snd_cons (snd_op rl_mul (snd_c) (snd_fld k.cl_Wish k.n_Wish_size (snd_var))) (snd_nil))) (snd_gname) (snd_kill (snd_seq (snd_asg (snd_fz (snd_meth (snd_var) (snd_cons (snd_var) (snd_cons (snd_var) (snd_nil))))) (snd_gtup (snd_gcons (snd_gname) (snd_gcons (snd_gname) (snd_gnil))))) (
    snd_asg (snd_orV (snd_var) (snd_andV (snd_var) (snd_op rl_I0 (snd_var) (snd_fld k.cl_Wish k.n_Wish_size (snd_var))))) snd_gname))))) (
    snd_ret (snd_ofz (snd_var))))))))
theorem snd_x_Wish_remark {c : Ct} {W : WX} (k : Kc c) : SndS c W (t_Wish_remark c) x_Wish_remark_b := by
  unfold t_Wish_remark x_Wish_remark_b
  exact snd_fldS k.cl_Wish k.n_Wish_flags (snd_pvar) (snd_call (snd_cons (snd_fld k.cl_Wish k.n_Wish_letters (snd_var)) (snd_cons (snd_fld k.cl_Wish k.n_Wish_size (snd_var)) (snd_cons (snd_var) (snd_nil)))))
theorem snd_x_Wish_column {c : Ct} {W : WX} (k : Kc c) : SndS c W (t_Wish_column c) x_Wish_column_b := by
  unfold t_Wish_column x_Wish_column_b
  exact snd_imm (snd_seq (snd_asg (snd_fz (snd_listT (snd_cons (snd_fld k.cl_Wish k.n_Wish_letters (snd_var)) (snd_nil)))) snd_gname) (
    snd_seq (snd_ifS (snd_or (snd_not (snd_test (snd_chain rl_I0 rl_I0 (snd_c) (snd_var) (snd_fld k.cl_Wish k.n_Wish_size (snd_var))))) (snd_test (snd_op rl_in (snd_var) (snd_var)))) (snd_never) (snd_next)) (
    snd_ret (snd_ofz (snd_indexL (snd_var) (snd_cons (snd_var) (snd_nil)))))))
theorem snd_x_Wish_setitem {c : Ct} {W : WX} (k : Kc c) : SndS c W (t_Wish_setitem c) x_Wish_setitem_b := by
  unfold t_Wish_setitem x_Wish_setitem_b
  exact snd_imm (snd_seq (snd_asg (snd_var) (snd_gtup (snd_gcons (snd_gname) (snd_gcons (snd_gname) (snd_gnil))))) (
    snd_seq (snd_asg (snd_fz (snd_meth (snd_var) (snd_cons (snd_var) (snd_cons (snd_var) (snd_nil))))) snd_gname) (
    snd_seq (snd_ifS (snd_not (snd_test (snd_chain rl_I0 rl_I0 (snd_c) (snd_var) (snd_fld k.cl_Wish k.n_Wish_size (snd_var))))) (snd_never) (snd_next)) (
    snd_setIx (snd_pix (snd_pfld k.cl_Wish k.n_Wish_targets (snd_pvar)) (snd_var)) (snd_var) (snd_ofz (snd_var))))))
theorem snd_x_law {c : Ct} {W : WX} (k : Kc c) : SndS c W (t_law c) x_law_b := by
  unfold t_law x_law_b
  exact snd_seq (snd_asg (snd_fz (snd_call (snd_cons (snd_fz (snd_call (snd_cons (snd_var) (snd_cons (snd_c) (snd_cons (snd_c) (snd_nil)))))) (snd_cons (snd_c) (snd_nil))))) snd_gname) (
    snd_seq (snd_asgO (snd_call (snd_cons (snd_var) (snd_nil)))) (
    snd_seq (snd_asg (snd_fz (snd_call (snd_cons (snd_fz (snd_call (snd_cons (snd_var) (snd_cons (snd_c) (snd_cons (snd_c) (snd_nil)))))) (snd_cons (snd_ix (snd_var) (snd_c)) (snd_cons (snd_c) (snd_nil)))))) snd_gname) (
    snd_seq (snd_asg (snd_fz (snd_call (snd_cons (snd_fz (snd_call (snd_cons (snd_var) (snd_cons (snd_c) (snd_cons (snd_c) (snd_nil)))))) (snd_cons (snd_ix (snd_var) (snd_c)) (snd_cons (snd_c) (snd_nil)))))) snd_gname) (
    snd_seq (snd_asg (snd_fz (snd_call (snd_cons (snd_var) (snd_cons (snd_c) (snd_cons (snd_c) (snd_nil)))))) snd_gname) (
    snd_seq (snd_asg (snd_op rl_addS (snd_ix (snd_ix (snd_var) (snd_c)) (snd_op rl_mod (snd_cb rl_int (snd_cons (snd_ix (snd_var) (snd_c)) (snd_nil))) (snd_cb rl_len (snd_cons (snd_ix (snd_var) (snd_c)) (snd_nil))))) (snd_fz (snd_call (snd_cons (snd_var) (snd_cons (snd_ix (snd_var) (snd_c)) (snd_cons (snd_c) (snd_nil))))))) snd_gname) (
    snd_seq (snd_asg (snd_ix (snd_fz (snd_call (snd_cons (snd_var) (snd_cons (snd_ix (snd_var) (snd_c)) (snd_cons (snd_var) (snd_nil)))))) (snd_c)) snd_gname) (
    snd_seq (snd_asg (snd_ix (snd_fz (snd_call (snd_cons (snd_var) (snd_cons (snd_var) (snd_cons (snd_var) (snd_nil)))))) (snd_c)) snd_gname) (
    snd_seq (snd_asgO (snd_binS (snd_var) (snd_var))) (
    snd_seq (snd_asgO (snd_binS (snd_var) (snd_var))) (
    snd_seq (snd_ifS (snd_or (snd_test (snd_op rl_ne (snd_fz (snd_meth (snd_var) (snd_nil))) (snd_fz (snd_call (snd_cons (snd_lst (snd_cons (snd_ix (snd_var) (snd_c)) (snd_cons (snd_ix (snd_var) (snd_c)) (snd_cons (snd_ix (snd_var) (snd_c)) (snd_cons (snd_var) (snd_nil)))))) (snd_nil)))))) (snd_test (snd_op rl_ne (snd_fz (snd_meth (snd_var) (snd_nil))) (snd_fz (snd_call (snd_cons (snd_var) (snd_nil))))))) (snd_ret (snd_ofz (snd_c))) (snd_next)) (
    snd_seq (snd_ifS (snd_or (snd_test (snd_op rl_ne (snd_fz (snd_meth (snd_var) (snd_nil))) (snd_fz (snd_call (snd_cons (snd_lst (snd_cons (snd_ix (snd_var) (snd_c)) (snd_cons (snd_ix (snd_var) (snd_c)) (snd_cons (snd_ix (snd_var) (snd_c)) (snd_cons (snd_var) (snd_nil)))))) (snd_nil)))))) (snd_test (snd_op rl_ne (snd_fz (snd_meth (snd_fz (snd_binS (snd_var) (snd_op rl_addS (snd_var) (snd_var)))) (snd_nil))) (snd_fz (snd_meth (snd_var) (snd_nil)))))) (snd_ret (snd_ofz (snd_c))) (snd_next)) (
    snd_seq (snd_asg (snd_slS (snd_op rl_mulS (snd_op rl_addS (snd_var) (snd_ix (snd_var) (snd_c))) (snd_c)) (snd_zno) (snd_zsome (snd_c))) snd_gname) (
    snd_seq (snd_ifS (snd_test (snd_op rl_ne (snd_fz (snd_meth (snd_fz (snd_binS (snd_var) (snd_var))) (snd_nil))) (snd_fz (snd_call (snd_cons (snd_lst (snd_cons (snd_ix (snd_var) (snd_c)) (snd_cons (snd_ix (snd_var) (snd_c)) (snd_cons (snd_ix (snd_var) (snd_c)) (snd_cons (snd_ix (snd_fz (snd_call (snd_cons (snd_var) (snd_cons (snd_ix (snd_var) (snd_c)) (snd_cons (snd_var) (snd_nil)))))) (snd_c)) (snd_nil)))))) (snd_nil)))))) (snd_ret (snd_ofz (snd_c))) (snd_next)) (
    snd_seq (snd_asg (snd_fz (snd_call (snd_cons (snd_var) (snd_cons (snd_var) (snd_cons (snd_c) (snd_cons (snd_var) (snd_nil))))))) snd_gname) (
    snd_seq (snd_ifS (snd_or (snd_test (snd_op rl_ne (snd_inOwn (snd_tup (snd_cons (snd_c) (snd_cons (snd_var) (snd_nil)))) (snd_var)) (snd_var))) (snd_test (snd_op rl_ne (snd_inOwn (snd_tup (snd_cons (snd_var) (snd_cons (snd_var) (snd_nil)))) (snd_var)) (snd_var)))) (snd_ret (snd_ofz (snd_c))) (snd_next)) (
    snd_seq (snd_ifS (snd_or (snd_test (snd_op rl_ne (snd_inOwn (snd_tup (snd_cons (snd_op rl_addS (snd_var) (snd_var)) (snd_cons (snd_var) (snd_nil)))) (snd_var)) (snd_var))) (snd_test (snd_op rl_ne (snd_inOwn (snd_tup (snd_cons (snd_c) (snd_cons (snd_op rl_addS (snd_var) (snd_var)) (snd_nil)))) (snd_var)) (snd_fz (snd_call (snd_cons (snd_var) (snd_cons (snd_var) (snd_cons (snd_c) (snd_cons (snd_var) (snd_nil)))))))))) (snd_ret (snd_ofz (snd_c))) (snd_next)) (
    snd_seq (snd_drop (snd_fz (snd_methP (snd_pvar) (snd_cons (snd_fz (snd_lc (snd_r1 (snd_cons (snd_cb rl_len (snd_cons (snd_ix (snd_var) (snd_c)) (snd_nil))) (snd_nil))) (snd_gname) (snd_not (snd_B (snd_ix (snd_ix (snd_ix (snd_var) (snd_c)) (snd_var)) (snd_c)))) (snd_ofz (snd_tup (snd_cons (snd_var) (snd_cons (snd_c) (snd_nil))))) (by decide))) (snd_nil))))) (
    snd_seq (snd_setOwn (snd_pvar) (snd_tup (snd_cons (snd_ix (snd_var) (snd_c)) (snd_cons (snd_c) (snd_nil)))) (snd_op rl_I0 (snd_cb rl_len (snd_cons (snd_ix (snd_var) (snd_c)) (snd_nil))) (snd_c))) (
    snd_seq (snd_ifS (snd_or (snd_test (snd_op rl_ne (snd_fz (snd_meth (snd_var) (snd_nil))) (snd_fz (snd_call (snd_cons (snd_var) (snd_nil)))))) (snd_test (snd_op rl_ne (snd_fz (snd_meth (snd_fz (snd_binS (snd_var) (snd_var))) (snd_nil))) (snd_fz (snd_call (snd_cons (snd_lst (snd_cons (snd_ix (snd_var) (snd_c)) (snd_cons (snd_ix (snd_var) (snd_c)) (snd_cons (snd_ix (snd_var) (snd_c)) (snd_cons (snd_var) (snd_nil)))))) (snd_nil))))))) (snd_ret (snd_ofz (snd_c))) (snd_next)) (
    snd_seq (snd_asg (snd_fz (snd_meth (snd_var) (snd_nil))) snd_gname) (
    snd_seq (snd_drop (snd_fz (snd_methP (snd_pvar) (snd_cons (snd_lst (snd_nil)) (snd_nil))))) (
    snd_seq (snd_setOwn (snd_pvar) (snd_tup (snd_cons (snd_c) (snd_cons (snd_c) (snd_nil)))) (snd_c)) (
    snd_ret (snd_ofz (snd_andV (snd_op rl_eq (snd_fz (snd_meth (snd_var) (snd_nil))) (snd_var)) (snd_op rl_eq (snd_fz (snd_meth (snd_fz (snd_binS (snd_var) (snd_c))) (snd_nil))) (snd_fz (snd_meth (snd_var) (snd_nil)))))))))))))))))))))))))))))
section
/-! ### laps -/
theorem r_lap {m : Mach} (h : m.Ok) {s : Nat} (hs : s < m.n) {w : List Nat} (hw : ∀ j ∈ w, j < m.c) :
    x_law_lap [.d (mD m), .d (.i (s : Nat)), .d (.s (wd w))] = .ok (.l [.fz (.i (lapM m s w).1), .fz (.b (lapM m s w).2)]) [] := by
  (first | refine NV.run_ok rfl ?_ | refine NV.run_ex rfl ?_)
  refine go_imm ?_
  simp only [NV.killG, NV.fzG, NV.immG, NV.immS, NV.imm_v, List.foldl_cons, List.foldl_nil, List.getElem?_cons_zero, List.getElem?_cons_succ, List.set_cons_zero, List.set_cons_succ, NV.Arg.slot, List.map_cons, List.map_nil, List.cons_append, List.nil_append, List.replicate, if_true]
  refine NV.go_seq (by simp only [NV.XS, NV.killG, NV.fzG, NV.immG, NV.immS, NV.D.tru, NV.gNeg, NV.D.items, NV.twoI, NV.OT.d, NV.OT.ds, NV.cMod, NV.cDiv, NV.cMul, NV.oneS, NV.oneV, NV.Arg.slot, Int.reducePow, Int.reduceNeg, reduceIte, Nat.reduceLT, Nat.reduceLeDiff, Int.reduceLT, Int.reduceLE, Int.reduceToNat, reduceCtorEq, Nat.reduceAdd, eq_self]; rfl) ?_
  refine go_seq (Γ1 := [.r (mD m), .f (.i (lapM m s w).1), .f (.s (wd w)), .f (.b (lapM m s w).2), .n, .n]) ?_ ?_
  · refine go_kb (P := (· = _)) ?_
    simp only [NV.killG, NV.fzG, NV.immG, NV.immS, NV.imm_v, List.foldl_cons, List.foldl_nil, List.getElem?_cons_zero, List.getElem?_cons_succ, List.set_cons_zero, List.set_cons_succ, NV.Arg.slot, List.map_cons, List.map_nil, List.cons_append, List.nil_append, List.replicate, if_true]
    refine go_for (by simp only [NV.XS, NV.killG, NV.fzG, NV.immG, NV.immS, NV.D.tru, NV.gNeg, NV.D.items, NV.twoI, NV.OT.d, NV.OT.ds, NV.cMod, NV.cDiv, NV.cMul, NV.oneS, NV.oneV, NV.Arg.slot, Int.reducePow, Int.reduceNeg, reduceIte, Nat.reduceLT, Nat.reduceLeDiff, Int.reduceLT, Int.reduceLE, Int.reduceToNat, reduceCtorEq, Nat.reduceAdd, eq_self, chars_wd]; rfl) (by simp) ?_
    refine forL_fold (fun a : Nat × Bool => [.r (mD m), .f (.i a.1), .f (.s (wd w)), .f (.b a.2), .n, .n]) (fun j => D.s (lt j)) (fun a k => (m.tg a.1 k, a.2 || m.fl a.1 k)) (fun a => a.1 < m.n) w (s, false) hs fun a x hx ha => ⟨h.tg _ _ ha (hw x hx), _, by simp only [NV.XS, NV.killG, NV.fzG, NV.immG, NV.immS, NV.D.tru, NV.gNeg, NV.D.items, NV.twoI, NV.OT.d, NV.OT.ds, NV.cMod, NV.cDiv, NV.cMul, NV.oneS, NV.oneV, NV.Arg.slot, Int.reducePow, Int.reduceNeg, reduceIte, Nat.reduceLT, Nat.reduceLeDiff, Int.reduceLT, Int.reduceLE, Int.reduceToNat, reduceCtorEq, Nat.reduceAdd, eq_self]; rfl, ?_⟩
    refine go_kill ?_
    obtain ⟨rest, ho⟩ := occ_abcd (j := x) (Nat.lt_of_lt_of_le (hw x hx) h.c4)
    have hx' := hw x hx
    refine NV.go_seq (by simp only [NV.XS, NV.killG, NV.fzG, NV.immG, NV.immS, NV.D.tru, NV.gNeg, NV.D.items, NV.twoI, NV.OT.d, NV.OT.ds, NV.cMod, NV.cDiv, NV.cMul, NV.oneS, NV.oneV, NV.Arg.slot, Int.reducePow, Int.reduceNeg, reduceIte, Nat.reduceLT, Nat.reduceLeDiff, Int.reduceLT, Int.reduceLE, Int.reduceToNat, reduceCtorEq, Nat.reduceAdd, eq_self, ho]; rfl) ?_
    refine NV.go_seq (by simp only [NV.XS, NV.killG, NV.fzG, NV.immG, NV.immS, NV.D.tru, NV.gNeg, NV.D.items, NV.twoI, NV.OT.d, NV.OT.ds, NV.cMod, NV.cDiv, NV.cMul, NV.oneS, NV.oneV, NV.Arg.slot, Int.reducePow, Int.reduceNeg, reduceIte, Nat.reduceLT, Nat.reduceLeDiff, Int.reduceLT, Int.reduceLE, Int.reduceToNat, reduceCtorEq, Nat.reduceAdd, eq_self, m_2, fl_1 ha, fl_2 hx', im_fl, im_flR]; rfl) ?_
    exact go_end (by simp only [NV.XS, NV.killG, NV.fzG, NV.immG, NV.immS, NV.D.tru, NV.gNeg, NV.D.items, NV.twoI, NV.OT.d, NV.OT.ds, NV.cMod, NV.cDiv, NV.cMul, NV.oneS, NV.oneV, NV.Arg.slot, Int.reducePow, Int.reduceNeg, reduceIte, Nat.reduceLT, Nat.reduceLeDiff, Int.reduceLT, Int.reduceLE, Int.reduceToNat, reduceCtorEq, Nat.reduceAdd, eq_self, m_1, tg_1 ha, tg_2 hx', im_tg, im_tgR]; rfl) (by simp only [NV.XS, NV.killG, NV.fzG, NV.immG, NV.immS, NV.D.tru, NV.gNeg, NV.D.items, NV.twoI, NV.OT.d, NV.OT.ds, NV.cMod, NV.cDiv, NV.cMul, NV.oneS, NV.oneV, NV.Arg.slot, Int.reducePow, Int.reduceNeg, reduceIte, Nat.reduceLT, Nat.reduceLeDiff, Int.reduceLT, Int.reduceLE, Int.reduceToNat, reduceCtorEq, Nat.reduceAdd, eq_self])
  · exact go_ret (by simp only [NV.XS, NV.killG, NV.fzG, NV.immG, NV.immS, NV.D.tru, NV.gNeg, NV.D.items, NV.twoI, NV.OT.d, NV.OT.ds, NV.cMod, NV.cDiv, NV.cMul, NV.oneS, NV.oneV, NV.Arg.slot, Int.reducePow, Int.reduceNeg, reduceIte, Nat.reduceLT, Nat.reduceLeDiff, Int.reduceLT, Int.reduceLE, Int.reduceToNat, reduceCtorEq, Nat.reduceAdd, eq_self]; rfl) (rt_of rfl ⟨rfl, rfl⟩)
theorem r_wlap {m : Mach} (h : m.Ok) {s : Nat} (hs : s < m.n) {w : List Nat} (hw : ∀ j ∈ w, j < m.c) :
    x_Wish_lap [.d (wD m), .d (.i (s : Nat)), .d (.s (wd w))] = .ok (.fz (.t [.i (lapM m s w).1, .b (lapM m s w).2])) [] := by
  (first | refine NV.run_ok rfl ?_ | refine NV.run_ex rfl ?_)
  refine go_imm ?_
  simp only [NV.killG, NV.fzG, NV.immG, NV.immS, NV.imm_v, List.foldl_cons, List.foldl_nil, List.getElem?_cons_zero, List.getElem?_cons_succ, List.set_cons_zero, List.set_cons_succ, NV.Arg.slot, List.map_cons, List.map_nil, List.cons_append, List.nil_append, List.replicate, if_true]
  refine NV.go_seq (by simp only [NV.XS, NV.killG, NV.fzG, NV.immG, NV.immS, NV.D.tru, NV.gNeg, NV.D.items, NV.twoI, NV.OT.d, NV.OT.ds, NV.cMod, NV.cDiv, NV.cMul, NV.oneS, NV.oneV, NV.Arg.slot, Int.reducePow, Int.reduceNeg, reduceIte, Nat.reduceLT, Nat.reduceLeDiff, Int.reduceLT, Int.reduceLE, Int.reduceToNat, reduceCtorEq, Nat.reduceAdd, eq_self]; rfl) ?_
  refine go_seq (Γ1 := [.r (wD m), .f (.i (lapM m s w).1), .f (.s (wd w)), .f (.b (lapM m s w).2), .n, .n]) ?_ ?_
  · refine go_kb (P := (· = _)) ?_
    simp only [NV.killG, NV.fzG, NV.immG, NV.immS, NV.imm_v, List.foldl_cons, List.foldl_nil, List.getElem?_cons_zero, List.getElem?_cons_succ, List.set_cons_zero, List.set_cons_succ, NV.Arg.slot, List.map_cons, List.map_nil, List.cons_append, List.nil_append, List.replicate, if_true]
    refine go_for (by simp only [NV.XS, NV.killG, NV.fzG, NV.immG, NV.immS, NV.D.tru, NV.gNeg, NV.D.items, NV.twoI, NV.OT.d, NV.OT.ds, NV.cMod, NV.cDiv, NV.cMul, NV.oneS, NV.oneV, NV.Arg.slot, Int.reducePow, Int.reduceNeg, reduceIte, Nat.reduceLT, Nat.reduceLeDiff, Int.reduceLT, Int.reduceLE, Int.reduceToNat, reduceCtorEq, Nat.reduceAdd, eq_self, chars_wd]; rfl) (by simp) ?_
    refine forL_fold (fun a : Nat × Bool => [.r (wD m), .f (.i a.1), .f (.s (wd w)), .f (.b a.2), .n, .n]) (fun j => D.s (lt j)) (fun a k => (m.tg a.1 k, a.2 || m.fl a.1 k)) (fun a => a.1 < m.n) w (s, false) hs fun a x hx ha => ⟨h.tg _ _ ha (hw x hx), _, by simp only [NV.XS, NV.killG, NV.fzG, NV.immG, NV.immS, NV.D.tru, NV.gNeg, NV.D.items, NV.twoI, NV.OT.d, NV.OT.ds, NV.cMod, NV.cDiv, NV.cMul, NV.oneS, NV.oneV, NV.Arg.slot, Int.reducePow, Int.reduceNeg, reduceIte, Nat.reduceLT, Nat.reduceLeDiff, Int.reduceLT, Int.reduceLE, Int.reduceToNat, reduceCtorEq, Nat.reduceAdd, eq_self]; rfl, ?_⟩
    refine go_kill ?_
    have hx' := hw x hx
    obtain ⟨rest, ho⟩ := occ_alpha h.c4 hx'
    have hin : gInS true (.v (.str (lt x))) (.v (.str (alpha m.c))) = some (.bl false) := by
      unfold gInS lt
      simp [alpha, wd_cps, hx']
    refine go_seqF (by simp only [NV.XS, NV.killG, NV.fzG, NV.immG, NV.immS, NV.D.tru, NV.gNeg, NV.D.items, NV.twoI, NV.OT.d, NV.OT.ds, NV.cMod, NV.cDiv, NV.cMul, NV.oneS, NV.oneV, NV.Arg.slot, Int.reducePow, Int.reduceNeg, reduceIte, Nat.reduceLT, Nat.reduceLeDiff, Int.reduceLT, Int.reduceLE, Int.reduceToNat, reduceCtorEq, Nat.reduceAdd, eq_self, w_le, hin]; rfl) ?_
    refine NV.go_seq (by simp only [NV.XS, NV.killG, NV.fzG, NV.immG, NV.immS, NV.D.tru, NV.gNeg, NV.D.items, NV.twoI, NV.OT.d, NV.OT.ds, NV.cMod, NV.cDiv, NV.cMul, NV.oneS, NV.oneV, NV.Arg.slot, Int.reducePow, Int.reduceNeg, reduceIte, Nat.reduceLT, Nat.reduceLeDiff, Int.reduceLT, Int.reduceLE, Int.reduceToNat, reduceCtorEq, Nat.reduceAdd, eq_self, w_le, ho]; rfl) ?_
    refine NV.go_seq (by simp only [NV.XS, NV.killG, NV.fzG, NV.immG, NV.immS, NV.D.tru, NV.gNeg, NV.D.items, NV.twoI, NV.OT.d, NV.OT.ds, NV.cMod, NV.cDiv, NV.cMul, NV.oneS, NV.oneV, NV.Arg.slot, Int.reducePow, Int.reduceNeg, reduceIte, Nat.reduceLT, Nat.reduceLeDiff, Int.reduceLT, Int.reduceLE, Int.reduceToNat, reduceCtorEq, Nat.reduceAdd, eq_self, w_fl, fl_1 ha, fl_2 hx', im_fl, im_flR]; rfl) ?_
    exact go_end (by simp only [NV.XS, NV.killG, NV.fzG, NV.immG, NV.immS, NV.D.tru, NV.gNeg, NV.D.items, NV.twoI, NV.OT.d, NV.OT.ds, NV.cMod, NV.cDiv, NV.cMul, NV.oneS, NV.oneV, NV.Arg.slot, Int.reducePow, Int.reduceNeg, reduceIte, Nat.reduceLT, Nat.reduceLeDiff, Int.reduceLT, Int.reduceLE, Int.reduceToNat, reduceCtorEq, Nat.reduceAdd, eq_self, w_tg, tg_1 ha, tg_2 hx', im_tg, im_tgR]; rfl) (by simp only [NV.XS, NV.killG, NV.fzG, NV.immG, NV.immS, NV.D.tru, NV.gNeg, NV.D.items, NV.twoI, NV.OT.d, NV.OT.ds, NV.cMod, NV.cDiv, NV.cMul, NV.oneS, NV.oneV, NV.Arg.slot, Int.reducePow, Int.reduceNeg, reduceIte, Nat.reduceLT, Nat.reduceLeDiff, Int.reduceLT, Int.reduceLE, Int.reduceToNat, reduceCtorEq, Nat.reduceAdd, eq_self])
  · exact go_ret (by simp only [NV.XS, NV.killG, NV.fzG, NV.immG, NV.immS, NV.D.tru, NV.gNeg, NV.D.items, NV.twoI, NV.OT.d, NV.OT.ds, NV.cMod, NV.cDiv, NV.cMul, NV.oneS, NV.oneV, NV.Arg.slot, Int.reducePow, Int.reduceNeg, reduceIte, Nat.reduceLT, Nat.reduceLeDiff, Int.reduceLT, Int.reduceLE, Int.reduceToNat, reduceCtorEq, Nat.reduceAdd, eq_self, D.imm, imms, Kd.im]; rfl) (rt_of rfl ⟨rfl, rfl⟩)

end
section
/-! ### draws -/
def nat5 (xs : List Nat) : List OT := xs.map fun x => OT.fz (.i (x : Nat))
theorem oks_ints (n : Nat) : ∀ ns : List Int, D.oks n (ns.map D.i) = true
  | [] => by unfold D.oks; rfl
  | x :: ns => by
    unfold List.map D.oks
    rw [oks_ints n ns]
    unfold D.ok; rfl
theorem eq_nil (ns : List Int) : gEqD false (.l (ns.map D.i)) (.l []) = some (.bl ns.isEmpty) := by
  have h1 : D.ok 9 (.l (ns.map D.i)) = true := by unfold D.ok; exact oks_ints 8 ns
  have h2 : D.ok 9 (.l []) = true := by unfold D.ok D.oks; rfl
  unfold gEqD
  rw [h1, h2]
  cases ns with
  | nil => rfl
  | cons x ns => rfl
theorem pow18 : gIc cPow (fun i j => V.int (i ^ j.toNat)) (.v (.int 10)) (.v (.int 18)) = some (.int 1000000000000000000) := by decide +kernel
theorem app_nat {xs : List Nat} {x : Nat} : nat5 xs ++ [OT.fz (.i (x : Nat))] = nat5 (xs ++ [x]) := by unfold nat5; simp
theorem r_draws (ns : List Int) (hl : ns.length ≤ 63) (k many : Nat) (hm : many ≤ 1000) : ∃ xs : List Nat, xs.length = many ∧ (∀ x ∈ xs, x < 5040) ∧ x_law_draws [.d (.l (ns.map D.i)), .d (.i (k : Nat)), .d (.i (many : Nat))] = .ok (.l (nat5 xs)) [] := by
  suffices ∃ t us, x_law_draws [.d (.l (ns.map D.i)), .d (.i (k : Nat)), .d (.i (many : Nat))] = .ok t us ∧ us = [] ∧ ∃ xs : List Nat, xs.length = many ∧ (∀ x ∈ xs, x < 5040) ∧ t = .l (nat5 xs) by
    obtain ⟨t, us, h, rfl, xs, h1, h2, rfl⟩ := this
    exact ⟨xs, h1, h2, h⟩
  (first | refine NV.run_ok rfl ?_ | refine NV.run_ex rfl ?_)
  refine go_imm ?_
  simp only [NV.killG, NV.fzG, NV.immG, NV.immS, NV.imm_v, List.foldl_cons, List.foldl_nil, List.getElem?_cons_zero, List.getElem?_cons_succ, List.set_cons_zero, List.set_cons_succ, NV.Arg.slot, List.map_cons, List.map_nil, List.cons_append, List.nil_append, List.replicate, if_true]
  have hrg : decide ((many : Int) < -100000 ∨ 100000 < (many : Int)) = false := decide_eq_false (by omega)
  have hir : ∀ Γ : Gm, Γ[2]? = some (.f (.i (many : Nat))) → iR1 (aCons (eVar 2) aNil) Γ = .ok (.f, rgD 0 many) Γ 0 := fun Γ hΓ => by
    simp only [NV.XS, NV.killG, NV.fzG, NV.immG, NV.immS, NV.D.tru, NV.gNeg, NV.D.items, NV.twoI, NV.OT.d, NV.OT.ds, NV.cMod, NV.cDiv, NV.cMul, NV.oneS, NV.oneV, NV.Arg.slot, Int.reducePow, Int.reduceNeg, reduceIte, Nat.reduceLT, Nat.reduceLeDiff, Int.reduceLT, Int.reduceLE, Int.reduceToNat, reduceCtorEq, Nat.reduceAdd, eq_self, hΓ, hrg, Int.toNat_natCast]
  by_cases hn : ns = []
  · subst hn
    refine go_seqT (Γ1 := [.r (.l []), .f (.i k), .f (.i many), .n, .n, .n, .n, .n]) (Γ2 := [.r (.l []), .f (.i k), .f (.i many), .n, .n, .n, .n, .n]) (t := .l (nat5 (List.replicate many 0))) (by simp only [NV.XS, NV.killG, NV.fzG, NV.immG, NV.immS, NV.D.tru, NV.gNeg, NV.D.items, NV.twoI, NV.OT.d, NV.OT.ds, NV.cMod, NV.cDiv, NV.cMul, NV.oneS, NV.oneV, NV.Arg.slot, Int.reducePow, Int.reduceNeg, reduceIte, Nat.reduceLT, Nat.reduceLeDiff, Int.reduceLT, Int.reduceLE, Int.reduceToNat, reduceCtorEq, Nat.reduceAdd, eq_self, eq_nil, List.isEmpty]; rfl) ?_ ?_
    · rw [q_ret, lc_rg many (fun _ => .fz (.i (0 : Nat))) (hir _ rfl) (by omega) fun i _ => ⟨_, _, by simp only [NV.XS, NV.killG, NV.fzG, NV.immG, NV.immS, NV.D.tru, NV.gNeg, NV.D.items, NV.twoI, NV.OT.d, NV.OT.ds, NV.cMod, NV.cDiv, NV.cMul, NV.oneS, NV.oneV, NV.Arg.slot, Int.reducePow, Int.reduceNeg, reduceIte, Nat.reduceLT, Nat.reduceLeDiff, Int.reduceLT, Int.reduceLE, Int.reduceToNat, reduceCtorEq, Nat.reduceAdd, eq_self, wipeG]; rfl, by simp only [NV.XS, NV.killG, NV.fzG, NV.immG, NV.immS, NV.D.tru, NV.gNeg, NV.D.items, NV.twoI, NV.OT.d, NV.OT.ds, NV.cMod, NV.cDiv, NV.cMul, NV.oneS, NV.oneV, NV.Arg.slot, Int.reducePow, Int.reduceNeg, reduceIte, Nat.reduceLT, Nat.reduceLeDiff, Int.reduceLT, Int.reduceLE, Int.reduceToNat, reduceCtorEq, Nat.reduceAdd, eq_self]; rfl⟩]
      simp only [NV.XS, NV.killG, NV.fzG, NV.immG, NV.immS, NV.D.tru, NV.gNeg, NV.D.items, NV.twoI, NV.OT.d, NV.OT.ds, NV.cMod, NV.cDiv, NV.cMul, NV.oneS, NV.oneV, NV.Arg.slot, Int.reducePow, Int.reduceNeg, reduceIte, Nat.reduceLT, Nat.reduceLeDiff, Int.reduceLT, Int.reduceLE, Int.reduceToNat, reduceCtorEq, Nat.reduceAdd, eq_self]
      unfold nat5 tabO
      rw [List.map_replicate, List.map_const', List.length_range]
    · exact rt_of rfl ⟨rfl, _, by simp, by simp, rfl⟩
  · have hemp : ns.isEmpty = false := by cases ns with | nil => exact absurd rfl hn | cons n0 ns => rfl
    refine go_seqF (Γ1 := [.r (.l (ns.map D.i)), .f (.i k), .f (.i many), .n, .n, .n, .n, .n]) (by simp only [NV.XS, NV.killG, NV.fzG, NV.immG, NV.immS, NV.D.tru, NV.gNeg, NV.D.items, NV.twoI, NV.OT.d, NV.OT.ds, NV.cMod, NV.cDiv, NV.cMul, NV.oneS, NV.oneV, NV.Arg.slot, Int.reducePow, Int.reduceNeg, reduceIte, Nat.reduceLT, Nat.reduceLeDiff, Int.reduceLT, Int.reduceLE, Int.reduceToNat, reduceCtorEq, Nat.reduceAdd, eq_self, eq_nil, hemp]; rfl) ?_
    have hpos : (0 : Int) < (ns.length : Int) := by
      cases ns with
      | nil => exact absurd rfl hn
      | cons n0 ns => simp only [List.length_cons]; omega
    have hat : atI (ns.map D.i) ((k : Int) % (ns.length : Int)) = some (.i (ns.getD (k % ns.length) 0)) := by
      have e : (k : Int) % (ns.length : Int) = ((k % ns.length : Nat) : Int) := by simp
      rw [e]
      refine atI_at ?_
      have : k % ns.length < ns.length := Nat.mod_lt _ (by omega)
      rw [List.getElem?_map, List.getD_eq_getElem?_getD, List.getElem?_eq_getElem this]
      rfl
    refine NV.go_seq (by simp only [NV.XS, NV.killG, NV.fzG, NV.immG, NV.immS, NV.D.tru, NV.gNeg, NV.D.items, NV.twoI, NV.OT.d, NV.OT.ds, NV.cMod, NV.cDiv, NV.cMul, NV.oneS, NV.oneV, NV.Arg.slot, Int.reducePow, Int.reduceNeg, reduceIte, Nat.reduceLT, Nat.reduceLeDiff, Int.reduceLT, Int.reduceLE, Int.reduceToNat, reduceCtorEq, Nat.reduceAdd, eq_self, List.length_map, hpos, hat]; rfl) ?_
    refine go_seqX (fun Γ => ∃ cell : Int, Γ = [.r (.l (ns.map D.i)), .f (.i k), .f (.i many), .f (.i cell), .n, .n, .n, .n]) ?_ ?_
    · refine go_ifC (by simp only [NV.XS, NV.killG, NV.fzG, NV.immG, NV.immS, NV.D.tru, NV.gNeg, NV.D.items, NV.twoI, NV.OT.d, NV.OT.ds, NV.cMod, NV.cDiv, NV.cMul, NV.oneS, NV.oneV, NV.Arg.slot, Int.reducePow, Int.reduceNeg, reduceIte, Nat.reduceLT, Nat.reduceLeDiff, Int.reduceLT, Int.reduceLE, Int.reduceToNat, reduceCtorEq, Nat.reduceAdd, eq_self]; rfl) (fun hc => ?_) (fun hc => ?_)
      · exact ⟨_, by simp only [NV.XS, NV.killG, NV.fzG, NV.immG, NV.immS, NV.D.tru, NV.gNeg, NV.D.items, NV.twoI, NV.OT.d, NV.OT.ds, NV.cMod, NV.cDiv, NV.cMul, NV.oneS, NV.oneV, NV.Arg.slot, Int.reducePow, Int.reduceNeg, reduceIte, Nat.reduceLT, Nat.reduceLeDiff, Int.reduceLT, Int.reduceLE, Int.reduceToNat, reduceCtorEq, Nat.reduceAdd, eq_self]; rfl, _, rfl⟩
      · exact ⟨_, by simp only [NV.XS, NV.killG, NV.fzG, NV.immG, NV.immS, NV.D.tru, NV.gNeg, NV.D.items, NV.twoI, NV.OT.d, NV.OT.ds, NV.cMod, NV.cDiv, NV.cMul, NV.oneS, NV.oneV, NV.Arg.slot, Int.reducePow, Int.reduceNeg, reduceIte, Nat.reduceLT, Nat.reduceLeDiff, Int.reduceLT, Int.reduceLE, Int.reduceToNat, reduceCtorEq, Nat.reduceAdd, eq_self]; rfl, _, rfl⟩
    rintro _ ⟨cell, rfl⟩
    refine NV.go_seq (by simp only [NV.XS, NV.killG, NV.fzG, NV.immG, NV.immS, NV.D.tru, NV.gNeg, NV.D.items, NV.twoI, NV.OT.d, NV.OT.ds, NV.cMod, NV.cDiv, NV.cMul, NV.oneS, NV.oneV, NV.Arg.slot, Int.reducePow, Int.reduceNeg, reduceIte, Nat.reduceLT, Nat.reduceLeDiff, Int.reduceLT, Int.reduceLE, Int.reduceToNat, reduceCtorEq, Nat.reduceAdd, eq_self]; rfl) ?_
    have h0 : (0 : Int) ≤ if cell < 0 then -cell else cell := by split <;> omega
    generalize (if cell < 0 then -cell else cell) = left0 at h0
    refine NV.go_seq (by simp only [NV.XS, NV.killG, NV.fzG, NV.immG, NV.immS, NV.D.tru, NV.gNeg, NV.D.items, NV.twoI, NV.OT.d, NV.OT.ds, NV.cMod, NV.cDiv, NV.cMul, NV.oneS, NV.oneV, NV.Arg.slot, Int.reducePow, Int.reduceNeg, reduceIte, Nat.reduceLT, Nat.reduceLeDiff, Int.reduceLT, Int.reduceLE, Int.reduceToNat, reduceCtorEq, Nat.reduceAdd, eq_self]; rfl) ?_
    refine go_seqG (go_kb ?_)
    simp only [NV.killG, NV.fzG, NV.immG, NV.immS, NV.imm_v, List.foldl_cons, List.foldl_nil, List.getElem?_cons_zero, List.getElem?_cons_succ, List.set_cons_zero, List.set_cons_succ, NV.Arg.slot, List.map_cons, List.map_nil, List.cons_append, List.nil_append, List.replicate, if_true]
    refine go_for (hir _ rfl) (by simp) ?_
    refine forL_rg (fun i Γ => ∃ (left : Int) (xs : List Nat), 0 ≤ left ∧ xs.length = i ∧ (∀ x ∈ xs, x < 5040) ∧ Γ = [.r (.l (ns.map D.i)), .f (.i k), .f (.i many), .f (.i cell), .f (.i left), .o (.l (nat5 xs)), .n, .n]) ⟨left0, [], h0, rfl, by simp, rfl⟩ ?_ ?_
    · rintro i Γ hi ⟨left, xs, hl0, hx1, hx2, rfl⟩
      refine ⟨_, by simp only [NV.XS, NV.killG, NV.fzG, NV.immG, NV.immS, NV.D.tru, NV.gNeg, NV.D.items, NV.twoI, NV.OT.d, NV.OT.ds, NV.cMod, NV.cDiv, NV.cMul, NV.oneS, NV.oneV, NV.Arg.slot, Int.reducePow, Int.reduceNeg, reduceIte, Nat.reduceLT, Nat.reduceLeDiff, Int.reduceLT, Int.reduceLE, Int.reduceToNat, reduceCtorEq, Nat.reduceAdd, eq_self]; rfl, ?_⟩
      refine go_kill (go_kill ?_)
      have hlen : decide (100000 ≤ (nat5 xs).length) = false := decide_eq_false (by unfold nat5; rw [List.length_map]; omega)
      refine go_ifC (by simp only [NV.XS, NV.killG, NV.fzG, NV.immG, NV.immS, NV.D.tru, NV.gNeg, NV.D.items, NV.twoI, NV.OT.d, NV.OT.ds, NV.cMod, NV.cDiv, NV.cMul, NV.oneS, NV.oneV, NV.Arg.slot, Int.reducePow, Int.reduceNeg, reduceIte, Nat.reduceLT, Nat.reduceLeDiff, Int.reduceLT, Int.reduceLE, Int.reduceToNat, reduceCtorEq, Nat.reduceAdd, eq_self, pow18]; rfl) (fun hc => ?_) (fun hc => ?_)
      · have e : left % 5040 = ((left % 5040).toNat : Int) := by omega
        refine NV.go_seq (by simp only [NV.XS, NV.killG, NV.fzG, NV.immG, NV.immS, NV.D.tru, NV.gNeg, NV.D.items, NV.twoI, NV.OT.d, NV.OT.ds, NV.cMod, NV.cDiv, NV.cMul, NV.oneS, NV.oneV, NV.Arg.slot, Int.reducePow, Int.reduceNeg, reduceIte, Nat.reduceLT, Nat.reduceLeDiff, Int.reduceLT, Int.reduceLE, Int.reduceToNat, reduceCtorEq, Nat.reduceAdd, eq_self, hlen, OT.kids]; rfl) ?_
        refine go_end (by simp only [NV.XS, NV.killG, NV.fzG, NV.immG, NV.immS, NV.D.tru, NV.gNeg, NV.D.items, NV.twoI, NV.OT.d, NV.OT.ds, NV.cMod, NV.cDiv, NV.cMul, NV.oneS, NV.oneV, NV.Arg.slot, Int.reducePow, Int.reduceNeg, reduceIte, Nat.reduceLT, Nat.reduceLeDiff, Int.reduceLT, Int.reduceLE, Int.reduceToNat, reduceCtorEq, Nat.reduceAdd, eq_self]; rfl) ?_
        refine ⟨_, rfl, left / 5040, xs ++ [(left % 5040).toNat], by omega, by simp [hx1], ?_, ?_⟩
        · intro x hx
          rcases List.mem_append.mp hx with hx | hx
          · exact hx2 x hx
          · rw [List.mem_singleton.mp hx]; omega
        · simp only [NV.killG, NV.fzG, NV.immG, NV.immS, NV.imm_v, List.foldl_cons, List.foldl_nil, List.getElem?_cons_zero, List.getElem?_cons_succ, List.set_cons_zero, List.set_cons_succ, NV.Arg.slot, List.map_cons, List.map_nil, List.cons_append, List.nil_append, List.replicate, if_true]
          rw [e, app_nat]
          rfl
      · generalize hz : cell % 9973 * 37 + (i : Int) * 101 + 11 = z
        refine NV.go_seq (by simp only [NV.XS, NV.killG, NV.fzG, NV.immG, NV.immS, NV.D.tru, NV.gNeg, NV.D.items, NV.twoI, NV.OT.d, NV.OT.ds, NV.cMod, NV.cDiv, NV.cMul, NV.oneS, NV.oneV, NV.Arg.slot, Int.reducePow, Int.reduceNeg, reduceIte, Nat.reduceLT, Nat.reduceLeDiff, Int.reduceLT, Int.reduceLE, Int.reduceToNat, reduceCtorEq, Nat.reduceAdd, eq_self, hz]; rfl) ?_
        have y1 : -18446744073709551616 < z % 997 := by omega
        have y2 : z % 997 < 18446744073709551616 := by omega
        have e : (3 * (z % 997) * (z % 997) + z % 997 + 577) % 7919 % 5040 = (((3 * (z % 997) * (z % 997) + z % 997 + 577) % 7919 % 5040).toNat : Int) := by
          generalize 3 * (z % 997) * (z % 997) + z % 997 + 577 = q
          omega
        have e2 : ((3 * (z % 997) * (z % 997) + z % 997 + 577) % 7919 % 5040).toNat < 5040 := by
          generalize 3 * (z % 997) * (z % 997) + z % 997 + 577 = q
          omega
        refine go_end (by simp only [NV.XS, NV.killG, NV.fzG, NV.immG, NV.immS, NV.D.tru, NV.gNeg, NV.D.items, NV.twoI, NV.OT.d, NV.OT.ds, NV.cMod, NV.cDiv, NV.cMul, NV.oneS, NV.oneV, NV.Arg.slot, Int.reducePow, Int.reduceNeg, reduceIte, Nat.reduceLT, Nat.reduceLeDiff, Int.reduceLT, Int.reduceLE, Int.reduceToNat, reduceCtorEq, Nat.reduceAdd, eq_self, hlen, OT.kids, y1, y2]; rfl) ?_
        refine ⟨_, rfl, left, xs ++ [((3 * (z % 997) * (z % 997) + z % 997 + 577) % 7919 % 5040).toNat], hl0, by simp [hx1], ?_, ?_⟩
        · intro x hx
          rcases List.mem_append.mp hx with hx | hx
          · exact hx2 x hx
          · rw [List.mem_singleton.mp hx]; exact e2
        · simp only [NV.killG, NV.fzG, NV.immG, NV.immS, NV.imm_v, List.foldl_cons, List.foldl_nil, List.getElem?_cons_zero, List.getElem?_cons_succ, List.set_cons_zero, List.set_cons_succ, NV.Arg.slot, List.map_cons, List.map_nil, List.cons_append, List.nil_append, List.replicate, if_true]
          rw [e, app_nat]
          rfl
    · rintro Γ ⟨left, xs, hl0, hx1, hx2, rfl⟩
      refine ⟨_, rfl, go_ret (by simp only [NV.XS, NV.killG, NV.fzG, NV.immG, NV.immS, NV.D.tru, NV.gNeg, NV.D.items, NV.twoI, NV.OT.d, NV.OT.ds, NV.cMod, NV.cDiv, NV.cMul, NV.oneS, NV.oneV, NV.Arg.slot, Int.reducePow, Int.reduceNeg, reduceIte, Nat.reduceLT, Nat.reduceLeDiff, Int.reduceLT, Int.reduceLE, Int.reduceToNat, reduceCtorEq, Nat.reduceAdd, eq_self]; rfl) (rt_of rfl ⟨rfl, xs, hx1, hx2, rfl⟩)⟩

end
section
/-! ### machines -/
def rowD (xs : List Nat) : D := .l (xs.map fun x => D.i (x : Nat))
theorem nat5_d (xs : List Nat) : (OT.l (nat5 xs)).d = rowD xs := by
  unfold rowD nat5 OT.d
  congr 1
  induction xs with
  | nil => rfl
  | cons x xs ih => simp only [List.map_cons, OT.ds, OT.d, ih]
theorem row_at {xs : List Nat} {j : Int} (h0 : 0 ≤ j) (h1 : j < xs.length) : gIx (rowD xs) (.v (.int j)) = some (.v (.int (xs.getD j.toNat 0 : Nat))) := by
  obtain ⟨i, rfl⟩ := Int.eq_ofNat_of_zero_le h0
  refine atI_at (i := i) ?_
  have hi : i < xs.length := by omega
  rw [List.getElem?_map, List.getD_eq_getElem?_getD, Int.toNat_natCast, List.getElem?_eq_getElem hi]
  rfl
theorem im_row {xs : List Nat} {k : Kd} : k.im (rowD xs) = k := im_l
theorem row_lt {xs : List Nat} (h : ∀ x ∈ xs, x < 5040) (i : Nat) : xs.getD i 0 < 5040 := by
  rw [List.getD_eq_getElem?_getD]
  cases e : xs[i]? with
  | none => show 0 < 5040; omega
  | some x => exact h x (List.mem_of_getElem? e)
theorem row_ex {xs : List Nat} (h : ∀ x ∈ xs, x < 5040) {j : Int} (h0 : 0 ≤ j) (h1 : j < xs.length) : ∃ x : Nat, x < 5040 ∧ gIx (rowD xs) (.v (.int j)) = some (.v (.int (x : Nat))) := ⟨_, row_lt h j.toNat, row_at h0 h1⟩
def mO (m : Mach) : OT := .l [.fz (.s (alpha m.c)), .fz (tgD m), .fz (flD m), .fz (.i (m.st : Nat))]
def tgO (n c : Nat) (f : Nat → Nat → Nat) : OT := .l (tabO n fun s => .l (tabO c fun k => .fz (.i (f s k : Nat))))
def flO (n c : Nat) (f : Nat → Nat → Bool) : OT := .l (tabO n fun s => .l (tabO c fun k => .fz (.b (f s k))))
theorem tgO_upd {n c s k v : Nat} {T : Nat → Nat → Nat} : OT.l (tabO n fun s' => .l (tabO c fun k' => if s' = s ∧ k' = k then .fz (.i (v : Nat)) else .fz (.i (T s' k' : Nat)))) = tgO n c fun s' k' => if s' = s ∧ k' = k then v else T s' k' := by
  unfold tgO
  congr 1
  refine tabO_congr fun s' _ => ?_
  congr 1
  refine tabO_congr fun k' _ => ?_
  dsimp only
  split <;> rfl
theorem flO_upd {n c s k : Nat} {v : Bool} {T : Nat → Nat → Bool} : OT.l (tabO n fun s' => .l (tabO c fun k' => if s' = s ∧ k' = k then .fz (.b v) else .fz (.b (T s' k')))) = flO n c fun s' k' => if s' = s ∧ k' = k then v else T s' k' := by
  unfold flO
  congr 1
  refine tabO_congr fun s' _ => ?_
  congr 1
  refine tabO_congr fun k' _ => ?_
  dsimp only
  split <;> rfl
theorem nat_ex {j : Int} (h : 0 ≤ j) : ∃ i : Nat, j = i := ⟨j.toNat, by omega⟩
theorem r_machine {xs : List Nat} (hx : ∀ x ∈ xs, x < 5040) (hl : 51 ≤ xs.length) {top : Nat} (ht1 : 1 ≤ top) (ht8 : top ≤ 8) : ∃ m : Mach, m.Ok ∧ m.n ≤ top ∧ x_law_machine [.d (rowD xs), .d (.i (top : Nat))] = .ok (mO m) [] := by
  suffices ∃ t us, x_law_machine [.d (rowD xs), .d (.i (top : Nat))] = .ok t us ∧ us = [] ∧ ∃ m : Mach, m.Ok ∧ m.n ≤ top ∧ t = mO m by
    obtain ⟨t, us, h, rfl, m, h1, h2, rfl⟩ := this
    exact ⟨m, h1, h2, h⟩
  (first | refine NV.run_ok rfl ?_ | refine NV.run_ex rfl ?_)
  refine go_imm ?_
  simp only [NV.killG, NV.fzG, NV.immG, NV.immS, NV.imm_v, List.foldl_cons, List.foldl_nil, List.getElem?_cons_zero, List.getElem?_cons_succ, List.set_cons_zero, List.set_cons_succ, NV.Arg.slot, List.map_cons, List.map_nil, List.cons_append, List.nil_append, List.replicate, if_true]
  obtain ⟨x0, b0, r0⟩ := row_ex hx (j := 0) (by omega) (by omega)
  obtain ⟨x1, b1, r1⟩ := row_ex hx (j := 1) (by omega) (by omega)
  obtain ⟨x2, b2, r2⟩ := row_ex hx (j := 2) (by omega) (by omega)
  obtain ⟨x3, b3, r3⟩ := row_ex hx (j := 3) (by omega) (by omega)
  -- size
  refine go_seqX (fun Γ => ∃ n : Nat, 1 ≤ n ∧ n ≤ top ∧ Γ = [.r (rowD xs), .f (.i top), .f (.i n), .n, .n, .n, .n, .n, .n, .n, .n, .n, .n, .n, .n, .n, .n, .n, .n, .n]) ?_ ?_
  · have pick : ∀ e : Int, ∃ v : Int, 4 ≤ v ∧ atI [D.v (.int 4), D.v (.int 5), D.v (.int 6), D.v (.int 8)] (e % 4) = some (D.v (.int v)) := fun e => by
      have : e % 4 = 0 ∨ e % 4 = 1 ∨ e % 4 = 2 ∨ e % 4 = 3 := by omega
      rcases this with h | h | h | h <;> rw [h]
      · exact ⟨4, by omega, atI_0⟩
      · exact ⟨5, by omega, atI_1⟩
      · exact ⟨6, by omega, atI_2⟩
      · exact ⟨8, by omega, atI_3⟩
    obtain ⟨v, hv, hp⟩ := pick ((x0 : Int) / 840)
    have hpos : (0 : Int) < if v < (top : Int) then v else (top : Int) := by split <;> omega
    have hle : (if v < (top : Int) then v else (top : Int)) ≤ top := by split <;> omega
    refine go_end (by simp only [NV.XS, NV.killG, NV.fzG, NV.immG, NV.immS, NV.D.tru, NV.gNeg, NV.D.items, NV.twoI, NV.OT.d, NV.OT.ds, NV.cMod, NV.cDiv, NV.cMul, NV.oneS, NV.oneV, NV.Arg.slot, Int.reducePow, Int.reduceNeg, reduceIte, Nat.reduceLT, Nat.reduceLeDiff, Int.reduceLT, Int.reduceLE, Int.reduceToNat, reduceCtorEq, Nat.reduceAdd, eq_self, r0, hp, hpos]; rfl) ?_
    refine ⟨_, rfl, (1 + (x0 : Int) % (if v < (top : Int) then v else (top : Int))).toNat, ?_, ?_, ?_⟩
    · have := Int.emod_nonneg (x0 : Int) (by omega : (if v < (top : Int) then v else (top : Int)) ≠ 0)
      omega
    · have := Int.emod_lt_of_pos (x0 : Int) hpos
      omega
    · have := Int.emod_nonneg (x0 : Int) (by omega : (if v < (top : Int) then v else (top : Int)) ≠ 0)
      rw [Int.toNat_of_nonneg (by omega)]
  rintro _ ⟨n, hn1, hnt, rfl⟩
  have rgn : ∀ Γ : Gm, Γ[2]? = some (.f (.i (n : Nat))) → iR1 (aCons (eVar 2) aNil) Γ = .ok (.f, rgD 0 n) Γ 0 := fun Γ hΓ => by
    have : decide ((n : Int) < -100000 ∨ 100000 < (n : Int)) = false := decide_eq_false (by omega)
    simp only [NV.XS, NV.killG, NV.fzG, NV.immG, NV.immS, NV.D.tru, NV.gNeg, NV.D.items, NV.twoI, NV.OT.d, NV.OT.ds, NV.cMod, NV.cDiv, NV.cMul, NV.oneS, NV.oneV, NV.Arg.slot, Int.reducePow, Int.reduceNeg, reduceIte, Nat.reduceLT, Nat.reduceLeDiff, Int.reduceLT, Int.reduceLE, Int.reduceToNat, reduceCtorEq, Nat.reduceAdd, eq_self, hΓ, this, Int.toNat_natCast]
  -- letters, mode, share
  refine NV.go_seq (by simp only [NV.XS, NV.killG, NV.fzG, NV.immG, NV.immS, NV.D.tru, NV.gNeg, NV.D.items, NV.twoI, NV.OT.d, NV.OT.ds, NV.cMod, NV.cDiv, NV.cMul, NV.oneS, NV.oneV, NV.Arg.slot, Int.reducePow, Int.reduceNeg, reduceIte, Nat.reduceLT, Nat.reduceLeDiff, Int.reduceLT, Int.reduceLE, Int.reduceToNat, reduceCtorEq, Nat.reduceAdd, eq_self, r1]; rfl) ?_
  obtain ⟨c, hc⟩ := nat_ex (j := 1 + (x1 : Int) % 4) (by omega)
  rw [hc]
  have hc1 : 1 ≤ c := by omega
  have hc4 : c ≤ 4 := by omega
  have rgc : ∀ Γ : Gm, Γ[3]? = some (.f (.i (c : Nat))) → iR1 (aCons (eVar 3) aNil) Γ = .ok (.f, rgD 0 c) Γ 0 := fun Γ hΓ => by
    have : decide ((c : Int) < -100000 ∨ 100000 < (c : Int)) = false := decide_eq_false (by omega)
    simp only [NV.XS, NV.killG, NV.fzG, NV.immG, NV.immS, NV.D.tru, NV.gNeg, NV.D.items, NV.twoI, NV.OT.d, NV.OT.ds, NV.cMod, NV.cDiv, NV.cMul, NV.oneS, NV.oneV, NV.Arg.slot, Int.reducePow, Int.reduceNeg, reduceIte, Nat.reduceLT, Nat.reduceLeDiff, Int.reduceLT, Int.reduceLE, Int.reduceToNat, reduceCtorEq, Nat.reduceAdd, eq_self, hΓ, this, Int.toNat_natCast]
  refine NV.go_seq (by simp only [NV.XS, NV.killG, NV.fzG, NV.immG, NV.immS, NV.D.tru, NV.gNeg, NV.D.items, NV.twoI, NV.OT.d, NV.OT.ds, NV.cMod, NV.cDiv, NV.cMul, NV.oneS, NV.oneV, NV.Arg.slot, Int.reducePow, Int.reduceNeg, reduceIte, Nat.reduceLT, Nat.reduceLeDiff, Int.reduceLT, Int.reduceLE, Int.reduceToNat, reduceCtorEq, Nat.reduceAdd, eq_self, r2]; rfl) ?_
  refine NV.go_seq (by simp only [NV.XS, NV.killG, NV.fzG, NV.immG, NV.immS, NV.D.tru, NV.gNeg, NV.D.items, NV.twoI, NV.OT.d, NV.OT.ds, NV.cMod, NV.cDiv, NV.cMul, NV.oneS, NV.oneV, NV.Arg.slot, Int.reducePow, Int.reduceNeg, reduceIte, Nat.reduceLT, Nat.reduceLeDiff, Int.reduceLT, Int.reduceLE, Int.reduceToNat, reduceCtorEq, Nat.reduceAdd, eq_self, r2]; rfl) ?_
  generalize (x2 : Int) % 4 = mo
  generalize (x2 : Int) / 4 % 7 = sh
  refine NV.go_seq (by simp only [NV.XS, NV.killG, NV.fzG, NV.immG, NV.immS, NV.D.tru, NV.gNeg, NV.D.items, NV.twoI, NV.OT.d, NV.OT.ds, NV.cMod, NV.cDiv, NV.cMul, NV.oneS, NV.oneV, NV.Arg.slot, Int.reducePow, Int.reduceNeg, reduceIte, Nat.reduceLT, Nat.reduceLeDiff, Int.reduceLT, Int.reduceLE, Int.reduceToNat, reduceCtorEq, Nat.reduceAdd, eq_self]; rfl) ?_
  refine NV.go_seq (by simp only [NV.XS, NV.killG, NV.fzG, NV.immG, NV.immS, NV.D.tru, NV.gNeg, NV.D.items, NV.twoI, NV.OT.d, NV.OT.ds, NV.cMod, NV.cDiv, NV.cMul, NV.oneS, NV.oneV, NV.Arg.slot, Int.reducePow, Int.reduceNeg, reduceIte, Nat.reduceLT, Nat.reduceLeDiff, Int.reduceLT, Int.reduceLE, Int.reduceToNat, reduceCtorEq, Nat.reduceAdd, eq_self]; rfl) ?_
  -- rows
  have hnpos : (0 : Int) < (n : Int) := by omega
  let cl : Nat → Nat → Nat := fun s k => xs.getD (4 + 4 * (s : Int) + (k : Int)).toNat 0
  let T0 : Nat → Nat → Nat := fun s k => cl s k % n
  let M0 : Nat → Nat → Bool := fun s k => decide ((cl s k : Int) / 840 < sh)
  refine go_seqX (fun Γ => ∃ (T : Nat → Nat → Nat) (M : Nat → Nat → Bool), (∀ s k, s < n → k < c → T s k < n) ∧ Γ = [.r (rowD xs), .f (.i top), .f (.i n), .f (.i c), .f (.i mo), .f (.i sh), .o (tgO n c T), .o (flO n c M), .n, .n, .n, .n, .n, .n, .n, .n, .n, .n, .n, .n]) ?_ ?_
  · refine go_kb ?_
    simp only [NV.killG, NV.fzG, NV.immG, NV.immS, NV.imm_v, List.foldl_cons, List.foldl_nil, List.getElem?_cons_zero, List.getElem?_cons_succ, List.set_cons_zero, List.set_cons_succ, NV.Arg.slot, List.map_cons, List.map_nil, List.cons_append, List.nil_append, List.replicate, if_true]
    refine go_for (rgn _ rfl) (by simp) ?_
    refine forL_rg (fun i Γ => Γ = [.r (rowD xs), .f (.i top), .f (.i n), .f (.i c), .f (.i mo), .f (.i sh), .o (tgO i c T0), .o (flO i c M0), .n, .n, .n, .n, .n, .n, .n, .n, .n, .n, .n, .n]) rfl ?_ ?_
    · rintro s _ hs rfl
      refine ⟨_, by simp only [NV.XS, NV.killG, NV.fzG, NV.immG, NV.immS, NV.D.tru, NV.gNeg, NV.D.items, NV.twoI, NV.OT.d, NV.OT.ds, NV.cMod, NV.cDiv, NV.cMul, NV.oneS, NV.oneV, NV.Arg.slot, Int.reducePow, Int.reduceNeg, reduceIte, Nat.reduceLT, Nat.reduceLeDiff, Int.reduceLT, Int.reduceLE, Int.reduceToNat, reduceCtorEq, Nat.reduceAdd, eq_self]; rfl, ?_⟩
      refine go_kill ?_
      refine go_seq (Γ1 := [.r (rowD xs), .f (.i top), .f (.i n), .f (.i c), .f (.i mo), .f (.i sh), .o (tgO s c T0), .o (flO s c M0), .f (.i s), .n, .n, .n, .n, .n, .f (.l (tab c fun k => .i (cl s k : Nat))), .n, .n, .n, .n, .n]) ?_ ?_
      · rw [q_asg, q_fz, lc_rg c (fun k => .fz (.i (cl s k : Nat))) (rgc _ rfl) (by omega) fun k hk => ⟨_, _, by simp only [NV.XS, NV.killG, NV.fzG, NV.immG, NV.immS, NV.D.tru, NV.gNeg, NV.D.items, NV.twoI, NV.OT.d, NV.OT.ds, NV.cMod, NV.cDiv, NV.cMul, NV.oneS, NV.oneV, NV.Arg.slot, Int.reducePow, Int.reduceNeg, reduceIte, Nat.reduceLT, Nat.reduceLeDiff, Int.reduceLT, Int.reduceLE, Int.reduceToNat, reduceCtorEq, Nat.reduceAdd, eq_self, wipeG]; rfl, by simp only [NV.XS, NV.killG, NV.fzG, NV.immG, NV.immS, NV.D.tru, NV.gNeg, NV.D.items, NV.twoI, NV.OT.d, NV.OT.ds, NV.cMod, NV.cDiv, NV.cMul, NV.oneS, NV.oneV, NV.Arg.slot, Int.reducePow, Int.reduceNeg, reduceIte, Nat.reduceLT, Nat.reduceLeDiff, Int.reduceLT, Int.reduceLE, Int.reduceToNat, reduceCtorEq, Nat.reduceAdd, eq_self, row_at (xs := xs) (j := 4 + 4 * (s : Int) + (k : Int)) (by omega) (by omega)]; rfl⟩]
        simp only [NV.XS, NV.killG, NV.fzG, NV.immG, NV.immS, NV.D.tru, NV.gNeg, NV.D.items, NV.twoI, NV.OT.d, NV.OT.ds, NV.cMod, NV.cDiv, NV.cMul, NV.oneS, NV.oneV, NV.Arg.slot, Int.reducePow, Int.reduceNeg, reduceIte, Nat.reduceLT, Nat.reduceLeDiff, Int.reduceLT, Int.reduceLE, Int.reduceToNat, reduceCtorEq, Nat.reduceAdd, eq_self, tabO_ds]
      · have e1 : oLc (iLi (eVar 14)) (tgName 19) tYe (oFz (eOp (gIc cMod fun i j => .int (i % j)) (eCB gInt (aCons (eVar 19) aNil)) (eVar 2))) [19] [.r (rowD xs), .f (.i top), .f (.i n), .f (.i c), .f (.i mo), .f (.i sh), .o (tgO s c T0), .o (flO s c M0), .f (.i s), .n, .n, .n, .n, .n, .f (.l (tab c fun k => .i (cl s k : Nat))), .n, .n, .n, .n, .n] = .ok (.l (tabO c fun k => .fz (.i (T0 s k : Nat)))) _ 0 :=
          lc_tab c (fun k => .i (cl s k : Nat)) _ (by simp only [NV.XS, NV.killG, NV.fzG, NV.immG, NV.immS, NV.D.tru, NV.gNeg, NV.D.items, NV.twoI, NV.OT.d, NV.OT.ds, NV.cMod, NV.cDiv, NV.cMul, NV.oneS, NV.oneV, NV.Arg.slot, Int.reducePow, Int.reduceNeg, reduceIte, Nat.reduceLT, Nat.reduceLeDiff, Int.reduceLT, Int.reduceLE, Int.reduceToNat, reduceCtorEq, Nat.reduceAdd, eq_self]; rfl) (by omega) fun k hk => ⟨_, _, by simp only [NV.XS, NV.killG, NV.fzG, NV.immG, NV.immS, NV.D.tru, NV.gNeg, NV.D.items, NV.twoI, NV.OT.d, NV.OT.ds, NV.cMod, NV.cDiv, NV.cMul, NV.oneS, NV.oneV, NV.Arg.slot, Int.reducePow, Int.reduceNeg, reduceIte, Nat.reduceLT, Nat.reduceLeDiff, Int.reduceLT, Int.reduceLE, Int.reduceToNat, reduceCtorEq, Nat.reduceAdd, eq_self, wipeG]; rfl, by simp only [NV.XS, NV.killG, NV.fzG, NV.immG, NV.immS, NV.D.tru, NV.gNeg, NV.D.items, NV.twoI, NV.OT.d, NV.OT.ds, NV.cMod, NV.cDiv, NV.cMul, NV.oneS, NV.oneV, NV.Arg.slot, Int.reducePow, Int.reduceNeg, reduceIte, Nat.reduceLT, Nat.reduceLeDiff, Int.reduceLT, Int.reduceLE, Int.reduceToNat, reduceCtorEq, Nat.reduceAdd, eq_self, hnpos]; rfl⟩
        refine go_seq (app1 (n := s) (G := fun s => .l (tabO c fun k => .fz (.i (T0 s k : Nat)))) rfl e1 (by omega)) ?_
        simp only [NV.killG, NV.fzG, NV.immG, NV.immS, NV.imm_v, List.foldl_cons, List.foldl_nil, List.getElem?_cons_zero, List.getElem?_cons_succ, List.set_cons_zero, List.set_cons_succ, NV.Arg.slot, List.map_cons, List.map_nil, List.cons_append, List.nil_append, List.replicate, if_true]
        have e2 : oLc (iLi (eVar 14)) (tgName 19) tYe (oFz (eOp (gI fun i j => .bl (decide (i < j))) (eOp (gIc cDiv fun i j => .int (i / j)) (eVar 19) (eC (.int 840))) (eVar 5))) [19] [.r (rowD xs), .f (.i top), .f (.i n), .f (.i c), .f (.i mo), .f (.i sh), .o (tgO (s + 1) c T0), .o (flO s c M0), .f (.i s), .n, .n, .n, .n, .n, .f (.l (tab c fun k => .i (cl s k : Nat))), .n, .n, .n, .n, .n] = .ok (.l (tabO c fun k => .fz (.b (M0 s k)))) _ 0 :=
          lc_tab c (fun k => .i (cl s k : Nat)) _ (by simp only [NV.XS, NV.killG, NV.fzG, NV.immG, NV.immS, NV.D.tru, NV.gNeg, NV.D.items, NV.twoI, NV.OT.d, NV.OT.ds, NV.cMod, NV.cDiv, NV.cMul, NV.oneS, NV.oneV, NV.Arg.slot, Int.reducePow, Int.reduceNeg, reduceIte, Nat.reduceLT, Nat.reduceLeDiff, Int.reduceLT, Int.reduceLE, Int.reduceToNat, reduceCtorEq, Nat.reduceAdd, eq_self]; rfl) (by omega) fun k hk => ⟨_, _, by simp only [NV.XS, NV.killG, NV.fzG, NV.immG, NV.immS, NV.D.tru, NV.gNeg, NV.D.items, NV.twoI, NV.OT.d, NV.OT.ds, NV.cMod, NV.cDiv, NV.cMul, NV.oneS, NV.oneV, NV.Arg.slot, Int.reducePow, Int.reduceNeg, reduceIte, Nat.reduceLT, Nat.reduceLeDiff, Int.reduceLT, Int.reduceLE, Int.reduceToNat, reduceCtorEq, Nat.reduceAdd, eq_self, wipeG]; rfl, by simp only [NV.XS, NV.killG, NV.fzG, NV.immG, NV.immS, NV.D.tru, NV.gNeg, NV.D.items, NV.twoI, NV.OT.d, NV.OT.ds, NV.cMod, NV.cDiv, NV.cMul, NV.oneS, NV.oneV, NV.Arg.slot, Int.reducePow, Int.reduceNeg, reduceIte, Nat.reduceLT, Nat.reduceLeDiff, Int.reduceLT, Int.reduceLE, Int.reduceToNat, reduceCtorEq, Nat.reduceAdd, eq_self]; rfl⟩
        exact go_end (app1 (n := s) (G := fun s => .l (tabO c fun k => .fz (.b (M0 s k)))) rfl e2 (by omega)) ⟨_, rfl, by simp only [NV.killG, NV.fzG, NV.immG, NV.immS, NV.imm_v, List.foldl_cons, List.foldl_nil, List.getElem?_cons_zero, List.getElem?_cons_succ, List.set_cons_zero, List.set_cons_succ, NV.Arg.slot, List.map_cons, List.map_nil, List.cons_append, List.nil_append, List.replicate, if_true]; rfl⟩
    · rintro _ rfl
      exact ⟨_, rfl, T0, M0, fun s k _ _ => Nat.mod_lt _ (by omega), rfl⟩
  rintro _ ⟨T, M, hT, rfl⟩
  -- columns
  refine go_seqX (fun Γ => ∃ (T : Nat → Nat → Nat) (M : Nat → Nat → Bool), (∀ s k, s < n → k < c → T s k < n) ∧ Γ = [.r (rowD xs), .f (.i top), .f (.i n), .f (.i c), .f (.i mo), .f (.i sh), .o (tgO n c T), .o (flO n c M), .n, .n, .n, .n, .n, .n, .n, .n, .n, .n, .n, .n]) ?_ ?_
  · refine go_kb ?_
    simp only [NV.killG, NV.fzG, NV.immG, NV.immS, NV.imm_v, List.foldl_cons, List.foldl_nil, List.getElem?_cons_zero, List.getElem?_cons_succ, List.set_cons_zero, List.set_cons_succ, NV.Arg.slot, List.map_cons, List.map_nil, List.cons_append, List.nil_append, List.replicate, if_true]
    refine go_for (rgc _ rfl) (by simp) ?_
    refine forL_rg (fun i Γ => ∃ (T : Nat → Nat → Nat) (M : Nat → Nat → Bool), (∀ s k, s < n → k < c → T s k < n) ∧ Γ = [.r (rowD xs), .f (.i top), .f (.i n), .f (.i c), .f (.i mo), .f (.i sh), .o (tgO n c T), .o (flO n c M), .n, .n, .n, .n, .n, .n, .n, .n, .n, .n, .n, .n]) ⟨T, M, hT, rfl⟩ ?_ ?_
    · rintro k _ hk ⟨T, M, hT, rfl⟩
      refine ⟨_, by simp only [NV.XS, NV.killG, NV.fzG, NV.immG, NV.immS, NV.D.tru, NV.gNeg, NV.D.items, NV.twoI, NV.OT.d, NV.OT.ds, NV.cMod, NV.cDiv, NV.cMul, NV.oneS, NV.oneV, NV.Arg.slot, Int.reducePow, Int.reduceNeg, reduceIte, Nat.reduceLT, Nat.reduceLeDiff, Int.reduceLT, Int.reduceLE, Int.reduceToNat, reduceCtorEq, Nat.reduceAdd, eq_self]; rfl, go_kill ?_⟩
      obtain ⟨col, hcol, hsort⟩ := sort_tab (n := n) (f := fun s => T s k) fun s hs => hT s k hs hk
      have hn64 : n < 64 := by omega
      refine go_seq (Γ1 := [.r (rowD xs), .f (.i top), .f (.i n), .f (.i c), .f (.i mo), .f (.i sh), .o (tgO n c T), .o (flO n c M), .n, .f (.i k), .n, .n, .n, .n, .n, .f (.l (tab n fun s => .i (col s : Nat))), .n, .n, .n, .n]) ?_ ?_
      · rw [q_asg, q_fz, q_sorted, q_cons, q_fz, lc_rg n (fun s => .fz (.i (T s k : Nat))) (rgn _ rfl) (by omega) fun s hs => ⟨_, _, by simp only [NV.XS, NV.killG, NV.fzG, NV.immG, NV.immS, NV.D.tru, NV.gNeg, NV.D.items, NV.twoI, NV.OT.d, NV.OT.ds, NV.cMod, NV.cDiv, NV.cMul, NV.oneS, NV.oneV, NV.Arg.slot, Int.reducePow, Int.reduceNeg, reduceIte, Nat.reduceLT, Nat.reduceLeDiff, Int.reduceLT, Int.reduceLE, Int.reduceToNat, reduceCtorEq, Nat.reduceAdd, eq_self, wipeG]; rfl, by simp only [NV.XS, NV.killG, NV.fzG, NV.immG, NV.immS, NV.D.tru, NV.gNeg, NV.D.items, NV.twoI, NV.OT.d, NV.OT.ds, NV.cMod, NV.cDiv, NV.cMul, NV.oneS, NV.oneV, NV.Arg.slot, Int.reducePow, Int.reduceNeg, reduceIte, Nat.reduceLT, Nat.reduceLeDiff, Int.reduceLT, Int.reduceLE, Int.reduceToNat, reduceCtorEq, Nat.reduceAdd, eq_self, tgO, tabO_ds, atI_tab hs, atI_tab hk, tabO_d]; rfl⟩]
        simp only [NV.XS, NV.killG, NV.fzG, NV.immG, NV.immS, NV.D.tru, NV.gNeg, NV.D.items, NV.twoI, NV.OT.d, NV.OT.ds, NV.cMod, NV.cDiv, NV.cMul, NV.oneS, NV.oneV, NV.Arg.slot, Int.reducePow, Int.reduceNeg, reduceIte, Nat.reduceLT, Nat.reduceLeDiff, Int.reduceLT, Int.reduceLE, Int.reduceToNat, reduceCtorEq, Nat.reduceAdd, eq_self, tabO_ds, intsOf_tab n fun s => T s k, hsort, List.length_map, List.length_range, hn64, ds_map, List.map_map]
        rfl
      · obtain ⟨x36, b36, r36⟩ := row_ex hx (j := 36 + (k : Int)) (by omega) (by omega)
        have hn1p : (0 : Int) < (n : Int) + 1 := by omega
        refine NV.go_seq (by simp only [NV.XS, NV.killG, NV.fzG, NV.immG, NV.immS, NV.D.tru, NV.gNeg, NV.D.items, NV.twoI, NV.OT.d, NV.OT.ds, NV.cMod, NV.cDiv, NV.cMul, NV.oneS, NV.oneV, NV.Arg.slot, Int.reducePow, Int.reduceNeg, reduceIte, Nat.reduceLT, Nat.reduceLeDiff, Int.reduceLT, Int.reduceLE, Int.reduceToNat, reduceCtorEq, Nat.reduceAdd, eq_self, r36, hn1p]; rfl) ?_
        refine go_seqX (fun Γ => ∃ bar : Int, Γ = [.r (rowD xs), .f (.i top), .f (.i n), .f (.i c), .f (.i mo), .f (.i sh), .o (tgO n c T), .o (flO n c M), .n, .f (.i k), .n, .n, .n, .n, .n, .f (.l (tab n fun s => .i (col s : Nat))), .f (.i bar), .n, .n, .n]) ?_ ?_
        · refine go_kb ?_
          simp only [NV.killG, NV.fzG, NV.immG, NV.immS, NV.imm_v, List.foldl_cons, List.foldl_nil, List.getElem?_cons_zero, List.getElem?_cons_succ, List.set_cons_zero, List.set_cons_succ, NV.Arg.slot, List.map_cons, List.map_nil, List.cons_append, List.nil_append, List.replicate, if_true]
          refine go_for (rgn _ rfl) (by simp) ?_
          refine forL_rg (fun i Γ => ∃ bar : Int, Γ = [.r (rowD xs), .f (.i top), .f (.i n), .f (.i c), .f (.i mo), .f (.i sh), .o (tgO n c T), .o (flO n c M), .n, .f (.i k), .n, .n, .n, .n, .n, .f (.l (tab n fun s => .i (col s : Nat))), .f (.i bar), .n, .n, .n]) ⟨_, rfl⟩ ?_ ?_
          · rintro s _ hs ⟨bar, rfl⟩
            refine ⟨_, by simp only [NV.XS, NV.killG, NV.fzG, NV.immG, NV.immS, NV.D.tru, NV.gNeg, NV.D.items, NV.twoI, NV.OT.d, NV.OT.ds, NV.cMod, NV.cDiv, NV.cMul, NV.oneS, NV.oneV, NV.Arg.slot, Int.reducePow, Int.reduceNeg, reduceIte, Nat.reduceLT, Nat.reduceLeDiff, Int.reduceLT, Int.reduceLE, Int.reduceToNat, reduceCtorEq, Nat.reduceAdd, eq_self]; rfl, go_kill ?_⟩
            refine go_ifB (by simp only [NV.XS, NV.killG, NV.fzG, NV.immG, NV.immS, NV.D.tru, NV.gNeg, NV.D.items, NV.twoI, NV.OT.d, NV.OT.ds, NV.cMod, NV.cDiv, NV.cMul, NV.oneS, NV.oneV, NV.Arg.slot, Int.reducePow, Int.reduceNeg, reduceIte, Nat.reduceLT, Nat.reduceLeDiff, Int.reduceLT, Int.reduceLE, Int.reduceToNat, reduceCtorEq, Nat.reduceAdd, eq_self, atI_tab hs]; rfl) (fun _ => ?_) (fun _ => ?_)
            · exact go_end (by simp only [NV.XS, NV.killG, NV.fzG, NV.immG, NV.immS, NV.D.tru, NV.gNeg, NV.D.items, NV.twoI, NV.OT.d, NV.OT.ds, NV.cMod, NV.cDiv, NV.cMul, NV.oneS, NV.oneV, NV.Arg.slot, Int.reducePow, Int.reduceNeg, reduceIte, Nat.reduceLT, Nat.reduceLeDiff, Int.reduceLT, Int.reduceLE, Int.reduceToNat, reduceCtorEq, Nat.reduceAdd, eq_self]; rfl) ⟨_, rfl, _, by simp only [NV.killG, NV.fzG, NV.immG, NV.immS, NV.imm_v, List.foldl_cons, List.foldl_nil, List.getElem?_cons_zero, List.getElem?_cons_succ, List.set_cons_zero, List.set_cons_succ, NV.Arg.slot, List.map_cons, List.map_nil, List.cons_append, List.nil_append, List.replicate, if_true]; rfl⟩
            · exact go_end (by simp only [NV.XS, NV.killG, NV.fzG, NV.immG, NV.immS, NV.D.tru, NV.gNeg, NV.D.items, NV.twoI, NV.OT.d, NV.OT.ds, NV.cMod, NV.cDiv, NV.cMul, NV.oneS, NV.oneV, NV.Arg.slot, Int.reducePow, Int.reduceNeg, reduceIte, Nat.reduceLT, Nat.reduceLeDiff, Int.reduceLT, Int.reduceLE, Int.reduceToNat, reduceCtorEq, Nat.reduceAdd, eq_self]; rfl) ⟨_, rfl, _, by simp only [NV.killG, NV.fzG, NV.immG, NV.immS, NV.imm_v, List.foldl_cons, List.foldl_nil, List.getElem?_cons_zero, List.getElem?_cons_succ, List.set_cons_zero, List.set_cons_succ, NV.Arg.slot, List.map_cons, List.map_nil, List.cons_append, List.nil_append, List.replicate, if_true]; rfl⟩
          · rintro _ ⟨bar, rfl⟩
            exact ⟨_, rfl, bar, rfl⟩
        rintro _ ⟨bar, rfl⟩
        refine go_kb ?_
        simp only [NV.killG, NV.fzG, NV.immG, NV.immS, NV.imm_v, List.foldl_cons, List.foldl_nil, List.getElem?_cons_zero, List.getElem?_cons_succ, List.set_cons_zero, List.set_cons_succ, NV.Arg.slot, List.map_cons, List.map_nil, List.cons_append, List.nil_append, List.replicate, if_true]
        refine go_for (rgn _ rfl) (by simp) ?_
        refine forL_rg (fun i Γ => ∃ (T : Nat → Nat → Nat) (M : Nat → Nat → Bool), (∀ s k, s < n → k < c → T s k < n) ∧ Γ = [.r (rowD xs), .f (.i top), .f (.i n), .f (.i c), .f (.i mo), .f (.i sh), .o (tgO n c T), .o (flO n c M), .n, .f (.i k), .n, .n, .n, .n, .n, .f (.l (tab n fun s => .i (col s : Nat))), .f (.i bar), .n, .n, .n]) ⟨T, M, hT, rfl⟩ ?_ ?_
        · rintro s _ hs ⟨T, M, hT, rfl⟩
          refine ⟨_, by simp only [NV.XS, NV.killG, NV.fzG, NV.immG, NV.immS, NV.D.tru, NV.gNeg, NV.D.items, NV.twoI, NV.OT.d, NV.OT.ds, NV.cMod, NV.cDiv, NV.cMul, NV.oneS, NV.oneV, NV.Arg.slot, Int.reducePow, Int.reduceNeg, reduceIte, Nat.reduceLT, Nat.reduceLeDiff, Int.reduceLT, Int.reduceLE, Int.reduceToNat, reduceCtorEq, Nat.reduceAdd, eq_self]; rfl, go_kill ?_⟩
          refine go_ifB (by simp only [NV.XS, NV.killG, NV.fzG, NV.immG, NV.immS, NV.D.tru, NV.gNeg, NV.D.items, NV.twoI, NV.OT.d, NV.OT.ds, NV.cMod, NV.cDiv, NV.cMul, NV.oneS, NV.oneV, NV.Arg.slot, Int.reducePow, Int.reduceNeg, reduceIte, Nat.reduceLT, Nat.reduceLeDiff, Int.reduceLT, Int.reduceLE, Int.reduceToNat, reduceCtorEq, Nat.reduceAdd, eq_self]; rfl) (fun _ => ?_) (fun _ => ?_)
          · refine go_seq (set2 (i := 6) (a := 8) (b := 9) (s := s) (k := k) (u := .fz (.i (col s : Nat))) (by simp only [NV.XS, NV.killG, NV.fzG, NV.immG, NV.immS, NV.D.tru, NV.gNeg, NV.D.items, NV.twoI, NV.OT.d, NV.OT.ds, NV.cMod, NV.cDiv, NV.cMul, NV.oneS, NV.oneV, NV.Arg.slot, Int.reducePow, Int.reduceNeg, reduceIte, Nat.reduceLT, Nat.reduceLeDiff, Int.reduceLT, Int.reduceLE, Int.reduceToNat, reduceCtorEq, Nat.reduceAdd, eq_self, atI_tab hs]; rfl) rfl rfl rfl hs hk) ?_
            simp only [NV.killG, NV.fzG, NV.immG, NV.immS, NV.imm_v, List.foldl_cons, List.foldl_nil, List.getElem?_cons_zero, List.getElem?_cons_succ, List.set_cons_zero, List.set_cons_succ, NV.Arg.slot, List.map_cons, List.map_nil, List.cons_append, List.nil_append, List.replicate, if_true]
            refine go_end (set2 (i := 7) (a := 8) (b := 9) (s := s) (k := k) (u := .fz (.b (decide (bar ≤ (s : Int))))) (by simp only [NV.XS, NV.killG, NV.fzG, NV.immG, NV.immS, NV.D.tru, NV.gNeg, NV.D.items, NV.twoI, NV.OT.d, NV.OT.ds, NV.cMod, NV.cDiv, NV.cMul, NV.oneS, NV.oneV, NV.Arg.slot, Int.reducePow, Int.reduceNeg, reduceIte, Nat.reduceLT, Nat.reduceLeDiff, Int.reduceLT, Int.reduceLE, Int.reduceToNat, reduceCtorEq, Nat.reduceAdd, eq_self]; rfl) rfl rfl rfl hs hk) ⟨_, rfl, fun s' k' => if s' = s ∧ k' = k then col s else T s' k', fun s' k' => if s' = s ∧ k' = k then decide (bar ≤ (s : Int)) else M s' k', ?_, ?_⟩
            · intro s' k' h1 h2
              dsimp only
              split
              · exact hcol s hs
              · exact hT s' k' h1 h2
            · simp only [NV.killG, NV.fzG, NV.immG, NV.immS, NV.imm_v, List.foldl_cons, List.foldl_nil, List.getElem?_cons_zero, List.getElem?_cons_succ, List.set_cons_zero, List.set_cons_succ, NV.Arg.slot, List.map_cons, List.map_nil, List.cons_append, List.nil_append, List.replicate, if_true]
              rw [tgO_upd, flO_upd]
          · exact go_end (by simp only [NV.XS, NV.killG, NV.fzG, NV.immG, NV.immS, NV.D.tru, NV.gNeg, NV.D.items, NV.twoI, NV.OT.d, NV.OT.ds, NV.cMod, NV.cDiv, NV.cMul, NV.oneS, NV.oneV, NV.Arg.slot, Int.reducePow, Int.reduceNeg, reduceIte, Nat.reduceLT, Nat.reduceLeDiff, Int.reduceLT, Int.reduceLE, Int.reduceToNat, reduceCtorEq, Nat.reduceAdd, eq_self]; rfl) ⟨_, rfl, T, M, hT, by simp only [NV.killG, NV.fzG, NV.immG, NV.immS, NV.imm_v, List.foldl_cons, List.foldl_nil, List.getElem?_cons_zero, List.getElem?_cons_succ, List.set_cons_zero, List.set_cons_succ, NV.Arg.slot, List.map_cons, List.map_nil, List.cons_append, List.nil_append, List.replicate, if_true]⟩
        · rintro _ ⟨T, M, hT, rfl⟩
          exact ⟨_, rfl, T, M, hT, by simp only [NV.killG, NV.fzG, NV.immG, NV.immS, NV.imm_v, List.foldl_cons, List.foldl_nil, List.getElem?_cons_zero, List.getElem?_cons_succ, List.set_cons_zero, List.set_cons_succ, NV.Arg.slot, List.map_cons, List.map_nil, List.cons_append, List.nil_append, List.replicate, if_true]⟩
    · rintro _ ⟨T, M, hT, rfl⟩
      exact ⟨_, rfl, T, M, hT, rfl⟩
  rintro _ ⟨T, M, hT, rfl⟩
  -- a change
  obtain ⟨x48, b48, r48⟩ := row_ex hx (j := 48) (by omega) (by omega)
  obtain ⟨x49, b49, r49⟩ := row_ex hx (j := 49) (by omega) (by omega)
  obtain ⟨x50, b50, r50⟩ := row_ex hx (j := 50) (by omega) (by omega)
  have hcpos : (0 : Int) < (c : Int) := by omega
  obtain ⟨s0, hs0⟩ := nat_ex (j := (x48 : Int) % (n : Int)) (Int.emod_nonneg _ (by omega))
  obtain ⟨k0, hk0⟩ := nat_ex (j := (x49 : Int) % (c : Int)) (Int.emod_nonneg _ (by omega))
  obtain ⟨v0, hv0⟩ := nat_ex (j := (x50 : Int) / 2 % (n : Int)) (Int.emod_nonneg _ (by omega))
  have hs0n : s0 < n := by have := Int.emod_lt_of_pos (x48 : Int) hnpos; omega
  have hk0c : k0 < c := by have := Int.emod_lt_of_pos (x49 : Int) hcpos; omega
  have hv0n : v0 < n := by have := Int.emod_lt_of_pos ((x50 : Int) / 2) hnpos; omega
  refine NV.go_seq (by simp only [NV.XS, NV.killG, NV.fzG, NV.immG, NV.immS, NV.D.tru, NV.gNeg, NV.D.items, NV.twoI, NV.OT.d, NV.OT.ds, NV.cMod, NV.cDiv, NV.cMul, NV.oneS, NV.oneV, NV.Arg.slot, Int.reducePow, Int.reduceNeg, reduceIte, Nat.reduceLT, Nat.reduceLeDiff, Int.reduceLT, Int.reduceLE, Int.reduceToNat, reduceCtorEq, Nat.reduceAdd, eq_self, r48, hnpos]; rfl) ?_
  rw [hs0]
  refine NV.go_seq (by simp only [NV.XS, NV.killG, NV.fzG, NV.immG, NV.immS, NV.D.tru, NV.gNeg, NV.D.items, NV.twoI, NV.OT.d, NV.OT.ds, NV.cMod, NV.cDiv, NV.cMul, NV.oneS, NV.oneV, NV.Arg.slot, Int.reducePow, Int.reduceNeg, reduceIte, Nat.reduceLT, Nat.reduceLeDiff, Int.reduceLT, Int.reduceLE, Int.reduceToNat, reduceCtorEq, Nat.reduceAdd, eq_self, r49, hcpos]; rfl) ?_
  rw [hk0]
  refine go_seqX (fun Γ => ∃ (M : Nat → Nat → Bool), Γ = [.r (rowD xs), .f (.i top), .f (.i n), .f (.i c), .f (.i mo), .f (.i sh), .o (tgO n c T), .o (flO n c M), .f (.i s0), .f (.i k0), .n, .n, .n, .n, .n, .n, .n, .n, .n, .n]) ?_ ?_
  · refine go_ifB (by simp only [NV.XS, NV.killG, NV.fzG, NV.immG, NV.immS, NV.D.tru, NV.gNeg, NV.D.items, NV.twoI, NV.OT.d, NV.OT.ds, NV.cMod, NV.cDiv, NV.cMul, NV.oneS, NV.oneV, NV.Arg.slot, Int.reducePow, Int.reduceNeg, reduceIte, Nat.reduceLT, Nat.reduceLeDiff, Int.reduceLT, Int.reduceLE, Int.reduceToNat, reduceCtorEq, Nat.reduceAdd, eq_self, r50]; rfl) (fun _ => ?_) (fun _ => ?_)
    · refine go_end (set2 (i := 7) (a := 8) (b := 9) (s := s0) (k := k0) (u := .fz (.b (!M s0 k0))) (by simp only [NV.XS, NV.killG, NV.fzG, NV.immG, NV.immS, NV.D.tru, NV.gNeg, NV.D.items, NV.twoI, NV.OT.d, NV.OT.ds, NV.cMod, NV.cDiv, NV.cMul, NV.oneS, NV.oneV, NV.Arg.slot, Int.reducePow, Int.reduceNeg, reduceIte, Nat.reduceLT, Nat.reduceLeDiff, Int.reduceLT, Int.reduceLE, Int.reduceToNat, reduceCtorEq, Nat.reduceAdd, eq_self, flO, tabO_ds, atI_tab hs0n, atI_tab hk0c, tabO_d]; rfl) rfl rfl rfl hs0n hk0c) ⟨_, rfl, fun s' k' => if s' = s0 ∧ k' = k0 then !M s0 k0 else M s' k', ?_⟩
      simp only [NV.killG, NV.fzG, NV.immG, NV.immS, NV.imm_v, List.foldl_cons, List.foldl_nil, List.getElem?_cons_zero, List.getElem?_cons_succ, List.set_cons_zero, List.set_cons_succ, NV.Arg.slot, List.map_cons, List.map_nil, List.cons_append, List.nil_append, List.replicate, if_true]
      rw [flO_upd]
    · exact go_end (by simp only [NV.XS, NV.killG, NV.fzG, NV.immG, NV.immS, NV.D.tru, NV.gNeg, NV.D.items, NV.twoI, NV.OT.d, NV.OT.ds, NV.cMod, NV.cDiv, NV.cMul, NV.oneS, NV.oneV, NV.Arg.slot, Int.reducePow, Int.reduceNeg, reduceIte, Nat.reduceLT, Nat.reduceLeDiff, Int.reduceLT, Int.reduceLE, Int.reduceToNat, reduceCtorEq, Nat.reduceAdd, eq_self]; rfl) ⟨_, rfl, M, by simp only [NV.killG, NV.fzG, NV.immG, NV.immS, NV.imm_v, List.foldl_cons, List.foldl_nil, List.getElem?_cons_zero, List.getElem?_cons_succ, List.set_cons_zero, List.set_cons_succ, NV.Arg.slot, List.map_cons, List.map_nil, List.cons_append, List.nil_append, List.replicate, if_true]⟩
  rintro _ ⟨M, rfl⟩
  refine go_seqX (fun Γ => ∃ (T : Nat → Nat → Nat), (∀ s k, s < n → k < c → T s k < n) ∧ Γ = [.r (rowD xs), .f (.i top), .f (.i n), .f (.i c), .f (.i mo), .f (.i sh), .o (tgO n c T), .o (flO n c M), .f (.i s0), .f (.i k0), .n, .n, .n, .n, .n, .n, .n, .n, .n, .n]) ?_ ?_
  · refine go_ifB (by simp only [NV.XS, NV.killG, NV.fzG, NV.immG, NV.immS, NV.D.tru, NV.gNeg, NV.D.items, NV.twoI, NV.OT.d, NV.OT.ds, NV.cMod, NV.cDiv, NV.cMul, NV.oneS, NV.oneV, NV.Arg.slot, Int.reducePow, Int.reduceNeg, reduceIte, Nat.reduceLT, Nat.reduceLeDiff, Int.reduceLT, Int.reduceLE, Int.reduceToNat, reduceCtorEq, Nat.reduceAdd, eq_self, r50]; rfl) (fun _ => ?_) (fun _ => ?_)
    · refine go_end (set2 (i := 6) (a := 8) (b := 9) (s := s0) (k := k0) (u := .fz (.i (v0 : Nat))) (by simp only [NV.XS, NV.killG, NV.fzG, NV.immG, NV.immS, NV.D.tru, NV.gNeg, NV.D.items, NV.twoI, NV.OT.d, NV.OT.ds, NV.cMod, NV.cDiv, NV.cMul, NV.oneS, NV.oneV, NV.Arg.slot, Int.reducePow, Int.reduceNeg, reduceIte, Nat.reduceLT, Nat.reduceLeDiff, Int.reduceLT, Int.reduceLE, Int.reduceToNat, reduceCtorEq, Nat.reduceAdd, eq_self, r50, hnpos, hv0]; rfl) rfl rfl rfl hs0n hk0c) ⟨_, rfl, fun s' k' => if s' = s0 ∧ k' = k0 then v0 else T s' k', ?_, ?_⟩
      · intro s' k' h1 h2
        dsimp only
        split
        · exact hv0n
        · exact hT s' k' h1 h2
      · simp only [NV.killG, NV.fzG, NV.immG, NV.immS, NV.imm_v, List.foldl_cons, List.foldl_nil, List.getElem?_cons_zero, List.getElem?_cons_succ, List.set_cons_zero, List.set_cons_succ, NV.Arg.slot, List.map_cons, List.map_nil, List.cons_append, List.nil_append, List.replicate, if_true]
        rw [tgO_upd]
    · exact go_end (by simp only [NV.XS, NV.killG, NV.fzG, NV.immG, NV.immS, NV.D.tru, NV.gNeg, NV.D.items, NV.twoI, NV.OT.d, NV.OT.ds, NV.cMod, NV.cDiv, NV.cMul, NV.oneS, NV.oneV, NV.Arg.slot, Int.reducePow, Int.reduceNeg, reduceIte, Nat.reduceLT, Nat.reduceLeDiff, Int.reduceLT, Int.reduceLE, Int.reduceToNat, reduceCtorEq, Nat.reduceAdd, eq_self]; rfl) ⟨_, rfl, T, hT, by simp only [NV.killG, NV.fzG, NV.immG, NV.immS, NV.imm_v, List.foldl_cons, List.foldl_nil, List.getElem?_cons_zero, List.getElem?_cons_succ, List.set_cons_zero, List.set_cons_succ, NV.Arg.slot, List.map_cons, List.map_nil, List.cons_append, List.nil_append, List.replicate, if_true]⟩
  clear hT
  rintro _ ⟨T, hT, rfl⟩
  refine NV.go_seq (by simp only [NV.XS, NV.killG, NV.fzG, NV.immG, NV.immS, NV.D.tru, NV.gNeg, NV.D.items, NV.twoI, NV.OT.d, NV.OT.ds, NV.cMod, NV.cDiv, NV.cMul, NV.oneS, NV.oneV, NV.Arg.slot, Int.reducePow, Int.reduceNeg, reduceIte, Nat.reduceLT, Nat.reduceLeDiff, Int.reduceLT, Int.reduceLE, Int.reduceToNat, reduceCtorEq, Nat.reduceAdd, eq_self, rgO, Int.toNat_natCast, (decide_eq_false (by omega) : decide ((n : Int) < -100000 ∨ 100000 < (n : Int)) = false)]; rfl) ?_
  -- names
  refine go_seqX (fun Γ => ∃ p : Nat → Nat, (∀ s, s < n → p s < n) ∧ (∀ s, s < n → ∃ j, j < n ∧ p j = s) ∧ Γ = [.r (rowD xs), .f (.i top), .f (.i n), .f (.i c), .f (.i mo), .f (.i sh), .o (tgO n c T), .o (flO n c M), .n, .f (.i k0), .o (.l (tabO n fun i => .fz (.i (p i : Nat)))), .n, .n, .n, .n, .n, .n, .n, .n, .n]) ?_ ?_
  · refine go_kb ?_
    simp only [NV.killG, NV.fzG, NV.immG, NV.immS, NV.imm_v, List.foldl_cons, List.foldl_nil, List.getElem?_cons_zero, List.getElem?_cons_succ, List.set_cons_zero, List.set_cons_succ, NV.Arg.slot, List.map_cons, List.map_nil, List.cons_append, List.nil_append, List.replicate, if_true]
    refine go_for (rgn _ rfl) (by simp) ?_
    refine forL_rg (fun i Γ => ∃ p : Nat → Nat, (∀ s, s < n → p s < n) ∧ (∀ s, s < n → ∃ j, j < n ∧ p j = s) ∧ Γ = [.r (rowD xs), .f (.i top), .f (.i n), .f (.i c), .f (.i mo), .f (.i sh), .o (tgO n c T), .o (flO n c M), .n, .f (.i k0), .o (.l (tabO n fun i => .fz (.i (p i : Nat)))), .n, .n, .n, .n, .n, .n, .n, .n, .n]) ⟨fun i => i, fun s h => h, fun s h => ⟨s, h, rfl⟩, rfl⟩ ?_ ?_
    · rintro s _ hs ⟨p, hp1, hp2, rfl⟩
      refine ⟨_, by simp only [NV.XS, NV.killG, NV.fzG, NV.immG, NV.immS, NV.D.tru, NV.gNeg, NV.D.items, NV.twoI, NV.OT.d, NV.OT.ds, NV.cMod, NV.cDiv, NV.cMul, NV.oneS, NV.oneV, NV.Arg.slot, Int.reducePow, Int.reduceNeg, reduceIte, Nat.reduceLT, Nat.reduceLeDiff, Int.reduceLT, Int.reduceLE, Int.reduceToNat, reduceCtorEq, Nat.reduceAdd, eq_self]; rfl, go_kill ?_⟩
      obtain ⟨x40, b40, r40⟩ := row_ex hx (j := 40 + (s : Int)) (by omega) (by omega)
      have hd : (0 : Int) < (n : Int) - (s : Int) := by omega
      obtain ⟨t, ht⟩ := nat_ex (j := (s : Int) + (x40 : Int) % ((n : Int) - (s : Int))) (by have := Int.emod_nonneg (x40 : Int) (by omega : (n : Int) - (s : Int) ≠ 0); omega)
      have htn : t < n := by have := Int.emod_lt_of_pos (x40 : Int) hd; omega
      refine NV.go_seq (by simp only [NV.XS, NV.killG, NV.fzG, NV.immG, NV.immS, NV.D.tru, NV.gNeg, NV.D.items, NV.twoI, NV.OT.d, NV.OT.ds, NV.cMod, NV.cDiv, NV.cMul, NV.oneS, NV.oneV, NV.Arg.slot, Int.reducePow, Int.reduceNeg, reduceIte, Nat.reduceLT, Nat.reduceLeDiff, Int.reduceLT, Int.reduceLE, Int.reduceToNat, reduceCtorEq, Nat.reduceAdd, eq_self, r40, hd]; rfl) ?_
      rw [ht]
      refine NV.go_seq (by simp only [NV.XS, NV.killG, NV.fzG, NV.immG, NV.immS, NV.D.tru, NV.gNeg, NV.D.items, NV.twoI, NV.OT.d, NV.OT.ds, NV.cMod, NV.cDiv, NV.cMul, NV.oneS, NV.oneV, NV.Arg.slot, Int.reducePow, Int.reduceNeg, reduceIte, Nat.reduceLT, Nat.reduceLeDiff, Int.reduceLT, Int.reduceLE, Int.reduceToNat, reduceCtorEq, Nat.reduceAdd, eq_self, tabO_ds, atI_tab hs]; rfl) ?_
      refine go_seq (set1 (s := s) (u := .fz (.i (p t : Nat))) (by simp only [NV.XS, NV.killG, NV.fzG, NV.immG, NV.immS, NV.D.tru, NV.gNeg, NV.D.items, NV.twoI, NV.OT.d, NV.OT.ds, NV.cMod, NV.cDiv, NV.cMul, NV.oneS, NV.oneV, NV.Arg.slot, Int.reducePow, Int.reduceNeg, reduceIte, Nat.reduceLT, Nat.reduceLeDiff, Int.reduceLT, Int.reduceLE, Int.reduceToNat, reduceCtorEq, Nat.reduceAdd, eq_self, tabO_ds, atI_tab htn]; rfl) rfl rfl hs) ?_
      simp only [NV.killG, NV.fzG, NV.immG, NV.immS, NV.imm_v, List.foldl_cons, List.foldl_nil, List.getElem?_cons_zero, List.getElem?_cons_succ, List.set_cons_zero, List.set_cons_succ, NV.Arg.slot, List.map_cons, List.map_nil, List.cons_append, List.nil_append, List.replicate, if_true]
      refine go_end (set1 (s := t) (u := .fz (.i (p s : Nat))) (by simp only [NV.XS, NV.killG, NV.fzG, NV.immG, NV.immS, NV.D.tru, NV.gNeg, NV.D.items, NV.twoI, NV.OT.d, NV.OT.ds, NV.cMod, NV.cDiv, NV.cMul, NV.oneS, NV.oneV, NV.Arg.slot, Int.reducePow, Int.reduceNeg, reduceIte, Nat.reduceLT, Nat.reduceLeDiff, Int.reduceLT, Int.reduceLE, Int.reduceToNat, reduceCtorEq, Nat.reduceAdd, eq_self]; rfl) rfl rfl htn) ⟨_, rfl, fun j => if j = t then p s else if j = s then p t else p j, ?_, ?_, ?_⟩
      · intro j hj
        dsimp only
        split
        · exact hp1 s hs
        · split
          · exact hp1 t htn
          · exact hp1 j hj
      · intro v hv
        obtain ⟨j, hj, e⟩ := hp2 v hv
        by_cases e1 : j = t
        · by_cases e2 : s = t
          · exact ⟨j, hj, by dsimp only; rw [if_pos e1, e2, ← e1, e]⟩
          · exact ⟨s, hs, by dsimp only; rw [if_neg e2, if_pos rfl, ← e1, e]⟩
        · by_cases e2 : j = s
          · exact ⟨t, htn, by dsimp only; rw [if_pos rfl, ← e2, e]⟩
          · exact ⟨j, hj, by dsimp only; rw [if_neg e1, if_neg e2, e]⟩
      · simp only [NV.killG, NV.fzG, NV.immG, NV.immS, NV.imm_v, List.foldl_cons, List.foldl_nil, List.getElem?_cons_zero, List.getElem?_cons_succ, List.set_cons_zero, List.set_cons_succ, NV.Arg.slot, List.map_cons, List.map_nil, List.cons_append, List.nil_append, List.replicate, if_true]
        congr 13
        refine tabO_congr fun j _ => ?_
        split
        · rfl
        · split <;> rfl
    · rintro _ ⟨p, hp1, hp2, rfl⟩
      exact ⟨_, rfl, p, hp1, hp2, rfl⟩
  rintro _ ⟨p, hp1, hp2, rfl⟩
  obtain ⟨pl, hpl⟩ := index_tab hp2
  -- places
  refine go_seq (Γ1 := [.r (rowD xs), .f (.i top), .f (.i n), .f (.i c), .f (.i mo), .f (.i sh), .o (tgO n c T), .o (flO n c M), .n, .f (.i k0), .o (.l (tabO n fun i => .fz (.i (p i : Nat)))), .f (.l (tab n fun s => .i (pl s : Nat))), .n, .n, .n, .n, .n, .n, .n, .n]) ?_ ?_
  · rw [q_asg, q_fz, lc_rg n (fun s => .fz (.i (pl s : Nat))) (rgn _ rfl) (by omega) fun s hs => ⟨_, _, by simp only [NV.XS, NV.killG, NV.fzG, NV.immG, NV.immS, NV.D.tru, NV.gNeg, NV.D.items, NV.twoI, NV.OT.d, NV.OT.ds, NV.cMod, NV.cDiv, NV.cMul, NV.oneS, NV.oneV, NV.Arg.slot, Int.reducePow, Int.reduceNeg, reduceIte, Nat.reduceLT, Nat.reduceLeDiff, Int.reduceLT, Int.reduceLE, Int.reduceToNat, reduceCtorEq, Nat.reduceAdd, eq_self, wipeG]; rfl, by rw [q_ofz, (hpl s hs).2 _ _ _ rfl rfl]; simp only [NV.XS, NV.killG, NV.fzG, NV.immG, NV.immS, NV.D.tru, NV.gNeg, NV.D.items, NV.twoI, NV.OT.d, NV.OT.ds, NV.cMod, NV.cDiv, NV.cMul, NV.oneS, NV.oneV, NV.Arg.slot, Int.reducePow, Int.reduceNeg, reduceIte, Nat.reduceLT, Nat.reduceLeDiff, Int.reduceLT, Int.reduceLE, Int.reduceToNat, reduceCtorEq, Nat.reduceAdd, eq_self]; rfl⟩]
    simp only [NV.XS, NV.killG, NV.fzG, NV.immG, NV.immS, NV.D.tru, NV.gNeg, NV.D.items, NV.twoI, NV.OT.d, NV.OT.ds, NV.cMod, NV.cDiv, NV.cMul, NV.oneS, NV.oneV, NV.Arg.slot, Int.reducePow, Int.reduceNeg, reduceIte, Nat.reduceLT, Nat.reduceLeDiff, Int.reduceLT, Int.reduceLE, Int.reduceToNat, reduceCtorEq, Nat.reduceAdd, eq_self, tabO_ds]
  -- moved
  refine go_seq (Γ1 := [.r (rowD xs), .f (.i top), .f (.i n), .f (.i c), .f (.i mo), .f (.i sh), .o (tgO n c T), .o (flO n c M), .n, .f (.i k0), .o (.l (tabO n fun i => .fz (.i (p i : Nat)))), .f (.l (tab n fun s => .i (pl s : Nat))), .f (.l (tab n fun s => .l (tab c fun k => .i (p (T (pl s) k) : Nat)))), .n, .n, .n, .n, .n, .n, .n]) ?_ ?_
  · rw [q_asg, q_fz, lc_rg n (fun s => .l (tabO c fun k => .fz (.i (p (T (pl s) k) : Nat)))) (rgn _ rfl) (by omega) fun s hs => ⟨_, _, by simp only [NV.XS, NV.killG, NV.fzG, NV.immG, NV.immS, NV.D.tru, NV.gNeg, NV.D.items, NV.twoI, NV.OT.d, NV.OT.ds, NV.cMod, NV.cDiv, NV.cMul, NV.oneS, NV.oneV, NV.Arg.slot, Int.reducePow, Int.reduceNeg, reduceIte, Nat.reduceLT, Nat.reduceLeDiff, Int.reduceLT, Int.reduceLE, Int.reduceToNat, reduceCtorEq, Nat.reduceAdd, eq_self, wipeG]; rfl, lc_tab c (fun k => .i (T (pl s) k : Nat)) _ (by simp only [NV.XS, NV.killG, NV.fzG, NV.immG, NV.immS, NV.D.tru, NV.gNeg, NV.D.items, NV.twoI, NV.OT.d, NV.OT.ds, NV.cMod, NV.cDiv, NV.cMul, NV.oneS, NV.oneV, NV.Arg.slot, Int.reducePow, Int.reduceNeg, reduceIte, Nat.reduceLT, Nat.reduceLeDiff, Int.reduceLT, Int.reduceLE, Int.reduceToNat, reduceCtorEq, Nat.reduceAdd, eq_self, atI_tab hs, tgO, tabO_ds, atI_tab (hpl s hs).1, tabO_d]; rfl) (by omega) fun k hk => ⟨_, _, by simp only [NV.XS, NV.killG, NV.fzG, NV.immG, NV.immS, NV.D.tru, NV.gNeg, NV.D.items, NV.twoI, NV.OT.d, NV.OT.ds, NV.cMod, NV.cDiv, NV.cMul, NV.oneS, NV.oneV, NV.Arg.slot, Int.reducePow, Int.reduceNeg, reduceIte, Nat.reduceLT, Nat.reduceLeDiff, Int.reduceLT, Int.reduceLE, Int.reduceToNat, reduceCtorEq, Nat.reduceAdd, eq_self, wipeG]; rfl, by simp only [NV.XS, NV.killG, NV.fzG, NV.immG, NV.immS, NV.D.tru, NV.gNeg, NV.D.items, NV.twoI, NV.OT.d, NV.OT.ds, NV.cMod, NV.cDiv, NV.cMul, NV.oneS, NV.oneV, NV.Arg.slot, Int.reducePow, Int.reduceNeg, reduceIte, Nat.reduceLT, Nat.reduceLeDiff, Int.reduceLT, Int.reduceLE, Int.reduceToNat, reduceCtorEq, Nat.reduceAdd, eq_self, tabO_ds, atI_tab (hT _ _ (hpl s hs).1 hk)]; rfl⟩⟩]
    simp only [NV.XS, NV.killG, NV.fzG, NV.immG, NV.immS, NV.D.tru, NV.gNeg, NV.D.items, NV.twoI, NV.OT.d, NV.OT.ds, NV.cMod, NV.cDiv, NV.cMul, NV.oneS, NV.oneV, NV.Arg.slot, Int.reducePow, Int.reduceNeg, reduceIte, Nat.reduceLT, Nat.reduceLeDiff, Int.reduceLT, Int.reduceLE, Int.reduceToNat, reduceCtorEq, Nat.reduceAdd, eq_self, tabO_ds]
  -- flags
  refine go_seq (Γ1 := [.r (rowD xs), .f (.i top), .f (.i n), .f (.i c), .f (.i mo), .f (.i sh), .o (tgO n c T), .o (flO n c M), .n, .f (.i k0), .o (.l (tabO n fun i => .fz (.i (p i : Nat)))), .f (.l (tab n fun s => .i (pl s : Nat))), .f (.l (tab n fun s => .l (tab c fun k => .i (p (T (pl s) k) : Nat)))), .f (.l (tab n fun s => .l (tab c fun k => .b (M (pl s) k)))), .n, .n, .n, .n, .n, .n]) ?_ ?_
  · rw [q_asg, q_fz, lc_rg n (fun s => .l (tabO c fun k => .fz (.b (M (pl s) k)))) (rgn _ rfl) (by omega) fun s hs => ⟨_, _, by simp only [NV.XS, NV.killG, NV.fzG, NV.immG, NV.immS, NV.D.tru, NV.gNeg, NV.D.items, NV.twoI, NV.OT.d, NV.OT.ds, NV.cMod, NV.cDiv, NV.cMul, NV.oneS, NV.oneV, NV.Arg.slot, Int.reducePow, Int.reduceNeg, reduceIte, Nat.reduceLT, Nat.reduceLeDiff, Int.reduceLT, Int.reduceLE, Int.reduceToNat, reduceCtorEq, Nat.reduceAdd, eq_self, wipeG]; rfl, by simp only [NV.XS, NV.killG, NV.fzG, NV.immG, NV.immS, NV.D.tru, NV.gNeg, NV.D.items, NV.twoI, NV.OT.d, NV.OT.ds, NV.cMod, NV.cDiv, NV.cMul, NV.oneS, NV.oneV, NV.Arg.slot, Int.reducePow, Int.reduceNeg, reduceIte, Nat.reduceLT, Nat.reduceLeDiff, Int.reduceLT, Int.reduceLE, Int.reduceToNat, reduceCtorEq, Nat.reduceAdd, eq_self, atI_tab hs, flO, tabO_ds, atI_tab (hpl s hs).1, tabO_d, fresh_b]; rfl⟩]
    simp only [NV.XS, NV.killG, NV.fzG, NV.immG, NV.immS, NV.D.tru, NV.gNeg, NV.D.items, NV.twoI, NV.OT.d, NV.OT.ds, NV.cMod, NV.cDiv, NV.cMul, NV.oneS, NV.oneV, NV.Arg.slot, Int.reducePow, Int.reduceNeg, reduceIte, Nat.reduceLT, Nat.reduceLeDiff, Int.reduceLT, Int.reduceLE, Int.reduceToNat, reduceCtorEq, Nat.reduceAdd, eq_self, tabO_ds]
  obtain ⟨st, hst⟩ := nat_ex (j := (x3 : Int) % (n : Int)) (Int.emod_nonneg _ (by omega))
  have hstn : st < n := by have := Int.emod_lt_of_pos (x3 : Int) hnpos; omega
  have habc : ("abcd" : Str).length ≤ 1000000 := by decide
  refine go_ret (by simp only [NV.XS, NV.killG, NV.fzG, NV.immG, NV.immS, NV.D.tru, NV.gNeg, NV.D.items, NV.twoI, NV.OT.d, NV.OT.ds, NV.cMod, NV.cDiv, NV.cMul, NV.oneS, NV.oneV, NV.Arg.slot, Int.reducePow, Int.reduceNeg, reduceIte, Nat.reduceLT, Nat.reduceLeDiff, Int.reduceLT, Int.reduceLE, Int.reduceToNat, reduceCtorEq, Nat.reduceAdd, eq_self, habc, cut_abcd hc4, r3, hnpos, hst, tabO_ds, atI_tab hstn]; rfl) (rt_of rfl ⟨rfl, ⟨n, c, fun s k => p (T (pl s) k), fun s k => M (pl s) k, p st⟩, ⟨hn1, by show n ≤ 8; omega, hc1, hc4, fun s k h1 h2 => hp1 _ (hT _ _ (hpl s h1).1 h2), hp1 st hstn⟩, hnt, rfl⟩)

end
section
/-! ### pairs, flags -/
abbrev Pr := Nat × Nat
def prD (p : Pr) : D := .t [.i (p.1 : Nat), .s (lt p.2)]
def prsD (ps : List Pr) : D := .l (ps.map prD)
def prsO (ps : List Pr) : OT := .l (ps.map fun p => .fz (prD p))
theorem prsO_d (ps : List Pr) : (prsO ps).d = prsD ps := by
  show D.l (OT.ds _) = _
  rw [ds_map]; rfl
theorem imm_pr {p : Pr} : (prD p).imm = true := rfl
theorem im_pr {p : Pr} {k : Kd} : k.im (prD p) = .f := by unfold Kd.im; rw [imm_pr]; rfl
theorem im_prs {ps : List Pr} {k : Kd} : k.im (prsD ps) = k := im_l
/-- the marked pairs, row by row -/
def marksM (m : Mach) : List Pr := (List.range m.n).flatMap fun s => ((List.range m.c).filter fun k => m.fl s k).map fun k => (s, k)
theorem mem_marks {m : Mach} {p : Pr} : p ∈ marksM m ↔ p.1 < m.n ∧ p.2 < m.c ∧ m.fl p.1 p.2 = true := by
  unfold marksM
  simp only [List.mem_flatMap, List.mem_map, List.mem_filter, List.mem_range]
  constructor
  · rintro ⟨s, hs, k, ⟨hk, hf⟩, rfl⟩; exact ⟨hs, hk, hf⟩
  · rintro ⟨h1, h2, h3⟩; exact ⟨p.1, h1, p.2, ⟨h2, h3⟩, rfl⟩
theorem flat_snoc {α : Type} (f : Nat → List α) (n : Nat) : (List.range (n + 1)).flatMap f = (List.range n).flatMap f ++ f n := by
  rw [List.range_succ, List.flatMap_append]; simp
theorem filt_snoc {α : Type} (q : Nat → Bool) (g : Nat → α) (n : Nat) : ((List.range (n + 1)).filter q).map g = ((List.range n).filter q).map g ++ if q n = true then [g n] else [] := by
  rw [List.range_succ, List.filter_append, List.map_append]
  by_cases h : q n = true
  · simp [h]
  · simp [h]
theorem marks_le {m : Mach} (h : m.Ok) : ∀ s, s ≤ m.n → ((List.range s).flatMap fun s => ((List.range m.c).filter fun k => m.fl s k).map fun k => (s, k)).length ≤ s * 4
  | 0, _ => by simp
  | s + 1, hs => by
    rw [flat_snoc, List.length_append, List.length_map]
    have := marks_le h s (by omega)
    have h2 := List.length_filter_le (fun k => m.fl s k) (List.range m.c)
    rw [List.length_range] at h2
    have := h.c4
    omega
theorem app_pr {ps : List Pr} {p : Pr} : ps.map (fun p => OT.fz (prD p)) ++ [OT.fz (prD p)] = (ps ++ [p]).map fun p => OT.fz (prD p) := by simp
theorem r_pairs {m : Mach} (h : m.Ok) : x_law_pairs [.d (mD m)] = .ok (prsO (marksM m)) [] := by
  (first | refine NV.run_ok rfl ?_ | refine NV.run_ex rfl ?_)
  simp only [NV.killG, NV.fzG, NV.immG, NV.immS, NV.imm_v, List.foldl_cons, List.foldl_nil, List.getElem?_cons_zero, List.getElem?_cons_succ, List.set_cons_zero, List.set_cons_succ, NV.Arg.slot, List.map_cons, List.map_nil, List.cons_append, List.nil_append, List.replicate, if_true]
  refine NV.go_seq (by simp only [NV.XS, NV.killG, NV.fzG, NV.immG, NV.immS, NV.D.tru, NV.gNeg, NV.D.items, NV.twoI, NV.OT.d, NV.OT.ds, NV.cMod, NV.cDiv, NV.cMul, NV.oneS, NV.oneV, NV.Arg.slot, Int.reducePow, Int.reduceNeg, reduceIte, Nat.reduceLT, Nat.reduceLeDiff, Int.reduceLT, Int.reduceLE, Int.reduceToNat, reduceCtorEq, Nat.reduceAdd, eq_self]; rfl) ?_
  have lenm : gLen [tgD m] = some (.int (m.n : Nat)) := len_tg
  have hn := h.n8
  have hc := h.c4
  have dn : decide ((m.n : Int) < -100000 ∨ 100000 < (m.n : Int)) = false := decide_eq_false (by omega)
  have dc : decide ((m.c : Int) < -100000 ∨ 100000 < (m.c : Int)) = false := decide_eq_false (by omega)
  have lenc : gLen [.v (.str (alpha m.c))] = some (.int (m.c : Nat)) := by
    show (if (alpha m.c).length ≤ 1000000 then _ else _) = _
    rw [alpha_len, if_pos (by omega)]
  refine go_seq (Γ1 := [.r (mD m), .o (prsO (marksM m)), .n, .n]) ?_ (go_ret (by simp only [NV.XS, NV.killG, NV.fzG, NV.immG, NV.immS, NV.D.tru, NV.gNeg, NV.D.items, NV.twoI, NV.OT.d, NV.OT.ds, NV.cMod, NV.cDiv, NV.cMul, NV.oneS, NV.oneV, NV.Arg.slot, Int.reducePow, Int.reduceNeg, reduceIte, Nat.reduceLT, Nat.reduceLeDiff, Int.reduceLT, Int.reduceLE, Int.reduceToNat, reduceCtorEq, Nat.reduceAdd, eq_self]; rfl) (rt_of rfl ⟨rfl, rfl⟩))
  refine go_kb (P := (· = _)) ?_
  simp only [NV.killG, NV.fzG, NV.immG, NV.immS, NV.imm_v, List.foldl_cons, List.foldl_nil, List.getElem?_cons_zero, List.getElem?_cons_succ, List.set_cons_zero, List.set_cons_succ, NV.Arg.slot, List.map_cons, List.map_nil, List.cons_append, List.nil_append, List.replicate, if_true]
  refine go_for (by simp only [NV.XS, NV.killG, NV.fzG, NV.immG, NV.immS, NV.D.tru, NV.gNeg, NV.D.items, NV.twoI, NV.OT.d, NV.OT.ds, NV.cMod, NV.cDiv, NV.cMul, NV.oneS, NV.oneV, NV.Arg.slot, Int.reducePow, Int.reduceNeg, reduceIte, Nat.reduceLT, Nat.reduceLeDiff, Int.reduceLT, Int.reduceLE, Int.reduceToNat, reduceCtorEq, Nat.reduceAdd, eq_self, m_1, im_tg, lenm, dn, Int.toNat_natCast]; rfl) (by simp) ?_
  refine forL_rg (fun s Γ => Γ = [.r (mD m), .o (prsO ((List.range s).flatMap fun s => ((List.range m.c).filter fun k => m.fl s k).map fun k => (s, k))), .n, .n]) rfl ?_ (by rintro _ rfl; rfl)
  rintro s _ hs rfl
  refine ⟨_, by simp only [NV.XS, NV.killG, NV.fzG, NV.immG, NV.immS, NV.D.tru, NV.gNeg, NV.D.items, NV.twoI, NV.OT.d, NV.OT.ds, NV.cMod, NV.cDiv, NV.cMul, NV.oneS, NV.oneV, NV.Arg.slot, Int.reducePow, Int.reduceNeg, reduceIte, Nat.reduceLT, Nat.reduceLeDiff, Int.reduceLT, Int.reduceLE, Int.reduceToNat, reduceCtorEq, Nat.reduceAdd, eq_self]; rfl, go_kill (go_kb ?_)⟩
  simp only [NV.killG, NV.fzG, NV.immG, NV.immS, NV.imm_v, List.foldl_cons, List.foldl_nil, List.getElem?_cons_zero, List.getElem?_cons_succ, List.set_cons_zero, List.set_cons_succ, NV.Arg.slot, List.map_cons, List.map_nil, List.cons_append, List.nil_append, List.replicate, if_true]
  refine go_for (by simp only [NV.XS, NV.killG, NV.fzG, NV.immG, NV.immS, NV.D.tru, NV.gNeg, NV.D.items, NV.twoI, NV.OT.d, NV.OT.ds, NV.cMod, NV.cDiv, NV.cMul, NV.oneS, NV.oneV, NV.Arg.slot, Int.reducePow, Int.reduceNeg, reduceIte, Nat.reduceLT, Nat.reduceLeDiff, Int.reduceLT, Int.reduceLE, Int.reduceToNat, reduceCtorEq, Nat.reduceAdd, eq_self, m_0, lenc, dc, Int.toNat_natCast]; rfl) (by simp) ?_
  have hle := marks_le h s (by omega)
  refine forL_rg (fun k Γ => Γ = [.r (mD m), .o (prsO ((List.range s).flatMap (fun s => ((List.range m.c).filter fun k => m.fl s k).map fun k => (s, k)) ++ ((List.range k).filter fun k => m.fl s k).map fun k => (s, k))), .f (.i s), .n]) (by simp) ?_ ?_
  · rintro k _ hk rfl
    refine ⟨_, by simp only [NV.XS, NV.killG, NV.fzG, NV.immG, NV.immS, NV.D.tru, NV.gNeg, NV.D.items, NV.twoI, NV.OT.d, NV.OT.ds, NV.cMod, NV.cDiv, NV.cMul, NV.oneS, NV.oneV, NV.Arg.slot, Int.reducePow, Int.reduceNeg, reduceIte, Nat.reduceLT, Nat.reduceLeDiff, Int.reduceLT, Int.reduceLE, Int.reduceToNat, reduceCtorEq, Nat.reduceAdd, eq_self]; rfl, go_kill ?_⟩
    refine go_ifB (by simp only [NV.XS, NV.killG, NV.fzG, NV.immG, NV.immS, NV.D.tru, NV.gNeg, NV.D.items, NV.twoI, NV.OT.d, NV.OT.ds, NV.cMod, NV.cDiv, NV.cMul, NV.oneS, NV.oneV, NV.Arg.slot, Int.reducePow, Int.reduceNeg, reduceIte, Nat.reduceLT, Nat.reduceLeDiff, Int.reduceLT, Int.reduceLE, Int.reduceToNat, reduceCtorEq, Nat.reduceAdd, eq_self, m_2, im_fl, fl_1 hs, im_flR, fl_2 hk]; rfl) (fun hb => ?_) (fun hb => ?_)
    · have hlt : atI (alpha m.c).cps.toList (k : Int) = some (97 + k) := wd_at (by rw [List.getElem?_range hk])
      have hix : gIx (.v (.str (alpha m.c))) (.v (.int (k : Nat))) = some (.v (.str (lt k))) := by
        show (if (alpha m.c).length ≤ 1000000 then _ else _) = _
        rw [alpha_len, if_pos (by omega), hlt]; rfl
      have hl : decide (100000 ≤ ((List.range s).flatMap (fun s => ((List.range m.c).filter fun k => m.fl s k).map fun k => (s, k)) ++ ((List.range k).filter fun k => m.fl s k).map fun k => (s, k)).length) = false := decide_eq_false (by
        rw [List.length_append, List.length_map]
        have h2 := List.length_filter_le (fun k => m.fl s k) (List.range k)
        rw [List.length_range] at h2
        omega)
      refine go_end (by simp only [NV.XS, NV.killG, NV.fzG, NV.immG, NV.immS, NV.D.tru, NV.gNeg, NV.D.items, NV.twoI, NV.OT.d, NV.OT.ds, NV.cMod, NV.cDiv, NV.cMul, NV.oneS, NV.oneV, NV.Arg.slot, Int.reducePow, Int.reduceNeg, reduceIte, Nat.reduceLT, Nat.reduceLeDiff, Int.reduceLT, Int.reduceLE, Int.reduceToNat, reduceCtorEq, Nat.reduceAdd, eq_self, prsO, m_0, hix, hl, List.length_map, Kd.im, D.imm, imms]; rfl) ⟨_, rfl, ?_⟩
      simp only [NV.killG, NV.fzG, NV.immG, NV.immS, NV.imm_v, List.foldl_cons, List.foldl_nil, List.getElem?_cons_zero, List.getElem?_cons_succ, List.set_cons_zero, List.set_cons_succ, NV.Arg.slot, List.map_cons, List.map_nil, List.cons_append, List.nil_append, List.replicate, if_true]
      rw [filt_snoc, if_pos hb, ← List.append_assoc]
      unfold prsO
      rw [← app_pr]; rfl
    · refine go_end (by simp only [NV.XS, NV.killG, NV.fzG, NV.immG, NV.immS, NV.D.tru, NV.gNeg, NV.D.items, NV.twoI, NV.OT.d, NV.OT.ds, NV.cMod, NV.cDiv, NV.cMul, NV.oneS, NV.oneV, NV.Arg.slot, Int.reducePow, Int.reduceNeg, reduceIte, Nat.reduceLT, Nat.reduceLeDiff, Int.reduceLT, Int.reduceLE, Int.reduceToNat, reduceCtorEq, Nat.reduceAdd, eq_self]; rfl) ⟨_, rfl, ?_⟩
      simp only [NV.killG, NV.fzG, NV.immG, NV.immS, NV.imm_v, List.foldl_cons, List.foldl_nil, List.getElem?_cons_zero, List.getElem?_cons_succ, List.set_cons_zero, List.set_cons_succ, NV.Arg.slot, List.map_cons, List.map_nil, List.cons_append, List.nil_append, List.replicate, if_true]
      rw [filt_snoc, hb]
      simp
  · rintro _ rfl
    exact ⟨_, rfl, by simp only [NV.killG, NV.fzG, NV.immG, NV.immS, NV.imm_v, List.foldl_cons, List.foldl_nil, List.getElem?_cons_zero, List.getElem?_cons_succ, List.set_cons_zero, List.set_cons_succ, NV.Arg.slot, List.map_cons, List.map_nil, List.cons_append, List.nil_append, List.replicate, if_true]; rw [flat_snoc]⟩

end
section
/-! ### the table of flags -/
def kOf (p : Pr) : List Key := [.inl (p.1 : Int), .inr (lt p.2)]
theorem kOf_inj {p q : Pr} (h : kOf p = kOf q) : p = q := by
  unfold kOf at h
  simp only [List.cons.injEq, Sum.inl.injEq, Sum.inr.injEq, and_true] at h
  exact Prod.ext (by omega) (lt_inj h.2)
theorem keys_pr {p : Pr} : D.keys [.i (p.1 : Nat), .s (lt p.2)] = some (kOf p) := rfl
def mkO (L : List Pr) : OT := .dt (L.map kOf) (L.map fun _ => .fz (.b true))
theorem keyIx_kOf (p : Pr) : ∀ L : List Pr, (keyIx (kOf p) (L.map kOf)).isSome = decide (p ∈ L)
  | [] => by simp [keyIx]
  | q :: L => by
    rw [List.map_cons]
    unfold keyIx
    by_cases e : q = p
    · subst e; simp
    · rw [if_neg fun h => e (kOf_inj h)]
      have ih := keyIx_kOf p L
      have : (p ∈ q :: L) ↔ p ∈ L := by simp [Ne.symm e]
      rw [Option.isSome_map, ih]
      exact decide_eq_decide.mpr this.symm
theorem set_const {α β : Type} (L : List α) (j : Nat) (u : β) : (L.map fun _ => u).set j u = L.map fun _ => u := by
  rw [List.map_const', List.set_replicate_self]
theorem mk_dput (p : Pr) (L : List Pr) : (mkO L).dput (.t [.i (p.1 : Nat), .s (lt p.2)]) (.fz (.b true)) = some (mkO (if p ∈ L then L else L ++ [p])) := by
  unfold mkO OT.dput
  dsimp only
  rw [keys_pr]
  have h := keyIx_kOf p L
  cases e : keyIx (kOf p) (L.map kOf) with
  | none =>
    rw [e] at h
    have : ¬ p ∈ L := by simpa using h.symm
    rw [if_neg this]
    simp only [Option.map_some, e, List.map_append, List.map_cons, List.map_nil]
  | some j =>
    rw [e] at h
    have : p ∈ L := by simpa using h.symm
    rw [if_pos this]
    simp only [Option.map_some, e, set_const]
theorem dget_kOf (p : Pr) : ∀ L : List Pr, (dgetL (L.map kOf) (OT.ds (L.map fun _ => .fz (.b true))) (kOf p)).isSome = decide (p ∈ L)
  | [] => by simp [dgetL]
  | q :: L => by
    simp only [List.map_cons, OT.ds]
    unfold dgetL
    by_cases e : q = p
    · subst e; simp
    · rw [if_neg fun h => e (kOf_inj h), dget_kOf p L]
      have : (p ∈ q :: L) ↔ p ∈ L := by simp [Ne.symm e]
      exact decide_eq_decide.mpr this.symm
theorem mk_in (p : Pr) (L : List Pr) : (gDGet (.dt (L.map kOf) (OT.ds (L.map fun _ => .fz (.b true)))) (.t [.i (p.1 : Nat), .s (lt p.2)])).map (fun o => V.bl o.isSome) = some (.bl (decide (p ∈ L))) := by
  unfold gDGet
  dsimp only
  rw [keys_pr]
  simp only [Option.map_some, dget_kOf]
def addP (L : List Pr) (p : Pr) : List Pr := if p ∈ L then L else L ++ [p]
theorem mem_addP : ∀ (ps L : List Pr) (p : Pr), p ∈ ps.foldl addP L ↔ p ∈ L ∨ p ∈ ps
  | [], L, p => by simp
  | q :: ps, L, p => by
    rw [List.foldl_cons, mem_addP ps, List.mem_cons]
    have : p ∈ addP L q ↔ p ∈ L ∨ p = q := by
      unfold addP
      split
      · rename_i h
        constructor
        · exact .inl
        · rintro (h2 | rfl)
          · exact h2
          · exact h
      · simp
    rw [this, or_assoc]
theorem addP_le : ∀ (ps L : List Pr), (ps.foldl addP L).length ≤ L.length + ps.length
  | [], L => by simp
  | q :: ps, L => by
    rw [List.foldl_cons]
    have h1 := addP_le ps (addP L q)
    have h2 : (addP L q).length ≤ L.length + 1 := by
      unfold addP; split
      · omega
      · simp
    simp only [List.length_cons]
    omega
theorem inV_lt {j : Nat} : ∀ js : List Nat, inV (.str (lt j)) (js.map fun j => V.str (lt j)) = decide (j ∈ js)
  | [] => rfl
  | i :: js => by
    have ih := inV_lt (j := j) js
    unfold inV at ih ⊢
    rw [List.map_cons, List.any_cons, ih]
    have : eqV (.str (lt i)) (.str (lt j)) = decide (i = j) := by
      show (lt i == lt j) = decide (i = j)
      by_cases e : i = j
      · subst e; simp
      · rw [decide_eq_false e]
        exact beq_eq_false_iff_ne.mpr fun h => e (lt_inj h)
    rw [this, ← Bool.decide_or]
    refine decide_eq_decide.mpr ⟨fun h => ?_, fun h => ?_⟩
    · rcases h with h | h
      · rw [h]; exact List.mem_cons_self
      · exact List.mem_cons_of_mem _ h
    · rcases List.mem_cons.mp h with h | h
      · exact .inl h.symm
      · exact .inr h
theorem all_flat_lt (js : List Nat) : (js.map fun j => V.str (lt j)).all flatV = true := List.all_eq_true.mpr fun x hx => by
  obtain ⟨i, _, rfl⟩ := List.mem_map.mp hx
  rfl
theorem in_known {n : Bool} {js : List Nat} {j : Nat} : gIn n (.v (.str (lt j))) (.l (js.map fun j => .s (lt j))) = some (.bl (if n then !decide (j ∈ js) else decide (j ∈ js))) := by
  unfold gIn
  dsimp only
  simp only [D.items, Option.bind, lfs_ints]
  rw [all_flat_lt, inV_lt]
  rfl
theorem chars_alpha {c : Nat} : chars (alpha c) = (List.range c).map fun j => .s (lt j) := chars_wd _
theorem r_flags {n c : Nat} (hn : n ≤ 8) (hc : c ≤ 4) {ps : List Pr} (hp : ∀ p ∈ ps, p.1 < n ∧ p.2 < c) (hl : ps.length ≤ 5000) : x_flag_table [.d (.s (alpha c)), .d (.i (n : Nat)), .d (prsD ps)] = .ok (flO n c fun s k => decide ((s, k) ∈ ps)) [] := by
  (first | refine NV.run_ok rfl ?_ | refine NV.run_ex rfl ?_)
  refine go_imm ?_
  simp only [NV.killG, NV.fzG, NV.immG, NV.immS, NV.imm_v, List.foldl_cons, List.foldl_nil, List.getElem?_cons_zero, List.getElem?_cons_succ, List.set_cons_zero, List.set_cons_succ, NV.Arg.slot, List.map_cons, List.map_nil, List.cons_append, List.nil_append, List.replicate, if_true]
  have hal : (alpha c).length ≤ 100000 := by rw [alpha_len]; omega
  refine go_seq (Γ1 := [.f (.s (alpha c)), .f (.i n), .r (prsD ps), .f (.l ((List.range c).map fun j => .s (lt j))), .n, .n, .n]) (by simp only [NV.XS, NV.killG, NV.fzG, NV.immG, NV.immS, NV.D.tru, NV.gNeg, NV.D.items, NV.twoI, NV.OT.d, NV.OT.ds, NV.cMod, NV.cDiv, NV.cMul, NV.oneS, NV.oneV, NV.Arg.slot, Int.reducePow, Int.reduceNeg, reduceIte, Nat.reduceLT, Nat.reduceLeDiff, Int.reduceLT, Int.reduceLE, Int.reduceToNat, reduceCtorEq, Nat.reduceAdd, eq_self, hal, chars_alpha, ds_map, List.map_map]; rfl) ?_
  refine go_seq (Γ1 := [.f (.s (alpha c)), .f (.i n), .r (prsD ps), .f (.l ((List.range c).map fun j => .s (lt j))), .o (mkO []), .n, .n]) rfl ?_
  refine go_seq (Γ1 := [.f (.s (alpha c)), .f (.i n), .r (prsD ps), .f (.l ((List.range c).map fun j => .s (lt j))), .o (mkO (ps.foldl addP [])), .n, .n]) ?_ ?_
  · refine go_kb (P := (· = _)) ?_
    simp only [NV.killG, NV.fzG, NV.immG, NV.immS, NV.imm_v, List.foldl_cons, List.foldl_nil, List.getElem?_cons_zero, List.getElem?_cons_succ, List.set_cons_zero, List.set_cons_succ, NV.Arg.slot, List.map_cons, List.map_nil, List.cons_append, List.nil_append, List.replicate, if_true]
    refine go_for (k := .r) (ds := ps.map prD) (m := 0) rfl (by simp) ?_
    refine (forL_inv (fun i Γ => Γ = [.f (.s (alpha c)), .f (.i n), .r (prsD ps), .f (.l ((List.range c).map fun j => .s (lt j))), .o (mkO ((ps.take i).foldl addP [])), .n, .n]) (ps.map prD) _ 0 (by simp [mkO]) ?_ ?_)
    · rintro i d _ hd rfl
      rw [List.getElem?_map] at hd
      cases e : ps[i]? with
      | none => rw [e] at hd; cases hd
      | some p =>
        rw [e] at hd
        cases hd
        obtain ⟨h1, h2⟩ := hp p (List.mem_of_getElem? e)
        rw [Nat.zero_add]
        refine ⟨_, by simp only [NV.XS, NV.killG, NV.fzG, NV.immG, NV.immS, NV.D.tru, NV.gNeg, NV.D.items, NV.twoI, NV.OT.d, NV.OT.ds, NV.cMod, NV.cDiv, NV.cMul, NV.oneS, NV.oneV, NV.Arg.slot, Int.reducePow, Int.reduceNeg, reduceIte, Nat.reduceLT, Nat.reduceLeDiff, Int.reduceLT, Int.reduceLE, Int.reduceToNat, reduceCtorEq, Nat.reduceAdd, eq_self, prD]; rfl, go_kill ?_⟩
        have hk : (decide (p.2 ∈ List.range c)) = true := decide_eq_true (List.mem_range.mpr h2)
        refine go_seqF (by simp only [NV.XS, NV.killG, NV.fzG, NV.immG, NV.immS, NV.D.tru, NV.gNeg, NV.D.items, NV.twoI, NV.OT.d, NV.OT.ds, NV.cMod, NV.cDiv, NV.cMul, NV.oneS, NV.oneV, NV.Arg.slot, Int.reducePow, Int.reduceNeg, reduceIte, Nat.reduceLT, Nat.reduceLeDiff, Int.reduceLT, Int.reduceLE, Int.reduceToNat, reduceCtorEq, Nat.reduceAdd, eq_self, in_known, hk, chK_v, Int.natCast_nonneg, (by omega : (p.1 : Int) < (n : Int))]; rfl) ?_
        have hlen : decide (100000 ≤ (mkO ((ps.take i).foldl addP [])).kids.length) = false := decide_eq_false (by
          unfold mkO OT.kids
          have := addP_le (ps.take i) []
          have h3 : (ps.take i).length ≤ ps.length := by rw [List.length_take]; omega
          simp only [List.length_map, List.length_nil] at this ⊢
          omega)
        refine go_end (by simp only [NV.XS, NV.killG, NV.fzG, NV.immG, NV.immS, NV.D.tru, NV.gNeg, NV.D.items, NV.twoI, NV.OT.d, NV.OT.ds, NV.cMod, NV.cDiv, NV.cMul, NV.oneS, NV.oneV, NV.Arg.slot, Int.reducePow, Int.reduceNeg, reduceIte, Nat.reduceLT, Nat.reduceLeDiff, Int.reduceLT, Int.reduceLE, Int.reduceToNat, reduceCtorEq, Nat.reduceAdd, eq_self, q_dput, hlen, mk_dput]; rfl) ⟨_, rfl, ?_⟩
        simp only [NV.killG, NV.fzG, NV.immG, NV.immS, NV.imm_v, List.foldl_cons, List.foldl_nil, List.getElem?_cons_zero, List.getElem?_cons_succ, List.set_cons_zero, List.set_cons_succ, NV.Arg.slot, List.map_cons, List.map_nil, List.cons_append, List.nil_append, List.replicate, if_true]
        have : (ps.take (i + 1)) = ps.take i ++ [p] := by rw [List.take_add_one, e]; rfl
        rw [this, List.foldl_append]
        rfl
    · rintro _ rfl
      rw [Nat.zero_add, List.length_map, List.take_length]
  · have dn : decide ((n : Int) < -100000 ∨ 100000 < (n : Int)) = false := decide_eq_false (by omega)
    have mi : ∀ s k : Nat, (gDGet (.dt ((ps.foldl addP []).map kOf) (OT.ds ((ps.foldl addP []).map fun _ => .fz (.b true)))) (.t [.v (.int (s : Nat)), .v (.str (lt k))])).map (fun o => V.bl o.isSome) = some (.bl (decide ((s, k) ∈ ps))) := fun s k => by
      have hm : decide ((s, k) ∈ ps.foldl addP []) = decide ((s, k) ∈ ps) := decide_eq_decide.mpr (by rw [mem_addP]; simp)
      rw [← hm]
      exact mk_in (s, k) (ps.foldl addP [])
    exact go_ret (t := flO n c fun s k => decide ((s, k) ∈ ps)) (lc_rg n _ (by simp only [NV.XS, NV.killG, NV.fzG, NV.immG, NV.immS, NV.D.tru, NV.gNeg, NV.D.items, NV.twoI, NV.OT.d, NV.OT.ds, NV.cMod, NV.cDiv, NV.cMul, NV.oneS, NV.oneV, NV.Arg.slot, Int.reducePow, Int.reduceNeg, reduceIte, Nat.reduceLT, Nat.reduceLeDiff, Int.reduceLT, Int.reduceLE, Int.reduceToNat, reduceCtorEq, Nat.reduceAdd, eq_self, dn, Int.toNat_natCast]; rfl) (by omega) fun s hs => ⟨_, _, by simp only [NV.XS, NV.killG, NV.fzG, NV.immG, NV.immS, NV.D.tru, NV.gNeg, NV.D.items, NV.twoI, NV.OT.d, NV.OT.ds, NV.cMod, NV.cDiv, NV.cMul, NV.oneS, NV.oneV, NV.Arg.slot, Int.reducePow, Int.reduceNeg, reduceIte, Nat.reduceLT, Nat.reduceLeDiff, Int.reduceLT, Int.reduceLE, Int.reduceToNat, reduceCtorEq, Nat.reduceAdd, eq_self, wipeG]; rfl, lc_all (List.range c) (fun k => .s (lt k)) _ (by simp only [NV.XS, NV.killG, NV.fzG, NV.immG, NV.immS, NV.D.tru, NV.gNeg, NV.D.items, NV.twoI, NV.OT.d, NV.OT.ds, NV.cMod, NV.cDiv, NV.cMul, NV.oneS, NV.oneV, NV.Arg.slot, Int.reducePow, Int.reduceNeg, reduceIte, Nat.reduceLT, Nat.reduceLeDiff, Int.reduceLT, Int.reduceLE, Int.reduceToNat, reduceCtorEq, Nat.reduceAdd, eq_self]; rfl) (by simp; omega) fun k hk => ⟨_, _, by simp only [NV.XS, NV.killG, NV.fzG, NV.immG, NV.immS, NV.D.tru, NV.gNeg, NV.D.items, NV.twoI, NV.OT.d, NV.OT.ds, NV.cMod, NV.cDiv, NV.cMul, NV.oneS, NV.oneV, NV.Arg.slot, Int.reducePow, Int.reduceNeg, reduceIte, Nat.reduceLT, Nat.reduceLeDiff, Int.reduceLT, Int.reduceLE, Int.reduceToNat, reduceCtorEq, Nat.reduceAdd, eq_self, wipeG]; rfl, by simp only [NV.XS, NV.killG, NV.fzG, NV.immG, NV.immS, NV.D.tru, NV.gNeg, NV.D.items, NV.twoI, NV.OT.d, NV.OT.ds, NV.cMod, NV.cDiv, NV.cMul, NV.oneS, NV.oneV, NV.Arg.slot, Int.reducePow, Int.reduceNeg, reduceIte, Nat.reduceLT, Nat.reduceLeDiff, Int.reduceLT, Int.reduceLE, Int.reduceToNat, reduceCtorEq, Nat.reduceAdd, eq_self, mkO, mi]; rfl⟩⟩) (rt_of rfl ⟨rfl, rfl⟩)

end
section
/-! ### wishes made -/
def wO (m : Mach) : OT := .ob "Wish" ["flags", "letters", "size", "start", "targets"] [flO m.n m.c m.fl, .fz (.s (alpha m.c)), .fz (.i (m.n : Nat)), .fz (.i (m.st : Nat)), tgO m.n m.c m.tg]
theorem tgO_d {n c : Nat} {f : Nat → Nat → Nat} : (tgO n c f).d = .l (tab n fun s => .l (tab c fun k => .i (f s k : Nat))) := by
  unfold tgO
  rw [tabO_d]
  congr 1
  exact tab_congr fun s _ => tabO_d
theorem flO_d {n c : Nat} {f : Nat → Nat → Bool} : (flO n c f).d = .l (tab n fun s => .l (tab c fun k => .b (f s k))) := by
  unfold flO
  rw [tabO_d]
  congr 1
  exact tab_congr fun s _ => tabO_d
theorem tgO_D {m : Mach} : (tgO m.n m.c m.tg).d = tgD m := tgO_d
theorem flO_D {m : Mach} : (flO m.n m.c m.fl).d = flD m := flO_d
theorem wO_d (m : Mach) : (wO m).d = wD m := by
  show D.ob _ _ [(flO m.n m.c m.fl).d, _, _, _, (tgO m.n m.c m.tg).d] = _
  rw [flO_d, tgO_d]
  rfl
theorem flO_congr {n c : Nat} {f g : Nat → Nat → Bool} (h : ∀ s k, s < n → k < c → f s k = g s k) : flO n c f = flO n c g := by
  unfold flO
  congr 1
  refine tabO_congr fun s hs => ?_
  congr 1
  exact tabO_congr fun k hk => by rw [h s k hs hk]
theorem in_alph {c : Nat} (h1 : 1 ≤ c) (h4 : c ≤ 4) : gIn true (.v (.str (alpha c))) (.tk kALPHABETS) = some (.bl false) := by
  rcases four1 h1 h4 with rfl | rfl | rfl | rfl <;> decide +kernel
theorem gLen_s {s : Str} (h : s.length ≤ 1000000) : gLen [.v (.str s)] = some (.int (s.length : Int)) := by
  show (if s.length ≤ 1000000 then _ else _) = _
  rw [if_pos h]
theorem len_alpha {c : Nat} (h4 : c ≤ 4) : gLen [.v (.str (alpha c))] = some (.int (c : Nat)) := by
  rw [gLen_s (by rw [alpha_len]; omega), alpha_len]
theorem len_tgR {m : Mach} {s : Nat} : gLen [tgR m s] = some (.int (m.c : Nat)) := by
  unfold tgR
  rw [gLen_l, tab_len]
def nIn : List Str := ["flags", "letters", "size", "start"]
theorem r_init {m : Mach} (h : m.Ok) {ps : List Pr} (hp : ∀ p ∈ ps, p.1 < m.n ∧ p.2 < m.c) (hl : ps.length ≤ 5000) :
    x_Wish_init [.o (.ob "Wish" [] []), .d (.s (alpha m.c)), .d (tgD m), .d (prsD ps), .d (.i (m.st : Nat))] = .ok (.fz .n) [wO { m with fl := fun s k => decide ((s, k) ∈ ps) }] := by
  have hn := h.n8
  have hst := h.st
  (first | refine NV.run_ok rfl ?_ | refine NV.run_ex rfl ?_)
  refine go_imm ?_
  simp only [NV.killG, NV.fzG, NV.immG, NV.immS, NV.imm_v, List.foldl_cons, List.foldl_nil, List.getElem?_cons_zero, List.getElem?_cons_succ, List.set_cons_zero, List.set_cons_succ, NV.Arg.slot, List.map_cons, List.map_nil, List.cons_append, List.nil_append, List.replicate, if_true]
  refine NV.go_seq (by simp only [NV.XS, NV.killG, NV.fzG, NV.immG, NV.immS, NV.D.tru, NV.gNeg, NV.D.items, NV.twoI, NV.OT.d, NV.OT.ds, NV.cMod, NV.cDiv, NV.cMul, NV.oneS, NV.oneV, NV.Arg.slot, Int.reducePow, Int.reduceNeg, reduceIte, Nat.reduceLT, Nat.reduceLeDiff, Int.reduceLT, Int.reduceLE, Int.reduceToNat, reduceCtorEq, Nat.reduceAdd, eq_self, len_tg]; rfl) ?_
  refine go_seqF (by simp only [NV.XS, NV.killG, NV.fzG, NV.immG, NV.immS, NV.D.tru, NV.gNeg, NV.D.items, NV.twoI, NV.OT.d, NV.OT.ds, NV.cMod, NV.cDiv, NV.cMul, NV.oneS, NV.oneV, NV.Arg.slot, Int.reducePow, Int.reduceNeg, reduceIte, Nat.reduceLT, Nat.reduceLeDiff, Int.reduceLT, Int.reduceLE, Int.reduceToNat, reduceCtorEq, Nat.reduceAdd, eq_self, in_alph h.c1 h.c4, chK_v, Int.natCast_nonneg, (by have := h.n1; omega : (1 : Int) ≤ (m.n : Int)), (by omega : (m.n : Int) ≤ 8), (by omega : (m.st : Int) < (m.n : Int))]; rfl) ?_
  refine go_seq (Γ1 := [.p (.ob "Wish" [] []), .f (.s (alpha m.c)), .r (tgD m), .r (prsD ps), .f (.i m.st), .f (.i m.n), .n, .n]) ?_ ?_
  · refine go_kb (P := (· = _)) ?_
    simp only [NV.killG, NV.fzG, NV.immG, NV.immS, NV.imm_v, List.foldl_cons, List.foldl_nil, List.getElem?_cons_zero, List.getElem?_cons_succ, List.set_cons_zero, List.set_cons_succ, NV.Arg.slot, List.map_cons, List.map_nil, List.cons_append, List.nil_append, List.replicate, if_true]
    refine go_for (k := .r) (ds := tab m.n (tgR m)) (m := 0) rfl (by simp) (forL_tab fun s hs => ⟨_, by simp only [NV.XS, NV.killG, NV.fzG, NV.immG, NV.immS, NV.D.tru, NV.gNeg, NV.D.items, NV.twoI, NV.OT.d, NV.OT.ds, NV.cMod, NV.cDiv, NV.cMul, NV.oneS, NV.oneV, NV.Arg.slot, Int.reducePow, Int.reduceNeg, reduceIte, Nat.reduceLT, Nat.reduceLeDiff, Int.reduceLT, Int.reduceLE, Int.reduceToNat, reduceCtorEq, Nat.reduceAdd, eq_self, im_tgR]; rfl, go_kill ?_⟩)
    refine go_seqF (by simp only [NV.XS, NV.killG, NV.fzG, NV.immG, NV.immS, NV.D.tru, NV.gNeg, NV.D.items, NV.twoI, NV.OT.d, NV.OT.ds, NV.cMod, NV.cDiv, NV.cMul, NV.oneS, NV.oneV, NV.Arg.slot, Int.reducePow, Int.reduceNeg, reduceIte, Nat.reduceLT, Nat.reduceLeDiff, Int.reduceLT, Int.reduceLE, Int.reduceToNat, reduceCtorEq, Nat.reduceAdd, eq_self, len_tgR, len_alpha h.c4, decide_true]; rfl) (go_kb ?_)
    simp only [NV.killG, NV.fzG, NV.immG, NV.immS, NV.imm_v, List.foldl_cons, List.foldl_nil, List.getElem?_cons_zero, List.getElem?_cons_succ, List.set_cons_zero, List.set_cons_succ, NV.Arg.slot, List.map_cons, List.map_nil, List.cons_append, List.nil_append, List.replicate, if_true]
    refine go_for (k := .r) (ds := tab m.c fun k => .i (m.tg s k : Nat)) (m := 0) rfl (by simp) ?_
    rw [forL_tab fun k hk => ⟨_, by simp only [NV.XS, NV.killG, NV.fzG, NV.immG, NV.immS, NV.D.tru, NV.gNeg, NV.D.items, NV.twoI, NV.OT.d, NV.OT.ds, NV.cMod, NV.cDiv, NV.cMul, NV.oneS, NV.oneV, NV.Arg.slot, Int.reducePow, Int.reduceNeg, reduceIte, Nat.reduceLT, Nat.reduceLeDiff, Int.reduceLT, Int.reduceLE, Int.reduceToNat, reduceCtorEq, Nat.reduceAdd, eq_self]; rfl, go_kill (go_ifF (by simp only [NV.XS, NV.killG, NV.fzG, NV.immG, NV.immS, NV.D.tru, NV.gNeg, NV.D.items, NV.twoI, NV.OT.d, NV.OT.ds, NV.cMod, NV.cDiv, NV.cMul, NV.oneS, NV.oneV, NV.Arg.slot, Int.reducePow, Int.reduceNeg, reduceIte, Nat.reduceLT, Nat.reduceLeDiff, Int.reduceLT, Int.reduceLE, Int.reduceToNat, reduceCtorEq, Nat.reduceAdd, eq_self, chK_v, Int.natCast_nonneg, (by have := h.tg s k hs hk; omega : (m.tg s k : Int) < (m.n : Int))]; rfl) (by simp only [NV.killG, NV.fzG, NV.immG, NV.immS, NV.imm_v, List.foldl_cons, List.foldl_nil, List.getElem?_cons_zero, List.getElem?_cons_succ, List.set_cons_zero, List.set_cons_succ, NV.Arg.slot, List.map_cons, List.map_nil, List.cons_append, List.nil_append, List.replicate, if_true]; rfl))⟩]
    rfl
  refine go_seq (Γ1 := [.p (.ob "Wish" ["flags"] [flO m.n m.c fun s k => decide ((s, k) ∈ ps)]), .f (.s (alpha m.c)), .r (tgD m), .r (prsD ps), .f (.i m.st), .f (.i m.n), .n, .n]) (by simp only [NV.XS, NV.killG, NV.fzG, NV.immG, NV.immS, NV.D.tru, NV.gNeg, NV.D.items, NV.twoI, NV.OT.d, NV.OT.ds, NV.cMod, NV.cDiv, NV.cMul, NV.oneS, NV.oneV, NV.Arg.slot, Int.reducePow, Int.reduceNeg, reduceIte, Nat.reduceLT, Nat.reduceLeDiff, Int.reduceLT, Int.reduceLE, Int.reduceToNat, reduceCtorEq, Nat.reduceAdd, eq_self, q_fldF, r_flags hn h.c4 hp hl, im_prs, fldIx]) ?_
  refine go_seq (Γ1 := [.p (.ob "Wish" ["flags", "letters"] [flO m.n m.c fun s k => decide ((s, k) ∈ ps), .fz (.s (alpha m.c))]), .f (.s (alpha m.c)), .r (tgD m), .r (prsD ps), .f (.i m.st), .f (.i m.n), .n, .n]) (by simp only [NV.XS, NV.killG, NV.fzG, NV.immG, NV.immS, NV.D.tru, NV.gNeg, NV.D.items, NV.twoI, NV.OT.d, NV.OT.ds, NV.cMod, NV.cDiv, NV.cMul, NV.oneS, NV.oneV, NV.Arg.slot, Int.reducePow, Int.reduceNeg, reduceIte, Nat.reduceLT, Nat.reduceLeDiff, Int.reduceLT, Int.reduceLE, Int.reduceToNat, reduceCtorEq, Nat.reduceAdd, eq_self, q_fldF]; rfl) ?_
  refine go_seq (Γ1 := [.p (.ob "Wish" ["flags", "letters", "size"] [flO m.n m.c fun s k => decide ((s, k) ∈ ps), .fz (.s (alpha m.c)), .fz (.i m.n)]), .f (.s (alpha m.c)), .r (tgD m), .r (prsD ps), .f (.i m.st), .f (.i m.n), .n, .n]) (by simp only [NV.XS, NV.killG, NV.fzG, NV.immG, NV.immS, NV.D.tru, NV.gNeg, NV.D.items, NV.twoI, NV.OT.d, NV.OT.ds, NV.cMod, NV.cDiv, NV.cMul, NV.oneS, NV.oneV, NV.Arg.slot, Int.reducePow, Int.reduceNeg, reduceIte, Nat.reduceLT, Nat.reduceLeDiff, Int.reduceLT, Int.reduceLE, Int.reduceToNat, reduceCtorEq, Nat.reduceAdd, eq_self, q_fldF]; rfl) ?_
  refine go_seq (Γ1 := [.p (.ob "Wish" ["flags", "letters", "size", "start"] [flO m.n m.c fun s k => decide ((s, k) ∈ ps), .fz (.s (alpha m.c)), .fz (.i m.n), .fz (.i m.st)]), .f (.s (alpha m.c)), .r (tgD m), .r (prsD ps), .f (.i m.st), .f (.i m.n), .n, .n]) (by simp only [NV.XS, NV.killG, NV.fzG, NV.immG, NV.immS, NV.D.tru, NV.gNeg, NV.D.items, NV.twoI, NV.OT.d, NV.OT.ds, NV.cMod, NV.cDiv, NV.cMul, NV.oneS, NV.oneV, NV.Arg.slot, Int.reducePow, Int.reduceNeg, reduceIte, Nat.reduceLT, Nat.reduceLeDiff, Int.reduceLT, Int.reduceLE, Int.reduceToNat, reduceCtorEq, Nat.reduceAdd, eq_self, q_fldF]; rfl) ?_
  have e : oLc (iLi (eVar 2)) (tgName 6) tYe (oListOf (aCons (eVar 6) aNil)) [6] [.p (.ob "Wish" ["flags", "letters", "size", "start"] [flO m.n m.c fun s k => decide ((s, k) ∈ ps), .fz (.s (alpha m.c)), .fz (.i m.n), .fz (.i m.st)]), .f (.s (alpha m.c)), .r (tgD m), .r (prsD ps), .f (.i m.st), .f (.i m.n), .n, .n] = .ok (tgO m.n m.c m.tg) _ 0 :=
    lc_tab m.n (tgR m) _ rfl (by omega) fun s hs => ⟨_, _, by simp only [NV.XS, NV.killG, NV.fzG, NV.immG, NV.immS, NV.D.tru, NV.gNeg, NV.D.items, NV.twoI, NV.OT.d, NV.OT.ds, NV.cMod, NV.cDiv, NV.cMul, NV.oneS, NV.oneV, NV.Arg.slot, Int.reducePow, Int.reduceNeg, reduceIte, Nat.reduceLT, Nat.reduceLeDiff, Int.reduceLT, Int.reduceLE, Int.reduceToNat, reduceCtorEq, Nat.reduceAdd, eq_self, wipeG, im_tgR]; rfl, by simp only [NV.XS, NV.killG, NV.fzG, NV.immG, NV.immS, NV.D.tru, NV.gNeg, NV.D.items, NV.twoI, NV.OT.d, NV.OT.ds, NV.cMod, NV.cDiv, NV.cMul, NV.oneS, NV.oneV, NV.Arg.slot, Int.reducePow, Int.reduceNeg, reduceIte, Nat.reduceLT, Nat.reduceLeDiff, Int.reduceLT, Int.reduceLE, Int.reduceToNat, reduceCtorEq, Nat.reduceAdd, eq_self, tgR, fresh_n (f := fun k => ((m.tg s k : Nat) : Int))]; rfl⟩
  exact go_end (by rw [q_fldF, e]; rfl) (nx_of rfl ⟨rfl, rfl⟩)
theorem marks_le' {m : Mach} (h : m.Ok) : (marksM m).length ≤ 5000 := by
  have := marks_le h m.n (Nat.le_refl _)
  have := h.n8
  unfold marksM
  omega
theorem wO_marks {m : Mach} : wO { m with fl := fun s k => decide ((s, k) ∈ marksM m) } = wO m := by
  unfold wO
  dsimp only
  rw [flO_congr (f := fun s k => decide ((s, k) ∈ marksM m)) (g := m.fl) fun s k hs hk => by
    cases e : m.fl s k with
    | true => exact decide_eq_true (mem_marks.mpr ⟨hs, hk, e⟩)
    | false => exact decide_eq_false fun h => by rw [(mem_marks.mp h).2.2] at e; cases e]
theorem r_made {m : Mach} (h : m.Ok) : x_law_made [.d (mD m)] = .ok (wO m) [] := by
  (first | refine NV.run_ok rfl ?_ | refine NV.run_ex rfl ?_)
  simp only [NV.killG, NV.fzG, NV.immG, NV.immS, NV.imm_v, List.foldl_cons, List.foldl_nil, List.getElem?_cons_zero, List.getElem?_cons_succ, List.set_cons_zero, List.set_cons_succ, NV.Arg.slot, List.map_cons, List.map_nil, List.cons_append, List.nil_append, List.replicate, if_true]
  have hn := h.n8
  have e : oLc (iLi (eIx (eVar 0) (eC (.int 1)))) (tgName 1) tYe (oListOf (aCons (eVar 1) aNil)) [1] [.r (mD m), .n] = .ok (tgO m.n m.c m.tg) _ 0 :=
    lc_tab m.n (tgR m) _ rfl (by omega) fun s hs => ⟨_, _, by simp only [NV.XS, NV.killG, NV.fzG, NV.immG, NV.immS, NV.D.tru, NV.gNeg, NV.D.items, NV.twoI, NV.OT.d, NV.OT.ds, NV.cMod, NV.cDiv, NV.cMul, NV.oneS, NV.oneV, NV.Arg.slot, Int.reducePow, Int.reduceNeg, reduceIte, Nat.reduceLT, Nat.reduceLeDiff, Int.reduceLT, Int.reduceLE, Int.reduceToNat, reduceCtorEq, Nat.reduceAdd, eq_self, wipeG, im_tgR]; rfl, by simp only [NV.XS, NV.killG, NV.fzG, NV.immG, NV.immS, NV.D.tru, NV.gNeg, NV.D.items, NV.twoI, NV.OT.d, NV.OT.ds, NV.cMod, NV.cDiv, NV.cMul, NV.oneS, NV.oneV, NV.Arg.slot, Int.reducePow, Int.reduceNeg, reduceIte, Nat.reduceLT, Nat.reduceLeDiff, Int.reduceLT, Int.reduceLE, Int.reduceToNat, reduceCtorEq, Nat.reduceAdd, eq_self, tgR, fresh_n (f := fun k => ((m.tg s k : Nat) : Int))]; rfl⟩
  have hi := r_init h (ps := marksM m) (fun p hp => ⟨(mem_marks.mp hp).1, (mem_marks.mp hp).2.1⟩) (marks_le' h)
  rw [wO_marks] at hi
  refine go_ret (t := wO m) (by simp only [NV.XS, NV.killG, NV.fzG, NV.immG, NV.immS, NV.D.tru, NV.gNeg, NV.D.items, NV.twoI, NV.OT.d, NV.OT.ds, NV.cMod, NV.cDiv, NV.cMul, NV.oneS, NV.oneV, NV.Arg.slot, Int.reducePow, Int.reduceNeg, reduceIte, Nat.reduceLT, Nat.reduceLeDiff, Int.reduceLT, Int.reduceLE, Int.reduceToNat, reduceCtorEq, Nat.reduceAdd, eq_self, m_0, m_3, e, r_pairs h, prsO_d, tgO_D, im_tg, im_prs, hi]; rfl) (rt_of rfl ⟨rfl, rfl⟩)

end
section
/-! ### words, texts -/
theorem r_word {xs : List Nat} (hx : ∀ x ∈ xs, x < 5040) {c : Nat} (hc1 : 1 ≤ c) (hc4 : c ≤ 4) {top : Nat} (ht : top ≤ 1000) (hl : top + 1 ≤ xs.length) :
    ∃ w : List Nat, (∀ j ∈ w, j < c) ∧ w.length ≤ top ∧ x_law_word [.d (rowD xs), .d (.s (alpha c)), .d (.i (top : Nat))] = .ok (.fz (.s (wd w))) [] := by
  obtain ⟨x0, b0, r0⟩ := row_ex hx (j := 0) (by omega) (by omega)
  have hp : (0 : Int) < (top : Int) + 1 := by omega
  obtain ⟨z, hz⟩ := nat_ex (j := (x0 : Int) % ((top : Int) + 1)) (Int.emod_nonneg _ (by omega))
  have hzt : z ≤ top := by have := Int.emod_lt_of_pos (x0 : Int) hp; omega
  let f : Nat → Nat := fun k => xs.getD (1 + (k : Int)).toNat 0 % c
  have hf : ∀ k, f k < c := fun k => Nat.mod_lt _ (by omega)
  refine ⟨(List.range z).map f, fun j hj => ?_, by simpa using hzt, ?_⟩
  · obtain ⟨k, _, rfl⟩ := List.mem_map.mp hj
    exact hf k
  (first | refine NV.run_ok rfl ?_ | refine NV.run_ex rfl ?_)
  refine go_imm ?_
  simp only [NV.killG, NV.fzG, NV.immG, NV.immS, NV.imm_v, List.foldl_cons, List.foldl_nil, List.getElem?_cons_zero, List.getElem?_cons_succ, List.set_cons_zero, List.set_cons_succ, NV.Arg.slot, List.map_cons, List.map_nil, List.cons_append, List.nil_append, List.replicate, if_true]
  refine NV.go_seq (by simp only [NV.XS, NV.killG, NV.fzG, NV.immG, NV.immS, NV.D.tru, NV.gNeg, NV.D.items, NV.twoI, NV.OT.d, NV.OT.ds, NV.cMod, NV.cDiv, NV.cMul, NV.oneS, NV.oneV, NV.Arg.slot, Int.reducePow, Int.reduceNeg, reduceIte, Nat.reduceLT, Nat.reduceLeDiff, Int.reduceLT, Int.reduceLE, Int.reduceToNat, reduceCtorEq, Nat.reduceAdd, eq_self, r0, hp]; rfl) ?_
  rw [hz]
  have dz : decide ((z : Int) < -100000 ∨ 100000 < (z : Int)) = false := decide_eq_false (by omega)
  have hcp : (0 : Int) < (c : Int) := by omega
  have hix : ∀ k : Nat, gIx (.v (.str (alpha c))) (.v (.int ((xs.getD (1 + (k : Int)).toNat 0 : Nat) % (c : Int)))) = some (.v (.str (lt (f k)))) := fun k => by
    have e : ((xs.getD (1 + (k : Int)).toNat 0 : Nat) : Int) % (c : Int) = ((f k : Nat) : Int) := by simp [f]
    rw [e]
    show (if (alpha c).length ≤ 1000000 then _ else _) = _
    rw [alpha_len, if_pos (by omega)]
    have hlt : atI (alpha c).cps.toList (f k : Int) = some (97 + f k) := wd_at (by rw [List.getElem?_range (hf k)])
    rw [hlt]; rfl
  have e : oLc (iR1 (aCons (eVar 3) aNil)) (tgName 4) tYe (oFz (eIx (eVar 1) (eOp (gIc cMod fun i j => .int (i % j)) (eCB gInt (aCons (eIx (eVar 0) (eOp (gI fun i j => .int (i + j)) (eC (.int 1)) (eVar 4))) aNil)) (eCB gLen (aCons (eVar 1) aNil))))) [4] [.r (rowD xs), .f (.s (alpha c)), .f (.i top), .f (.i z), .n] = .ok (.l (tabO z fun k => .fz (.s (lt (f k))))) _ 0 :=
    lc_rg z _ (by simp only [NV.XS, NV.killG, NV.fzG, NV.immG, NV.immS, NV.D.tru, NV.gNeg, NV.D.items, NV.twoI, NV.OT.d, NV.OT.ds, NV.cMod, NV.cDiv, NV.cMul, NV.oneS, NV.oneV, NV.Arg.slot, Int.reducePow, Int.reduceNeg, reduceIte, Nat.reduceLT, Nat.reduceLeDiff, Int.reduceLT, Int.reduceLE, Int.reduceToNat, reduceCtorEq, Nat.reduceAdd, eq_self, dz, Int.toNat_natCast]; rfl) (by omega) fun k hk => ⟨_, _, by simp only [NV.XS, NV.killG, NV.fzG, NV.immG, NV.immS, NV.D.tru, NV.gNeg, NV.D.items, NV.twoI, NV.OT.d, NV.OT.ds, NV.cMod, NV.cDiv, NV.cMul, NV.oneS, NV.oneV, NV.Arg.slot, Int.reducePow, Int.reduceNeg, reduceIte, Nat.reduceLT, Nat.reduceLeDiff, Int.reduceLT, Int.reduceLE, Int.reduceToNat, reduceCtorEq, Nat.reduceAdd, eq_self, wipeG]; rfl, by simp only [NV.XS, NV.killG, NV.fzG, NV.immG, NV.immS, NV.D.tru, NV.gNeg, NV.D.items, NV.twoI, NV.OT.d, NV.OT.ds, NV.cMod, NV.cDiv, NV.cMul, NV.oneS, NV.oneV, NV.Arg.slot, Int.reducePow, Int.reduceNeg, reduceIte, Nat.reduceLT, Nat.reduceLeDiff, Int.reduceLT, Int.reduceLE, Int.reduceToNat, reduceCtorEq, Nat.reduceAdd, eq_self, row_at (xs := xs) (j := 1 + (k : Int)) (by omega) (by omega), len_alpha hc4, hcp, hix]; rfl⟩
  have hj : gJoin (.v (.str "")) (.l (tab z fun k => .s (lt (f k)))) = some (.str (wd ((List.range z).map f))) := by
    have := gJoin_lts (js := (List.range z).map f) (by simp; omega)
    rw [List.map_map, List.map_map] at this
    exact this
  exact go_ret (by simp only [NV.XS, NV.killG, NV.fzG, NV.immG, NV.immS, NV.D.tru, NV.gNeg, NV.D.items, NV.twoI, NV.OT.d, NV.OT.ds, NV.cMod, NV.cDiv, NV.cMul, NV.oneS, NV.oneV, NV.Arg.slot, Int.reducePow, Int.reduceNeg, reduceIte, Nat.reduceLT, Nat.reduceLeDiff, Int.reduceLT, Int.reduceLE, Int.reduceToNat, reduceCtorEq, Nat.reduceAdd, eq_self, e, tabO_ds, hj]; rfl) (rt_of rfl ⟨rfl, rfl⟩)
/-- the text of a machine -/
def cellT (m : Mach) (s k : Nat) : Str := " " ++ dg (m.tg s k) ++ star (m.fl s k)
def lineK (m : Mach) (s k : Nat) : Str := (List.range k).foldl (fun l k => l ++ cellT m s k) (dg s ++ ":")
theorem lineK_succ {m : Mach} {s k : Nat} : lineK m s (k + 1) = lineK m s k ++ cellT m s k := by unfold lineK; rw [List.range_succ, List.foldl_append]; rfl
theorem cell_len {m : Mach} (h : m.Ok) {s k : Nat} (hs : s < m.n) (hk : k < m.c) : (cellT m s k).length ≤ 3 := by
  unfold cellT
  rw [slen, slen, dg_len (by have := h.tg s k hs hk; have := h.n8; omega)]
  have := star_len (b := m.fl s k)
  have e : (" " : Str).length = 1 := by decide +kernel
  omega
theorem lineK_len {m : Mach} (h : m.Ok) {s : Nat} (hs : s < m.n) : ∀ k, k ≤ m.c → (lineK m s k).length ≤ 2 + 3 * k
  | 0, _ => by
    show (dg s ++ ":" : Str).length ≤ _
    rw [slen, dg_len (by have := h.n8; omega)]
    have e : (":" : Str).length = 1 := by decide +kernel
    omega
  | k + 1, hk => by
    rw [lineK_succ, slen]
    have := lineK_len h hs k (by omega)
    have := cell_len h hs (k := k) (by omega)
    omega
def headL (m : Mach) : List Str := ["letters " ++ alpha m.c, "start " ++ dg m.st]
def linesM (m : Mach) (s : Nat) : List Str := headL m ++ (List.range s).map fun s => lineK m s m.c
theorem linesM_succ {m : Mach} {s : Nat} : linesM m (s + 1) = linesM m s ++ [lineK m s m.c] := by unfold linesM; rw [List.range_succ, List.map_append, List.append_assoc]; rfl
def strO (ys : List Str) : OT := .l (ys.map fun y => .fz (.s y))
theorem strO_app {ys : List Str} {y : Str} : ys.map (fun y => OT.fz (.s y)) ++ [OT.fz (.s y)] = (ys ++ [y]).map fun y => OT.fz (.s y) := by simp
def textM (m : Mach) : Str := Txt.join "\n" (linesM m m.n)
theorem lines_len {m : Mach} {s : Nat} : (linesM m s).length = 2 + s := by unfold linesM headL; simp; omega
theorem lines_sum {m : Mach} (h : m.Ok) : ∀ s, s ≤ m.n → ((linesM m s).map (·.length)).sum ≤ 40 + s * 20
  | 0, _ => by
    show ("letters " ++ alpha m.c : Str).length + (("start " ++ dg m.st : Str).length + 0) ≤ _
    rw [slen, slen, alpha_len, dg_len (by have := h.st; have := h.n8; omega)]
    have e1 : ("letters " : Str).length = 8 := by decide +kernel
    have e2 : ("start " : Str).length = 6 := by decide +kernel
    have := h.c4
    omega
  | s + 1, hs => by
    rw [linesM_succ, List.map_append, List.sum_append]
    have := lines_sum h s (by omega)
    have := lineK_len h (s := s) (by omega) m.c (Nat.le_refl _)
    have := h.c4
    simp only [List.map_cons, List.map_nil, List.sum_cons, List.sum_nil]
    omega
theorem gJoin_text {m : Mach} (h : m.Ok) : gJoin (.v (.str "\n")) (.l ((linesM m m.n).map D.s)) = some (.str (textM m)) := by
  rw [gJoin_l]; rfl
  have := lines_sum h m.n (Nat.le_refl _)
  have := h.n8
  have e : ("\n" : Str).length = 1 := by decide +kernel
  rw [e, lines_len]
  omega
theorem strO_d {ys : List Str} : (strO ys).d = .l (ys.map D.s) := by
  show D.l (OT.ds _) = _
  rw [ds_map]; rfl
theorem add3 {m : Mach} {s k : Nat} {l : Str} : l ++ " " ++ dg (m.tg s k) ++ star (m.fl s k) = l ++ cellT m s k := by unfold cellT; simp only [sassoc]
theorem sl1 : (" " : Str).length = 1 := by decide +kernel
theorem sl2 : (":" : Str).length = 1 := by decide +kernel
theorem sl3 : ("letters " : Str).length = 8 := by decide +kernel
theorem sl4 : ("start " : Str).length = 6 := by decide +kernel
theorem r_text {m : Mach} (h : m.Ok) : x_law_text [.d (mD m)] = .ok (.fz (.s (textM m))) [] := by
  have hn := h.n8
  have hst := h.st
  have hc := h.c4
  (first | refine NV.run_ok rfl ?_ | refine NV.run_ex rfl ?_)
  simp only [NV.killG, NV.fzG, NV.immG, NV.immS, NV.imm_v, List.foldl_cons, List.foldl_nil, List.getElem?_cons_zero, List.getElem?_cons_succ, List.set_cons_zero, List.set_cons_succ, NV.Arg.slot, List.map_cons, List.map_nil, List.cons_append, List.nil_append, List.replicate, if_true]
  have a1 := gAddS_s (a := "letters ") (b := alpha m.c) (by rw [alpha_len, sl3]; omega)
  have a2 := gAddS_s (a := "start ") (b := dg m.st) (by rw [dg_len (by omega), sl4]; omega)
  refine go_seq (Γ1 := [.r (mD m), .o (strO (linesM m 0)), .n, .n, .n]) (by simp only [NV.XS, NV.killG, NV.fzG, NV.immG, NV.immS, NV.D.tru, NV.gNeg, NV.D.items, NV.twoI, NV.OT.d, NV.OT.ds, NV.cMod, NV.cDiv, NV.cMul, NV.oneS, NV.oneV, NV.Arg.slot, Int.reducePow, Int.reduceNeg, reduceIte, Nat.reduceLT, Nat.reduceLeDiff, Int.reduceLT, Int.reduceLE, Int.reduceToNat, reduceCtorEq, Nat.reduceAdd, eq_self, m_0, m_3, a1, a2, gStr_n (n := m.st) (by omega)]; rfl) ?_
  have dn : decide ((m.n : Int) < -100000 ∨ 100000 < (m.n : Int)) = false := decide_eq_false (by omega)
  have dc : decide ((m.c : Int) < -100000 ∨ 100000 < (m.c : Int)) = false := decide_eq_false (by omega)
  refine go_seq (Γ1 := [.r (mD m), .o (strO (linesM m m.n)), .n, .n, .n]) ?_ ?_
  · refine go_kb (P := (· = _)) ?_
    simp only [NV.killG, NV.fzG, NV.immG, NV.immS, NV.imm_v, List.foldl_cons, List.foldl_nil, List.getElem?_cons_zero, List.getElem?_cons_succ, List.set_cons_zero, List.set_cons_succ, NV.Arg.slot, List.map_cons, List.map_nil, List.cons_append, List.nil_append, List.replicate, if_true]
    refine go_for (by simp only [NV.XS, NV.killG, NV.fzG, NV.immG, NV.immS, NV.D.tru, NV.gNeg, NV.D.items, NV.twoI, NV.OT.d, NV.OT.ds, NV.cMod, NV.cDiv, NV.cMul, NV.oneS, NV.oneV, NV.Arg.slot, Int.reducePow, Int.reduceNeg, reduceIte, Nat.reduceLT, Nat.reduceLeDiff, Int.reduceLT, Int.reduceLE, Int.reduceToNat, reduceCtorEq, Nat.reduceAdd, eq_self, m_1, im_tg, len_tg, dn, Int.toNat_natCast]; rfl) (by simp) ?_
    refine forL_rg (fun s Γ => Γ = [.r (mD m), .o (strO (linesM m s)), .n, .n, .n]) rfl ?_ (by rintro _ rfl; rfl)
    rintro s _ hs rfl
    refine ⟨_, by simp only [NV.XS, NV.killG, NV.fzG, NV.immG, NV.immS, NV.D.tru, NV.gNeg, NV.D.items, NV.twoI, NV.OT.d, NV.OT.ds, NV.cMod, NV.cDiv, NV.cMul, NV.oneS, NV.oneV, NV.Arg.slot, Int.reducePow, Int.reduceNeg, reduceIte, Nat.reduceLT, Nat.reduceLeDiff, Int.reduceLT, Int.reduceLE, Int.reduceToNat, reduceCtorEq, Nat.reduceAdd, eq_self]; rfl, go_kill ?_⟩
    have a3 := gAddS_s (a := dg s) (b := ":") (by rw [dg_len (by omega), sl2]; omega)
    refine NV.go_seq (by simp only [NV.XS, NV.killG, NV.fzG, NV.immG, NV.immS, NV.D.tru, NV.gNeg, NV.D.items, NV.twoI, NV.OT.d, NV.OT.ds, NV.cMod, NV.cDiv, NV.cMul, NV.oneS, NV.oneV, NV.Arg.slot, Int.reducePow, Int.reduceNeg, reduceIte, Nat.reduceLT, Nat.reduceLeDiff, Int.reduceLT, Int.reduceLE, Int.reduceToNat, reduceCtorEq, Nat.reduceAdd, eq_self, gStr_n (n := s) (by omega), a3]; rfl) ?_
    refine go_seq (Γ1 := [.r (mD m), .o (strO (linesM m s)), .f (.i s), .f (.s (lineK m s m.c)), .n]) ?_ ?_
    · refine go_kb (P := (· = _)) ?_
      simp only [NV.killG, NV.fzG, NV.immG, NV.immS, NV.imm_v, List.foldl_cons, List.foldl_nil, List.getElem?_cons_zero, List.getElem?_cons_succ, List.set_cons_zero, List.set_cons_succ, NV.Arg.slot, List.map_cons, List.map_nil, List.cons_append, List.nil_append, List.replicate, if_true]
      refine go_for (by simp only [NV.XS, NV.killG, NV.fzG, NV.immG, NV.immS, NV.D.tru, NV.gNeg, NV.D.items, NV.twoI, NV.OT.d, NV.OT.ds, NV.cMod, NV.cDiv, NV.cMul, NV.oneS, NV.oneV, NV.Arg.slot, Int.reducePow, Int.reduceNeg, reduceIte, Nat.reduceLT, Nat.reduceLeDiff, Int.reduceLT, Int.reduceLE, Int.reduceToNat, reduceCtorEq, Nat.reduceAdd, eq_self, m_0, len_alpha hc, dc, Int.toNat_natCast]; rfl) (by simp) ?_
      refine forL_rg (fun k Γ => Γ = [.r (mD m), .o (strO (linesM m s)), .f (.i s), .f (.s (lineK m s k)), .n]) rfl ?_ (by rintro _ rfl; rfl)
      rintro k _ hk rfl
      refine ⟨_, by simp only [NV.XS, NV.killG, NV.fzG, NV.immG, NV.immS, NV.D.tru, NV.gNeg, NV.D.items, NV.twoI, NV.OT.d, NV.OT.ds, NV.cMod, NV.cDiv, NV.cMul, NV.oneS, NV.oneV, NV.Arg.slot, Int.reducePow, Int.reduceNeg, reduceIte, Nat.reduceLT, Nat.reduceLeDiff, Int.reduceLT, Int.reduceLE, Int.reduceToNat, reduceCtorEq, Nat.reduceAdd, eq_self]; rfl, go_kill ?_⟩
      have ll := lineK_len h hs k (by omega)
      have ht := h.tg s k hs hk
      have hs1 := star_len (b := m.fl s k)
      have b1 := gAddS_s (a := lineK m s k) (b := " ") (by rw [sl1]; omega)
      have b2 := gAddS_s (a := lineK m s k ++ " ") (b := dg (m.tg s k)) (by rw [slen, sl1, dg_len (by omega)]; omega)
      have b3 := gAddS_s (a := lineK m s k ++ " " ++ dg (m.tg s k)) (b := star (m.fl s k)) (by rw [slen, slen, sl1, dg_len (by omega)]; omega)
      refine go_end (by simp only [NV.XS, NV.killG, NV.fzG, NV.immG, NV.immS, NV.D.tru, NV.gNeg, NV.D.items, NV.twoI, NV.OT.d, NV.OT.ds, NV.cMod, NV.cDiv, NV.cMul, NV.oneS, NV.oneV, NV.Arg.slot, Int.reducePow, Int.reduceNeg, reduceIte, Nat.reduceLT, Nat.reduceLeDiff, Int.reduceLT, Int.reduceLE, Int.reduceToNat, reduceCtorEq, Nat.reduceAdd, eq_self, m_1, m_2, im_tg, im_fl, tg_1 hs, fl_1 hs, im_tgR, im_flR, tg_2 hk, fl_2 hk, gStr_n (n := m.tg s k) (by omega), gMulS_b, b1, b2, b3]; rfl) ⟨_, rfl, ?_⟩
      simp only [NV.killG, NV.fzG, NV.immG, NV.immS, NV.imm_v, List.foldl_cons, List.foldl_nil, List.getElem?_cons_zero, List.getElem?_cons_succ, List.set_cons_zero, List.set_cons_succ, NV.Arg.slot, List.map_cons, List.map_nil, List.cons_append, List.nil_append, List.replicate, if_true]
      rw [add3, lineK_succ]
    · have hl : decide (100000 ≤ ((linesM m s).map fun y => OT.fz (.s y)).length) = false := decide_eq_false (by rw [List.length_map, lines_len]; omega)
      refine go_end (by simp only [NV.XS, NV.killG, NV.fzG, NV.immG, NV.immS, NV.D.tru, NV.gNeg, NV.D.items, NV.twoI, NV.OT.d, NV.OT.ds, NV.cMod, NV.cDiv, NV.cMul, NV.oneS, NV.oneV, NV.Arg.slot, Int.reducePow, Int.reduceNeg, reduceIte, Nat.reduceLT, Nat.reduceLeDiff, Int.reduceLT, Int.reduceLE, Int.reduceToNat, reduceCtorEq, Nat.reduceAdd, eq_self, strO, hl, strO_app]; rfl) ⟨_, rfl, ?_⟩
      simp only [NV.killG, NV.fzG, NV.immG, NV.immS, NV.imm_v, List.foldl_cons, List.foldl_nil, List.getElem?_cons_zero, List.getElem?_cons_succ, List.set_cons_zero, List.set_cons_succ, NV.Arg.slot, List.map_cons, List.map_nil, List.cons_append, List.nil_append, List.replicate, if_true]
      rw [linesM_succ]; rfl
  · have hj := gJoin_text h
    rw [← strO_d] at hj
    exact go_ret (by simp only [NV.XS, NV.killG, NV.fzG, NV.immG, NV.immS, NV.D.tru, NV.gNeg, NV.D.items, NV.twoI, NV.OT.d, NV.OT.ds, NV.cMod, NV.cDiv, NV.cMul, NV.oneS, NV.oneV, NV.Arg.slot, Int.reducePow, Int.reduceNeg, reduceIte, Nat.reduceLT, Nat.reduceLeDiff, Int.reduceLT, Int.reduceLE, Int.reduceToNat, reduceCtorEq, Nat.reduceAdd, eq_self, hj]; rfl) (rt_of rfl ⟨rfl, rfl⟩)
theorem r_wtext {m : Mach} (h : m.Ok) : x_Wish_text [.d (wD m)] = .ok (.fz (.s (textM m))) [] := by
  have hn := h.n8
  have hst := h.st
  have hc := h.c4
  (first | refine NV.run_ok rfl ?_ | refine NV.run_ex rfl ?_)
  simp only [NV.killG, NV.fzG, NV.immG, NV.immS, NV.imm_v, List.foldl_cons, List.foldl_nil, List.getElem?_cons_zero, List.getElem?_cons_succ, List.set_cons_zero, List.set_cons_succ, NV.Arg.slot, List.map_cons, List.map_nil, List.cons_append, List.nil_append, List.replicate, if_true]
  have a1 := gAddS_s (a := "letters ") (b := alpha m.c) (by rw [alpha_len, sl3]; omega)
  have a2 := gAddS_s (a := "start ") (b := dg m.st) (by rw [dg_len (by omega), sl4]; omega)
  refine go_seq (Γ1 := [.r (wD m), .o (strO (linesM m 0)), .n, .n, .n, .n]) (by simp only [NV.XS, NV.killG, NV.fzG, NV.immG, NV.immS, NV.D.tru, NV.gNeg, NV.D.items, NV.twoI, NV.OT.d, NV.OT.ds, NV.cMod, NV.cDiv, NV.cMul, NV.oneS, NV.oneV, NV.Arg.slot, Int.reducePow, Int.reduceNeg, reduceIte, Nat.reduceLT, Nat.reduceLeDiff, Int.reduceLT, Int.reduceLE, Int.reduceToNat, reduceCtorEq, Nat.reduceAdd, eq_self, w_le, w_st, a1, a2, gStr_n (n := m.st) (by omega)]; rfl) ?_
  have dn : decide ((m.n : Int) < -100000 ∨ 100000 < (m.n : Int)) = false := decide_eq_false (by omega)
  refine go_seq (Γ1 := [.r (wD m), .o (strO (linesM m m.n)), .n, .n, .n, .n]) ?_ ?_
  · refine go_kb (P := (· = _)) ?_
    simp only [NV.killG, NV.fzG, NV.immG, NV.immS, NV.imm_v, List.foldl_cons, List.foldl_nil, List.getElem?_cons_zero, List.getElem?_cons_succ, List.set_cons_zero, List.set_cons_succ, NV.Arg.slot, List.map_cons, List.map_nil, List.cons_append, List.nil_append, List.replicate, if_true]
    refine go_for (by simp only [NV.XS, NV.killG, NV.fzG, NV.immG, NV.immS, NV.D.tru, NV.gNeg, NV.D.items, NV.twoI, NV.OT.d, NV.OT.ds, NV.cMod, NV.cDiv, NV.cMul, NV.oneS, NV.oneV, NV.Arg.slot, Int.reducePow, Int.reduceNeg, reduceIte, Nat.reduceLT, Nat.reduceLeDiff, Int.reduceLT, Int.reduceLE, Int.reduceToNat, reduceCtorEq, Nat.reduceAdd, eq_self, w_si, dn, Int.toNat_natCast]; rfl) (by simp) ?_
    refine forL_rg (fun s Γ => Γ = [.r (wD m), .o (strO (linesM m s)), .n, .n, .n, .n]) rfl ?_ (by rintro _ rfl; rfl)
    rintro s _ hs rfl
    refine ⟨_, by simp only [NV.XS, NV.killG, NV.fzG, NV.immG, NV.immS, NV.D.tru, NV.gNeg, NV.D.items, NV.twoI, NV.OT.d, NV.OT.ds, NV.cMod, NV.cDiv, NV.cMul, NV.oneS, NV.oneV, NV.Arg.slot, Int.reducePow, Int.reduceNeg, reduceIte, Nat.reduceLT, Nat.reduceLeDiff, Int.reduceLT, Int.reduceLE, Int.reduceToNat, reduceCtorEq, Nat.reduceAdd, eq_self]; rfl, go_kill ?_⟩
    have a3 := gAddS_s (a := dg s) (b := ":") (by rw [dg_len (by omega), sl2]; omega)
    refine NV.go_seq (by simp only [NV.XS, NV.killG, NV.fzG, NV.immG, NV.immS, NV.D.tru, NV.gNeg, NV.D.items, NV.twoI, NV.OT.d, NV.OT.ds, NV.cMod, NV.cDiv, NV.cMul, NV.oneS, NV.oneV, NV.Arg.slot, Int.reducePow, Int.reduceNeg, reduceIte, Nat.reduceLT, Nat.reduceLeDiff, Int.reduceLT, Int.reduceLE, Int.reduceToNat, reduceCtorEq, Nat.reduceAdd, eq_self, gStr_n (n := s) (by omega), a3]; rfl) ?_
    refine go_seq (Γ1 := [.r (wD m), .o (strO (linesM m s)), .f (.i s), .f (.s (lineK m s m.c)), .n, .n]) ?_ ?_
    · refine go_kb (P := (· = _)) ?_
      simp only [NV.killG, NV.fzG, NV.immG, NV.immS, NV.imm_v, List.foldl_cons, List.foldl_nil, List.getElem?_cons_zero, List.getElem?_cons_succ, List.set_cons_zero, List.set_cons_succ, NV.Arg.slot, List.map_cons, List.map_nil, List.cons_append, List.nil_append, List.replicate, if_true]
      refine go_for (by simp only [NV.XS, NV.killG, NV.fzG, NV.immG, NV.immS, NV.D.tru, NV.gNeg, NV.D.items, NV.twoI, NV.OT.d, NV.OT.ds, NV.cMod, NV.cDiv, NV.cMul, NV.oneS, NV.oneV, NV.Arg.slot, Int.reducePow, Int.reduceNeg, reduceIte, Nat.reduceLT, Nat.reduceLeDiff, Int.reduceLT, Int.reduceLE, Int.reduceToNat, reduceCtorEq, Nat.reduceAdd, eq_self, w_tg, w_fl, im_tg, im_fl, tg_1 hs, fl_1 hs, im_tgR, im_flR, tgR, flR, zip_tab]; rfl) (by simp) ?_
      refine forL_tabI (fun k Γ => Γ = [.r (wD m), .o (strO (linesM m s)), .f (.i s), .f (.s (lineK m s k)), .n, .n]) rfl ?_ (by rintro _ rfl; rfl)
      rintro k _ hk rfl
      refine ⟨_, by simp only [NV.XS, NV.killG, NV.fzG, NV.immG, NV.immS, NV.D.tru, NV.gNeg, NV.D.items, NV.twoI, NV.OT.d, NV.OT.ds, NV.cMod, NV.cDiv, NV.cMul, NV.oneS, NV.oneV, NV.Arg.slot, Int.reducePow, Int.reduceNeg, reduceIte, Nat.reduceLT, Nat.reduceLeDiff, Int.reduceLT, Int.reduceLE, Int.reduceToNat, reduceCtorEq, Nat.reduceAdd, eq_self]; rfl, go_kill ?_⟩
      have ll := lineK_len h hs k (by omega)
      have ht := h.tg s k hs hk
      have hs1 := star_len (b := m.fl s k)
      have b1 := gAddS_s (a := " ") (b := dg (m.tg s k)) (by rw [sl1, dg_len (by omega)]; omega)
      have b2 := gAddS_s (a := " " ++ dg (m.tg s k)) (b := star (m.fl s k)) (by rw [slen, sl1, dg_len (by omega)]; omega)
      have b3 := gAddS_s (a := lineK m s k) (b := cellT m s k) (by have := cell_len h hs hk; omega)
      unfold cellT at b3
      refine go_end (by simp only [NV.XS, NV.killG, NV.fzG, NV.immG, NV.immS, NV.D.tru, NV.gNeg, NV.D.items, NV.twoI, NV.OT.d, NV.OT.ds, NV.cMod, NV.cDiv, NV.cMul, NV.oneS, NV.oneV, NV.Arg.slot, Int.reducePow, Int.reduceNeg, reduceIte, Nat.reduceLT, Nat.reduceLeDiff, Int.reduceLT, Int.reduceLE, Int.reduceToNat, reduceCtorEq, Nat.reduceAdd, eq_self, q_aug, gStr_n (n := m.tg s k) (by omega), gMulS_b, b1, b2, b3]; rfl) ⟨_, rfl, ?_⟩
      simp only [NV.killG, NV.fzG, NV.immG, NV.immS, NV.imm_v, List.foldl_cons, List.foldl_nil, List.getElem?_cons_zero, List.getElem?_cons_succ, List.set_cons_zero, List.set_cons_succ, NV.Arg.slot, List.map_cons, List.map_nil, List.cons_append, List.nil_append, List.replicate, if_true]
      rw [lineK_succ]; rfl
    · have hl : decide (100000 ≤ ((linesM m s).map fun y => OT.fz (.s y)).length) = false := decide_eq_false (by rw [List.length_map, lines_len]; omega)
      refine go_end (by simp only [NV.XS, NV.killG, NV.fzG, NV.immG, NV.immS, NV.D.tru, NV.gNeg, NV.D.items, NV.twoI, NV.OT.d, NV.OT.ds, NV.cMod, NV.cDiv, NV.cMul, NV.oneS, NV.oneV, NV.Arg.slot, Int.reducePow, Int.reduceNeg, reduceIte, Nat.reduceLT, Nat.reduceLeDiff, Int.reduceLT, Int.reduceLE, Int.reduceToNat, reduceCtorEq, Nat.reduceAdd, eq_self, strO, hl, strO_app]; rfl) ⟨_, rfl, ?_⟩
      simp only [NV.killG, NV.fzG, NV.immG, NV.immS, NV.imm_v, List.foldl_cons, List.foldl_nil, List.getElem?_cons_zero, List.getElem?_cons_succ, List.set_cons_zero, List.set_cons_succ, NV.Arg.slot, List.map_cons, List.map_nil, List.cons_append, List.nil_append, List.replicate, if_true]
      rw [linesM_succ]; rfl
  · have hj := gJoin_text h
    rw [← strO_d] at hj
    exact go_ret (by simp only [NV.XS, NV.killG, NV.fzG, NV.immG, NV.immS, NV.D.tru, NV.gNeg, NV.D.items, NV.twoI, NV.OT.d, NV.OT.ds, NV.cMod, NV.cDiv, NV.cMul, NV.oneS, NV.oneV, NV.Arg.slot, Int.reducePow, Int.reduceNeg, reduceIte, Nat.reduceLT, Nat.reduceLeDiff, Int.reduceLT, Int.reduceLE, Int.reduceToNat, reduceCtorEq, Nat.reduceAdd, eq_self, hj]; rfl) (rt_of rfl ⟨rfl, rfl⟩)

end
section
/-! ### lassos; wishes cut and changed -/
theorem r_good {m : Mach} (h : m.Ok) {s : Nat} (hs : s < m.n) {u v : List Nat} (hu : ∀ j ∈ u, j < m.c) (hv : ∀ j ∈ v, j < m.c) :
    x_law_good [.d (mD m), .d (.i (s : Nat)), .d (.s (wd u)), .d (.s (wd v))] = .ok (.fz (.b (goodM m v (lapM m s u).1))) [] := by
  have hn := h.n8
  (first | refine NV.run_ok rfl ?_ | refine NV.run_ex rfl ?_)
  refine go_imm ?_
  simp only [NV.killG, NV.fzG, NV.immG, NV.immS, NV.imm_v, List.foldl_cons, List.foldl_nil, List.getElem?_cons_zero, List.getElem?_cons_succ, List.set_cons_zero, List.set_cons_succ, NV.Arg.slot, List.map_cons, List.map_nil, List.cons_append, List.nil_append, List.replicate, if_true]
  have h0 := lapM_st h hu hs
  have hits := its_in h hv h0
  have dn : decide ((m.n : Int) < -100000 ∨ 100000 < (m.n : Int)) = false := decide_eq_false (by omega)
  refine NV.go_seq (by simp only [NV.XS, NV.killG, NV.fzG, NV.immG, NV.immS, NV.D.tru, NV.gNeg, NV.D.items, NV.twoI, NV.OT.d, NV.OT.ds, NV.cMod, NV.cDiv, NV.cMul, NV.oneS, NV.oneV, NV.Arg.slot, Int.reducePow, Int.reduceNeg, reduceIte, Nat.reduceLT, Nat.reduceLeDiff, Int.reduceLT, Int.reduceLE, Int.reduceToNat, reduceCtorEq, Nat.reduceAdd, eq_self, r_lap h hs hu, im_mD]; rfl) ?_
  refine go_seq (Γ1 := [.r (mD m), .f (.i (its m v m.n (lapM m s u).1)), .f (.s (wd u)), .f (.s (wd v)), .n, .n, .n]) ?_ ?_
  · refine go_kb (P := (· = _)) ?_
    simp only [NV.killG, NV.fzG, NV.immG, NV.immS, NV.imm_v, List.foldl_cons, List.foldl_nil, List.getElem?_cons_zero, List.getElem?_cons_succ, List.set_cons_zero, List.set_cons_succ, NV.Arg.slot, List.map_cons, List.map_nil, List.cons_append, List.nil_append, List.replicate, if_true]
    refine go_for (by simp only [NV.XS, NV.killG, NV.fzG, NV.immG, NV.immS, NV.D.tru, NV.gNeg, NV.D.items, NV.twoI, NV.OT.d, NV.OT.ds, NV.cMod, NV.cDiv, NV.cMul, NV.oneS, NV.oneV, NV.Arg.slot, Int.reducePow, Int.reduceNeg, reduceIte, Nat.reduceLT, Nat.reduceLeDiff, Int.reduceLT, Int.reduceLE, Int.reduceToNat, reduceCtorEq, Nat.reduceAdd, eq_self, m_1, im_tg, len_tg, dn, Int.toNat_natCast]; rfl) (by simp) ?_
    refine forL_rg (fun i Γ => Γ = [.r (mD m), .f (.i (its m v i (lapM m s u).1)), .f (.s (wd u)), .f (.s (wd v)), .n, .n, .n]) rfl ?_ (by rintro _ rfl; rfl)
    rintro i _ hi rfl
    refine ⟨_, by simp only [NV.XS, NV.killG, NV.fzG, NV.immG, NV.immS, NV.D.tru, NV.gNeg, NV.D.items, NV.twoI, NV.OT.d, NV.OT.ds, NV.cMod, NV.cDiv, NV.cMul, NV.oneS, NV.oneV, NV.Arg.slot, Int.reducePow, Int.reduceNeg, reduceIte, Nat.reduceLT, Nat.reduceLeDiff, Int.reduceLT, Int.reduceLE, Int.reduceToNat, reduceCtorEq, Nat.reduceAdd, eq_self]; rfl, go_kill ?_⟩
    exact go_end (by simp only [NV.XS, NV.killG, NV.fzG, NV.immG, NV.immS, NV.D.tru, NV.gNeg, NV.D.items, NV.twoI, NV.OT.d, NV.OT.ds, NV.cMod, NV.cDiv, NV.cMul, NV.oneS, NV.oneV, NV.Arg.slot, Int.reducePow, Int.reduceNeg, reduceIte, Nat.reduceLT, Nat.reduceLeDiff, Int.reduceLT, Int.reduceLE, Int.reduceToNat, reduceCtorEq, Nat.reduceAdd, eq_self, r_lap h (hits i) hv, im_mD]; rfl) ⟨_, rfl, rfl⟩
  refine NV.go_seq (by simp only [NV.XS, NV.killG, NV.fzG, NV.immG, NV.immS, NV.D.tru, NV.gNeg, NV.D.items, NV.twoI, NV.OT.d, NV.OT.ds, NV.cMod, NV.cDiv, NV.cMul, NV.oneS, NV.oneV, NV.Arg.slot, Int.reducePow, Int.reduceNeg, reduceIte, Nat.reduceLT, Nat.reduceLeDiff, Int.reduceLT, Int.reduceLE, Int.reduceToNat, reduceCtorEq, Nat.reduceAdd, eq_self]; rfl) ?_
  refine go_seq (Γ1 := [.r (mD m), .f (.i (its m v (m.n + m.n) (lapM m s u).1)), .f (.s (wd u)), .f (.s (wd v)), .n, .f (.b (goodM m v (lapM m s u).1)), .n]) ?_ (go_ret (by simp only [NV.XS, NV.killG, NV.fzG, NV.immG, NV.immS, NV.D.tru, NV.gNeg, NV.D.items, NV.twoI, NV.OT.d, NV.OT.ds, NV.cMod, NV.cDiv, NV.cMul, NV.oneS, NV.oneV, NV.Arg.slot, Int.reducePow, Int.reduceNeg, reduceIte, Nat.reduceLT, Nat.reduceLeDiff, Int.reduceLT, Int.reduceLE, Int.reduceToNat, reduceCtorEq, Nat.reduceAdd, eq_self]; rfl) (rt_of rfl ⟨rfl, rfl⟩))
  refine go_kb (P := (· = _)) ?_
  simp only [NV.killG, NV.fzG, NV.immG, NV.immS, NV.imm_v, List.foldl_cons, List.foldl_nil, List.getElem?_cons_zero, List.getElem?_cons_succ, List.set_cons_zero, List.set_cons_succ, NV.Arg.slot, List.map_cons, List.map_nil, List.cons_append, List.nil_append, List.replicate, if_true]
  refine go_for (by simp only [NV.XS, NV.killG, NV.fzG, NV.immG, NV.immS, NV.D.tru, NV.gNeg, NV.D.items, NV.twoI, NV.OT.d, NV.OT.ds, NV.cMod, NV.cDiv, NV.cMul, NV.oneS, NV.oneV, NV.Arg.slot, Int.reducePow, Int.reduceNeg, reduceIte, Nat.reduceLT, Nat.reduceLeDiff, Int.reduceLT, Int.reduceLE, Int.reduceToNat, reduceCtorEq, Nat.reduceAdd, eq_self, m_1, im_tg, len_tg, dn, Int.toNat_natCast]; rfl) (by simp) ?_
  refine forL_rg (fun i Γ => Γ = [.r (mD m), .f (.i (its m v (m.n + i) (lapM m s u).1)), .f (.s (wd u)), .f (.s (wd v)), .n, .f (.b ((List.range i).any fun i => (lapM m (its m v (m.n + i) (lapM m s u).1) v).2)), .n]) rfl ?_ (by rintro _ rfl; rfl)
  rintro i _ hi rfl
  refine ⟨_, by simp only [NV.XS, NV.killG, NV.fzG, NV.immG, NV.immS, NV.D.tru, NV.gNeg, NV.D.items, NV.twoI, NV.OT.d, NV.OT.ds, NV.cMod, NV.cDiv, NV.cMul, NV.oneS, NV.oneV, NV.Arg.slot, Int.reducePow, Int.reduceNeg, reduceIte, Nat.reduceLT, Nat.reduceLeDiff, Int.reduceLT, Int.reduceLE, Int.reduceToNat, reduceCtorEq, Nat.reduceAdd, eq_self]; rfl, go_kill ?_⟩
  refine NV.go_seq (by simp only [NV.XS, NV.killG, NV.fzG, NV.immG, NV.immS, NV.D.tru, NV.gNeg, NV.D.items, NV.twoI, NV.OT.d, NV.OT.ds, NV.cMod, NV.cDiv, NV.cMul, NV.oneS, NV.oneV, NV.Arg.slot, Int.reducePow, Int.reduceNeg, reduceIte, Nat.reduceLT, Nat.reduceLeDiff, Int.reduceLT, Int.reduceLE, Int.reduceToNat, reduceCtorEq, Nat.reduceAdd, eq_self, r_lap h (hits _) hv, im_mD, OT.ds]; rfl) ?_
  refine NV.go_seq (by simp only [NV.XS, NV.killG, NV.fzG, NV.immG, NV.immS, NV.D.tru, NV.gNeg, NV.D.items, NV.twoI, NV.OT.d, NV.OT.ds, NV.cMod, NV.cDiv, NV.cMul, NV.oneS, NV.oneV, NV.Arg.slot, Int.reducePow, Int.reduceNeg, reduceIte, Nat.reduceLT, Nat.reduceLeDiff, Int.reduceLT, Int.reduceLE, Int.reduceToNat, reduceCtorEq, Nat.reduceAdd, eq_self]; rfl) ?_
  refine go_end (by simp only [NV.XS, NV.killG, NV.fzG, NV.immG, NV.immS, NV.D.tru, NV.gNeg, NV.D.items, NV.twoI, NV.OT.d, NV.OT.ds, NV.cMod, NV.cDiv, NV.cMul, NV.oneS, NV.oneV, NV.Arg.slot, Int.reducePow, Int.reduceNeg, reduceIte, Nat.reduceLT, Nat.reduceLeDiff, Int.reduceLT, Int.reduceLE, Int.reduceToNat, reduceCtorEq, Nat.reduceAdd, eq_self, orK_v]; rfl) ⟨_, rfl, ?_⟩
  simp only [NV.killG, NV.fzG, NV.immG, NV.immS, NV.imm_v, List.foldl_cons, List.foldl_nil, List.getElem?_cons_zero, List.getElem?_cons_succ, List.set_cons_zero, List.set_cons_succ, NV.Arg.slot, List.map_cons, List.map_nil, List.cons_append, List.nil_append, List.replicate, if_true]
  rw [any_range_succ]
  rfl
theorem fld_lap : fldIx "lap" ["flags", "letters", "size", "start", "targets"] = none := by decide +kernel
theorem fld_reach : fldIx "reach" ["flags", "letters", "size", "start", "targets"] = none := by decide +kernel
theorem fld_text : fldIx "text" ["flags", "letters", "size", "start", "targets"] = none := by decide +kernel
theorem fld_column : fldIx "column" ["flags", "letters", "size", "start", "targets"] = none := by decide +kernel
theorem fld_remark : fldIx "remark" ["flags", "letters", "size", "start", "targets"] = none := by decide +kernel
/-- a method of a wish that is read -/
theorem w_meth {m : Mach} {k : Kd} {mn : Str} {x : FM} {f : EF} {a : AF} {Γ Γ1 Γ2 : Gm} {ka : Kd} {ds : List D} {t : OT} (hf : f Γ = .ok (k, wD m) Γ1 0) (hm : fldIx mn ["flags", "letters", "size", "start", "targets"] = none) (ha : a Γ1 = .ok (ka, ds) Γ2 0) (hx : x ((wD m :: ds).map .d) = .ok t []) :
    oMeth "Wish" mn x f a Γ = .ok t Γ2 0 := by
  unfold oMeth
  rw [hf, bind_ok0]
  unfold wD at hx ⊢
  dsimp only
  rw [if_pos ⟨rfl, hm⟩, ha, bind_ok0]
  rw [if_neg (by cases k <;> simp [bad])]
  rw [hx]
  rfl
theorem r_reach {m : Mach} (h : m.Ok) {w : List Nat} (hw : ∀ j ∈ w, j < m.c) : x_Wish_reach [.d (wD m), .d (.s (wd w))] = .ok (.fz (.i (lapM m m.st w).1)) [] := by
  (first | refine NV.run_ok rfl ?_ | refine NV.run_ex rfl ?_)
  refine go_imm ?_
  simp only [NV.killG, NV.fzG, NV.immG, NV.immS, NV.imm_v, List.foldl_cons, List.foldl_nil, List.getElem?_cons_zero, List.getElem?_cons_succ, List.set_cons_zero, List.set_cons_succ, NV.Arg.slot, List.map_cons, List.map_nil, List.cons_append, List.nil_append, List.replicate, if_true]
  refine go_ret (t := .fz (.i (lapM m m.st w).1)) (Γ1 := [.r (wD m), .f (.s (wd w))]) (m := 0) ?_ (rt_of rfl ⟨rfl, rfl⟩)
  rw [q_ofz, q_ix, q_fz, w_meth (m := m) (k := .r) rfl fld_lap (by simp only [NV.XS, NV.killG, NV.fzG, NV.immG, NV.immS, NV.D.tru, NV.gNeg, NV.D.items, NV.twoI, NV.OT.d, NV.OT.ds, NV.cMod, NV.cDiv, NV.cMul, NV.oneS, NV.oneV, NV.Arg.slot, Int.reducePow, Int.reduceNeg, reduceIte, Nat.reduceLT, Nat.reduceLeDiff, Int.reduceLT, Int.reduceLE, Int.reduceToNat, reduceCtorEq, Nat.reduceAdd, eq_self, w_st]; rfl) (r_wlap h h.st hw)]
  simp only [NV.XS, NV.killG, NV.fzG, NV.immG, NV.immS, NV.D.tru, NV.gNeg, NV.D.items, NV.twoI, NV.OT.d, NV.OT.ds, NV.cMod, NV.cDiv, NV.cMul, NV.oneS, NV.oneV, NV.Arg.slot, Int.reducePow, Int.reduceNeg, reduceIte, Nat.reduceLT, Nat.reduceLeDiff, Int.reduceLT, Int.reduceLE, Int.reduceToNat, reduceCtorEq, Nat.reduceAdd, eq_self]
theorem r_contains {m : Mach} (h : m.Ok) {u v : List Nat} (hu : ∀ j ∈ u, j < m.c) (hv : ∀ j ∈ v, j < m.c) (h0 : v ≠ []) :
    x_Wish_contains [.d (wD m), .d (.t [.s (wd u), .s (wd v)])] = .ok (.fz (.b (goodM m v (lapM m m.st u).1))) [] := by
  have hn := h.n8
  (first | refine NV.run_ok rfl ?_ | refine NV.run_ex rfl ?_)
  refine go_imm ?_
  simp only [NV.killG, NV.fzG, NV.immG, NV.immS, NV.imm_v, List.foldl_cons, List.foldl_nil, List.getElem?_cons_zero, List.getElem?_cons_succ, List.set_cons_zero, List.set_cons_succ, NV.Arg.slot, List.map_cons, List.map_nil, List.cons_append, List.nil_append, List.replicate, if_true]
  have hs0 := lapM_st h hu h.st
  have hits := its_in h hv hs0
  refine go_seq (Γ1 := [.r (wD m), .f (.t [.s (wd u), .s (wd v)]), .n, .n, .n, .f (.s (wd u)), .f (.s (wd v)), .n]) rfl ?_
  have hne : decide (wd v = "") = false := decide_eq_false fun e => by
    have : wd v = wd [] := e
    exact h0 (wd_inj this)
  refine go_seqF (by simp only [NV.XS, NV.killG, NV.fzG, NV.immG, NV.immS, NV.D.tru, NV.gNeg, NV.D.items, NV.twoI, NV.OT.d, NV.OT.ds, NV.cMod, NV.cDiv, NV.cMul, NV.oneS, NV.oneV, NV.Arg.slot, Int.reducePow, Int.reduceNeg, reduceIte, Nat.reduceLT, Nat.reduceLeDiff, Int.reduceLT, Int.reduceLE, Int.reduceToNat, reduceCtorEq, Nat.reduceAdd, eq_self, hne]; rfl) ?_
  refine go_seq (Γ1 := [.r (wD m), .f (.t [.s (wd u), .s (wd v)]), .f (.i (lapM m m.st u).1), .n, .n, .f (.s (wd u)), .f (.s (wd v)), .n]) ?_ ?_
  · rw [q_asg, q_fz, w_meth (m := m) (k := .r) rfl fld_reach (by simp only [NV.XS, NV.killG, NV.fzG, NV.immG, NV.immS, NV.D.tru, NV.gNeg, NV.D.items, NV.twoI, NV.OT.d, NV.OT.ds, NV.cMod, NV.cDiv, NV.cMul, NV.oneS, NV.oneV, NV.Arg.slot, Int.reducePow, Int.reduceNeg, reduceIte, Nat.reduceLT, Nat.reduceLeDiff, Int.reduceLT, Int.reduceLE, Int.reduceToNat, reduceCtorEq, Nat.reduceAdd, eq_self]; rfl) (r_reach h hu)]
    simp only [NV.XS, NV.killG, NV.fzG, NV.immG, NV.immS, NV.D.tru, NV.gNeg, NV.D.items, NV.twoI, NV.OT.d, NV.OT.ds, NV.cMod, NV.cDiv, NV.cMul, NV.oneS, NV.oneV, NV.Arg.slot, Int.reducePow, Int.reduceNeg, reduceIte, Nat.reduceLT, Nat.reduceLeDiff, Int.reduceLT, Int.reduceLE, Int.reduceToNat, reduceCtorEq, Nat.reduceAdd, eq_self]
  refine NV.go_seq (by simp only [NV.XS, NV.killG, NV.fzG, NV.immG, NV.immS, NV.D.tru, NV.gNeg, NV.D.items, NV.twoI, NV.OT.d, NV.OT.ds, NV.cMod, NV.cDiv, NV.cMul, NV.oneS, NV.oneV, NV.Arg.slot, Int.reducePow, Int.reduceNeg, reduceIte, Nat.reduceLT, Nat.reduceLeDiff, Int.reduceLT, Int.reduceLE, Int.reduceToNat, reduceCtorEq, Nat.reduceAdd, eq_self]; rfl) ?_
  have d2 : decide ((2 : Int) * (m.n : Int) < -100000 ∨ 100000 < (2 : Int) * (m.n : Int)) = false := decide_eq_false (by omega)
  have e2 : ((2 : Int) * (m.n : Int)).toNat = 2 * m.n := by omega
  refine go_seq (Γ1 := [.r (wD m), .f (.t [.s (wd u), .s (wd v)]), .f (.i (its m v (2 * m.n) (lapM m m.st u).1)), .f (.b (goodM m v (lapM m m.st u).1)), .n, .f (.s (wd u)), .f (.s (wd v)), .n]) ?_ (go_ret (by simp only [NV.XS, NV.killG, NV.fzG, NV.immG, NV.immS, NV.D.tru, NV.gNeg, NV.D.items, NV.twoI, NV.OT.d, NV.OT.ds, NV.cMod, NV.cDiv, NV.cMul, NV.oneS, NV.oneV, NV.Arg.slot, Int.reducePow, Int.reduceNeg, reduceIte, Nat.reduceLT, Nat.reduceLeDiff, Int.reduceLT, Int.reduceLE, Int.reduceToNat, reduceCtorEq, Nat.reduceAdd, eq_self]; rfl) (rt_of rfl ⟨rfl, rfl⟩))
  refine go_kb (P := (· = _)) ?_
  simp only [NV.killG, NV.fzG, NV.immG, NV.immS, NV.imm_v, List.foldl_cons, List.foldl_nil, List.getElem?_cons_zero, List.getElem?_cons_succ, List.set_cons_zero, List.set_cons_succ, NV.Arg.slot, List.map_cons, List.map_nil, List.cons_append, List.nil_append, List.replicate, if_true]
  refine go_for (by simp only [NV.XS, NV.killG, NV.fzG, NV.immG, NV.immS, NV.D.tru, NV.gNeg, NV.D.items, NV.twoI, NV.OT.d, NV.OT.ds, NV.cMod, NV.cDiv, NV.cMul, NV.oneS, NV.oneV, NV.Arg.slot, Int.reducePow, Int.reduceNeg, reduceIte, Nat.reduceLT, Nat.reduceLeDiff, Int.reduceLT, Int.reduceLE, Int.reduceToNat, reduceCtorEq, Nat.reduceAdd, eq_self, w_si, d2, e2]; rfl) (by simp) ?_
  refine forL_rg (fun i Γ => Γ = [.r (wD m), .f (.t [.s (wd u), .s (wd v)]), .f (.i (its m v i (lapM m m.st u).1)), .f (.b ((List.range i).any fun i => (lapM m (its m v i (lapM m m.st u).1) v).2 && decide (m.n ≤ i))), .n, .f (.s (wd u)), .f (.s (wd v)), .n]) rfl ?_ ?_
  · rintro i _ hi rfl
    refine ⟨_, by simp only [NV.XS, NV.killG, NV.fzG, NV.immG, NV.immS, NV.D.tru, NV.gNeg, NV.D.items, NV.twoI, NV.OT.d, NV.OT.ds, NV.cMod, NV.cDiv, NV.cMul, NV.oneS, NV.oneV, NV.Arg.slot, Int.reducePow, Int.reduceNeg, reduceIte, Nat.reduceLT, Nat.reduceLeDiff, Int.reduceLT, Int.reduceLE, Int.reduceToNat, reduceCtorEq, Nat.reduceAdd, eq_self]; rfl, go_kill ?_⟩
    refine go_seq (Γ1 := [.r (wD m), .f (.t [.s (wd u), .s (wd v)]), .f (.i (its m v (i + 1) (lapM m m.st u).1)), .f (.b ((List.range i).any fun i => (lapM m (its m v i (lapM m m.st u).1) v).2 && decide (m.n ≤ i))), .f (.i i), .f (.s (wd u)), .f (.s (wd v)), .f (.b (lapM m (its m v i (lapM m m.st u).1) v).2)]) ?_ ?_
    · rw [q_asg, q_fz, w_meth (m := m) (k := .r) rfl fld_lap (by simp only [NV.XS, NV.killG, NV.fzG, NV.immG, NV.immS, NV.D.tru, NV.gNeg, NV.D.items, NV.twoI, NV.OT.d, NV.OT.ds, NV.cMod, NV.cDiv, NV.cMul, NV.oneS, NV.oneV, NV.Arg.slot, Int.reducePow, Int.reduceNeg, reduceIte, Nat.reduceLT, Nat.reduceLeDiff, Int.reduceLT, Int.reduceLE, Int.reduceToNat, reduceCtorEq, Nat.reduceAdd, eq_self]; rfl) (r_wlap h (hits i) hv)]
      simp only [NV.XS, NV.killG, NV.fzG, NV.immG, NV.immS, NV.D.tru, NV.gNeg, NV.D.items, NV.twoI, NV.OT.d, NV.OT.ds, NV.cMod, NV.cDiv, NV.cMul, NV.oneS, NV.oneV, NV.Arg.slot, Int.reducePow, Int.reduceNeg, reduceIte, Nat.reduceLT, Nat.reduceLeDiff, Int.reduceLT, Int.reduceLE, Int.reduceToNat, reduceCtorEq, Nat.reduceAdd, eq_self]
      rfl
    refine go_end (by simp only [NV.XS, NV.killG, NV.fzG, NV.immG, NV.immS, NV.D.tru, NV.gNeg, NV.D.items, NV.twoI, NV.OT.d, NV.OT.ds, NV.cMod, NV.cDiv, NV.cMul, NV.oneS, NV.oneV, NV.Arg.slot, Int.reducePow, Int.reduceNeg, reduceIte, Nat.reduceLT, Nat.reduceLeDiff, Int.reduceLT, Int.reduceLE, Int.reduceToNat, reduceCtorEq, Nat.reduceAdd, eq_self, w_si, andK_v, orK_v]; rfl) ⟨_, rfl, ?_⟩
    simp only [NV.killG, NV.fzG, NV.immG, NV.immS, NV.imm_v, List.foldl_cons, List.foldl_nil, List.getElem?_cons_zero, List.getElem?_cons_succ, List.set_cons_zero, List.set_cons_succ, NV.Arg.slot, List.map_cons, List.map_nil, List.cons_append, List.nil_append, List.replicate, if_true]
    rw [any_range_succ]
    have : decide ((m.n : Int) ≤ (i : Int)) = decide (m.n ≤ i) := decide_eq_decide.mpr (by omega)
    rw [this]
  · rintro _ rfl
    rw [contains_any, show 2 * m.n - m.n = m.n by omega]
    rfl
/-! the marks -/
theorem lc2_ok {β : Type} {it it1 : AF} {t t1 : TgF} {tt tt1 : TF} {e : OF} {vs vs1 : List Nat} {k : Kd} {Γ Γ1 : Gm} (el : β → D) (us : β → List OT) (xs : List β) (hi : it Γ = .ok (k, xs.map el) Γ1 0)
    (h : ∀ x ∈ xs, ∃ Γ2 Γ3 k1 ds Γ4, t k (el x) (wipeG Γ1 vs) = some Γ2 ∧ tt Γ2 = .ok true Γ3 0 ∧ it1 Γ3 = .ok (k1, ds) Γ4 0 ∧ k1 ≠ .h ∧ lcL t1 tt1 e k1 (wipeG Γ4 vs1) ds = some (us x)) (hl : (xs.flatMap us).length ≤ 50000) :
    oLc2 it t tt it1 t1 tt1 e vs vs1 Γ = .ok (.l (xs.flatMap us)) Γ1 0 := by
  have key : ∀ xs : List β, (∀ x ∈ xs, ∃ Γ2 Γ3 k1 ds Γ4, t k (el x) (wipeG Γ1 vs) = some Γ2 ∧ tt Γ2 = .ok true Γ3 0 ∧ it1 Γ3 = .ok (k1, ds) Γ4 0 ∧ k1 ≠ .h ∧ lcL t1 tt1 e k1 (wipeG Γ4 vs1) ds = some (us x)) →
      lcL2 t tt it1 t1 tt1 e vs1 k (wipeG Γ1 vs) (xs.map el) = some (xs.flatMap us) := fun xs => by
    induction xs with
    | nil => intro _; rfl
    | cons x xs ih =>
      intro h
      obtain ⟨Γ2, Γ3, k1, ds, Γ4, h1, h2, h3, h4, h5⟩ := h x List.mem_cons_self
      rw [List.map_cons]
      unfold lcL2
      rw [h1]
      dsimp only
      rw [h2]
      dsimp only
      rw [if_pos rfl, if_pos rfl, h3]
      dsimp only
      rw [if_pos ⟨rfl, h4⟩, h5]
      dsimp only
      rw [ih fun y hy => h y (List.mem_cons_of_mem _ hy)]
      rfl
  unfold oLc2
  rw [hi, bind_ok0]
  dsimp only
  rw [key xs h]
  dsimp only
  rw [if_neg]
  rw [decide_eq_true_eq]
  omega
theorem enum_map {α : Type} (f : α → D) : ∀ (xs : List α) (n : Nat), enumD n (xs.map f) = (xs.zipIdx n).map fun p => .t [.i (p.2 : Nat), f p.1]
  | [], n => rfl
  | x :: xs, n => by simp only [List.map_cons, enumD, List.zipIdx_cons, enum_map f xs]
theorem enum_alpha {c : Nat} : enumD 0 (chars (alpha c)) = tab c fun k => .t [.i (k : Nat), .s (lt k)] := by
  rw [chars_alpha, enum_map]
  unfold tab
  refine List.ext_getElem? fun i => ?_
  simp only [List.getElem?_map, List.getElem?_zipIdx]
  by_cases hi : i < c
  · rw [List.getElem?_range hi]; simp
  · rw [List.getElem?_eq_none (by simp; omega)]; rfl
theorem r_marks {m : Mach} (h : m.Ok) : x_Wish_marks [.d (wD m)] = .ok (prsO (marksM m)) [] := by
  have hn := h.n8
  have hc := h.c4
  have hc1 := h.c1
  (first | refine NV.run_ok rfl ?_ | refine NV.run_ex rfl ?_)
  simp only [NV.killG, NV.fzG, NV.immG, NV.immS, NV.imm_v, List.foldl_cons, List.foldl_nil, List.getElem?_cons_zero, List.getElem?_cons_succ, List.set_cons_zero, List.set_cons_succ, NV.Arg.slot, List.map_cons, List.map_nil, List.cons_append, List.nil_append, List.replicate, if_true]
  have ha : (alpha m.c).cps.all (· < 128) = true ∧ 0 < (alpha m.c).cps.size ∧ (alpha m.c).cps.size ≤ 1000 := by
    rcases four1 h.c1 h.c4 with e | e | e | e <;> rw [e] <;> decide +kernel
  refine go_seq (Γ1 := [.r (wD m), .f (.l (tab m.c fun k => .t [.i (k : Nat), .s (lt k)])), .n, .n, .n]) ?_ ?_
  · rw [q_asg, q_fz]
    unfold oEnumS
    simp only [NV.XS, NV.killG, NV.fzG, NV.immG, NV.immS, NV.D.tru, NV.gNeg, NV.D.items, NV.twoI, NV.OT.d, NV.OT.ds, NV.cMod, NV.cDiv, NV.cMul, NV.oneS, NV.oneV, NV.Arg.slot, Int.reducePow, Int.reduceNeg, reduceIte, Nat.reduceLT, Nat.reduceLeDiff, Int.reduceLT, Int.reduceLE, Int.reduceToNat, reduceCtorEq, Nat.reduceAdd, eq_self, w_le]
    rw [if_pos ha]
    simp only [NV.XS, NV.killG, NV.fzG, NV.immG, NV.immS, NV.D.tru, NV.gNeg, NV.D.items, NV.twoI, NV.OT.d, NV.OT.ds, NV.cMod, NV.cDiv, NV.cMul, NV.oneS, NV.oneV, NV.Arg.slot, Int.reducePow, Int.reduceNeg, reduceIte, Nat.reduceLT, Nat.reduceLeDiff, Int.reduceLT, Int.reduceLE, Int.reduceToNat, reduceCtorEq, Nat.reduceAdd, eq_self, enum_alpha, tab_fz, tabO_ds]
  · have dn : decide ((m.n : Int) < -100000 ∨ 100000 < (m.n : Int)) = false := decide_eq_false (by omega)
    have hl := marks_le' h
    have e : ((List.range m.n).flatMap fun s => ((List.range m.c).filter fun k => m.fl s k).map fun k => OT.fz (prD (s, k))) = (marksM m).map fun p => OT.fz (prD p) := by
      unfold marksM
      rw [List.map_flatMap]
      simp only [List.map_map]
      rfl
    refine go_ret (lc2_ok (fun s => D.i ((s : Nat) : Int)) (fun s => ((List.range m.c).filter fun k => m.fl s k).map fun k => OT.fz (prD (s, k))) (List.range m.n) (Γ1 := [.r (wD m), .f (.l (tab m.c fun k => .t [.i (k : Nat), .s (lt k)])), .n, .n, .n]) (k := .f) (by simp only [NV.XS, NV.killG, NV.fzG, NV.immG, NV.immS, NV.D.tru, NV.gNeg, NV.D.items, NV.twoI, NV.OT.d, NV.OT.ds, NV.cMod, NV.cDiv, NV.cMul, NV.oneS, NV.oneV, NV.Arg.slot, Int.reducePow, Int.reduceNeg, reduceIte, Nat.reduceLT, Nat.reduceLeDiff, Int.reduceLT, Int.reduceLE, Int.reduceToNat, reduceCtorEq, Nat.reduceAdd, eq_self, w_si, dn, Int.toNat_natCast, rg_map]) (fun s hs => ?_) (by rw [e, List.length_map]; omega)) (rt_of rfl ⟨by rw [e]; rfl, rfl⟩)
    have hs := List.mem_range.mp hs
    refine ⟨_, _, .f, tab m.c fun k => .t [.i (k : Nat), .s (lt k)], _, by simp only [NV.XS, NV.killG, NV.fzG, NV.immG, NV.immS, NV.D.tru, NV.gNeg, NV.D.items, NV.twoI, NV.OT.d, NV.OT.ds, NV.cMod, NV.cDiv, NV.cMul, NV.oneS, NV.oneV, NV.Arg.slot, Int.reducePow, Int.reduceNeg, reduceIte, Nat.reduceLT, Nat.reduceLeDiff, Int.reduceLT, Int.reduceLE, Int.reduceToNat, reduceCtorEq, Nat.reduceAdd, eq_self, wipeG]; rfl, rfl, by simp only [NV.XS, NV.killG, NV.fzG, NV.immG, NV.immS, NV.D.tru, NV.gNeg, NV.D.items, NV.twoI, NV.OT.d, NV.OT.ds, NV.cMod, NV.cDiv, NV.cMul, NV.oneS, NV.oneV, NV.Arg.slot, Int.reducePow, Int.reduceNeg, reduceIte, Nat.reduceLT, Nat.reduceLeDiff, Int.reduceLT, Int.reduceLE, Int.reduceToNat, reduceCtorEq, Nat.reduceAdd, eq_self]; rfl, by simp, ?_⟩
    exact lcL_map (fun k => .t [.i ((k : Nat) : Int), .s (lt k)]) (fun k => OT.fz (prD (s, k))) (fun k => m.fl s k) (List.range m.c) fun k hk => ⟨_, _, by simp only [NV.XS, NV.killG, NV.fzG, NV.immG, NV.immS, NV.D.tru, NV.gNeg, NV.D.items, NV.twoI, NV.OT.d, NV.OT.ds, NV.cMod, NV.cDiv, NV.cMul, NV.oneS, NV.oneV, NV.Arg.slot, Int.reducePow, Int.reduceNeg, reduceIte, Nat.reduceLT, Nat.reduceLeDiff, Int.reduceLT, Int.reduceLE, Int.reduceToNat, reduceCtorEq, Nat.reduceAdd, eq_self, wipeG]; rfl, by simp only [NV.XS, NV.killG, NV.fzG, NV.immG, NV.immS, NV.D.tru, NV.gNeg, NV.D.items, NV.twoI, NV.OT.d, NV.OT.ds, NV.cMod, NV.cDiv, NV.cMul, NV.oneS, NV.oneV, NV.Arg.slot, Int.reducePow, Int.reduceNeg, reduceIte, Nat.reduceLT, Nat.reduceLeDiff, Int.reduceLT, Int.reduceLE, Int.reduceToNat, reduceCtorEq, Nat.reduceAdd, eq_self, w_fl, im_fl, fl_1 hs, im_flR, fl_2 (List.mem_range.mp hk)]; rfl, fun _ => ⟨_, by simp only [NV.XS, NV.killG, NV.fzG, NV.immG, NV.immS, NV.D.tru, NV.gNeg, NV.D.items, NV.twoI, NV.OT.d, NV.OT.ds, NV.cMod, NV.cDiv, NV.cMul, NV.oneS, NV.oneV, NV.Arg.slot, Int.reducePow, Int.reduceNeg, reduceIte, Nat.reduceLT, Nat.reduceLeDiff, Int.reduceLT, Int.reduceLE, Int.reduceToNat, reduceCtorEq, Nat.reduceAdd, eq_self, Kd.im, D.imm, imms]; rfl⟩⟩
theorem r_rshift {m : Mach} (h : m.Ok) {w : List Nat} (hw : ∀ j ∈ w, j < m.c) : x_Wish_rshift [.d (wD m), .d (.s (wd w))] = .ok (wO { m with st := (lapM m m.st w).1 }) [] := by
  (first | refine NV.run_ok rfl ?_ | refine NV.run_ex rfl ?_)
  refine go_imm ?_
  simp only [NV.killG, NV.fzG, NV.immG, NV.immS, NV.imm_v, List.foldl_cons, List.foldl_nil, List.getElem?_cons_zero, List.getElem?_cons_succ, List.set_cons_zero, List.set_cons_succ, NV.Arg.slot, List.map_cons, List.map_nil, List.cons_append, List.nil_append, List.replicate, if_true]
  have h' : Mach.Ok { m with st := (lapM m m.st w).1 } := ⟨h.n1, h.n8, h.c1, h.c4, h.tg, lapM_st h hw h.st⟩
  have hi := r_init h' (ps := marksM m) (fun p hp => ⟨(mem_marks.mp hp).1, (mem_marks.mp hp).2.1⟩) (marks_le' h)
  have e1 : wO { ({ m with st := (lapM m m.st w).1 } : Mach) with fl := fun s k => decide ((s, k) ∈ marksM m) } = wO { m with st := (lapM m m.st w).1 } := wO_marks (m := { m with st := (lapM m m.st w).1 })
  rw [e1] at hi
  have e2 : tgD { m with st := (lapM m m.st w).1 } = tgD m := rfl
  rw [e2] at hi
  dsimp only at hi
  have hm := w_meth (m := m) (k := .r) (mn := "reach") (x := x_Wish_reach) (f := eVar 0) (a := aCons (eVar 1) aNil) (ds := [.s (wd w)]) (Γ := [.r (wD m), .f (.s (wd w))]) rfl fld_reach (by simp only [NV.XS, NV.killG, NV.fzG, NV.immG, NV.immS, NV.D.tru, NV.gNeg, NV.D.items, NV.twoI, NV.OT.d, NV.OT.ds, NV.cMod, NV.cDiv, NV.cMul, NV.oneS, NV.oneV, NV.Arg.slot, Int.reducePow, Int.reduceNeg, reduceIte, Nat.reduceLT, Nat.reduceLeDiff, Int.reduceLT, Int.reduceLE, Int.reduceToNat, reduceCtorEq, Nat.reduceAdd, eq_self]; rfl) (r_reach h hw)
  exact go_ret (Γ1 := [.r (wD m), .f (.s (wd w))]) (m := 0) (by simp only [NV.XS, NV.killG, NV.fzG, NV.immG, NV.immS, NV.D.tru, NV.gNeg, NV.D.items, NV.twoI, NV.OT.d, NV.OT.ds, NV.cMod, NV.cDiv, NV.cMul, NV.oneS, NV.oneV, NV.Arg.slot, Int.reducePow, Int.reduceNeg, reduceIte, Nat.reduceLT, Nat.reduceLeDiff, Int.reduceLT, Int.reduceLE, Int.reduceToNat, reduceCtorEq, Nat.reduceAdd, eq_self, w_le, w_tg, im_tg, isOb_w, r_marks h, prsO_d, im_prs, hm, hi]) (rt_of rfl ⟨rfl, rfl⟩)
/-! changes -/
theorem ixV_lt {c j : Nat} (hc : c ≤ 4) (h : j < c) : ixV (.str (lt j)) ((List.range c).map fun j => V.str (lt j)) = some j := by
  rcases four1 (by omega) hc with rfl | rfl | rfl | rfl <;> rcases four (by omega : j < 4) with rfl | rfl | rfl | rfl <;> first | omega | decide +kernel
theorem r_column {m : Mach} (h : m.Ok) {s k : Nat} (hs : s < m.n) (hk : k < m.c) : x_Wish_column [.d (wD m), .d (.i (s : Nat)), .d (.s (lt k))] = .ok (.fz (.i (k : Nat))) [] := by
  have hc := h.c4
  (first | refine NV.run_ok rfl ?_ | refine NV.run_ex rfl ?_)
  refine go_imm ?_
  simp only [NV.killG, NV.fzG, NV.immG, NV.immS, NV.imm_v, List.foldl_cons, List.foldl_nil, List.getElem?_cons_zero, List.getElem?_cons_succ, List.set_cons_zero, List.set_cons_succ, NV.Arg.slot, List.map_cons, List.map_nil, List.cons_append, List.nil_append, List.replicate, if_true]
  have hal : (alpha m.c).length ≤ 100000 := by rw [alpha_len]; omega
  refine go_seq (Γ1 := [.r (wD m), .f (.i s), .f (.s (lt k)), .f (.l ((List.range m.c).map fun j => .s (lt j)))]) (by simp only [NV.XS, NV.killG, NV.fzG, NV.immG, NV.immS, NV.D.tru, NV.gNeg, NV.D.items, NV.twoI, NV.OT.d, NV.OT.ds, NV.cMod, NV.cDiv, NV.cMul, NV.oneS, NV.oneV, NV.Arg.slot, Int.reducePow, Int.reduceNeg, reduceIte, Nat.reduceLT, Nat.reduceLeDiff, Int.reduceLT, Int.reduceLE, Int.reduceToNat, reduceCtorEq, Nat.reduceAdd, eq_self, w_le, hal, chars_alpha, ds_map, List.map_map]; rfl) ?_
  have hm : decide (k ∈ List.range m.c) = true := decide_eq_true (List.mem_range.mpr hk)
  refine go_seqF (by simp only [NV.XS, NV.killG, NV.fzG, NV.immG, NV.immS, NV.D.tru, NV.gNeg, NV.D.items, NV.twoI, NV.OT.d, NV.OT.ds, NV.cMod, NV.cDiv, NV.cMul, NV.oneS, NV.oneV, NV.Arg.slot, Int.reducePow, Int.reduceNeg, reduceIte, Nat.reduceLT, Nat.reduceLeDiff, Int.reduceLT, Int.reduceLE, Int.reduceToNat, reduceCtorEq, Nat.reduceAdd, eq_self, in_known, hm, chK_v, w_si, Int.natCast_nonneg, (by omega : (s : Int) < (m.n : Int))]; rfl) ?_
  have fl : (flatV (.str (lt k)) && (((List.range m.c).map fun j => V.str (lt j)).all flatV)) = true := by rw [all_flat_lt]; rfl
  exact go_ret (by simp only [NV.XS, NV.killG, NV.fzG, NV.immG, NV.immS, NV.D.tru, NV.gNeg, NV.D.items, NV.twoI, NV.OT.d, NV.OT.ds, NV.cMod, NV.cDiv, NV.cMul, NV.oneS, NV.oneV, NV.Arg.slot, Int.reducePow, Int.reduceNeg, reduceIte, Nat.reduceLT, Nat.reduceLeDiff, Int.reduceLT, Int.reduceLE, Int.reduceToNat, reduceCtorEq, Nat.reduceAdd, eq_self, lfs_ints, fl, ixV_lt hc hk]; rfl) (rt_of rfl ⟨rfl, rfl⟩)
theorem r_remark {m : Mach} (h : m.Ok) {ps : List Pr} (hp : ∀ p ∈ ps, p.1 < m.n ∧ p.2 < m.c) (hl : ps.length ≤ 5000) : x_Wish_remark [.o (wO m), .d (prsD ps)] = .ok (.fz .n) [wO { m with fl := fun s k => decide ((s, k) ∈ ps) }] := by
  (first | refine NV.run_ok rfl ?_ | refine NV.run_ex rfl ?_)
  simp only [NV.killG, NV.fzG, NV.immG, NV.immS, NV.imm_v, List.foldl_cons, List.foldl_nil, List.getElem?_cons_zero, List.getElem?_cons_succ, List.set_cons_zero, List.set_cons_succ, NV.Arg.slot, List.map_cons, List.map_nil, List.cons_append, List.nil_append, List.replicate, if_true]
  have ho : oCall x_flag_table (aCons (eFld "Wish" "letters" (eVar 0)) (aCons (eFld "Wish" "size" (eVar 0)) (aCons (eVar 1) aNil))) [.p (wO m), .r (prsD ps)] = .ok (flO m.n m.c fun s k => decide ((s, k) ∈ ps)) [.p (wO m), .r (prsD ps)] 0 := by
    simp only [NV.XS, NV.killG, NV.fzG, NV.immG, NV.immS, NV.D.tru, NV.gNeg, NV.D.items, NV.twoI, NV.OT.d, NV.OT.ds, NV.cMod, NV.cDiv, NV.cMul, NV.oneS, NV.oneV, NV.Arg.slot, Int.reducePow, Int.reduceNeg, reduceIte, Nat.reduceLT, Nat.reduceLeDiff, Int.reduceLT, Int.reduceLE, Int.reduceToNat, reduceCtorEq, Nat.reduceAdd, eq_self, wO_d, w_le, w_si, im_prs, r_flags h.n8 h.c4 hp hl]
  unfold x_Wish_remark_b
  refine go_end (Γ1 := [.p (wO { m with fl := fun s k => decide ((s, k) ∈ ps) }), .r (prsD ps)]) ?_ (nx_of rfl ⟨rfl, rfl⟩)
  rw [q_fldF, ho]
  rfl
theorem r_setitem {m : Mach} (h : m.Ok) {s k v : Nat} (hs : s < m.n) (hk : k < m.c) (hv : v < m.n) : x_Wish_setitem [.o (wO m), .d (.t [.i (s : Nat), .s (lt k)]), .d (.i (v : Nat))] = .ok (.fz .n) [wO (m.setT s k v)] := by
  (first | refine NV.run_ok rfl ?_ | refine NV.run_ex rfl ?_)
  refine go_imm ?_
  simp only [NV.killG, NV.fzG, NV.immG, NV.immS, NV.imm_v, List.foldl_cons, List.foldl_nil, List.getElem?_cons_zero, List.getElem?_cons_succ, List.set_cons_zero, List.set_cons_succ, NV.Arg.slot, List.map_cons, List.map_nil, List.cons_append, List.nil_append, List.replicate, if_true]
  refine go_seq (Γ1 := [.p (wO m), .f (.t [.i (s : Nat), .s (lt k)]), .f (.i v), .n, .f (.i s), .f (.s (lt k))]) rfl ?_
  refine go_seq (Γ1 := [.p (wO m), .f (.t [.i (s : Nat), .s (lt k)]), .f (.i v), .f (.i k), .f (.i s), .f (.s (lt k))]) ?_ ?_
  · rw [q_asg, q_fz, w_meth (m := m) (k := .h) (ds := [.i s, .s (lt k)]) (by simp only [NV.XS, NV.killG, NV.fzG, NV.immG, NV.immS, NV.D.tru, NV.gNeg, NV.D.items, NV.twoI, NV.OT.d, NV.OT.ds, NV.cMod, NV.cDiv, NV.cMul, NV.oneS, NV.oneV, NV.Arg.slot, Int.reducePow, Int.reduceNeg, reduceIte, Nat.reduceLT, Nat.reduceLeDiff, Int.reduceLT, Int.reduceLE, Int.reduceToNat, reduceCtorEq, Nat.reduceAdd, eq_self, wO_d]; rfl) fld_column (by simp only [NV.XS, NV.killG, NV.fzG, NV.immG, NV.immS, NV.D.tru, NV.gNeg, NV.D.items, NV.twoI, NV.OT.d, NV.OT.ds, NV.cMod, NV.cDiv, NV.cMul, NV.oneS, NV.oneV, NV.Arg.slot, Int.reducePow, Int.reduceNeg, reduceIte, Nat.reduceLT, Nat.reduceLeDiff, Int.reduceLT, Int.reduceLE, Int.reduceToNat, reduceCtorEq, Nat.reduceAdd, eq_self]; rfl) (r_column h hs hk)]
    simp only [NV.XS, NV.killG, NV.fzG, NV.immG, NV.immS, NV.D.tru, NV.gNeg, NV.D.items, NV.twoI, NV.OT.d, NV.OT.ds, NV.cMod, NV.cDiv, NV.cMul, NV.oneS, NV.oneV, NV.Arg.slot, Int.reducePow, Int.reduceNeg, reduceIte, Nat.reduceLT, Nat.reduceLeDiff, Int.reduceLT, Int.reduceLE, Int.reduceToNat, reduceCtorEq, Nat.reduceAdd, eq_self]
  refine go_seqF (by simp only [NV.XS, NV.killG, NV.fzG, NV.immG, NV.immS, NV.D.tru, NV.gNeg, NV.D.items, NV.twoI, NV.OT.d, NV.OT.ds, NV.cMod, NV.cDiv, NV.cMul, NV.oneS, NV.oneV, NV.Arg.slot, Int.reducePow, Int.reduceNeg, reduceIte, Nat.reduceLT, Nat.reduceLeDiff, Int.reduceLT, Int.reduceLE, Int.reduceToNat, reduceCtorEq, Nat.reduceAdd, eq_self, chK_v, wO_d, w_si, Int.natCast_nonneg, (by omega : (v : Int) < (m.n : Int))]; rfl) ?_
  refine go_end (Γ1 := [.p (wO (m.setT s k v)), .f (.t [.i (s : Nat), .s (lt k)]), .f (.i v), .f (.i k), .f (.i s), .f (.s (lt k))]) ?_ (nx_of rfl ⟨rfl, rfl⟩)
  have ft : fldIx "targets" ["flags", "letters", "size", "start", "targets"] = some 4 := by decide +kernel
  unfold wO tgO
  simp only [NV.XS, NV.killG, NV.fzG, NV.immG, NV.immS, NV.D.tru, NV.gNeg, NV.D.items, NV.twoI, NV.OT.d, NV.OT.ds, NV.cMod, NV.cDiv, NV.cMul, NV.oneS, NV.oneV, NV.Arg.slot, Int.reducePow, Int.reduceNeg, reduceIte, Nat.reduceLT, Nat.reduceLeDiff, Int.reduceLT, Int.reduceLE, Int.reduceToNat, reduceCtorEq, Nat.reduceAdd, eq_self, OT.kids, ft, tabO_len, OT.seqK, ixN_lt hs, ixN_lt hk, tabO_get hs, OT.setK, tabO_set]
  have e : (tabO m.n fun j => if j = s then OT.l (tabO m.c fun j => if j = k then .fz (.i (v : Nat)) else .fz (.i (m.tg s j : Nat))) else OT.l (tabO m.c fun k => .fz (.i (m.tg j k : Nat)))) = tabO m.n fun s' => .l (tabO m.c fun k' => .fz (.i ((if s' = s ∧ k' = k then v else m.tg s' k' : Nat)))) := tabO_congr fun s' _ => by
    by_cases e : s' = s
    · subst e
      rw [if_pos rfl]
      congr 1
      refine tabO_congr fun k' _ => ?_
      by_cases e2 : k' = k
      · rw [if_pos e2, if_pos ⟨rfl, e2⟩]
      · rw [if_neg e2, if_neg fun h => e2 h.2]
    · rw [if_neg e]
      congr 1
      refine tabO_congr fun k' _ => ?_
      rw [if_neg fun h => e h.1]
  rw [e]
  rfl

end
section
/-! ### cut behind a word -/
theorem r_text_at {m : Mach} (h : m.Ok) {s : Nat} (hs : s < m.n) : x_law_text [.d (.l [.s (alpha m.c), tgD m, flD m, .i (s : Nat)])] = .ok (.fz (.s (textM (m.at s)))) [] := r_text (h.at hs)
theorem r_rshift' {m : Mach} (h : m.Ok) {w : List Nat} (hw : ∀ j ∈ w, j < m.c) : x_Wish_rshift [.d (wD m), .d (.s (wd w))] = .ok (wO (m.at (lapM m m.st w).1)) [] := r_rshift h hw
theorem r_rshift0 {m : Mach} (h : m.Ok) : x_Wish_rshift [.d (wD m), .d (.s "")] = .ok (wO m) [] := by
  rw [← wd_nil]
  exact r_rshift h (w := []) (by simp)
theorem r_contains0 {m : Mach} (h : m.Ok) {v : List Nat} (hv : ∀ j ∈ v, j < m.c) (h0 : v ≠ []) : x_Wish_contains [.d (wD m), .d (.t [.s "", .s (wd v)])] = .ok (.fz (.b (goodM m v m.st))) [] := by
  rw [← wd_nil]
  exact r_contains h (u := []) (by simp) hv h0
theorem r_good0 {m : Mach} (h : m.Ok) {s : Nat} (hs : s < m.n) {v : List Nat} (hv : ∀ j ∈ v, j < m.c) : x_law_good [.d (mD m), .d (.i (s : Nat)), .d (.s ""), .d (.s (wd v))] = .ok (.fz (.b (goodM m v s))) [] := by
  rw [← wd_nil]
  exact r_good h hs (u := []) (by simp) hv
theorem gAddS_w {a b : List Nat} (h : a.length + b.length ≤ 1000000) : gAddS (.v (.str (wd a))) (.v (.str (wd b))) = some (.str (wd (a ++ b))) := by
  rw [gAddS_s (by rw [wd_len, wd_len]; exact h), wd_app]
theorem gAddS_wa {a : List Nat} {c : Nat} (h : a.length + c ≤ 1000000) : gAddS (.v (.str (wd a))) (.v (.str (alpha c))) = some (.str (wd (a ++ List.range c))) := gAddS_w (by rw [List.length_range]; exact h)
theorem gAddS_lw {a : Nat} {b : List Nat} (h : b.length + 1 ≤ 1000000) : gAddS (.v (.str (lt a))) (.v (.str (wd b))) = some (.str (wd (a :: b))) := by
  rw [← wd_one, gAddS_w (by simp; omega)]; rfl
/-- o.m(..) on a wish that is changed -/
theorem w_methP {Γ : Gm} {i : Nat} {m : Mach} {mn : Str} {x : FM} {a : AF} {ka : Kd} {ds : List D} {t u : OT} (hi : Γ[i]? = some (.o (wO m))) (hm : fldIx mn ["flags", "letters", "size", "start", "targets"] = none) (ha : a Γ = .ok (ka, ds) Γ 0) (hk : ka ≠ .h) (hx : x (.o (wO m) :: ds.map .d) = .ok t [u]) :
    oMethP "Wish" mn x (pVar i) a Γ = .ok t (Γ.set i (.o u)) 2 := by
  rw [q_methP]
  have e : pVar i Γ = .ok (i, []) Γ 0 := by simp only [NV.XS, NV.killG, NV.fzG, NV.immG, NV.immS, NV.D.tru, NV.gNeg, NV.D.items, NV.twoI, NV.OT.d, NV.OT.ds, NV.cMod, NV.cDiv, NV.cMul, NV.oneS, NV.oneV, NV.Arg.slot, Int.reducePow, Int.reduceNeg, reduceIte, Nat.reduceLT, Nat.reduceLeDiff, Int.reduceLT, Int.reduceLE, Int.reduceToNat, reduceCtorEq, Nat.reduceAdd, eq_self, hi]
  have e2 : treeAt Γ i [] = some (wO m) := by simp only [NV.XS, NV.killG, NV.fzG, NV.immG, NV.immS, NV.D.tru, NV.gNeg, NV.D.items, NV.twoI, NV.OT.d, NV.OT.ds, NV.cMod, NV.cDiv, NV.cMul, NV.oneS, NV.oneV, NV.Arg.slot, Int.reducePow, Int.reduceNeg, reduceIte, Nat.reduceLT, Nat.reduceLeDiff, Int.reduceLT, Int.reduceLE, Int.reduceToNat, reduceCtorEq, Nat.reduceAdd, eq_self, hi]
  rw [e, bind_ok0]
  dsimp only
  rw [e2]
  show (if _ then _ else _ : Er OT) = _
  rw [if_pos ⟨rfl, hm⟩, ha, bind_ok0, if_neg (by simp), if_neg hk, e2]
  dsimp only
  rw [hx]
  show Er.ok t (putAt Γ i [] u) 2 = _
  simp only [NV.XS, NV.killG, NV.fzG, NV.immG, NV.immS, NV.D.tru, NV.gNeg, NV.D.items, NV.twoI, NV.OT.d, NV.OT.ds, NV.cMod, NV.cDiv, NV.cMul, NV.oneS, NV.oneV, NV.Arg.slot, Int.reducePow, Int.reduceNeg, reduceIte, Nat.reduceLT, Nat.reduceLeDiff, Int.reduceLT, Int.reduceLE, Int.reduceToNat, reduceCtorEq, Nat.reduceAdd, eq_self, hi]
theorem w_setOwn {Γ : Gm} {i : Nat} {m : Mach} {x : FM} {f g : EF} {kz kv : Kd} {z v : D} {t u : OT} (hi : Γ[i]? = some (.o (wO m))) (hf : f Γ = .ok (kz, z) Γ 0) (hg : g Γ = .ok (kv, v) Γ 0) (h1 : kz.im z ≠ .h) (h2 : kv.im v ≠ .h) (hx : x [.o (wO m), .d z, .d v] = .ok t [u]) :
    sSetOwn "Wish" x (pVar i) f g Γ = .nx (Γ.set i (.o u)) := by
  rw [q_setOwn, hg, out_ok]
  have e : pVar i Γ = .ok (i, []) Γ 0 := by simp only [NV.XS, NV.killG, NV.fzG, NV.immG, NV.immS, NV.D.tru, NV.gNeg, NV.D.items, NV.twoI, NV.OT.d, NV.OT.ds, NV.cMod, NV.cDiv, NV.cMul, NV.oneS, NV.oneV, NV.Arg.slot, Int.reducePow, Int.reduceNeg, reduceIte, Nat.reduceLT, Nat.reduceLeDiff, Int.reduceLT, Int.reduceLE, Int.reduceToNat, reduceCtorEq, Nat.reduceAdd, eq_self, hi]
  have e2 : treeAt Γ i [] = some (wO m) := by simp only [NV.XS, NV.killG, NV.fzG, NV.immG, NV.immS, NV.D.tru, NV.gNeg, NV.D.items, NV.twoI, NV.OT.d, NV.OT.ds, NV.cMod, NV.cDiv, NV.cMul, NV.oneS, NV.oneV, NV.Arg.slot, Int.reducePow, Int.reduceNeg, reduceIte, Nat.reduceLT, Nat.reduceLeDiff, Int.reduceLT, Int.reduceLE, Int.reduceToNat, reduceCtorEq, Nat.reduceAdd, eq_self, hi]
  rw [e, out_ok, hf]
  dsimp only
  rw [if_neg (by simp), if_neg (by rintro (h | h); exact h2 h; exact h1 h), e2]
  unfold wO at hx ⊢
  dsimp only
  rw [if_pos rfl, hx]
  show Out.nx (putAt Γ i [] u) = _
  simp only [NV.XS, NV.killG, NV.fzG, NV.immG, NV.immS, NV.D.tru, NV.gNeg, NV.D.items, NV.twoI, NV.OT.d, NV.OT.ds, NV.cMod, NV.cDiv, NV.cMul, NV.oneS, NV.oneV, NV.Arg.slot, Int.reducePow, Int.reduceNeg, reduceIte, Nat.reduceLT, Nat.reduceLeDiff, Int.reduceLT, Int.reduceLE, Int.reduceToNat, reduceCtorEq, Nat.reduceAdd, eq_self, hi]
theorem goodM_at {m : Mach} {v : List Nat} {s s' : Nat} : goodM (m.at s') v s = goodM m v s := by
  have e : ∀ i, its (m.at s') v i s = its m v i s := fun i => by
    induction i with
    | zero => rfl
    | succ i ih => show (lapM m (its (m.at s') v i s) v).1 = _; rw [ih]; rfl
  unfold goodM
  simp only [e]
  rfl
theorem law_ok (ns : List Int) (hns : ns.length ≤ 63) : x_law [.d (.l (ns.map D.i))] = .ok (.fz (.b true)) [] := by
  obtain ⟨r0, l0, b0, d0⟩ := r_draws ns hns 0 51 (by omega)
  obtain ⟨r1, l1, b1, d1⟩ := r_draws ns hns 1 21 (by omega)
  obtain ⟨r2, l2, b2, d2⟩ := r_draws ns hns 2 21 (by omega)
  obtain ⟨r3, l3, b3, d3⟩ := r_draws ns hns 3 12 (by omega)
  obtain ⟨m, hm, _, em⟩ := r_machine b0 (by omega) (top := 8) (by omega) (by omega)
  obtain ⟨u, hu, lu, eu⟩ := r_word b1 hm.c1 hm.c4 (top := 20) (by omega) (by omega)
  obtain ⟨v, hv, lv, ev⟩ := r_word b2 hm.c1 hm.c4 (top := 20) (by omega) (by omega)
  obtain ⟨w, hw, lw, ew⟩ := r_word b3 hm.c1 hm.c4 (top := 9) (by omega) (by omega)
  obtain ⟨x11, c11, r11⟩ := row_ex b3 (j := 11) (by omega) (by omega)
  have hn := hm.n8
  have hc := hm.c4
  have hcp : (0 : Int) < (m.c : Int) := by have := hm.c1; omega
  obtain ⟨a, ha⟩ := nat_ex (j := (x11 : Int) % (m.c : Int)) (Int.emod_nonneg _ (by omega))
  have hac : a < m.c := by have := Int.emod_lt_of_pos (x11 : Int) hcp; omega
  obtain ⟨lp, hlpe⟩ : ∃ lp, lp = a :: w := ⟨_, rfl⟩
  have hlp : ∀ j ∈ lp, j < m.c := fun j hj => by
    rw [hlpe] at hj
    exact (List.mem_cons.mp hj).elim (fun e => by omega) (hw j)
  have hlp0 : lp ≠ [] := by rw [hlpe]; simp
  have hlpl : lp.length ≤ 10 := by rw [hlpe]; simp; omega
  have hga : gAddS (.v (.str (lt a))) (.v (.str (wd w))) = some (.str (wd lp)) := by rw [hlpe]; exact gAddS_lw (by omega)
  have hix : gIx (.v (.str (alpha m.c))) (.v (.int (a : Nat))) = some (.v (.str (lt a))) := by
    show (if (alpha m.c).length ≤ 1000000 then _ else _) = _
    have hlt : atI (alpha m.c).cps.toList (a : Int) = some (97 + a) := wd_at (by rw [List.getElem?_range hac])
    rw [alpha_len, if_pos (by omega), hlt]; rfl
  have mD_d : (mO m).d = mD m := rfl
  (first | refine NV.run_ok rfl ?_ | refine NV.run_ex rfl ?_)
  simp only [NV.killG, NV.fzG, NV.immG, NV.immS, NV.imm_v, List.foldl_cons, List.foldl_nil, List.getElem?_cons_zero, List.getElem?_cons_succ, List.set_cons_zero, List.set_cons_succ, NV.Arg.slot, List.map_cons, List.map_nil, List.cons_append, List.nil_append, List.replicate, if_true]
  change x_law_draws [.d (.l (ns.map D.i)), .d (.i 0), .d (.i 51)] = _ at d0
  change x_law_draws [.d (.l (ns.map D.i)), .d (.i 1), .d (.i 21)] = _ at d1
  change x_law_draws [.d (.l (ns.map D.i)), .d (.i 2), .d (.i 21)] = _ at d2
  change x_law_draws [.d (.l (ns.map D.i)), .d (.i 3), .d (.i 12)] = _ at d3
  change x_law_machine [.d (rowD r0), .d (.i 8)] = _ at em
  change x_law_word [.d (rowD r1), .d (.s (alpha m.c)), .d (.i 20)] = _ at eu
  change x_law_word [.d (rowD r2), .d (.s (alpha m.c)), .d (.i 20)] = _ at ev
  change x_law_word [.d (rowD r3), .d (.s (alpha m.c)), .d (.i 9)] = _ at ew
  have hd : ∀ xs : List Nat, D.l (OT.ds (nat5 xs)) = rowD xs := nat5_d
  let G := fun (a2 a3 a4 a5 a6 a7 a8 a9 a10 a11 a12 a13 : Slot) => ([.r (.l (ns.map D.i)), .f (mD m), a2, a3, a4, a5, a6, a7, a8, a9, a10, a11, a12, a13, .n] : Gm)
  have es : ∀ {x : Mach}, (wO x).d = wD x := fun {x} => wO_d x
  refine go_seq (Γ1 := G .n .n .n .n .n .n .n .n .n .n .n .n) (by simp only [NV.XS, NV.killG, NV.fzG, NV.immG, NV.immS, NV.D.tru, NV.gNeg, NV.D.items, NV.twoI, NV.OT.d, NV.OT.ds, NV.cMod, NV.cDiv, NV.cMul, NV.oneS, NV.oneV, NV.Arg.slot, Int.reducePow, Int.reduceNeg, reduceIte, Nat.reduceLT, Nat.reduceLeDiff, Int.reduceLT, Int.reduceLE, Int.reduceToNat, reduceCtorEq, Nat.reduceAdd, eq_self, d0, hd, im_row, em, mD_d, im_mD]; rfl) ?_
  refine go_seq (Γ1 := G (.o (wO m)) .n .n .n .n .n .n .n .n .n .n .n) (by simp only [NV.XS, NV.killG, NV.fzG, NV.immG, NV.immS, NV.D.tru, NV.gNeg, NV.D.items, NV.twoI, NV.OT.d, NV.OT.ds, NV.cMod, NV.cDiv, NV.cMul, NV.oneS, NV.oneV, NV.Arg.slot, Int.reducePow, Int.reduceNeg, reduceIte, Nat.reduceLT, Nat.reduceLeDiff, Int.reduceLT, Int.reduceLE, Int.reduceToNat, reduceCtorEq, Nat.reduceAdd, eq_self, G, r_made hm, im_mD]) ?_
  refine go_seq (Γ1 := G (.o (wO m)) (.f (.s (wd u))) .n .n .n .n .n .n .n .n .n .n) (by simp only [NV.XS, NV.killG, NV.fzG, NV.immG, NV.immS, NV.D.tru, NV.gNeg, NV.D.items, NV.twoI, NV.OT.d, NV.OT.ds, NV.cMod, NV.cDiv, NV.cMul, NV.oneS, NV.oneV, NV.Arg.slot, Int.reducePow, Int.reduceNeg, reduceIte, Nat.reduceLT, Nat.reduceLeDiff, Int.reduceLT, Int.reduceLE, Int.reduceToNat, reduceCtorEq, Nat.reduceAdd, eq_self, G, d1, hd, im_row, m_0, eu]) ?_
  refine go_seq (Γ1 := G (.o (wO m)) (.f (.s (wd u))) (.f (.s (wd v))) .n .n .n .n .n .n .n .n .n) (by simp only [NV.XS, NV.killG, NV.fzG, NV.immG, NV.immS, NV.D.tru, NV.gNeg, NV.D.items, NV.twoI, NV.OT.d, NV.OT.ds, NV.cMod, NV.cDiv, NV.cMul, NV.oneS, NV.oneV, NV.Arg.slot, Int.reducePow, Int.reduceNeg, reduceIte, Nat.reduceLT, Nat.reduceLeDiff, Int.reduceLT, Int.reduceLE, Int.reduceToNat, reduceCtorEq, Nat.reduceAdd, eq_self, G, d2, hd, im_row, m_0, ev]) ?_
  refine go_seq (Γ1 := G (.o (wO m)) (.f (.s (wd u))) (.f (.s (wd v))) (.f (rowD r3)) .n .n .n .n .n .n .n .n) (by simp only [NV.XS, NV.killG, NV.fzG, NV.immG, NV.immS, NV.D.tru, NV.gNeg, NV.D.items, NV.twoI, NV.OT.d, NV.OT.ds, NV.cMod, NV.cDiv, NV.cMul, NV.oneS, NV.oneV, NV.Arg.slot, Int.reducePow, Int.reduceNeg, reduceIte, Nat.reduceLT, Nat.reduceLeDiff, Int.reduceLT, Int.reduceLE, Int.reduceToNat, reduceCtorEq, Nat.reduceAdd, eq_self, G, d3, hd, im_row]) ?_
  refine go_seq (Γ1 := G (.o (wO m)) (.f (.s (wd u))) (.f (.s (wd v))) (.f (rowD r3)) (.f (.s (wd lp))) .n .n .n .n .n .n .n) (by simp only [NV.XS, NV.killG, NV.fzG, NV.immG, NV.immS, NV.D.tru, NV.gNeg, NV.D.items, NV.twoI, NV.OT.d, NV.OT.ds, NV.cMod, NV.cDiv, NV.cMul, NV.oneS, NV.oneV, NV.Arg.slot, Int.reducePow, Int.reduceNeg, reduceIte, Nat.reduceLT, Nat.reduceLeDiff, Int.reduceLT, Int.reduceLE, Int.reduceToNat, reduceCtorEq, Nat.reduceAdd, eq_self, G, m_0, r11, len_alpha hc, hcp, ha, hix, im_row, ew, hga]) ?_
  obtain ⟨s1, hs1⟩ : ∃ s1, s1 = (lapM m m.st u).1 := ⟨_, rfl⟩
  obtain ⟨s2, hs2⟩ : ∃ s2, s2 = (lapM m s1 v).1 := ⟨_, rfl⟩
  have hs1n : s1 < m.n := by rw [hs1]; exact lapM_st hm hu hm.st
  have hs2n : s2 < m.n := by rw [hs2]; exact lapM_st hm hv hs1n
  have huv : ∀ j ∈ u ++ v, j < m.c := fun j hj => (List.mem_append.mp hj).elim (hu j) (hv j)
  have hs12 : (lapM m m.st (u ++ v)).1 = s2 := by rw [lapM_app, hs2, hs1]
  refine go_seq (Γ1 := G (.o (wO m)) (.f (.s (wd u))) (.f (.s (wd v))) (.f (rowD r3)) (.f (.s (wd lp))) (.f (.i s1)) .n .n .n .n .n .n) (by simp only [NV.XS, NV.killG, NV.fzG, NV.immG, NV.immS, NV.D.tru, NV.gNeg, NV.D.items, NV.twoI, NV.OT.d, NV.OT.ds, NV.cMod, NV.cDiv, NV.cMul, NV.oneS, NV.oneV, NV.Arg.slot, Int.reducePow, Int.reduceNeg, reduceIte, Nat.reduceLT, Nat.reduceLeDiff, Int.reduceLT, Int.reduceLE, Int.reduceToNat, reduceCtorEq, Nat.reduceAdd, eq_self, G, m_3, im_mD, r_lap hm hm.st hu, hs1, OT.ds]) ?_
  refine go_seq (Γ1 := G (.o (wO m)) (.f (.s (wd u))) (.f (.s (wd v))) (.f (rowD r3)) (.f (.s (wd lp))) (.f (.i s1)) (.f (.i s2)) .n .n .n .n .n) (by simp only [NV.XS, NV.killG, NV.fzG, NV.immG, NV.immS, NV.D.tru, NV.gNeg, NV.D.items, NV.twoI, NV.OT.d, NV.OT.ds, NV.cMod, NV.cDiv, NV.cMul, NV.oneS, NV.oneV, NV.Arg.slot, Int.reducePow, Int.reduceNeg, reduceIte, Nat.reduceLT, Nat.reduceLeDiff, Int.reduceLT, Int.reduceLE, Int.reduceToNat, reduceCtorEq, Nat.reduceAdd, eq_self, G, im_mD, r_lap hm hs1n hv, hs2, OT.ds]) ?_
  have ok1 := hm.at hs1n
  have ok2 := hm.at hs2n
  have e1 := r_rshift' hm hu
  rw [← hs1] at e1
  have e2 := r_rshift' ok1 hv
  rw [show ((m.at s1).at (lapM (m.at s1) (m.at s1).st v).1) = m.at s2 by rw [hs2]; rfl] at e2
  refine go_seq (Γ1 := G (.o (wO m)) (.f (.s (wd u))) (.f (.s (wd v))) (.f (rowD r3)) (.f (.s (wd lp))) (.f (.i s1)) (.f (.i s2)) (.o (wO (m.at s1))) .n .n .n .n) (by simp only [NV.XS, NV.killG, NV.fzG, NV.immG, NV.immS, NV.D.tru, NV.gNeg, NV.D.items, NV.twoI, NV.OT.d, NV.OT.ds, NV.cMod, NV.cDiv, NV.cMul, NV.oneS, NV.oneV, NV.Arg.slot, Int.reducePow, Int.reduceNeg, reduceIte, Nat.reduceLT, Nat.reduceLeDiff, Int.reduceLT, Int.reduceLE, Int.reduceToNat, reduceCtorEq, Nat.reduceAdd, eq_self, G, es, isOb_w, e1]) ?_
  refine go_seq (Γ1 := G (.o (wO m)) (.f (.s (wd u))) (.f (.s (wd v))) (.f (rowD r3)) (.f (.s (wd lp))) (.f (.i s1)) (.f (.i s2)) (.o (wO (m.at s1))) (.o (wO (m.at s2))) .n .n .n) (by simp only [NV.XS, NV.killG, NV.fzG, NV.immG, NV.immS, NV.D.tru, NV.gNeg, NV.D.items, NV.twoI, NV.OT.d, NV.OT.ds, NV.cMod, NV.cDiv, NV.cMul, NV.oneS, NV.oneV, NV.Arg.slot, Int.reducePow, Int.reduceNeg, reduceIte, Nat.reduceLT, Nat.reduceLeDiff, Int.reduceLT, Int.reduceLE, Int.reduceToNat, reduceCtorEq, Nat.reduceAdd, eq_self, G, es, isOb_w, e2]) ?_
  have mt := @methK_w "text"
  have tx1 := r_wtext ok1
  have tx2 := r_wtext ok2
  have tx := r_wtext hm
  have ltx1 := r_text_at hm hs1n
  have ltx2 := r_text_at hm hs2n
  have ltx := r_text hm
  refine go_seqF (Γ1 := G (.o (wO m)) (.f (.s (wd u))) (.f (.s (wd v))) (.f (rowD r3)) (.f (.s (wd lp))) (.f (.i s1)) (.f (.i s2)) (.o (wO (m.at s1))) (.o (wO (m.at s2))) .n .n .n) (m := 0) (by simp only [NV.XS, NV.killG, NV.fzG, NV.immG, NV.immS, NV.D.tru, NV.gNeg, NV.D.items, NV.twoI, NV.OT.d, NV.OT.ds, NV.cMod, NV.cDiv, NV.cMul, NV.oneS, NV.oneV, NV.Arg.slot, Int.reducePow, Int.reduceNeg, reduceIte, Nat.reduceLT, Nat.reduceLeDiff, Int.reduceLT, Int.reduceLE, Int.reduceToNat, reduceCtorEq, Nat.reduceAdd, eq_self, G, es, q_methK, methK_w fld_text, tx1, tx, m_0, m_1, m_2, im_tg, im_fl, im_mD, im_l, ltx1, ltx, ooK_v]) ?_
  have e3 := r_rshift' hm huv
  rw [hs12] at e3
  refine go_seqF (Γ1 := G (.o (wO m)) (.f (.s (wd u))) (.f (.s (wd v))) (.f (rowD r3)) (.f (.s (wd lp))) (.f (.i s1)) (.f (.i s2)) (.o (wO (m.at s1))) (.o (wO (m.at s2))) .n .n .n) (m := 0) (by simp only [NV.XS, NV.killG, NV.fzG, NV.immG, NV.immS, NV.D.tru, NV.gNeg, NV.D.items, NV.twoI, NV.OT.d, NV.OT.ds, NV.cMod, NV.cDiv, NV.cMul, NV.oneS, NV.oneV, NV.Arg.slot, Int.reducePow, Int.reduceNeg, reduceIte, Nat.reduceLT, Nat.reduceLeDiff, Int.reduceLT, Int.reduceLE, Int.reduceToNat, reduceCtorEq, Nat.reduceAdd, eq_self, G, es, isOb_w, q_methK, methK_w fld_text, tx2, tx, m_0, m_1, m_2, im_tg, im_fl, im_wD, im_l, ltx2, gAddS_w (a := u) (b := v) (by omega), e3, ooK_v]) ?_
  -- a long word
  have hbl4 : (u ++ List.range m.c).length ≤ 24 := by simp; omega
  have hbl : (u ++ List.range m.c).length ≤ 50000 := by omega
  have hbn : u ++ List.range m.c ≠ [] := fun e => by
    have := congrArg List.length e
    have := hm.c1
    simp at *
    omega
  have hb : ∀ j ∈ u ++ List.range m.c, j < m.c := fun j hj => (List.mem_append.mp hj).elim (hu j) List.mem_range.mp
  obtain ⟨z, hz⟩ : ∃ z, z = (List.replicate 300 (u ++ List.range m.c)).flatten.take 300 := ⟨_, rfl⟩
  have hzc : ∀ j ∈ z, j < m.c := fun j hj => mem_rep hb j (List.mem_of_mem_take (by rw [← hz]; exact hj))
  have hbig : (wd (List.replicate 300 (u ++ List.range m.c)).flatten).length ≤ 1000000 := by
    rw [wd_len, List.length_flatten, List.map_replicate, List.sum_replicate_nat]
    omega
  refine go_seq (Γ1 := G (.o (wO m)) (.f (.s (wd u))) (.f (.s (wd v))) (.f (rowD r3)) (.f (.s (wd lp))) (.f (.i s1)) (.f (.i s2)) (.o (wO (m.at s1))) (.o (wO (m.at s2))) (.f (.s (wd z))) .n .n) (by simp only [NV.XS, NV.killG, NV.fzG, NV.immG, NV.immS, NV.D.tru, NV.gNeg, NV.D.items, NV.twoI, NV.OT.d, NV.OT.ds, NV.cMod, NV.cDiv, NV.cMul, NV.oneS, NV.oneV, NV.Arg.slot, Int.reducePow, Int.reduceNeg, reduceIte, Nat.reduceLT, Nat.reduceLeDiff, Int.reduceLT, Int.reduceLE, Int.reduceToNat, reduceCtorEq, Nat.reduceAdd, eq_self, G, m_0, gAddS_wa (a := u) (c := m.c) (by omega), gMulS_w hbl hbn, hbig, cut_w, ← hz]) ?_
  obtain ⟨s3, hs3⟩ : ∃ s3, s3 = (lapM m m.st z).1 := ⟨_, rfl⟩
  have hs3n : s3 < m.n := by rw [hs3]; exact lapM_st hm hzc hm.st
  have e4 := r_rshift' hm hzc
  rw [← hs3] at e4
  have tx3 := r_wtext (hm.at hs3n)
  have ltx3 := r_text_at hm hs3n
  refine go_seqF (Γ1 := G (.o (wO m)) (.f (.s (wd u))) (.f (.s (wd v))) (.f (rowD r3)) (.f (.s (wd lp))) (.f (.i s1)) (.f (.i s2)) (.o (wO (m.at s1))) (.o (wO (m.at s2))) (.f (.s (wd z))) .n .n) (m := 0) (by simp only [NV.XS, NV.killG, NV.fzG, NV.immG, NV.immS, NV.D.tru, NV.gNeg, NV.D.items, NV.twoI, NV.OT.d, NV.OT.ds, NV.cMod, NV.cDiv, NV.cMul, NV.oneS, NV.oneV, NV.Arg.slot, Int.reducePow, Int.reduceNeg, reduceIte, Nat.reduceLT, Nat.reduceLeDiff, Int.reduceLT, Int.reduceLE, Int.reduceToNat, reduceCtorEq, Nat.reduceAdd, eq_self, G, es, isOb_w, q_methK, methK_w fld_text, tx3, m_0, m_1, m_2, m_3, im_tg, im_fl, im_mD, im_wD, im_l, r_lap hm hm.st hzc, ← hs3, OT.ds, e4, ltx3]) ?_
  -- lassos
  obtain ⟨due, hdue⟩ : ∃ due, due = goodM m lp s2 := ⟨_, rfl⟩
  refine go_seq (Γ1 := G (.o (wO m)) (.f (.s (wd u))) (.f (.s (wd v))) (.f (rowD r3)) (.f (.s (wd lp))) (.f (.i s1)) (.f (.i s2)) (.o (wO (m.at s1))) (.o (wO (m.at s2))) (.f (.s (wd z))) (.f (.b due)) .n) (by simp only [NV.XS, NV.killG, NV.fzG, NV.immG, NV.immS, NV.D.tru, NV.gNeg, NV.D.items, NV.twoI, NV.OT.d, NV.OT.ds, NV.cMod, NV.cDiv, NV.cMul, NV.oneS, NV.oneV, NV.Arg.slot, Int.reducePow, Int.reduceNeg, reduceIte, Nat.reduceLT, Nat.reduceLeDiff, Int.reduceLT, Int.reduceLE, Int.reduceToNat, reduceCtorEq, Nat.reduceAdd, eq_self, G, im_mD, r_good0 hm hs2n hlp, ← hdue]) ?_
  have k2 := r_contains0 ok2 hlp hlp0
  rw [goodM_at, show (m.at s2).st = s2 from rfl, ← hdue] at k2
  have k1 := r_contains ok1 hv hlp hlp0
  rw [goodM_at, show (lapM (m.at s1) (m.at s1).st v).1 = s2 from hs2.symm, ← hdue] at k1
  refine go_seqF (Γ1 := G (.o (wO m)) (.f (.s (wd u))) (.f (.s (wd v))) (.f (rowD r3)) (.f (.s (wd lp))) (.f (.i s1)) (.f (.i s2)) (.o (wO (m.at s1))) (.o (wO (m.at s2))) (.f (.s (wd z))) (.f (.b due)) .n) (m := 0) (by simp only [NV.XS, NV.killG, NV.fzG, NV.immG, NV.immS, NV.D.tru, NV.gNeg, NV.D.items, NV.twoI, NV.OT.d, NV.OT.ds, NV.cMod, NV.cDiv, NV.cMul, NV.oneS, NV.oneV, NV.Arg.slot, Int.reducePow, Int.reduceNeg, reduceIte, Nat.reduceLT, Nat.reduceLeDiff, Int.reduceLT, Int.reduceLE, Int.reduceToNat, reduceCtorEq, Nat.reduceAdd, eq_self, G, es, isOb_w, k1, k2, ooK_v]) ?_
  have k0 := r_contains hm huv hlp hlp0
  rw [hs12, ← hdue] at k0
  have hll : ∀ j ∈ lp ++ lp, j < m.c := fun j hj => (List.mem_append.mp hj).elim (hlp j) (hlp j)
  have k3 := r_contains0 ok1 hll (by simp [hlp0])
  rw [goodM_at, show (m.at s1).st = s1 from rfl, good_twice hm hlp hs1n] at k3
  refine go_seqF (Γ1 := G (.o (wO m)) (.f (.s (wd u))) (.f (.s (wd v))) (.f (rowD r3)) (.f (.s (wd lp))) (.f (.i s1)) (.f (.i s2)) (.o (wO (m.at s1))) (.o (wO (m.at s2))) (.f (.s (wd z))) (.f (.b due)) .n) (m := 0) (by simp only [NV.XS, NV.killG, NV.fzG, NV.immG, NV.immS, NV.D.tru, NV.gNeg, NV.D.items, NV.twoI, NV.OT.d, NV.OT.ds, NV.cMod, NV.cDiv, NV.cMul, NV.oneS, NV.oneV, NV.Arg.slot, Int.reducePow, Int.reduceNeg, reduceIte, Nat.reduceLT, Nat.reduceLeDiff, Int.reduceLT, Int.reduceLE, Int.reduceToNat, reduceCtorEq, Nat.reduceAdd, eq_self, G, es, isOb_w, k0, k3, gAddS_w (a := u) (b := v) (by omega), gAddS_w (a := lp) (b := lp) (by omega), im_mD, r_good0 hm hs1n hlp, ooK_v]) ?_
  -- changes
  obtain ⟨ps, hps⟩ : ∃ ps, ps = ((List.range m.n).filter fun s => !m.fl s 0).map fun s => ((s, 0) : Pr) := ⟨_, rfl⟩
  have hpin : ∀ p ∈ ps, p.1 < m.n ∧ p.2 < m.c := fun p hp => by
    rw [hps] at hp
    obtain ⟨s, hs, rfl⟩ := List.mem_map.mp hp
    exact ⟨List.mem_range.mp (List.mem_filter.mp hs).1, by have := hm.c1; show 0 < m.c; omega⟩
  have hpl : ps.length ≤ 5000 := by
    rw [hps, List.length_map]
    have := List.length_filter_le (fun s => !m.fl s 0) (List.range m.n)
    rw [List.length_range] at this
    omega
  have h0c : 0 < m.c := by have := hm.c1; omega
  have h0n : 0 < m.n := by have := hm.n1; omega
  have dn : decide ((m.n : Int) < -100000 ∨ 100000 < (m.n : Int)) = false := decide_eq_false (by omega)
  have hrem : ∀ Γ : Gm, Γ = G (.o (wO m)) (.f (.s (wd u))) (.f (.s (wd v))) (.f (rowD r3)) (.f (.s (wd lp))) (.f (.i s1)) (.f (.i s2)) (.o (wO (m.at s1))) (.o (wO (m.at s2))) (.f (.s (wd z))) (.f (.b due)) .n →
      aCons (eFz (oLc (iR1 (aCons (eCB gLen (aCons (eIx (eVar 1) (eC (.int 1))) aNil)) aNil)) (tgName 14) (tNo (tTe (eIx (eIx (eIx (eVar 1) (eC (.int 2))) (eVar 14)) (eC (.int 0))))) (oFz (eTup (aCons (eVar 14) (aCons (eC (.str ("a" : Str))) aNil)))) [14])) aNil Γ = .ok (.f, [prsD ps]) Γ 0 := by
    rintro _ rfl
    have hlc := lc_ok (it := iR1 (aCons (eCB gLen (aCons (eIx (eVar 1) (eC (.int 1))) aNil)) aNil)) (t := tgName 14) (tt := tNo (tTe (eIx (eIx (eIx (eVar 1) (eC (.int 2))) (eVar 14)) (eC (.int 0))))) (e := oFz (eTup (aCons (eVar 14) (aCons (eC (.str ("a" : Str))) aNil)))) (vs := [14])
      (Γ := G (.o (wO m)) (.f (.s (wd u))) (.f (.s (wd v))) (.f (rowD r3)) (.f (.s (wd lp))) (.f (.i s1)) (.f (.i s2)) (.o (wO (m.at s1))) (.o (wO (m.at s2))) (.f (.s (wd z))) (.f (.b due)) .n)
      (Γ1 := G (.o (wO m)) (.f (.s (wd u))) (.f (.s (wd v))) (.f (rowD r3)) (.f (.s (wd lp))) (.f (.i s1)) (.f (.i s2)) (.o (wO (m.at s1))) (.o (wO (m.at s2))) (.f (.s (wd z))) (.f (.b due)) .n) (k := .f)
      (List.range m.n) (fun s => D.i ((s : Nat) : Int)) (fun s => OT.fz (prD (s, 0))) (fun s => !m.fl s 0) (by simp only [NV.XS, NV.killG, NV.fzG, NV.immG, NV.immS, NV.D.tru, NV.gNeg, NV.D.items, NV.twoI, NV.OT.d, NV.OT.ds, NV.cMod, NV.cDiv, NV.cMul, NV.oneS, NV.oneV, NV.Arg.slot, Int.reducePow, Int.reduceNeg, reduceIte, Nat.reduceLT, Nat.reduceLeDiff, Int.reduceLT, Int.reduceLE, Int.reduceToNat, reduceCtorEq, Nat.reduceAdd, eq_self, G, m_1, im_tg, len_tg, dn, Int.toNat_natCast, rg_map]) (by simp; omega) fun s hs => ⟨_, _, by simp only [NV.XS, NV.killG, NV.fzG, NV.immG, NV.immS, NV.D.tru, NV.gNeg, NV.D.items, NV.twoI, NV.OT.d, NV.OT.ds, NV.cMod, NV.cDiv, NV.cMul, NV.oneS, NV.oneV, NV.Arg.slot, Int.reducePow, Int.reduceNeg, reduceIte, Nat.reduceLT, Nat.reduceLeDiff, Int.reduceLT, Int.reduceLE, Int.reduceToNat, reduceCtorEq, Nat.reduceAdd, eq_self, G, wipeG]; rfl, by simp only [NV.XS, NV.killG, NV.fzG, NV.immG, NV.immS, NV.D.tru, NV.gNeg, NV.D.items, NV.twoI, NV.OT.d, NV.OT.ds, NV.cMod, NV.cDiv, NV.cMul, NV.oneS, NV.oneV, NV.Arg.slot, Int.reducePow, Int.reduceNeg, reduceIte, Nat.reduceLT, Nat.reduceLeDiff, Int.reduceLT, Int.reduceLE, Int.reduceToNat, reduceCtorEq, Nat.reduceAdd, eq_self, m_2, im_fl, fl_1 (List.mem_range.mp hs), im_flR, fl_2 (k := 0) h0c, show ((0 : Int)) = ((0 : Nat) : Int) from rfl]; rfl, fun _ => ⟨_, by simp only [NV.XS, NV.killG, NV.fzG, NV.immG, NV.immS, NV.D.tru, NV.gNeg, NV.D.items, NV.twoI, NV.OT.d, NV.OT.ds, NV.cMod, NV.cDiv, NV.cMul, NV.oneS, NV.oneV, NV.Arg.slot, Int.reducePow, Int.reduceNeg, reduceIte, Nat.reduceLT, Nat.reduceLeDiff, Int.reduceLT, Int.reduceLE, Int.reduceToNat, reduceCtorEq, Nat.reduceAdd, eq_self, Kd.im, D.imm, imms, lt_a]; rfl⟩⟩
    rw [q_cons, q_fz, hlc]
    have : OT.ds (((List.range m.n).filter fun s => !m.fl s 0).map fun s => OT.fz (prD (s, 0))) = ps.map prD := by
      rw [ds_map, hps, List.map_map]; rfl
    simp only [NV.XS, NV.killG, NV.fzG, NV.immG, NV.immS, NV.D.tru, NV.gNeg, NV.D.items, NV.twoI, NV.OT.d, NV.OT.ds, NV.cMod, NV.cDiv, NV.cMul, NV.oneS, NV.oneV, NV.Arg.slot, Int.reducePow, Int.reduceNeg, reduceIte, Nat.reduceLT, Nat.reduceLeDiff, Int.reduceLT, Int.reduceLE, Int.reduceToNat, reduceCtorEq, Nat.reduceAdd, eq_self, this]
    rfl
  obtain ⟨mb, hmb⟩ : ∃ mb, mb = (m.at s1).mark ps := ⟨_, rfl⟩
  have okb : mb.Ok := by rw [hmb]; exact ok1.mark ps
  have rr := r_remark ok1 hpin hpl
  rw [show wO { m.at s1 with fl := fun s k => decide ((s, k) ∈ ps) } = wO mb by rw [hmb]; rfl] at rr
  refine go_seq (Γ1 := G (.o (wO m)) (.f (.s (wd u))) (.f (.s (wd v))) (.f (rowD r3)) (.f (.s (wd lp))) (.f (.i s1)) (.f (.i s2)) (.o (wO mb)) (.o (wO (m.at s2))) (.f (.s (wd z))) (.f (.b due)) .n) ?_ ?_
  · rw [q_drop, q_fz, w_methP (m := m.at s1) rfl fld_remark (hrem _ rfl) (by simp) rr]
    rfl
  have hn1 : ((m.n : Int) - 1) = ((m.n - 1 : Nat) : Int) := by omega
  refine go_seq (Γ1 := G (.o (wO m)) (.f (.s (wd u))) (.f (.s (wd v))) (.f (rowD r3)) (.f (.s (wd lp))) (.f (.i s1)) (.f (.i s2)) (.o (wO mb)) (.o (wO ((m.at s2).setT m.st 0 (m.n - 1)))) (.f (.s (wd z))) (.f (.b due)) .n) ?_ ?_
  · rw [w_setOwn (m := m.at s2) (i := 10) (kz := .f) (kv := .f) (z := .t [.i m.st, .s (lt 0)]) (v := .i ((m.n - 1 : Nat) : Int)) rfl (by simp only [NV.XS, NV.killG, NV.fzG, NV.immG, NV.immS, NV.D.tru, NV.gNeg, NV.D.items, NV.twoI, NV.OT.d, NV.OT.ds, NV.cMod, NV.cDiv, NV.cMul, NV.oneS, NV.oneV, NV.Arg.slot, Int.reducePow, Int.reduceNeg, reduceIte, Nat.reduceLT, Nat.reduceLeDiff, Int.reduceLT, Int.reduceLE, Int.reduceToNat, reduceCtorEq, Nat.reduceAdd, eq_self, G, m_3, lt_a]) (by simp only [NV.XS, NV.killG, NV.fzG, NV.immG, NV.immS, NV.D.tru, NV.gNeg, NV.D.items, NV.twoI, NV.OT.d, NV.OT.ds, NV.cMod, NV.cDiv, NV.cMul, NV.oneS, NV.oneV, NV.Arg.slot, Int.reducePow, Int.reduceNeg, reduceIte, Nat.reduceLT, Nat.reduceLeDiff, Int.reduceLT, Int.reduceLE, Int.reduceToNat, reduceCtorEq, Nat.reduceAdd, eq_self, G, m_1, im_tg, len_tg, hn1]) (by simp [Kd.im, D.imm, imms]) (by simp [Kd.im, D.imm]) (r_setitem ok2 (s := m.st) (k := 0) (v := m.n - 1) hm.st h0c (by show m.n - 1 < m.n; omega))]
    rfl
  refine go_seqF (Γ1 := G (.o (wO m)) (.f (.s (wd u))) (.f (.s (wd v))) (.f (rowD r3)) (.f (.s (wd lp))) (.f (.i s1)) (.f (.i s2)) (.o (wO mb)) (.o (wO ((m.at s2).setT m.st 0 (m.n - 1)))) (.f (.s (wd z))) (.f (.b due)) .n) (m := 0) (by simp only [NV.XS, NV.killG, NV.fzG, NV.immG, NV.immS, NV.D.tru, NV.gNeg, NV.D.items, NV.twoI, NV.OT.d, NV.OT.ds, NV.cMod, NV.cDiv, NV.cMul, NV.oneS, NV.oneV, NV.Arg.slot, Int.reducePow, Int.reduceNeg, reduceIte, Nat.reduceLT, Nat.reduceLeDiff, Int.reduceLT, Int.reduceLE, Int.reduceToNat, reduceCtorEq, Nat.reduceAdd, eq_self, G, es, isOb_w, q_methK, methK_w fld_text, tx1, tx, m_0, m_1, m_2, im_tg, im_fl, im_mD, im_wD, im_l, ltx1, ltx, e1, ooK_v]) ?_
  have txb := r_wtext okb
  refine go_seq (Γ1 := G (.o (wO m)) (.f (.s (wd u))) (.f (.s (wd v))) (.f (rowD r3)) (.f (.s (wd lp))) (.f (.i s1)) (.f (.i s2)) (.o (wO mb)) (.o (wO ((m.at s2).setT m.st 0 (m.n - 1)))) (.f (.s (wd z))) (.f (.b due)) (.f (.s (textM mb)))) (by simp only [NV.XS, NV.killG, NV.fzG, NV.immG, NV.immS, NV.D.tru, NV.gNeg, NV.D.items, NV.twoI, NV.OT.d, NV.OT.ds, NV.cMod, NV.cDiv, NV.cMul, NV.oneS, NV.oneV, NV.Arg.slot, Int.reducePow, Int.reduceNeg, reduceIte, Nat.reduceLT, Nat.reduceLeDiff, Int.reduceLT, Int.reduceLE, Int.reduceToNat, reduceCtorEq, Nat.reduceAdd, eq_self, G, es, q_methK, methK_w fld_text, txb]) ?_
  have rr2 := r_remark hm (ps := []) (by simp) (by simp)
  refine go_seq (Γ1 := G (.o (wO (m.mark []))) (.f (.s (wd u))) (.f (.s (wd v))) (.f (rowD r3)) (.f (.s (wd lp))) (.f (.i s1)) (.f (.i s2)) (.o (wO mb)) (.o (wO ((m.at s2).setT m.st 0 (m.n - 1)))) (.f (.s (wd z))) (.f (.b due)) (.f (.s (textM mb)))) ?_ ?_
  · rw [q_drop, q_fz, w_methP (m := m) (i := 2) (ka := .f) (ds := [prsD []]) rfl fld_remark rfl (by simp) rr2]
    rfl
  have okm := hm.mark []
  refine go_seq (Γ1 := G (.o (wO ((m.mark []).setT 0 0 0))) (.f (.s (wd u))) (.f (.s (wd v))) (.f (rowD r3)) (.f (.s (wd lp))) (.f (.i s1)) (.f (.i s2)) (.o (wO mb)) (.o (wO ((m.at s2).setT m.st 0 (m.n - 1)))) (.f (.s (wd z))) (.f (.b due)) (.f (.s (textM mb)))) ?_ ?_
  · rw [w_setOwn (m := m.mark []) (i := 2) (kz := .f) (kv := .f) (z := .t [.i ((0 : Nat) : Int), .s (lt 0)]) (v := .i ((0 : Nat) : Int)) rfl (by simp only [NV.XS, NV.killG, NV.fzG, NV.immG, NV.immS, NV.D.tru, NV.gNeg, NV.D.items, NV.twoI, NV.OT.d, NV.OT.ds, NV.cMod, NV.cDiv, NV.cMul, NV.oneS, NV.oneV, NV.Arg.slot, Int.reducePow, Int.reduceNeg, reduceIte, Nat.reduceLT, Nat.reduceLeDiff, Int.reduceLT, Int.reduceLE, Int.reduceToNat, reduceCtorEq, Nat.reduceAdd, eq_self, G, lt_a]; rfl) rfl (by simp [Kd.im, D.imm, imms]) (by simp [Kd.im, D.imm]) (r_setitem okm (s := 0) (k := 0) (v := 0) h0n h0c h0n)]
    rfl
  have okw := okm.setT (s := 0) (k := 0) (v := 0) h0n
  have txw := r_wtext okw
  have e5 := r_rshift0 okw
  exact go_ret (by simp only [NV.XS, NV.killG, NV.fzG, NV.immG, NV.immS, NV.D.tru, NV.gNeg, NV.D.items, NV.twoI, NV.OT.d, NV.OT.ds, NV.cMod, NV.cDiv, NV.cMul, NV.oneS, NV.oneV, NV.Arg.slot, Int.reducePow, Int.reduceNeg, reduceIte, Nat.reduceLT, Nat.reduceLeDiff, Int.reduceLT, Int.reduceLE, Int.reduceToNat, reduceCtorEq, Nat.reduceAdd, eq_self, G, es, isOb_w, q_methK, methK_w fld_text, txb, txw, im_wD, e5, andK_v]; rfl) (rt_of rfl ⟨rfl, rfl⟩)

end

/-! ### the derivations -/
def top (i : Nat) : Stmt := PySem.Challenge.pw_noteless_k08_cut_behind_a_word.main.body.getD i (.Pass ⟨0, 0, 0, 0⟩)
abbrev s_law_draws : Stmt := top 24
abbrev N_law_draws : List Str := ["_law_script", "_law_k", "_law_many", "_law_cell", "_law_left", "_law_row", "_law_i", "_law_x"]
theorem sc_law_draws : FnScope N_law_draws ["_law_script", "_law_k", "_law_many"] (defScope s_law_draws) := ⟨rfl, rfl, rfl, by decide +kernel, rfl, by decide +kernel, by decide +kernel⟩
section
variable {P : Program} {w : World} {K : PySem.W.Frag} {mg : Str → Option Value} {base : Heap}
theorem ok_law_draws {f_law_draws : Addr} {fd_law_draws : FuncData} (F_law_draws : Fun K "_law_draws" "_law_draws" s_law_draws f_law_draws fd_law_draws) (T : Bt mg) (k : Kc (ct K mg))  : FnOk P w K mg base CX0 1 f_law_draws fd_law_draws ["_law_script", "_law_k", "_law_many"] (SpF (ct K mg) x_law_draws) := by
  refine F_law_draws.ok sc_law_draws (fun vs H Q E h => SpF.len (n := 3) (fun as => xRun_len as) h) (fun cdv A outer s H vs Q E hr h => ?_)
  have hu := hu_of hr
  exact ⟨t_law_draws (ct K mg), pss_cons (ps_if (pt_cmpR (op_eqD hr.units) (pv 0) (pe_lst (pa_nil)) (nomark _)) (pss_one (ps_ret (pe_lc (own := [(("_law_i" : Str), 6)]) (g := gName 6) (by rfl) sc_law_draws.nd (pi_range1 (by rfl) T.b_range (pa_cons (pv 2) (pa_nil))) (blkOk_by (own := [(("_law_i" : Str), 6)]) (N := N_law_draws) (sc := defScope s_law_draws) (by decide +kernel)) (fun _ _ _ _ _ => pg_name (i := 6) sc_law_draws.nd rfl (Or.inl rfl)) (fun _ _ _ _ _ => pts_nil) (fun _ _ _ _ _ => pe_int)))) (pss_nil)) (
    pss_cons (ps_set (i := 3) sc_law_draws.nd rfl (Or.inl rfl) (pe_callTy call_int1 (by rfl) T.b_int (by decide +kernel) (pa_cons (pe_ix ix_seq (pv 0) (pe_op op_mod (pe_callTy call_int1 (by rfl) T.b_int (by decide +kernel) (pa_cons (pv 1) (pa_nil))) (pe_callB call_lenG (by rfl) T.b_len (by decide +kernel) (pa_cons (pv 0) (pa_nil)))) (fun _ _ => rfl)) (pa_nil)))) (
    pss_cut (ps_if (pt_cmpR op_ge (pv 1) (pe_callB call_lenG (by rfl) T.b_len (by decide +kernel) (pa_cons (pv 0) (pa_nil))) (nomark _)) (pss_one (ps_set (i := 3) sc_law_draws.nd rfl (Or.inl rfl) (pe_op op_add (pe_op op_mod (pv 3) (pe_int)) (pe_op op_mul (pe_int) (pv 1))))) (pss_nil)) (
    pss_cons (ps_set (i := 4) sc_law_draws.nd rfl (Or.inl rfl) (pe_callB call_abs (by rfl) T.b_abs (by decide +kernel) (pa_cons (pv 3) (pa_nil)))) (
    pss_cons (ps_set (i := 5) sc_law_draws.nd rfl (Or.inl rfl) (pe_lst (pa_nil))) (
    pss_cons (ps_for PassesOwn.never rfl (pi_range1 (by rfl) T.b_range (pa_cons (pv 2) (pa_nil))) (pg_name (i := 6) sc_law_draws.nd rfl (Or.inl rfl)) (pss_one (ps_if (pt_cmpR op_ge (pe_callB call_abs (by rfl) T.b_abs (by decide +kernel) (pa_cons (pv 3) (pa_nil))) (pe_op op_pow (pe_int) (pe_int)) (nomark _)) (pss_cons (ps_expr (pe_bm PySem.F.plainAttrs_list PySem.F.slot_list_append PySem.F.type_list_append mt_append (pv 5) (pa_cons (pe_op op_mod (pv 4) (pe_int)) (pa_nil)))) (
    pss_one (ps_set (i := 4) sc_law_draws.nd rfl (Or.inl rfl) (pe_op op_fdiv (pv 4) (pe_int))))) (pss_cons (ps_set (i := 7) sc_law_draws.nd rfl (Or.inl rfl) (pe_op op_mod (pe_op op_add (pe_op op_add (pe_op op_mul (pe_op op_mod (pv 3) (pe_int)) (pe_int)) (pe_op op_mul (pv 6) (pe_int))) (pe_int)) (pe_int))) (
    pss_one (ps_expr (pe_bm PySem.F.plainAttrs_list PySem.F.slot_list_append PySem.F.type_list_append mt_append (pv 5) (pa_cons (pe_op op_mod (pe_op op_mod (pe_op op_add (pe_op op_add (pe_op op_mul (pe_op op_mul (pe_int) (pv 7)) (pv 7)) (pv 7)) (pe_int)) (pe_int)) (pe_int)) (pa_nil))))))))) (
    pss_one (ps_ret (pv 5)))))))), entry (k := 3) (n := 5) (W := fun cls dd _ H => E cls dd H) (snd_x_law_draws k) rfl h (fun _ _ _ _ h => h)⟩
end
abbrev s_law_machine : Stmt := top 25
abbrev N_law_machine : List Str := ["_law_row", "_law_top", "_law_size", "_law_many", "_law_mode", "_law_share", "_law_targets", "_law_marks", "_law_s", "_law_c", "_law_names", "_law_places", "_law_moved", "_law_flags", "_law_cells", "_law_column", "_law_bar", "_law_t", "_law_kept", "_law_cell"]
theorem sc_law_machine : FnScope N_law_machine ["_law_row", "_law_top"] (defScope s_law_machine) := ⟨rfl, rfl, rfl, by decide +kernel, rfl, by decide +kernel, by decide +kernel⟩
section
variable {P : Program} {w : World} {K : PySem.W.Frag} {mg : Str → Option Value} {base : Heap}
theorem ok_law_machine {f_law_machine : Addr} {fd_law_machine : FuncData} (F_law_machine : Fun K "_law_machine" "_law_machine" s_law_machine f_law_machine fd_law_machine) (T : Bt mg) (k : Kc (ct K mg))  : FnOk P w K mg base CX0 1 f_law_machine fd_law_machine ["_law_row", "_law_top"] (SpF (ct K mg) x_law_machine) := by
  refine F_law_machine.ok sc_law_machine (fun vs H Q E h => SpF.len (n := 2) (fun as => xRun_len as) h) (fun cdv A outer s H vs Q E hr h => ?_)
  have hu := hu_of hr
  exact ⟨t_law_machine (ct K mg), pss_cons (ps_set (i := 2) sc_law_machine.nd rfl (Or.inr rfl) (pe_op op_add (pe_int) (pe_op op_mod (pe_callTy call_int1 (by rfl) T.b_int (by decide +kernel) (pa_cons (pe_ix ix_seq (pv 0) (pe_int) (fun _ _ => rfl)) (pa_nil))) (pe_callB (call_min2 rfl) (by rfl) T.b_min (by decide +kernel) (pa_cons (pe_callTy call_int1 (by rfl) T.b_int (by decide +kernel) (pa_cons (pv 1) (pa_nil))) (pa_cons (pe_ix ix_seq (pe_lst (pa_cons (pe_int) (pa_cons (pe_int) (pa_cons (pe_int) (pa_cons (pe_int) (pa_nil)))))) (pe_op op_mod (pe_op op_fdiv (pe_callTy call_int1 (by rfl) T.b_int (by decide +kernel) (pa_cons (pe_ix ix_seq (pv 0) (pe_int) (fun _ _ => rfl)) (pa_nil))) (pe_int)) (pe_int)) (fun _ _ => rfl)) (pa_nil))))))) (
    pss_cons (ps_set (i := 3) sc_law_machine.nd rfl (Or.inl rfl) (pe_op op_add (pe_int) (pe_op op_mod (pe_callTy call_int1 (by rfl) T.b_int (by decide +kernel) (pa_cons (pe_ix ix_seq (pv 0) (pe_int) (fun _ _ => rfl)) (pa_nil))) (pe_int)))) (
    pss_cons (ps_set (i := 4) sc_law_machine.nd rfl (Or.inl rfl) (pe_op op_mod (pe_callTy call_int1 (by rfl) T.b_int (by decide +kernel) (pa_cons (pe_ix ix_seq (pv 0) (pe_int) (fun _ _ => rfl)) (pa_nil))) (pe_int))) (
    pss_cons (ps_set (i := 5) sc_law_machine.nd rfl (Or.inr rfl) (pe_op op_mod (pe_op op_fdiv (pe_callTy call_int1 (by rfl) T.b_int (by decide +kernel) (pa_cons (pe_ix ix_seq (pv 0) (pe_int) (fun _ _ => rfl)) (pa_nil))) (pe_int)) (pe_int))) (
    pss_cons (ps_set (i := 6) sc_law_machine.nd rfl (Or.inr rfl) (pe_lst (pa_nil))) (
    pss_cons (ps_set (i := 7) sc_law_machine.nd rfl (Or.inr rfl) (pe_lst (pa_nil))) (
    pss_cons (ps_for PassesOwn.never rfl (pi_range1 (by rfl) T.b_range (pa_cons (pv 2) (pa_nil))) (pg_name (i := 8) sc_law_machine.nd rfl (Or.inr rfl)) (pss_cons (ps_setLc (i := 14) (own := [(("_law_c" : Str), 9)]) (g := gName 9) (by rfl) sc_law_machine.nd rfl rfl (sw_true rfl rfl rfl (by decide +kernel)) (pi_range1 (by rfl) T.b_range (pa_cons (pv 3) (pa_nil))) (blkOk_by (own := [(("_law_c" : Str), 9)]) (N := N_law_machine) (sc := defScope s_law_machine) (by decide +kernel)) (fun _ _ _ _ _ => pg_name (i := 9) sc_law_machine.nd rfl (Or.inl rfl)) (fun _ _ _ _ _ => pts_nil) (fun _ _ _ _ _ => pe_callTy call_int1 (by rfl) T.b_int (by decide +kernel) (pa_cons (pe_ix ix_seq (pv 0) (pe_op op_add (pe_op op_add (pe_int) (pe_op op_mul (pe_int) (pv 8))) (pv 9)) (fun _ _ => rfl)) (pa_nil)))) (
    pss_cons (ps_expr (pe_bm PySem.F.plainAttrs_list PySem.F.slot_list_append PySem.F.type_list_append mt_append (pv 6) (pa_cons (pe_lc (own := [(("_law_cell" : Str), 19)]) (g := gName 19) (by rfl) sc_law_machine.nd (pi_list (pv 14)) (blkOk_by (own := [(("_law_cell" : Str), 19)]) (N := N_law_machine) (sc := defScope s_law_machine) (by decide +kernel)) (fun _ _ _ _ _ => pg_name (i := 19) sc_law_machine.nd rfl (Or.inl rfl)) (fun _ _ _ _ _ => pts_nil) (fun _ _ _ _ _ => pe_op op_mod (pe_callTy call_int1 (by rfl) T.b_int (by decide +kernel) (pa_cons (pv 19) (pa_nil))) (pv 2))) (pa_nil)))) (
    pss_one (ps_expr (pe_bm PySem.F.plainAttrs_list PySem.F.slot_list_append PySem.F.type_list_append mt_append (pv 7) (pa_cons (pe_lc (own := [(("_law_cell" : Str), 19)]) (g := gName 19) (by rfl) sc_law_machine.nd (pi_list (pv 14)) (blkOk_by (own := [(("_law_cell" : Str), 19)]) (N := N_law_machine) (sc := defScope s_law_machine) (by decide +kernel)) (fun _ _ _ _ _ => pg_name (i := 19) sc_law_machine.nd rfl (Or.inl rfl)) (fun _ _ _ _ _ => pts_nil) (fun _ _ _ _ _ => pe_cmpR op_lt (pe_op op_fdiv (pv 19) (pe_int)) (pv 5) (nomark _))) (pa_nil)))))))) (
    pss_cons (ps_for PassesOwn.never rfl (pi_range1 (by rfl) T.b_range (pa_cons (pv 3) (pa_nil))) (pg_name (i := 9) sc_law_machine.nd rfl (Or.inr rfl)) (pss_cons (ps_set (i := 15) sc_law_machine.nd rfl (Or.inl rfl) (pe_callB cr_sorted (by rfl) T.b_sorted (by decide +kernel) (pa_cons (pe_lc (own := [(("_law_s" : Str), 8)]) (g := gName 8) (by rfl) sc_law_machine.nd (pi_range1 (by rfl) T.b_range (pa_cons (pv 2) (pa_nil))) (blkOk_by (own := [(("_law_s" : Str), 8)]) (N := N_law_machine) (sc := defScope s_law_machine) (by decide +kernel)) (fun _ _ _ _ _ => pg_name (i := 8) sc_law_machine.nd rfl (Or.inl rfl)) (fun _ _ _ _ _ => pts_nil) (fun _ _ _ _ _ => pe_callTy call_int1 (by rfl) T.b_int (by decide +kernel) (pa_cons (pe_ix ix_seq (pe_ix ix_seq (pv 6) (pv 8) (fun _ _ => rfl)) (pv 9) (fun _ _ => rfl)) (pa_nil)))) (pa_nil)))) (
    pss_cons (ps_set (i := 16) sc_law_machine.nd rfl (Or.inl rfl) (pe_op op_mod (pe_callTy call_int1 (by rfl) T.b_int (by decide +kernel) (pa_cons (pe_ix ix_seq (pv 0) (pe_op op_add (pe_int) (pv 9)) (fun _ _ => rfl)) (pa_nil))) (pe_op op_add (pv 2) (pe_int)))) (
    pss_cons (ps_for PassesOwn.never rfl (pi_range1 (by rfl) T.b_range (pa_cons (pv 2) (pa_nil))) (pg_name (i := 8) sc_law_machine.nd rfl (Or.inr rfl)) (pss_one (ps_if (PW.pt (pw_and (pt_cmpR op_ne (pv 4) (pe_int) (nomark _)) (pw_and1 (pt_cmpR op_gt (pe_ix ix_seq (pv 15) (pv 8) (fun _ _ => rfl)) (pv 8) (nomark _))))) (pss_one (ps_set (i := 16) sc_law_machine.nd rfl (Or.inl rfl) (pe_callB (call_min2 rfl) (by rfl) T.b_min (by decide +kernel) (pa_cons (pe_callTy call_int1 (by rfl) T.b_int (by decide +kernel) (pa_cons (pv 16) (pa_nil))) (pa_cons (pv 8) (pa_nil)))))) (pss_nil)))) (
    pss_one (ps_for PassesOwn.never rfl (pi_range1 (by rfl) T.b_range (pa_cons (pv 2) (pa_nil))) (pg_name (i := 8) sc_law_machine.nd rfl (Or.inr rfl)) (pss_one (ps_if (pt_cmpR op_gt (pv 4) (pe_int) (nomark _)) (pss_cons (ps_asg (pe_ix ix_seq (pv 15) (pv 8) (fun _ _ => rfl)) (pg_sub (pe_ix ix_seq (pv 6) (pv 8) (fun _ _ => rfl)) (pv 9) set_list)) (
    pss_one (ps_asg (pe_cmpR op_ge (pv 8) (pv 16) (nomark _)) (pg_sub (pe_ix ix_seq (pv 7) (pv 8) (fun _ _ => rfl)) (pv 9) set_list)))) (pss_nil))))))))) (
    pss_cons (ps_set (i := 8) sc_law_machine.nd rfl (Or.inr rfl) (pe_op op_mod (pe_callTy call_int1 (by rfl) T.b_int (by decide +kernel) (pa_cons (pe_ix ix_seq (pv 0) (pe_int) (fun _ _ => rfl)) (pa_nil))) (pv 2))) (
    pss_cons (ps_set (i := 9) sc_law_machine.nd rfl (Or.inr rfl) (pe_op op_mod (pe_callTy call_int1 (by rfl) T.b_int (by decide +kernel) (pa_cons (pe_ix ix_seq (pv 0) (pe_int) (fun _ _ => rfl)) (pa_nil))) (pv 3))) (
    pss_cut (ps_if (PW.pt (pw_and (pt_cmpR op_eq (pv 4) (pe_int) (nomark _)) (pw_and1 (pt_cmpR op_eq (pe_op op_mod (pe_callTy call_int1 (by rfl) T.b_int (by decide +kernel) (pa_cons (pe_ix ix_seq (pv 0) (pe_int) (fun _ _ => rfl)) (pa_nil))) (pe_int)) (pe_int) (nomark _))))) (pss_one (ps_asg (pe_not (pe_ix ix_seq (pe_ix ix_seq (pv 7) (pv 8) (fun _ _ => rfl)) (pv 9) (fun _ _ => rfl))) (pg_sub (pe_ix ix_seq (pv 7) (pv 8) (fun _ _ => rfl)) (pv 9) set_list))) (pss_nil)) (
    pss_cut (ps_if (PW.pt (pw_and (pt_cmpR op_eq (pv 4) (pe_int) (nomark _)) (pw_and1 (pt_cmpR op_eq (pe_op op_mod (pe_callTy call_int1 (by rfl) T.b_int (by decide +kernel) (pa_cons (pe_ix ix_seq (pv 0) (pe_int) (fun _ _ => rfl)) (pa_nil))) (pe_int)) (pe_int) (nomark _))))) (pss_one (ps_asg (pe_op op_mod (pe_op op_fdiv (pe_callTy call_int1 (by rfl) T.b_int (by decide +kernel) (pa_cons (pe_ix ix_seq (pv 0) (pe_int) (fun _ _ => rfl)) (pa_nil))) (pe_int)) (pv 2)) (pg_sub (pe_ix ix_seq (pv 6) (pv 8) (fun _ _ => rfl)) (pv 9) set_list))) (pss_nil)) (
    pss_cons (ps_set (i := 10) sc_law_machine.nd rfl (Or.inr rfl) (pe_listRg rfl (by rfl) T.b_list (prg_1 (by rfl) T.b_range (pv 2)))) (
    pss_cons (ps_for PassesOwn.never rfl (pi_range1 (by rfl) T.b_range (pa_cons (pv 2) (pa_nil))) (pg_name (i := 8) sc_law_machine.nd rfl (Or.inr rfl)) (pss_cons (ps_set (i := 17) sc_law_machine.nd rfl (Or.inl rfl) (pe_op op_add (pv 8) (pe_op op_mod (pe_callTy call_int1 (by rfl) T.b_int (by decide +kernel) (pa_cons (pe_ix ix_seq (pv 0) (pe_op op_add (pe_int) (pv 8)) (fun _ _ => rfl)) (pa_nil))) (pe_op op_sub (pv 2) (pv 8))))) (
    pss_cons (ps_set (i := 18) sc_law_machine.nd rfl (Or.inl rfl) (pe_ix ix_seq (pv 10) (pv 8) (fun _ _ => rfl))) (
    pss_cons (ps_asg (pe_ix ix_seq (pv 10) (pv 17) (fun _ _ => rfl)) (pg_sub (pv 10) (pv 8) set_list)) (
    pss_one (ps_asg (pv 18) (pg_sub (pv 10) (pv 17) set_list))))))) (
    pss_cons (ps_set (i := 11) sc_law_machine.nd rfl (Or.inr rfl) (pe_lc (own := [(("_law_s" : Str), 8)]) (g := gName 8) (by rfl) sc_law_machine.nd (pi_range1 (by rfl) T.b_range (pa_cons (pv 2) (pa_nil))) (blkOk_by (own := [(("_law_s" : Str), 8)]) (N := N_law_machine) (sc := defScope s_law_machine) (by decide +kernel)) (fun _ _ _ _ _ => pg_name (i := 8) sc_law_machine.nd rfl (Or.inl rfl)) (fun _ _ _ _ _ => pts_nil) (fun _ _ _ _ _ => pe_bm PySem.F.plainAttrs_list PySem.F.slot_list_index PySem.F.type_list_index mt_index (pv 10) (pa_cons (pv 8) (pa_nil))))) (
    pss_cons (ps_setLc (i := 12) (own := [(("_law_s" : Str), 8)]) (g := gName 8) (by rfl) sc_law_machine.nd rfl rfl (sw_true rfl rfl rfl (by decide +kernel)) (pi_range1 (by rfl) T.b_range (pa_cons (pv 2) (pa_nil))) (blkOk_by (own := [(("_law_s" : Str), 8)]) (N := N_law_machine) (sc := defScope s_law_machine) (by decide +kernel)) (fun _ _ _ _ _ => pg_name (i := 8) sc_law_machine.nd rfl (Or.inl rfl)) (fun _ _ _ _ _ => pts_nil) (fun _ _ _ _ _ => pe_lc (own := [(("_law_t" : Str), 17)]) (g := gName 17) (by rfl) sc_law_machine.nd (pi_list (pe_ix ix_seq (pv 6) (pe_ix ix_seq (pv 11) (pv 8) (fun _ _ => rfl)) (fun _ _ => rfl))) (blkOk_by (own := [(("_law_t" : Str), 17)]) (N := N_law_machine) (sc := ({ kind := .function, names := [(".0", .local), ("_law_s", .local), ("_law_names", .cell), ("_law_places", .cell), ("_law_targets", .cell)], isGenerator := false, isCoroutine := false, more := [] } : Scope)) (by decide +kernel)) (fun _ _ _ _ _ => pg_name (i := 17) sc_law_machine.nd rfl (Or.inl rfl)) (fun _ _ _ _ _ => pts_nil) (fun _ _ _ _ _ => pe_ix ix_seq (pv 10) (pv 17) (fun _ _ => rfl)))) (
    pss_cons (ps_setLc (i := 13) (own := [(("_law_s" : Str), 8)]) (g := gName 8) (by rfl) sc_law_machine.nd rfl rfl (sw_true rfl rfl rfl (by decide +kernel)) (pi_range1 (by rfl) T.b_range (pa_cons (pv 2) (pa_nil))) (blkOk_by (own := [(("_law_s" : Str), 8)]) (N := N_law_machine) (sc := defScope s_law_machine) (by decide +kernel)) (fun _ _ _ _ _ => pg_name (i := 8) sc_law_machine.nd rfl (Or.inl rfl)) (fun _ _ _ _ _ => pts_nil) (fun _ _ _ _ _ => pe_callTy call_list_of (by rfl) T.b_list (by decide +kernel) (pa_cons (pe_ix ix_seq (pv 7) (pe_ix ix_seq (pv 11) (pv 8) (fun _ _ => rfl)) (fun _ _ => rfl)) (pa_nil)))) (
    pss_one (ps_ret (pe_lst (pa_cons (pe_slice sl_str (pe_str) (po_none) (po_some (pv 3))) (pa_cons (pv 12) (pa_cons (pv 13) (pa_cons (pe_ix ix_seq (pv 10) (pe_op op_mod (pe_callTy call_int1 (by rfl) T.b_int (by decide +kernel) (pa_cons (pe_ix ix_seq (pv 0) (pe_int) (fun _ _ => rfl)) (pa_nil))) (pv 2)) (fun _ _ => rfl)) (pa_nil)))))))))))))))))))))))), entry (k := 2) (n := 18) (W := fun cls dd _ H => E cls dd H) (snd_x_law_machine k) rfl h (fun _ _ _ _ h => h)⟩
end
abbrev s_law_pairs : Stmt := top 26
abbrev N_law_pairs : List Str := ["_law_m", "_law_pairs_here", "_law_s", "_law_c"]
theorem sc_law_pairs : FnScope N_law_pairs ["_law_m"] (defScope s_law_pairs) := ⟨rfl, rfl, rfl, by decide +kernel, rfl, by decide +kernel, by decide +kernel⟩
section
variable {P : Program} {w : World} {K : PySem.W.Frag} {mg : Str → Option Value} {base : Heap}
theorem ok_law_pairs {f_law_pairs : Addr} {fd_law_pairs : FuncData} (F_law_pairs : Fun K "_law_pairs" "_law_pairs" s_law_pairs f_law_pairs fd_law_pairs) (T : Bt mg) (k : Kc (ct K mg))  : FnOk P w K mg base CX0 1 f_law_pairs fd_law_pairs ["_law_m"] (SpF (ct K mg) x_law_pairs) := by
  refine F_law_pairs.ok sc_law_pairs (fun vs H Q E h => SpF.len (n := 1) (fun as => xRun_len as) h) (fun cdv A outer s H vs Q E hr h => ?_)
  have hu := hu_of hr
  exact ⟨t_law_pairs (ct K mg), pss_cons (ps_set (i := 1) sc_law_pairs.nd rfl (Or.inl rfl) (pe_lst (pa_nil))) (
    pss_cons (ps_for PassesOwn.never rfl (pi_range1 (by rfl) T.b_range (pa_cons (pe_callB call_lenG (by rfl) T.b_len (by decide +kernel) (pa_cons (pe_ix ix_seq (pv 0) (pe_int) (fun _ _ => rfl)) (pa_nil))) (pa_nil))) (pg_name (i := 2) sc_law_pairs.nd rfl (Or.inl rfl)) (pss_one (ps_for PassesOwn.never rfl (pi_range1 (by rfl) T.b_range (pa_cons (pe_callB call_lenG (by rfl) T.b_len (by decide +kernel) (pa_cons (pe_ix ix_seq (pv 0) (pe_int) (fun _ _ => rfl)) (pa_nil))) (pa_nil))) (pg_name (i := 3) sc_law_pairs.nd rfl (Or.inl rfl)) (pss_one (ps_if (pt_val (pe_ix ix_seq (pe_ix ix_seq (pe_ix ix_seq (pv 0) (pe_int) (fun _ _ => rfl)) (pv 2) (fun _ _ => rfl)) (pv 3) (fun _ _ => rfl))) (pss_one (ps_expr (pe_bm PySem.F.plainAttrs_list PySem.F.slot_list_append PySem.F.type_list_append mt_append (pv 1) (pa_cons (pe_tup (pa_cons (pv 2) (pa_cons (pe_ix ix_seq (pe_ix ix_seq (pv 0) (pe_int) (fun _ _ => rfl)) (pv 3) (fun _ _ => rfl)) (pa_nil)))) (pa_nil))))) (pss_nil)))))) (
    pss_one (ps_ret (pv 1)))), entry (k := 1) (n := 3) (W := fun cls dd _ H => E cls dd H) (snd_x_law_pairs k) rfl h (fun _ _ _ _ h => h)⟩
end
abbrev s_flag_table : Stmt := top 19
abbrev N_flag_table : List Str := ["letters", "size", "pairs", "known", "marked", "state", "letter"]
theorem sc_flag_table : FnScope N_flag_table ["letters", "size", "pairs"] (defScope s_flag_table) := ⟨rfl, rfl, rfl, by decide +kernel, rfl, by decide +kernel, by decide +kernel⟩
section
variable {P : Program} {w : World} {K : PySem.W.Frag} {mg : Str → Option Value} {base : Heap}
theorem ok_flag_table {f_flag_table : Addr} {fd_flag_table : FuncData} (F_flag_table : Fun K "flag_table" "flag_table" s_flag_table f_flag_table fd_flag_table) (T : Bt mg) (k : Kc (ct K mg))  : FnOk P w K mg base CX0 1 f_flag_table fd_flag_table ["letters", "size", "pairs"] (SpF (ct K mg) x_flag_table) := by
  refine F_flag_table.ok sc_flag_table (fun vs H Q E h => SpF.len (n := 3) (fun as => xRun_len as) h) (fun cdv A outer s H vs Q E hr h => ?_)
  have hu := hu_of hr
  exact ⟨t_flag_table (ct K mg), pss_cons (ps_set (i := 3) sc_flag_table.nd rfl (Or.inr rfl) (pe_callTy (call_listT rfl) (by rfl) T.b_list (by decide +kernel) (pa_cons (pv 0) (pa_nil)))) (
    pss_cons (ps_set (i := 4) sc_flag_table.nd rfl (Or.inr rfl) pe_dnewT) (
    pss_cons (ps_for PassesOwn.never rfl (pi_list (pv 2)) (pg_tup rfl (pgs_cons (pg_name (i := 5) sc_flag_table.nd rfl (Or.inl rfl)) (pgs_cons (pg_name (i := 6) sc_flag_table.nd rfl (Or.inl rfl)) (pgs_nil)))) (pss_cons (ps_if (PW.pt (pw_or (pt_not (pt_chain op_le op_lt (pe_int) (pv 5) (pv 1))) (pw_or1 (pt_cmpR op_notIn_seq (pv 6) (pv 3) (by with_unfolding_all rfl))))) (pss_one (ps_never)) (pss_nil)) (
    pss_one (ps_dput hu (pv 4) (pe_tup (pa_cons (pv 5) (pa_cons (pv 6) (pa_nil)))) (pe_bl) rfl)))) (
    pss_one (ps_ret (pe_lc (own := [(("state" : Str), 5)]) (g := gName 5) (by rfl) sc_flag_table.nd (pi_range1 (by rfl) T.b_range (pa_cons (pv 1) (pa_nil))) (blkOk_by (own := [(("state" : Str), 5)]) (N := N_flag_table) (sc := defScope s_flag_table) (by decide +kernel)) (fun _ _ _ _ _ => pg_name (i := 5) sc_flag_table.nd rfl (Or.inr rfl)) (fun _ _ _ _ _ => pts_nil) (fun _ _ _ _ _ => pe_lc (own := [(("letter" : Str), 6)]) (g := gName 6) (by rfl) sc_flag_table.nd (pi_list (pv 3)) (blkOk_by (own := [(("letter" : Str), 6)]) (N := N_flag_table) (sc := ({ kind := .function, names := [(".0", .local), ("state", .cell), ("known", .cell), ("marked", .cell)], isGenerator := false, isCoroutine := false, more := [] } : Scope)) (by decide +kernel)) (fun _ _ _ _ _ => pg_name (i := 6) sc_flag_table.nd rfl (Or.inl rfl)) (fun _ _ _ _ _ => pts_nil) (fun _ _ _ _ _ => pe_cmp (pc_din hu (pe_tup (pa_cons (pv 5) (pa_cons (pv 6) (pa_nil)))) (pv 4)) (by with_unfolding_all rfl)))))))), entry (k := 3) (n := 4) (W := fun cls dd _ H => E cls dd H) (snd_x_flag_table k) rfl h (fun _ _ _ _ h => h)⟩
end
abbrev s_Wish_init : Stmt := inClass (top 22) 1
abbrev N_Wish_init : List Str := ["self", "letters", "targets", "marks", "start", "size", "row", "target"]
theorem sc_Wish_init : FnScope N_Wish_init ["self", "letters", "targets", "marks", "start"] (defScope s_Wish_init) := ⟨rfl, rfl, rfl, by decide +kernel, rfl, by decide +kernel, by decide +kernel⟩
section
variable {P : Program} {w : World} {K : PySem.W.Frag} {mg : Str → Option Value} {base : Heap}
theorem ok_Wish_init {f_Wish_init c_empty : Addr} {fd_Wish_init : FuncData} (F_Wish_init : FunD K "__init__" "Wish.__init__" (defArgs s_Wish_init) (defBody s_Wish_init) (defScope s_Wish_init) [.ref c_empty] [("start", .int 0)] f_Wish_init fd_Wish_init) (T : Bt mg) (k : Kc (ct K mg)) (g_ALPHABETS : mg "ALPHABETS" = some (.ref (cnOf mg "ALPHABETS"))) (g_MOST_STATES_wishes : ∃ t, mg "MOST_STATES_wishes" = some (.int 8 t)) (c_flag_table : Cal P w K mg base "flag_table" 1 ["letters", "size", "pairs"] (SpF (ct K mg) x_flag_table)) : FnOk P w K mg base CX0 2 f_Wish_init fd_Wish_init ["self", "letters", "targets", "marks", "start"] (SpF (ct K mg) x_Wish_init) := by
  refine F_Wish_init.ok sc_Wish_init (fun vs H Q E h => SpF.len (n := 5) (fun as => xRun_len as) h) (fun cdv A outer s H vs Q E hr h => ?_)
  have hu := hu_of hr
  exact ⟨t_Wish_init (ct K mg), PSs.nox (pss_cons (ps_set (i := 5) sc_Wish_init.nd rfl (Or.inl rfl) (pe_callB call_lenG (by rfl) T.b_len (by decide +kernel) (pa_cons (pv 2) (pa_nil)))) (
    pss_cons (ps_if (PW.pt (pw_or (pt_cmpR op_notIn_seq (pv 1) (pe_glob rfl g_ALPHABETS rfl) (by with_unfolding_all rfl)) (pw_or (pt_not (pt_chain op_le op_le (pe_int) (pv 5) (pe_globI rfl g_MOST_STATES_wishes))) (pw_or1 (pt_not (pt_chain op_le op_lt (pe_int) (pv 4) (pv 5))))))) (pss_one (ps_never)) (pss_nil)) (
    pss_cons (ps_for PassesOwn.never rfl (pi_list (pv 2)) (pg_name (i := 6) sc_Wish_init.nd rfl (Or.inl rfl)) (pss_cons (ps_if (pt_cmpR op_ne (pe_callB call_lenG (by rfl) T.b_len (by decide +kernel) (pa_cons (pv 6) (pa_nil))) (pe_callB call_lenG (by rfl) T.b_len (by decide +kernel) (pa_cons (pv 1) (pa_nil))) (nomark _)) (pss_one (ps_never)) (pss_nil)) (
    pss_one (ps_for PassesOwn.never rfl (pi_list (pv 6)) (pg_name (i := 7) sc_Wish_init.nd rfl (Or.inl rfl)) (pss_one (ps_if (pt_not (pt_chain op_le op_lt (pe_int) (pv 7) (pv 5))) (pss_one (ps_never)) (pss_nil))))))) (
    pss_cons (ps_fld (pv 0) (pe_cal c_flag_table (hr.mono (by decide)) rfl (pa_cons (pv 1) (pa_cons (pv 5) (pa_cons (pv 3) (pa_nil))))) rfl) (
    pss_cons (ps_fld (pv 0) (pv 1) rfl) (
    pss_cons (ps_fld (pv 0) (pv 5) rfl) (
    pss_cons (ps_fld (pv 0) (pv 4) rfl) (
    pss_one (ps_fld (pv 0) (pe_lc (own := [(("row" : Str), 6)]) (g := gName 6) (by rfl) sc_Wish_init.nd (pi_list (pv 2)) (blkOk_by (own := [(("row" : Str), 6)]) (N := N_Wish_init) (sc := defScope s_Wish_init) (by decide +kernel)) (fun _ _ _ _ _ => pg_name (i := 6) sc_Wish_init.nd rfl (Or.inl rfl)) (fun _ _ _ _ _ => pts_nil) (fun _ _ _ _ _ => pe_callTy call_list_of (by rfl) T.b_list (by decide +kernel) (pa_cons (pv 6) (pa_nil)))) rfl))))))))), entry (k := 5) (n := 3) (W := fun cls dd _ H => E cls dd H) (snd_x_Wish_init k) rfl h (fun _ _ _ _ h => h)⟩
end
abbrev s_law_made : Stmt := top 27
abbrev N_law_made : List Str := ["_law_m", "_law_row"]
theorem sc_law_made : FnScope N_law_made ["_law_m"] (defScope s_law_made) := ⟨rfl, rfl, rfl, by decide +kernel, rfl, by decide +kernel, by decide +kernel⟩
section
variable {P : Program} {w : World} {K : PySem.W.Frag} {mg : Str → Option Value} {base : Heap}
theorem ok_law_made {f_law_made : Addr} {fd_law_made : FuncData} (F_law_made : Fun K "_law_made" "_law_made" s_law_made f_law_made fd_law_made) (T : Bt mg) (k : Kc (ct K mg)) (c_law_pairs : Cal P w K mg base "_law_pairs" 1 ["_law_m"] (SpF (ct K mg) x_law_pairs)) (k_Wish_3_start : KCal P w K mg base "Wish" (cnOf mg "Wish") 2 3 ["self", "letters", "targets", "marks", "start"] ["start"] (SpF (ct K mg) x_Wish_init)) : FnOk P w K mg base CX0 4 f_law_made fd_law_made ["_law_m"] (SpF (ct K mg) x_law_made) := by
  refine F_law_made.ok sc_law_made (fun vs H Q E h => SpF.len (n := 1) (fun as => xRun_len as) h) (fun cdv A outer s H vs Q E hr h => ?_)
  have hu := hu_of hr
  exact ⟨t_law_made (ct K mg), pss_one (ps_ret (pe_kcal k_Wish_3_start (hr.mono (by decide)) rfl (pa_cons (pe_ix ix_seq (pv 0) (pe_int) (fun _ _ => rfl)) (pa_cons (pe_lc (own := [(("_law_row" : Str), 1)]) (g := gName 1) (by rfl) sc_law_made.nd (pi_list (pe_ix ix_seq (pv 0) (pe_int) (fun _ _ => rfl))) (blkOk_by (own := [(("_law_row" : Str), 1)]) (N := N_law_made) (sc := defScope s_law_made) (by decide +kernel)) (fun _ _ _ _ _ => pg_name (i := 1) sc_law_made.nd rfl (Or.inl rfl)) (fun _ _ _ _ _ => pts_nil) (fun _ _ _ _ _ => pe_callTy call_list_of (by rfl) T.b_list (by decide +kernel) (pa_cons (pv 1) (pa_nil)))) (pa_cons (pe_cal c_law_pairs (hr.mono (by decide)) rfl (pa_cons (pv 0) (pa_nil))) (pa_nil)))) (pk_cons (pe_ix ix_seq (pv 0) (pe_int) (fun _ _ => rfl)) (pk_nil)))), entry (k := 1) (n := 1) (W := fun cls dd _ H => E cls dd H) (snd_x_law_made k) rfl h (fun _ _ _ _ h => h)⟩
end
abbrev s_law_word : Stmt := top 29
abbrev N_law_word : List Str := ["_law_row", "_law_letters", "_law_top", "_law_size", "_law_k"]
theorem sc_law_word : FnScope N_law_word ["_law_row", "_law_letters", "_law_top"] (defScope s_law_word) := ⟨rfl, rfl, rfl, by decide +kernel, rfl, by decide +kernel, by decide +kernel⟩
section
variable {P : Program} {w : World} {K : PySem.W.Frag} {mg : Str → Option Value} {base : Heap}
theorem ok_law_word {f_law_word : Addr} {fd_law_word : FuncData} (F_law_word : Fun K "_law_word" "_law_word" s_law_word f_law_word fd_law_word) (T : Bt mg) (k : Kc (ct K mg))  : FnOk P w K mg base CX0 1 f_law_word fd_law_word ["_law_row", "_law_letters", "_law_top"] (SpF (ct K mg) x_law_word) := by
  refine F_law_word.ok sc_law_word (fun vs H Q E h => SpF.len (n := 3) (fun as => xRun_len as) h) (fun cdv A outer s H vs Q E hr h => ?_)
  have hu := hu_of hr
  exact ⟨t_law_word (ct K mg), pss_cons (ps_set (i := 3) sc_law_word.nd rfl (Or.inl rfl) (pe_op op_mod (pe_callTy call_int1 (by rfl) T.b_int (by decide +kernel) (pa_cons (pe_ix ix_seq (pv 0) (pe_int) (fun _ _ => rfl)) (pa_nil))) (pe_op op_add (pv 2) (pe_int)))) (
    pss_one (ps_ret (pe_join (pe_str) (pe_lc (own := [(("_law_k" : Str), 4)]) (g := gName 4) (by rfl) sc_law_word.nd (pi_range1 (by rfl) T.b_range (pa_cons (pv 3) (pa_nil))) (blkOk_by (own := [(("_law_k" : Str), 4)]) (N := N_law_word) (sc := defScope s_law_word) (by decide +kernel)) (fun _ _ _ _ _ => pg_name (i := 4) sc_law_word.nd rfl (Or.inl rfl)) (fun _ _ _ _ _ => pts_nil) (fun _ _ _ _ _ => pe_ix ix_seq (pv 1) (pe_op op_mod (pe_callTy call_int1 (by rfl) T.b_int (by decide +kernel) (pa_cons (pe_ix ix_seq (pv 0) (pe_op op_add (pe_int) (pv 4)) (fun _ _ => rfl)) (pa_nil))) (pe_callB call_lenG (by rfl) T.b_len (by decide +kernel) (pa_cons (pv 1) (pa_nil)))) (fun _ _ => rfl)))))), entry (k := 3) (n := 2) (W := fun cls dd _ H => E cls dd H) (snd_x_law_word k) rfl h (fun _ _ _ _ h => h)⟩
end
abbrev s_law_lap : Stmt := top 30
abbrev N_law_lap : List Str := ["_law_m", "_law_state", "_law_word_here", "_law_seen", "_law_letter", "_law_c"]
theorem sc_law_lap : FnScope N_law_lap ["_law_m", "_law_state", "_law_word_here"] (defScope s_law_lap) := ⟨rfl, rfl, rfl, by decide +kernel, rfl, by decide +kernel, by decide +kernel⟩
section
variable {P : Program} {w : World} {K : PySem.W.Frag} {mg : Str → Option Value} {base : Heap}
theorem ok_law_lap {f_law_lap : Addr} {fd_law_lap : FuncData} (F_law_lap : Fun K "_law_lap" "_law_lap" s_law_lap f_law_lap fd_law_lap) (T : Bt mg) (k : Kc (ct K mg))  : FnOk P w K mg base CX0 1 f_law_lap fd_law_lap ["_law_m", "_law_state", "_law_word_here"] (SpF (ct K mg) x_law_lap) := by
  refine F_law_lap.ok sc_law_lap (fun vs H Q E h => SpF.len (n := 3) (fun as => xRun_len as) h) (fun cdv A outer s H vs Q E hr h => ?_)
  have hu := hu_of hr
  exact ⟨t_law_lap (ct K mg), pss_cons (ps_set (i := 3) sc_law_lap.nd rfl (Or.inl rfl) (pe_bl)) (
    pss_cons (ps_for PassesOwn.never rfl (pi_str (pv 2)) (pg_name (i := 4) sc_law_lap.nd rfl (Or.inl rfl)) (pss_cons (ps_set (i := 5) sc_law_lap.nd rfl (Or.inl rfl) (pe_bm PySem.F.plainAttrs_str PySem.F.slot_str_index PySem.F.type_str_index mt_sindex (pe_str) (pa_cons (pv 4) (pa_nil)))) (
    pss_cons (ps_set (i := 3) sc_law_lap.nd rfl (Or.inl rfl) (pe_or (pv 3) (pe_one (pe_ix ix_seq (pe_ix ix_seq (pe_ix ix_seq (pv 0) (pe_int) (fun _ _ => rfl)) (pv 1) (fun _ _ => rfl)) (pv 5) (fun _ _ => rfl))))) (
    pss_one (ps_set (i := 1) sc_law_lap.nd rfl (Or.inl rfl) (pe_ix ix_seq (pe_ix ix_seq (pe_ix ix_seq (pv 0) (pe_int) (fun _ _ => rfl)) (pv 1) (fun _ _ => rfl)) (pv 5) (fun _ _ => rfl))))))) (
    pss_one (ps_ret (pe_lst (pa_cons (pv 1) (pa_cons (pv 3) (pa_nil))))))), entry (k := 3) (n := 3) (W := fun cls dd _ H => E cls dd H) (snd_x_law_lap k) rfl h (fun _ _ _ _ h => h)⟩
end
abbrev s_Wish_marks : Stmt := inClass (top 22) 8
abbrev N_Wish_marks : List Str := ["self", "columns", "state", "k", "letter"]
theorem sc_Wish_marks : FnScope N_Wish_marks ["self"] (defScope s_Wish_marks) := ⟨rfl, rfl, rfl, by decide +kernel, rfl, by decide +kernel, by decide +kernel⟩
section
variable {P : Program} {w : World} {K : PySem.W.Frag} {mg : Str → Option Value} {base : Heap}
theorem ok_Wish_marks {f_Wish_marks : Addr} {fd_Wish_marks : FuncData} (F_Wish_marks : Fun K "marks" "Wish.marks" s_Wish_marks f_Wish_marks fd_Wish_marks) (T : Bt mg) (k : Kc (ct K mg))  : FnOk P w K mg base CX0 1 f_Wish_marks fd_Wish_marks ["self"] (SpF (ct K mg) x_Wish_marks) := by
  refine F_Wish_marks.ok sc_Wish_marks (fun vs H Q E h => SpF.len (n := 1) (fun as => xRun_len as) h) (fun cdv A outer s H vs Q E hr h => ?_)
  have hu := hu_of hr
  exact ⟨t_Wish_marks (ct K mg), pss_cons (ps_set (i := 1) sc_Wish_marks.nd rfl (Or.inr rfl) (pe_listEnumS rfl T.b_list rfl T.b_enumerate rfl (pe_fld (pv 0) rfl))) (
    pss_one (ps_ret (pe_lc2 (own := [(("state" : Str), 2), (("k" : Str), 3), (("letter" : Str), 4)]) (vs1 := [3, 4]) (g := gName 2) (g1 := gTup K 2 (gCons (gName 3) (gCons (gName 4) (gNil)))) rfl sc_Wish_marks.nd (pi_range1 (by rfl) T.b_range (pa_cons (pe_fld (pv 0) rfl) (pa_nil))) (blkOk_by (own := [(("state" : Str), 2), (("k" : Str), 3), (("letter" : Str), 4)]) (N := N_Wish_marks) (sc := defScope s_Wish_marks) (by decide +kernel)) (by decide) (fun _ _ _ _ _ => pg_name (i := 2) sc_Wish_marks.nd rfl (Or.inl rfl)) (fun _ _ _ _ _ => pts_nil) (fun _ _ _ _ _ => pi_list (pv 1)) (fun _ _ _ _ _ => pg_tup rfl (pgs_cons (pg_name (i := 3) sc_Wish_marks.nd rfl (Or.inl rfl)) (pgs_cons (pg_name (i := 4) sc_Wish_marks.nd rfl (Or.inl rfl)) (pgs_nil)))) (fun _ _ _ _ _ => pts_one (pt_val (pe_ix ix_seq (pe_ix ix_seq (pe_fld (pv 0) rfl) (pv 2) (fun _ _ => rfl)) (pv 3) (fun _ _ => rfl)))) (fun _ _ _ _ _ => pe_tup (pa_cons (pv 2) (pa_cons (pv 4) (pa_nil))))))), entry (k := 1) (n := 4) (W := fun cls dd _ H => E cls dd H) (snd_x_Wish_marks k) rfl h (fun _ _ _ _ h => h)⟩
end
abbrev s_Wish_lap : Stmt := inClass (top 22) 11
abbrev N_Wish_lap : List Str := ["self", "state", "word", "seen", "letter", "column"]
theorem sc_Wish_lap : FnScope N_Wish_lap ["self", "state", "word"] (defScope s_Wish_lap) := ⟨rfl, rfl, rfl, by decide +kernel, rfl, by decide +kernel, by decide +kernel⟩
section
variable {P : Program} {w : World} {K : PySem.W.Frag} {mg : Str → Option Value} {base : Heap}
theorem ok_Wish_lap {f_Wish_lap : Addr} {fd_Wish_lap : FuncData} (F_Wish_lap : Fun K "lap" "Wish.lap" s_Wish_lap f_Wish_lap fd_Wish_lap) (T : Bt mg) (k : Kc (ct K mg))  : FnOk P w K mg base CX0 1 f_Wish_lap fd_Wish_lap ["self", "state", "word"] (SpF (ct K mg) x_Wish_lap) := by
  refine F_Wish_lap.ok sc_Wish_lap (fun vs H Q E h => SpF.len (n := 3) (fun as => xRun_len as) h) (fun cdv A outer s H vs Q E hr h => ?_)
  have hu := hu_of hr
  exact ⟨t_Wish_lap (ct K mg), pss_cons (ps_set (i := 3) sc_Wish_lap.nd rfl (Or.inl rfl) (pe_bl)) (
    pss_cons (ps_for PassesOwn.never rfl (pi_str (pv 2)) (pg_name (i := 4) sc_Wish_lap.nd rfl (Or.inl rfl)) (pss_cons (ps_if (pt_cmpR op_notInS (pv 4) (pe_fld (pv 0) rfl) (by with_unfolding_all rfl)) (pss_one (ps_never)) (pss_nil)) (
    pss_cons (ps_set (i := 5) sc_Wish_lap.nd rfl (Or.inl rfl) (pe_bm PySem.F.plainAttrs_str PySem.F.slot_str_index PySem.F.type_str_index mt_sindex (pe_fld (pv 0) rfl) (pa_cons (pv 4) (pa_nil)))) (
    pss_cons (ps_set (i := 3) sc_Wish_lap.nd rfl (Or.inl rfl) (pe_or (pv 3) (pe_one (pe_ix ix_seq (pe_ix ix_seq (pe_fld (pv 0) rfl) (pv 1) (fun _ _ => rfl)) (pv 5) (fun _ _ => rfl))))) (
    pss_one (ps_set (i := 1) sc_Wish_lap.nd rfl (Or.inl rfl) (pe_ix ix_seq (pe_ix ix_seq (pe_fld (pv 0) rfl) (pv 1) (fun _ _ => rfl)) (pv 5) (fun _ _ => rfl)))))))) (
    pss_one (ps_ret (pe_tup (pa_cons (pv 1) (pa_cons (pv 3) (pa_nil))))))), entry (k := 3) (n := 3) (W := fun cls dd _ H => E cls dd H) (snd_x_Wish_lap k) rfl h (fun _ _ _ _ h => h)⟩
end
abbrev s_Wish_reach : Stmt := inClass (top 22) 12
abbrev N_Wish_reach : List Str := ["self", "word"]
theorem sc_Wish_reach : FnScope N_Wish_reach ["self", "word"] (defScope s_Wish_reach) := ⟨rfl, rfl, rfl, by decide +kernel, rfl, by decide +kernel, by decide +kernel⟩
section
variable {P : Program} {w : World} {K : PySem.W.Frag} {mg : Str → Option Value} {base : Heap}
theorem ok_Wish_reach {f_Wish_reach : Addr} {fd_Wish_reach : FuncData} (F_Wish_reach : Fun K "reach" "Wish.reach" s_Wish_reach f_Wish_reach fd_Wish_reach) (T : Bt mg) (k : Kc (ct K mg)) (q_Wish_lap : MCal P w K mg base (cnOf mg "Wish") "lap" 1 ["self", "state", "word"] (SpF (ct K mg) x_Wish_lap)) : FnOk P w K mg base CX0 2 f_Wish_reach fd_Wish_reach ["self", "word"] (SpF (ct K mg) x_Wish_reach) := by
  refine F_Wish_reach.ok sc_Wish_reach (fun vs H Q E h => SpF.len (n := 2) (fun as => xRun_len as) h) (fun cdv A outer s H vs Q E hr h => ?_)
  have hu := hu_of hr
  exact ⟨t_Wish_reach (ct K mg), pss_one (ps_ret (pe_ix ix_seq (pe_mcal (pv 0) k.cl_Wish q_Wish_lap (hr.mono (by decide)) (pa_cons (pe_fld (pv 0) rfl) (pa_cons (pv 1) (pa_nil)))) (pe_int) (fun _ _ => rfl))), entry (k := 2) (n := 0) (W := fun cls dd _ H => E cls dd H) (snd_x_Wish_reach k) rfl h (fun _ _ _ _ h => h)⟩
end
abbrev s_Wish_rshift : Stmt := inClass (top 22) 13
abbrev N_Wish_rshift : List Str := ["self", "word"]
theorem sc_Wish_rshift : FnScope N_Wish_rshift ["self", "word"] (defScope s_Wish_rshift) := ⟨rfl, rfl, rfl, by decide +kernel, rfl, by decide +kernel, by decide +kernel⟩
section
variable {P : Program} {w : World} {K : PySem.W.Frag} {mg : Str → Option Value} {base : Heap}
theorem ok_Wish_rshift {f_Wish_rshift : Addr} {fd_Wish_rshift : FuncData} (F_Wish_rshift : Fun K "__rshift__" "Wish.__rshift__" s_Wish_rshift f_Wish_rshift fd_Wish_rshift) (T : Bt mg) (k : Kc (ct K mg)) (pq_Wish_marks : PCal P w K mg base (cnOf mg "Wish") "marks" 1 ["self"] (SpF (ct K mg) x_Wish_marks)) (k_Wish_3_start : KCal P w K mg base "Wish" (cnOf mg "Wish") 2 3 ["self", "letters", "targets", "marks", "start"] ["start"] (SpF (ct K mg) x_Wish_init)) (q_Wish_reach : MCal P w K mg base (cnOf mg "Wish") "reach" 2 ["self", "word"] (SpF (ct K mg) x_Wish_reach)) : FnOk P w K mg base CX0 4 f_Wish_rshift fd_Wish_rshift ["self", "word"] (SpF (ct K mg) x_Wish_rshift) := by
  refine F_Wish_rshift.ok sc_Wish_rshift (fun vs H Q E h => SpF.len (n := 2) (fun as => xRun_len as) h) (fun cdv A outer s H vs Q E hr h => ?_)
  have hu := hu_of hr
  exact ⟨t_Wish_rshift (ct K mg), pss_one (ps_ret (pe_kcal k_Wish_3_start (hr.mono (by decide)) rfl (pa_cons (pe_fld (pv 0) rfl) (pa_cons (pe_fld (pv 0) rfl) (pa_cons (pe_pcal (pv 0) k.cl_Wish pq_Wish_marks (hr.mono (by decide)) rfl) (pa_nil)))) (pk_cons (pe_mcal (pv 0) k.cl_Wish q_Wish_reach (hr.mono (by decide)) (pa_cons (pv 1) (pa_nil))) (pk_nil)))), entry (k := 2) (n := 0) (W := fun cls dd _ H => E cls dd H) (snd_x_Wish_rshift k) rfl h (fun _ _ _ _ h => h)⟩
end
abbrev s_Wish_text : Stmt := inClass (top 22) 3
abbrev N_Wish_text : List Str := ["self", "lines", "state", "line", "target", "marked"]
theorem sc_Wish_text : FnScope N_Wish_text ["self"] (defScope s_Wish_text) := ⟨rfl, rfl, rfl, by decide +kernel, rfl, by decide +kernel, by decide +kernel⟩
section
variable {P : Program} {w : World} {K : PySem.W.Frag} {mg : Str → Option Value} {base : Heap}
theorem ok_Wish_text {f_Wish_text : Addr} {fd_Wish_text : FuncData} (F_Wish_text : Fun K "text" "Wish.text" s_Wish_text f_Wish_text fd_Wish_text) (T : Bt mg) (k : Kc (ct K mg))  : FnOk P w K mg base CX0 1 f_Wish_text fd_Wish_text ["self"] (SpF (ct K mg) x_Wish_text) := by
  refine F_Wish_text.ok sc_Wish_text (fun vs H Q E h => SpF.len (n := 1) (fun as => xRun_len as) h) (fun cdv A outer s H vs Q E hr h => ?_)
  have hu := hu_of hr
  exact ⟨t_Wish_text (ct K mg), pss_cons (ps_set (i := 1) sc_Wish_text.nd rfl (Or.inl rfl) (pe_lst (pa_cons (pe_op op_add_str (pe_str) (pe_fld (pv 0) rfl)) (pa_cons (pe_op op_add_str (pe_str) (pe_callTy call_str_int (by rfl) T.b_str (by decide +kernel) (pa_cons (pe_fld (pv 0) rfl) (pa_nil)))) (pa_nil))))) (
    pss_cons (ps_for PassesOwn.never rfl (pi_range1 (by rfl) T.b_range (pa_cons (pe_fld (pv 0) rfl) (pa_nil))) (pg_name (i := 2) sc_Wish_text.nd rfl (Or.inl rfl)) (pss_cons (ps_set (i := 3) sc_Wish_text.nd rfl (Or.inl rfl) (pe_op op_add_str (pe_callTy call_str_int (by rfl) T.b_str (by decide +kernel) (pa_cons (pv 2) (pa_nil))) (pe_str))) (
    pss_cons (ps_for PassesOwn.never rfl (pi_zip (by rfl) T.b_zip (pa_cons (pe_ix ix_seq (pe_fld (pv 0) rfl) (pv 2) (fun _ _ => rfl)) (pa_cons (pe_ix ix_seq (pe_fld (pv 0) rfl) (pv 2) (fun _ _ => rfl)) (pa_nil)))) (pg_tup rfl (pgs_cons (pg_name (i := 4) sc_Wish_text.nd rfl (Or.inl rfl)) (pgs_cons (pg_name (i := 5) sc_Wish_text.nd rfl (Or.inl rfl)) (pgs_nil)))) (pss_one (ps_aug (i := 3) sc_Wish_text.nd rfl (Or.inl rfl) (pe_op op_add_str (pe_op op_add_str (pe_str) (pe_callTy call_str_int (by rfl) T.b_str (by decide +kernel) (pa_cons (pv 4) (pa_nil)))) (pe_op op_mulS (pe_str) (pe_callTy call_int1 (by rfl) T.b_int (by decide +kernel) (pa_cons (pv 5) (pa_nil))))) in_addS))) (
    pss_one (ps_expr (pe_bm PySem.F.plainAttrs_list PySem.F.slot_list_append PySem.F.type_list_append mt_append (pv 1) (pa_cons (pv 3) (pa_nil)))))))) (
    pss_one (ps_ret (pe_join (pe_str) (pv 1))))), entry (k := 1) (n := 5) (W := fun cls dd _ H => E cls dd H) (snd_x_Wish_text k) rfl h (fun _ _ _ _ h => h)⟩
end
abbrev s_law_text : Stmt := top 28
abbrev N_law_text : List Str := ["_law_m", "_law_lines", "_law_s", "_law_line", "_law_c"]
theorem sc_law_text : FnScope N_law_text ["_law_m"] (defScope s_law_text) := ⟨rfl, rfl, rfl, by decide +kernel, rfl, by decide +kernel, by decide +kernel⟩
section
variable {P : Program} {w : World} {K : PySem.W.Frag} {mg : Str → Option Value} {base : Heap}
theorem ok_law_text {f_law_text : Addr} {fd_law_text : FuncData} (F_law_text : Fun K "_law_text" "_law_text" s_law_text f_law_text fd_law_text) (T : Bt mg) (k : Kc (ct K mg))  : FnOk P w K mg base CX0 1 f_law_text fd_law_text ["_law_m"] (SpF (ct K mg) x_law_text) := by
  refine F_law_text.ok sc_law_text (fun vs H Q E h => SpF.len (n := 1) (fun as => xRun_len as) h) (fun cdv A outer s H vs Q E hr h => ?_)
  have hu := hu_of hr
  exact ⟨t_law_text (ct K mg), pss_cons (ps_set (i := 1) sc_law_text.nd rfl (Or.inl rfl) (pe_lst (pa_cons (pe_op op_add_str (pe_str) (pe_ix ix_seq (pv 0) (pe_int) (fun _ _ => rfl))) (pa_cons (pe_op op_add_str (pe_str) (pe_callTy call_str_int (by rfl) T.b_str (by decide +kernel) (pa_cons (pe_ix ix_seq (pv 0) (pe_int) (fun _ _ => rfl)) (pa_nil)))) (pa_nil))))) (
    pss_cons (ps_for PassesOwn.never rfl (pi_range1 (by rfl) T.b_range (pa_cons (pe_callB call_lenG (by rfl) T.b_len (by decide +kernel) (pa_cons (pe_ix ix_seq (pv 0) (pe_int) (fun _ _ => rfl)) (pa_nil))) (pa_nil))) (pg_name (i := 2) sc_law_text.nd rfl (Or.inl rfl)) (pss_cons (ps_set (i := 3) sc_law_text.nd rfl (Or.inl rfl) (pe_op op_add_str (pe_callTy call_str_int (by rfl) T.b_str (by decide +kernel) (pa_cons (pv 2) (pa_nil))) (pe_str))) (
    pss_cons (ps_for PassesOwn.never rfl (pi_range1 (by rfl) T.b_range (pa_cons (pe_callB call_lenG (by rfl) T.b_len (by decide +kernel) (pa_cons (pe_ix ix_seq (pv 0) (pe_int) (fun _ _ => rfl)) (pa_nil))) (pa_nil))) (pg_name (i := 4) sc_law_text.nd rfl (Or.inl rfl)) (pss_one (ps_set (i := 3) sc_law_text.nd rfl (Or.inl rfl) (pe_op op_add_str (pe_op op_add_str (pe_op op_add_str (pv 3) (pe_str)) (pe_callTy call_str_int (by rfl) T.b_str (by decide +kernel) (pa_cons (pe_ix ix_seq (pe_ix ix_seq (pe_ix ix_seq (pv 0) (pe_int) (fun _ _ => rfl)) (pv 2) (fun _ _ => rfl)) (pv 4) (fun _ _ => rfl)) (pa_nil)))) (pe_op op_mulS (pe_str) (pe_callTy call_int1 (by rfl) T.b_int (by decide +kernel) (pa_cons (pe_ix ix_seq (pe_ix ix_seq (pe_ix ix_seq (pv 0) (pe_int) (fun _ _ => rfl)) (pv 2) (fun _ _ => rfl)) (pv 4) (fun _ _ => rfl)) (pa_nil)))))))) (
    pss_one (ps_expr (pe_bm PySem.F.plainAttrs_list PySem.F.slot_list_append PySem.F.type_list_append mt_append (pv 1) (pa_cons (pv 3) (pa_nil)))))))) (
    pss_one (ps_ret (pe_join (pe_str) (pv 1))))), entry (k := 1) (n := 4) (W := fun cls dd _ H => E cls dd H) (snd_x_law_text k) rfl h (fun _ _ _ _ h => h)⟩
end
abbrev s_law_good : Stmt := top 31
abbrev N_law_good : List Str := ["_law_m", "_law_state", "_law_stem", "_law_loop", "_law_k", "_law_seen", "_law_told"]
theorem sc_law_good : FnScope N_law_good ["_law_m", "_law_state", "_law_stem", "_law_loop"] (defScope s_law_good) := ⟨rfl, rfl, rfl, by decide +kernel, rfl, by decide +kernel, by decide +kernel⟩
section
variable {P : Program} {w : World} {K : PySem.W.Frag} {mg : Str → Option Value} {base : Heap}
theorem ok_law_good {f_law_good : Addr} {fd_law_good : FuncData} (F_law_good : Fun K "_law_good" "_law_good" s_law_good f_law_good fd_law_good) (T : Bt mg) (k : Kc (ct K mg)) (c_law_lap : Cal P w K mg base "_law_lap" 1 ["_law_m", "_law_state", "_law_word_here"] (SpF (ct K mg) x_law_lap)) : FnOk P w K mg base CX0 2 f_law_good fd_law_good ["_law_m", "_law_state", "_law_stem", "_law_loop"] (SpF (ct K mg) x_law_good) := by
  refine F_law_good.ok sc_law_good (fun vs H Q E h => SpF.len (n := 4) (fun as => xRun_len as) h) (fun cdv A outer s H vs Q E hr h => ?_)
  have hu := hu_of hr
  exact ⟨t_law_good (ct K mg), pss_cons (ps_set (i := 1) sc_law_good.nd rfl (Or.inl rfl) (pe_ix ix_seq (pe_cal c_law_lap (hr.mono (by decide)) rfl (pa_cons (pv 0) (pa_cons (pv 1) (pa_cons (pv 2) (pa_nil))))) (pe_int) (fun _ _ => rfl))) (
    pss_cons (ps_for PassesOwn.never rfl (pi_range1 (by rfl) T.b_range (pa_cons (pe_callB call_lenG (by rfl) T.b_len (by decide +kernel) (pa_cons (pe_ix ix_seq (pv 0) (pe_int) (fun _ _ => rfl)) (pa_nil))) (pa_nil))) (pg_name (i := 4) sc_law_good.nd rfl (Or.inl rfl)) (pss_one (ps_set (i := 1) sc_law_good.nd rfl (Or.inl rfl) (pe_ix ix_seq (pe_cal c_law_lap (hr.mono (by decide)) rfl (pa_cons (pv 0) (pa_cons (pv 1) (pa_cons (pv 3) (pa_nil))))) (pe_int) (fun _ _ => rfl))))) (
    pss_cons (ps_set (i := 5) sc_law_good.nd rfl (Or.inl rfl) (pe_bl)) (
    pss_cons (ps_for PassesOwn.never rfl (pi_range1 (by rfl) T.b_range (pa_cons (pe_callB call_lenG (by rfl) T.b_len (by decide +kernel) (pa_cons (pe_ix ix_seq (pv 0) (pe_int) (fun _ _ => rfl)) (pa_nil))) (pa_nil))) (pg_name (i := 4) sc_law_good.nd rfl (Or.inl rfl)) (pss_cons (ps_set (i := 6) sc_law_good.nd rfl (Or.inl rfl) (pe_cal c_law_lap (hr.mono (by decide)) rfl (pa_cons (pv 0) (pa_cons (pv 1) (pa_cons (pv 3) (pa_nil)))))) (
    pss_cons (ps_set (i := 1) sc_law_good.nd rfl (Or.inl rfl) (pe_ix ix_seq (pv 6) (pe_int) (fun _ _ => rfl))) (
    pss_one (ps_set (i := 5) sc_law_good.nd rfl (Or.inl rfl) (pe_or (pv 5) (pe_one (pe_ix ix_seq (pv 6) (pe_int) (fun _ _ => rfl))))))))) (
    pss_one (ps_ret (pv 5)))))), entry (k := 4) (n := 3) (W := fun cls dd _ H => E cls dd H) (snd_x_law_good k) rfl h (fun _ _ _ _ h => h)⟩
end
abbrev s_Wish_contains : Stmt := inClass (top 22) 14
abbrev N_Wish_contains : List Str := ["self", "lasso", "state", "seen", "count", "stem", "loop", "marked"]
theorem sc_Wish_contains : FnScope N_Wish_contains ["self", "lasso"] (defScope s_Wish_contains) := ⟨rfl, rfl, rfl, by decide +kernel, rfl, by decide +kernel, by decide +kernel⟩
section
variable {P : Program} {w : World} {K : PySem.W.Frag} {mg : Str → Option Value} {base : Heap}
theorem ok_Wish_contains {f_Wish_contains : Addr} {fd_Wish_contains : FuncData} (F_Wish_contains : Fun K "__contains__" "Wish.__contains__" s_Wish_contains f_Wish_contains fd_Wish_contains) (T : Bt mg) (k : Kc (ct K mg)) (q_Wish_reach : MCal P w K mg base (cnOf mg "Wish") "reach" 2 ["self", "word"] (SpF (ct K mg) x_Wish_reach)) (q_Wish_lap : MCal P w K mg base (cnOf mg "Wish") "lap" 1 ["self", "state", "word"] (SpF (ct K mg) x_Wish_lap)) : FnOk P w K mg base CX0 3 f_Wish_contains fd_Wish_contains ["self", "lasso"] (SpF (ct K mg) x_Wish_contains) := by
  refine F_Wish_contains.ok sc_Wish_contains (fun vs H Q E h => SpF.len (n := 2) (fun as => xRun_len as) h) (fun cdv A outer s H vs Q E hr h => ?_)
  have hu := hu_of hr
  exact ⟨t_Wish_contains (ct K mg), pss_cons (ps_asg (pv 1) (pg_tup rfl (pgs_cons (pg_name (i := 5) sc_Wish_contains.nd rfl (Or.inl rfl)) (pgs_cons (pg_name (i := 6) sc_Wish_contains.nd rfl (Or.inl rfl)) (pgs_nil))))) (
    pss_cons (ps_if (pt_cmpR op_eq (pv 6) (pe_str) (nomark _)) (pss_one (ps_never)) (pss_nil)) (
    pss_cons (ps_set (i := 2) sc_Wish_contains.nd rfl (Or.inl rfl) (pe_mcal (pv 0) k.cl_Wish q_Wish_reach (hr.mono (by decide)) (pa_cons (pv 5) (pa_nil)))) (
    pss_cons (ps_set (i := 3) sc_Wish_contains.nd rfl (Or.inl rfl) (pe_bl)) (
    pss_cons (ps_for PassesOwn.never rfl (pi_range1 (by rfl) T.b_range (pa_cons (pe_op op_mul (pe_int) (pe_fld (pv 0) rfl)) (pa_nil))) (pg_name (i := 4) sc_Wish_contains.nd rfl (Or.inl rfl)) (pss_cons (ps_asg (pe_mcal (pv 0) k.cl_Wish q_Wish_lap (hr.mono (by decide)) (pa_cons (pv 2) (pa_cons (pv 6) (pa_nil)))) (pg_tup rfl (pgs_cons (pg_name (i := 2) sc_Wish_contains.nd rfl (Or.inl rfl)) (pgs_cons (pg_name (i := 7) sc_Wish_contains.nd rfl (Or.inl rfl)) (pgs_nil))))) (
    pss_one (ps_set (i := 3) sc_Wish_contains.nd rfl (Or.inl rfl) (pe_or (pv 3) (pe_one (pe_and (pv 7) (pe_one (pe_cmpR op_ge (pv 4) (pe_fld (pv 0) rfl) (nomark _)))))))))) (
    pss_one (ps_ret (pv 3))))))), entry (k := 2) (n := 6) (W := fun cls dd _ H => E cls dd H) (snd_x_Wish_contains k) rfl h (fun _ _ _ _ h => h)⟩
end
abbrev s_Wish_remark : Stmt := inClass (top 22) 10
abbrev N_Wish_remark : List Str := ["self", "pairs"]
theorem sc_Wish_remark : FnScope N_Wish_remark ["self", "pairs"] (defScope s_Wish_remark) := ⟨rfl, rfl, rfl, by decide +kernel, rfl, by decide +kernel, by decide +kernel⟩
section
variable {P : Program} {w : World} {K : PySem.W.Frag} {mg : Str → Option Value} {base : Heap}
theorem ok_Wish_remark {f_Wish_remark : Addr} {fd_Wish_remark : FuncData} (F_Wish_remark : Fun K "remark" "Wish.remark" s_Wish_remark f_Wish_remark fd_Wish_remark) (T : Bt mg) (k : Kc (ct K mg)) (c_flag_table : Cal P w K mg base "flag_table" 1 ["letters", "size", "pairs"] (SpF (ct K mg) x_flag_table)) : FnOk P w K mg base CX0 2 f_Wish_remark fd_Wish_remark ["self", "pairs"] (SpF (ct K mg) x_Wish_remark) := by
  refine F_Wish_remark.ok sc_Wish_remark (fun vs H Q E h => SpF.len (n := 2) (fun as => xRun_len as) h) (fun cdv A outer s H vs Q E hr h => ?_)
  have hu := hu_of hr
  exact ⟨t_Wish_remark (ct K mg), pss_one (ps_fld (pv 0) (pe_cal c_flag_table (hr.mono (by decide)) rfl (pa_cons (pe_fld (pv 0) rfl) (pa_cons (pe_fld (pv 0) rfl) (pa_cons (pv 1) (pa_nil))))) rfl), entry (k := 2) (n := 0) (W := fun cls dd _ H => E cls dd H) (snd_x_Wish_remark k) rfl h (fun _ _ _ _ h => h)⟩
end
abbrev s_Wish_column : Stmt := inClass (top 22) 4
abbrev N_Wish_column : List Str := ["self", "state", "letter", "known"]
theorem sc_Wish_column : FnScope N_Wish_column ["self", "state", "letter"] (defScope s_Wish_column) := ⟨rfl, rfl, rfl, by decide +kernel, rfl, by decide +kernel, by decide +kernel⟩
section
variable {P : Program} {w : World} {K : PySem.W.Frag} {mg : Str → Option Value} {base : Heap}
theorem ok_Wish_column {f_Wish_column : Addr} {fd_Wish_column : FuncData} (F_Wish_column : Fun K "column" "Wish.column" s_Wish_column f_Wish_column fd_Wish_column) (T : Bt mg) (k : Kc (ct K mg))  : FnOk P w K mg base CX0 1 f_Wish_column fd_Wish_column ["self", "state", "letter"] (SpF (ct K mg) x_Wish_column) := by
  refine F_Wish_column.ok sc_Wish_column (fun vs H Q E h => SpF.len (n := 3) (fun as => xRun_len as) h) (fun cdv A outer s H vs Q E hr h => ?_)
  have hu := hu_of hr
  exact ⟨t_Wish_column (ct K mg), pss_cons (ps_set (i := 3) sc_Wish_column.nd rfl (Or.inl rfl) (pe_callTy (call_listT rfl) (by rfl) T.b_list (by decide +kernel) (pa_cons (pe_fld (pv 0) rfl) (pa_nil)))) (
    pss_cons (ps_if (PW.pt (pw_or (pt_not (pt_chain op_le op_lt (pe_int) (pv 1) (pe_fld (pv 0) rfl))) (pw_or1 (pt_cmpR op_notIn_seq (pv 2) (pv 3) (by with_unfolding_all rfl))))) (pss_one (ps_never)) (pss_nil)) (
    pss_one (ps_ret (pe_bm PySem.F.plainAttrs_list PySem.F.slot_list_index PySem.F.type_list_index mt_index (pv 3) (pa_cons (pv 2) (pa_nil)))))), entry (k := 3) (n := 1) (W := fun cls dd _ H => E cls dd H) (snd_x_Wish_column k) rfl h (fun _ _ _ _ h => h)⟩
end
abbrev s_Wish_setitem : Stmt := inClass (top 22) 6
abbrev N_Wish_setitem : List Str := ["self", "at", "worth", "column", "state", "letter"]
theorem sc_Wish_setitem : FnScope N_Wish_setitem ["self", "at", "worth"] (defScope s_Wish_setitem) := ⟨rfl, rfl, rfl, by decide +kernel, rfl, by decide +kernel, by decide +kernel⟩
section
variable {P : Program} {w : World} {K : PySem.W.Frag} {mg : Str → Option Value} {base : Heap}
theorem ok_Wish_setitem {f_Wish_setitem : Addr} {fd_Wish_setitem : FuncData} (F_Wish_setitem : Fun K "__setitem__" "Wish.__setitem__" s_Wish_setitem f_Wish_setitem fd_Wish_setitem) (T : Bt mg) (k : Kc (ct K mg)) (q_Wish_column : MCal P w K mg base (cnOf mg "Wish") "column" 1 ["self", "state", "letter"] (SpF (ct K mg) x_Wish_column)) : FnOk P w K mg base CX0 2 f_Wish_setitem fd_Wish_setitem ["self", "at", "worth"] (SpF (ct K mg) x_Wish_setitem) := by
  refine F_Wish_setitem.ok sc_Wish_setitem (fun vs H Q E h => SpF.len (n := 3) (fun as => xRun_len as) h) (fun cdv A outer s H vs Q E hr h => ?_)
  have hu := hu_of hr
  exact ⟨t_Wish_setitem (ct K mg), pss_cons (ps_asg (pv 1) (pg_tup rfl (pgs_cons (pg_name (i := 4) sc_Wish_setitem.nd rfl (Or.inl rfl)) (pgs_cons (pg_name (i := 5) sc_Wish_setitem.nd rfl (Or.inl rfl)) (pgs_nil))))) (
    pss_cons (ps_set (i := 3) sc_Wish_setitem.nd rfl (Or.inl rfl) (pe_mcal (pv 0) k.cl_Wish q_Wish_column (hr.mono (by decide)) (pa_cons (pv 4) (pa_cons (pv 5) (pa_nil))))) (
    pss_cons (ps_if (pt_not (pt_chain op_le op_lt (pe_int) (pv 2) (pe_fld (pv 0) rfl))) (pss_one (ps_never)) (pss_nil)) (
    pss_one (ps_asg (pv 2) (pg_sub (pe_ix ix_seq (pe_fld (pv 0) rfl) (pv 4) (fun _ _ => rfl)) (pv 3) set_list))))), entry (k := 3) (n := 3) (W := fun cls dd _ H => E cls dd H) (snd_x_Wish_setitem k) rfl h (fun _ _ _ _ h => h)⟩
end
abbrev s_law : Stmt := top 32
abbrev N_law : List Str := ["_law_script", "_law_m", "_law_wish", "_law_first", "_law_second", "_law_row", "_law_loop", "_law_middle", "_law_last", "_law_behind", "_law_both", "_law_longest", "_law_due", "_law_changed", "_law_s"]
theorem sc_law : FnScope N_law ["_law_script"] (defScope s_law) := ⟨rfl, rfl, rfl, by decide +kernel, rfl, by decide +kernel, by decide +kernel⟩
section
variable {P : Program} {w : World} {K : PySem.W.Frag} {mg : Str → Option Value} {base : Heap}
theorem ok_law {f_law : Addr} {fd_law : FuncData} (F_law : Fun K "law" "law" s_law f_law fd_law) (T : Bt mg) (k : Kc (ct K mg)) (c_law_draws : Cal P w K mg base "_law_draws" 1 ["_law_script", "_law_k", "_law_many"] (SpF (ct K mg) x_law_draws)) (c_law_machine : Cal P w K mg base "_law_machine" 1 ["_law_row", "_law_top"] (SpF (ct K mg) x_law_machine)) (c_law_made : Cal P w K mg base "_law_made" 4 ["_law_m"] (SpF (ct K mg) x_law_made)) (c_law_word : Cal P w K mg base "_law_word" 1 ["_law_row", "_law_letters", "_law_top"] (SpF (ct K mg) x_law_word)) (c_law_lap : Cal P w K mg base "_law_lap" 1 ["_law_m", "_law_state", "_law_word_here"] (SpF (ct K mg) x_law_lap)) (bq_Wish_rshift : BCal P w K mg base (cnOf mg "Wish") .RShift 4 ["self", "word"] (SpF (ct K mg) x_Wish_rshift)) (q_Wish_text : MCal P w K mg base (cnOf mg "Wish") "text" 1 ["self"] (SpF (ct K mg) x_Wish_text)) (c_law_text : Cal P w K mg base "_law_text" 1 ["_law_m"] (SpF (ct K mg) x_law_text)) (c_law_good : Cal P w K mg base "_law_good" 2 ["_law_m", "_law_state", "_law_stem", "_law_loop"] (SpF (ct K mg) x_law_good)) (q_Wish_contains : MCal P w K mg base (cnOf mg "Wish") "__contains__" 3 ["self", "lasso"] (SpF (ct K mg) x_Wish_contains)) (q_Wish_remark : MCal P w K mg base (cnOf mg "Wish") "remark" 2 ["self", "pairs"] (SpF (ct K mg) x_Wish_remark)) (sq_Wish_setitem : SCal P w K mg base (cnOf mg "Wish") 2 ["self", "at", "worth"] (SpF (ct K mg) x_Wish_setitem)) : FnOk P w K mg base CX0 5 f_law fd_law ["_law_script"] (SpF (ct K mg) x_law) := by
  refine F_law.ok sc_law (fun vs H Q E h => SpF.len (n := 1) (fun as => xRun_len as) h) (fun cdv A outer s H vs Q E hr h => ?_)
  have hu := hu_of hr
  exact ⟨t_law (ct K mg), pss_cons (ps_set (i := 1) sc_law.nd rfl (Or.inr rfl) (pe_cal c_law_machine (hr.mono (by decide)) rfl (pa_cons (pe_cal c_law_draws (hr.mono (by decide)) rfl (pa_cons (pv 0) (pa_cons (pe_int) (pa_cons (pe_int) (pa_nil))))) (pa_cons (pe_int) (pa_nil))))) (
    pss_cons (ps_set (i := 2) sc_law.nd rfl (Or.inl rfl) (pe_cal c_law_made (hr.mono (by decide)) rfl (pa_cons (pv 1) (pa_nil)))) (
    pss_cons (ps_set (i := 3) sc_law.nd rfl (Or.inl rfl) (pe_cal c_law_word (hr.mono (by decide)) rfl (pa_cons (pe_cal c_law_draws (hr.mono (by decide)) rfl (pa_cons (pv 0) (pa_cons (pe_int) (pa_cons (pe_int) (pa_nil))))) (pa_cons (pe_ix ix_seq (pv 1) (pe_int) (fun _ _ => rfl)) (pa_cons (pe_int) (pa_nil)))))) (
    pss_cons (ps_set (i := 4) sc_law.nd rfl (Or.inl rfl) (pe_cal c_law_word (hr.mono (by decide)) rfl (pa_cons (pe_cal c_law_draws (hr.mono (by decide)) rfl (pa_cons (pv 0) (pa_cons (pe_int) (pa_cons (pe_int) (pa_nil))))) (pa_cons (pe_ix ix_seq (pv 1) (pe_int) (fun _ _ => rfl)) (pa_cons (pe_int) (pa_nil)))))) (
    pss_cons (ps_set (i := 5) sc_law.nd rfl (Or.inl rfl) (pe_cal c_law_draws (hr.mono (by decide)) rfl (pa_cons (pv 0) (pa_cons (pe_int) (pa_cons (pe_int) (pa_nil)))))) (
    pss_cons (ps_set (i := 6) sc_law.nd rfl (Or.inl rfl) (pe_op op_add_str (pe_ix ix_seq (pe_ix ix_seq (pv 1) (pe_int) (fun _ _ => rfl)) (pe_op op_mod (pe_callTy call_int1 (by rfl) T.b_int (by decide +kernel) (pa_cons (pe_ix ix_seq (pv 5) (pe_int) (fun _ _ => rfl)) (pa_nil))) (pe_callB call_lenG (by rfl) T.b_len (by decide +kernel) (pa_cons (pe_ix ix_seq (pv 1) (pe_int) (fun _ _ => rfl)) (pa_nil)))) (fun _ _ => rfl)) (pe_cal c_law_word (hr.mono (by decide)) rfl (pa_cons (pv 5) (pa_cons (pe_ix ix_seq (pv 1) (pe_int) (fun _ _ => rfl)) (pa_cons (pe_int) (pa_nil))))))) (
    pss_cons (ps_set (i := 7) sc_law.nd rfl (Or.inl rfl) (pe_ix ix_seq (pe_cal c_law_lap (hr.mono (by decide)) rfl (pa_cons (pv 1) (pa_cons (pe_ix ix_seq (pv 1) (pe_int) (fun _ _ => rfl)) (pa_cons (pv 3) (pa_nil))))) (pe_int) (fun _ _ => rfl))) (
    pss_cons (ps_set (i := 8) sc_law.nd rfl (Or.inl rfl) (pe_ix ix_seq (pe_cal c_law_lap (hr.mono (by decide)) rfl (pa_cons (pv 1) (pa_cons (pv 7) (pa_cons (pv 4) (pa_nil))))) (pe_int) (fun _ _ => rfl))) (
    pss_cons (ps_set (i := 9) sc_law.nd rfl (Or.inl rfl) (pe_op (op_binS k.cl_Wish bq_Wish_rshift (hr.mono (by decide))) (pv 2) (pv 3))) (
    pss_cons (ps_set (i := 10) sc_law.nd rfl (Or.inl rfl) (pe_op (op_binS k.cl_Wish bq_Wish_rshift (hr.mono (by decide))) (pv 9) (pv 4))) (
    pss_cons (ps_if (PW.pt (pw_or (pt_cmpR op_ne (pe_mcal0 (pv 9) k.cl_Wish q_Wish_text (hr.mono (by decide))) (pe_cal c_law_text (hr.mono (by decide)) rfl (pa_cons (pe_lst (pa_cons (pe_ix ix_seq (pv 1) (pe_int) (fun _ _ => rfl)) (pa_cons (pe_ix ix_seq (pv 1) (pe_int) (fun _ _ => rfl)) (pa_cons (pe_ix ix_seq (pv 1) (pe_int) (fun _ _ => rfl)) (pa_cons (pv 7) (pa_nil)))))) (pa_nil))) (nomark _)) (pw_or1 (pt_cmpR op_ne (pe_mcal0 (pv 2) k.cl_Wish q_Wish_text (hr.mono (by decide))) (pe_cal c_law_text (hr.mono (by decide)) rfl (pa_cons (pv 1) (pa_nil))) (nomark _))))) (pss_one (ps_ret (pe_bl))) (pss_nil)) (
    pss_cons (ps_if (PW.pt (pw_or (pt_cmpR op_ne (pe_mcal0 (pv 10) k.cl_Wish q_Wish_text (hr.mono (by decide))) (pe_cal c_law_text (hr.mono (by decide)) rfl (pa_cons (pe_lst (pa_cons (pe_ix ix_seq (pv 1) (pe_int) (fun _ _ => rfl)) (pa_cons (pe_ix ix_seq (pv 1) (pe_int) (fun _ _ => rfl)) (pa_cons (pe_ix ix_seq (pv 1) (pe_int) (fun _ _ => rfl)) (pa_cons (pv 8) (pa_nil)))))) (pa_nil))) (nomark _)) (pw_or1 (pt_cmpR op_ne (pe_mcal0 (pe_op (op_binS k.cl_Wish bq_Wish_rshift (hr.mono (by decide))) (pv 2) (pe_op op_add_str (pv 3) (pv 4))) k.cl_Wish q_Wish_text (hr.mono (by decide))) (pe_mcal0 (pv 10) k.cl_Wish q_Wish_text (hr.mono (by decide))) (nomark _))))) (pss_one (ps_ret (pe_bl))) (pss_nil)) (
    pss_cons (ps_set (i := 11) sc_law.nd rfl (Or.inl rfl) (pe_slice sl_str (pe_op op_mulS (pe_op op_add_str (pv 3) (pe_ix ix_seq (pv 1) (pe_int) (fun _ _ => rfl))) (pe_int)) (po_none) (po_some (pe_int)))) (
    pss_cons (ps_if (pt_cmpR op_ne (pe_mcal0 (pe_op (op_binS k.cl_Wish bq_Wish_rshift (hr.mono (by decide))) (pv 2) (pv 11)) k.cl_Wish q_Wish_text (hr.mono (by decide))) (pe_cal c_law_text (hr.mono (by decide)) rfl (pa_cons (pe_lst (pa_cons (pe_ix ix_seq (pv 1) (pe_int) (fun _ _ => rfl)) (pa_cons (pe_ix ix_seq (pv 1) (pe_int) (fun _ _ => rfl)) (pa_cons (pe_ix ix_seq (pv 1) (pe_int) (fun _ _ => rfl)) (pa_cons (pe_ix ix_seq (pe_cal c_law_lap (hr.mono (by decide)) rfl (pa_cons (pv 1) (pa_cons (pe_ix ix_seq (pv 1) (pe_int) (fun _ _ => rfl)) (pa_cons (pv 11) (pa_nil))))) (pe_int) (fun _ _ => rfl)) (pa_nil)))))) (pa_nil))) (nomark _)) (pss_one (ps_ret (pe_bl))) (pss_nil)) (
    pss_cons (ps_set (i := 12) sc_law.nd rfl (Or.inl rfl) (pe_cal c_law_good (hr.mono (by decide)) rfl (pa_cons (pv 1) (pa_cons (pv 8) (pa_cons (pe_str) (pa_cons (pv 6) (pa_nil))))))) (
    pss_cons (ps_if (PW.pt (pw_or (pt_cmpR op_ne (pe_inOwn (pe_tup (pa_cons (pe_str) (pa_cons (pv 6) (pa_nil)))) (pv 10) k.cl_Wish q_Wish_contains (hr.mono (by decide)) (by with_unfolding_all rfl)) (pv 12) (nomark _)) (pw_or1 (pt_cmpR op_ne (pe_inOwn (pe_tup (pa_cons (pv 4) (pa_cons (pv 6) (pa_nil)))) (pv 9) k.cl_Wish q_Wish_contains (hr.mono (by decide)) (by with_unfolding_all rfl)) (pv 12) (nomark _))))) (pss_one (ps_ret (pe_bl))) (pss_nil)) (
    pss_cons (ps_if (PW.pt (pw_or (pt_cmpR op_ne (pe_inOwn (pe_tup (pa_cons (pe_op op_add_str (pv 3) (pv 4)) (pa_cons (pv 6) (pa_nil)))) (pv 2) k.cl_Wish q_Wish_contains (hr.mono (by decide)) (by with_unfolding_all rfl)) (pv 12) (nomark _)) (pw_or1 (pt_cmpR op_ne (pe_inOwn (pe_tup (pa_cons (pe_str) (pa_cons (pe_op op_add_str (pv 6) (pv 6)) (pa_nil)))) (pv 9) k.cl_Wish q_Wish_contains (hr.mono (by decide)) (by with_unfolding_all rfl)) (pe_cal c_law_good (hr.mono (by decide)) rfl (pa_cons (pv 1) (pa_cons (pv 7) (pa_cons (pe_str) (pa_cons (pv 6) (pa_nil)))))) (nomark _))))) (pss_one (ps_ret (pe_bl))) (pss_nil)) (
    pss_cons (ps_expr (pe_mcal (pv 9) k.cl_Wish q_Wish_remark (hr.mono (by decide)) (pa_cons (pe_lc (own := [(("_law_s" : Str), 14)]) (g := gName 14) (by rfl) sc_law.nd (pi_range1 (by rfl) T.b_range (pa_cons (pe_callB call_lenG (by rfl) T.b_len (by decide +kernel) (pa_cons (pe_ix ix_seq (pv 1) (pe_int) (fun _ _ => rfl)) (pa_nil))) (pa_nil))) (blkOk_by (own := [(("_law_s" : Str), 14)]) (N := N_law) (sc := defScope s_law) (by decide +kernel)) (fun _ _ _ _ _ => pg_name (i := 14) sc_law.nd rfl (Or.inl rfl)) (fun _ _ _ _ _ => pts_one (pt_not (pt_val (pe_ix ix_seq (pe_ix ix_seq (pe_ix ix_seq (pv 1) (pe_int) (fun _ _ => rfl)) (pv 14) (fun _ _ => rfl)) (pe_int) (fun _ _ => rfl))))) (fun _ _ _ _ _ => pe_tup (pa_cons (pv 14) (pa_cons (pe_str) (pa_nil))))) (pa_nil)))) (
    pss_cons (ps_asg (pe_op op_sub (pe_callB call_lenG (by rfl) T.b_len (by decide +kernel) (pa_cons (pe_ix ix_seq (pv 1) (pe_int) (fun _ _ => rfl)) (pa_nil))) (pe_int)) (pg_sub (pv 10) (pe_tup (pa_cons (pe_ix ix_seq (pv 1) (pe_int) (fun _ _ => rfl)) (pa_cons (pe_str) (pa_nil)))) (set_own k.cl_Wish sq_Wish_setitem (hr.mono (by decide))))) (
    pss_cons (ps_if (PW.pt (pw_or (pt_cmpR op_ne (pe_mcal0 (pv 2) k.cl_Wish q_Wish_text (hr.mono (by decide))) (pe_cal c_law_text (hr.mono (by decide)) rfl (pa_cons (pv 1) (pa_nil))) (nomark _)) (pw_or1 (pt_cmpR op_ne (pe_mcal0 (pe_op (op_binS k.cl_Wish bq_Wish_rshift (hr.mono (by decide))) (pv 2) (pv 3)) k.cl_Wish q_Wish_text (hr.mono (by decide))) (pe_cal c_law_text (hr.mono (by decide)) rfl (pa_cons (pe_lst (pa_cons (pe_ix ix_seq (pv 1) (pe_int) (fun _ _ => rfl)) (pa_cons (pe_ix ix_seq (pv 1) (pe_int) (fun _ _ => rfl)) (pa_cons (pe_ix ix_seq (pv 1) (pe_int) (fun _ _ => rfl)) (pa_cons (pv 7) (pa_nil)))))) (pa_nil))) (nomark _))))) (pss_one (ps_ret (pe_bl))) (pss_nil)) (
    pss_cons (ps_set (i := 13) sc_law.nd rfl (Or.inl rfl) (pe_mcal0 (pv 9) k.cl_Wish q_Wish_text (hr.mono (by decide)))) (
    pss_cons (ps_expr (pe_mcal (pv 2) k.cl_Wish q_Wish_remark (hr.mono (by decide)) (pa_cons (pe_lst (pa_nil)) (pa_nil)))) (
    pss_cons (ps_asg (pe_int) (pg_sub (pv 2) (pe_tup (pa_cons (pe_int) (pa_cons (pe_str) (pa_nil)))) (set_own k.cl_Wish sq_Wish_setitem (hr.mono (by decide))))) (
    pss_one (ps_ret (pe_and (pe_cmpR op_eq (pe_mcal0 (pv 9) k.cl_Wish q_Wish_text (hr.mono (by decide))) (pv 13) (nomark _)) (pe_one (pe_cmpR op_eq (pe_mcal0 (pe_op (op_binS k.cl_Wish bq_Wish_rshift (hr.mono (by decide))) (pv 2) (pe_str)) k.cl_Wish q_Wish_text (hr.mono (by decide))) (pe_mcal0 (pv 2) k.cl_Wish q_Wish_text (hr.mono (by decide))) (nomark _)))))))))))))))))))))))))))), entry (k := 1) (n := 14) (W := fun cls dd _ H => E cls dd H) (snd_x_law k) rfl h (fun _ _ _ _ h => h)⟩
end
def sp_top (K : PySem.W.Frag) : Sp := fun vs H Q _ => ∃ (ns : List Int) (p : Addr), vs = [.ref p] ∧ SqL K H p (ns.map V.int) ∧ ns.length ≤ 63 ∧ ∀ H', Q (.bl true) H'
theorem isInts {c : Ct} {T M : Hp} : ∀ ns : List Int, IsL c T M (ns.map V.int) (ns.map D.i)
  | [] => .nil
  | n :: ns => .cons (.v _) (isInts ns)
theorem toTop {P : Program} {w : World} {K : PySem.W.Frag} {mg : Str → Option Value} {base : Heap} {k : Nat} {f : Addr} {fd : FuncData} (h : FnOk P w K mg base CX0 k f fd ["_law_script"] (SpF (ct K mg) x_law)) : FnOk P w K mg base CX0 k f fd ["_law_script"] (sp_top K) := by
  have cv : ∀ vs H Q E, sp_top K vs H Q E → SpF (ct K mg) x_law vs H Q E := by
    rintro vs H Q E ⟨ns, p, rfl, s, hl, q⟩
    refine spF_d (ds := [.l (ns.map D.i)]) (.cons (.l s (isInts ns)) .nil) (law_ok ns hl) fun v F' H' N _ _ _ _ _ _ _ o => ?_
    cases o with
    | fz i => cases i; exact q H'
  exact ⟨fun vs H Q E z => h.len vs H Q E (cv vs H Q E z), fun A outer s H args us vs Q E r e b v z => h.run A outer s H args us vs Q E r e b v (cv vs H Q E z)⟩
theorem all_mk {l : PySem.W.OpenLaw} {w : World} {K : PySem.W.Frag} {h : Heap} {mg : Str → Option Value} {fa C_Wish c_ALPHABETS f_law_draws f_law_machine f_law_pairs f_flag_table f_Wish_init dt_Wish_init dk_Wish_init c_empty f_law_made f_law_word f_law_lap f_Wish_marks p_Wish_marks f_Wish_lap f_Wish_reach f_Wish_rshift f_Wish_text f_law_text f_law_good f_Wish_contains f_Wish_remark f_Wish_column f_Wish_setitem f_law : Addr} (X : K.In h) (G : h.Ns mainGlobals mg) (hfa : mg "law" = some (.ref fa))
    {oo_ALPHABETS : Option Addr} {nn_ALPHABETS : Nat} {ss_ALPHABETS : Array (Option Value)}
    {e_ALPHABETS_0 : Tok}
    {e_ALPHABETS_1 : Tok}
    {e_ALPHABETS_2 : Tok}
    {e_ALPHABETS_3 : Tok}
    {k_MOST_STATES_wishes : Tok}
    {od_law_draws an_law_draws : Option Addr} {sl_law_draws : Array (Option Value)} {oc_law_draws kV_law_draws dc_law_draws pm_law_draws cd_law_draws ct_law_draws : Value}
    {od_law_machine an_law_machine : Option Addr} {sl_law_machine : Array (Option Value)} {oc_law_machine kV_law_machine dc_law_machine pm_law_machine cd_law_machine ct_law_machine : Value}
    {od_law_pairs an_law_pairs : Option Addr} {sl_law_pairs : Array (Option Value)} {oc_law_pairs kV_law_pairs dc_law_pairs pm_law_pairs cd_law_pairs ct_law_pairs : Value}
    {od_flag_table an_flag_table : Option Addr} {sl_flag_table : Array (Option Value)} {oc_flag_table kV_flag_table dc_flag_table pm_flag_table cd_flag_table ct_flag_table : Value}
    {od_Wish_init an_Wish_init : Option Addr} {sl_Wish_init : Array (Option Value)} {oc_Wish_init dc_Wish_init pm_Wish_init cd_Wish_init ct_Wish_init : Value}
    {oT_Wish_init : Value} {pT_Wish_init : Option Addr} {nT_Wish_init : Nat} {sT_Wish_init : Array (Option Value)}
    {kt_Wish_init_start : Tok}
    {od_law_made an_law_made : Option Addr} {sl_law_made : Array (Option Value)} {oc_law_made kV_law_made dc_law_made pm_law_made cd_law_made ct_law_made : Value}
    {od_law_word an_law_word : Option Addr} {sl_law_word : Array (Option Value)} {oc_law_word kV_law_word dc_law_word pm_law_word cd_law_word ct_law_word : Value}
    {od_law_lap an_law_lap : Option Addr} {sl_law_lap : Array (Option Value)} {oc_law_lap kV_law_lap dc_law_lap pm_law_lap cd_law_lap ct_law_lap : Value}
    {od_Wish_marks an_Wish_marks : Option Addr} {sl_Wish_marks : Array (Option Value)} {oc_Wish_marks kV_Wish_marks dc_Wish_marks pm_Wish_marks cd_Wish_marks ct_Wish_marks : Value}
    {rr_Wish_marks : List Value}
    {od_Wish_lap an_Wish_lap : Option Addr} {sl_Wish_lap : Array (Option Value)} {oc_Wish_lap kV_Wish_lap dc_Wish_lap pm_Wish_lap cd_Wish_lap ct_Wish_lap : Value}
    {od_Wish_reach an_Wish_reach : Option Addr} {sl_Wish_reach : Array (Option Value)} {oc_Wish_reach kV_Wish_reach dc_Wish_reach pm_Wish_reach cd_Wish_reach ct_Wish_reach : Value}
    {od_Wish_rshift an_Wish_rshift : Option Addr} {sl_Wish_rshift : Array (Option Value)} {oc_Wish_rshift kV_Wish_rshift dc_Wish_rshift pm_Wish_rshift cd_Wish_rshift ct_Wish_rshift : Value}
    {od_Wish_text an_Wish_text : Option Addr} {sl_Wish_text : Array (Option Value)} {oc_Wish_text kV_Wish_text dc_Wish_text pm_Wish_text cd_Wish_text ct_Wish_text : Value}
    {od_law_text an_law_text : Option Addr} {sl_law_text : Array (Option Value)} {oc_law_text kV_law_text dc_law_text pm_law_text cd_law_text ct_law_text : Value}
    {od_law_good an_law_good : Option Addr} {sl_law_good : Array (Option Value)} {oc_law_good kV_law_good dc_law_good pm_law_good cd_law_good ct_law_good : Value}
    {od_Wish_contains an_Wish_contains : Option Addr} {sl_Wish_contains : Array (Option Value)} {oc_Wish_contains kV_Wish_contains dc_Wish_contains pm_Wish_contains cd_Wish_contains ct_Wish_contains : Value}
    {od_Wish_remark an_Wish_remark : Option Addr} {sl_Wish_remark : Array (Option Value)} {oc_Wish_remark kV_Wish_remark dc_Wish_remark pm_Wish_remark cd_Wish_remark ct_Wish_remark : Value}
    {od_Wish_column an_Wish_column : Option Addr} {sl_Wish_column : Array (Option Value)} {oc_Wish_column kV_Wish_column dc_Wish_column pm_Wish_column cd_Wish_column ct_Wish_column : Value}
    {od_Wish_setitem an_Wish_setitem : Option Addr} {sl_Wish_setitem : Array (Option Value)} {oc_Wish_setitem kV_Wish_setitem dc_Wish_setitem pm_Wish_setitem cd_Wish_setitem ct_Wish_setitem : Value}
    {od_law an_law : Option Addr} {sl_law : Array (Option Value)} {oc_law kV_law dc_law pm_law cd_law ct_law : Value}
    (aC_Wish : PySem.W.nsIn K mainGlobals "Wish" = some (some (.ref C_Wish)))
    (pg_Wish : PySem.W.plainGet K C_Wish Str.empty = true)
    (hd_Wish : PySem.W.hasDictIn K C_Wish = true)
    (po_Wish : PySem.W.plainOver K C_Wish = true)
    (sa_Wish : PySem.W.findIn K (.ref C_Wish) "__setattr__" = some (some (.builtin "object.__setattr__")))
    (mk_Wish : PySem.W.makesIn K C_Wish = true)
    (kc_Wish : PySem.W.keepIn K (.ref C_Wish) = true)
    (n_Wish_flags : PySem.W.findIn K (.ref C_Wish) "flags" = some none)
    (n_Wish_letters : PySem.W.findIn K (.ref C_Wish) "letters" = some none)
    (n_Wish_size : PySem.W.findIn K (.ref C_Wish) "size" = some none)
    (n_Wish_start : PySem.W.findIn K (.ref C_Wish) "start" = some none)
    (n_Wish_targets : PySem.W.findIn K (.ref C_Wish) "targets" = some none)
    (sf_Wish_rshift : PySem.W.selfFirst K C_Wish = true)
    (br_Wish_rshift : PySem.W.findIn K (.ref C_Wish) "__rrshift__" = some none)
    (bs_Wish_rshift : PySem.W.findIn K (.type "str") "__rshift__" = some none)
    (bt_Wish_rshift : PySem.W.findIn K (.type "str") "__rrshift__" = some none)
    (bu_Wish_rshift : PySem.W.subIn K (.type "str") (.ref C_Wish) = some false)
    (ns_Wish : PySem.W.noSeq K C_Wish = true)
    (i_ALPHABETS : PySem.W.nsIn K mainGlobals "ALPHABETS" = some (some (.ref c_ALPHABETS)))
    (l_ALPHABETS : K.lookup c_ALPHABETS = some ⟨.type "tuple", oo_ALPHABETS, .seq #[.str "a" e_ALPHABETS_0, .str "ab" e_ALPHABETS_1, .str "abc" e_ALPHABETS_2, .str "abcd" e_ALPHABETS_3] nn_ALPHABETS, ss_ALPHABETS⟩)
    (i_MOST_STATES_wishes : PySem.W.nsIn K mainGlobals "MOST_STATES_wishes" = some (some (.int 8 k_MOST_STATES_wishes)))
    (z_len : PySem.W.nsIn K mainGlobals "len" = some none)
    (z_int : PySem.W.nsIn K mainGlobals "int" = some none)
    (z_str : PySem.W.nsIn K mainGlobals "str" = some none)
    (z_range : PySem.W.nsIn K mainGlobals "range" = some none)
    (z_abs : PySem.W.nsIn K mainGlobals "abs" = some none)
    (z_min : PySem.W.nsIn K mainGlobals "min" = some none)
    (z_list : PySem.W.nsIn K mainGlobals "list" = some none)
    (z_isinstance : PySem.W.nsIn K mainGlobals "isinstance" = some none)
    (z_sorted : PySem.W.nsIn K mainGlobals "sorted" = some none)
    (z_enumerate : PySem.W.nsIn K mainGlobals "enumerate" = some none)
    (z_zip : PySem.W.nsIn K mainGlobals "zip" = some none)
    (z_bool : PySem.W.nsIn K mainGlobals "bool" = some none)
    (z_dict : PySem.W.nsIn K mainGlobals "dict" = some none)
    (z_tuple : PySem.W.nsIn K mainGlobals "tuple" = some none)
    (z_max : PySem.W.nsIn K mainGlobals "max" = some none)
    (z_sum : PySem.W.nsIn K mainGlobals "sum" = some none)
    (z_all : PySem.W.nsIn K mainGlobals "all" = some none)
    (z_any : PySem.W.nsIn K mainGlobals "any" = some none)
    (a_law_draws : PySem.W.nsIn K mainGlobals "_law_draws" = some (some (.ref f_law_draws)))
    (l_law_draws : K.lookup f_law_draws = some ⟨oc_law_draws, od_law_draws, .func (PySem.W.fnOf "_law_draws" "_law_draws" (defArgs s_law_draws) (defBody s_law_draws) (defScope s_law_draws) .none kV_law_draws dc_law_draws pm_law_draws an_law_draws cd_law_draws ct_law_draws), sl_law_draws⟩)
    (c_law_draws : PySem.W.codeIn K cd_law_draws "_law_draws" = true)
    (k_law_draws : PySem.W.keepIn K (.ref f_law_draws) = true)
    (a_law_machine : PySem.W.nsIn K mainGlobals "_law_machine" = some (some (.ref f_law_machine)))
    (l_law_machine : K.lookup f_law_machine = some ⟨oc_law_machine, od_law_machine, .func (PySem.W.fnOf "_law_machine" "_law_machine" (defArgs s_law_machine) (defBody s_law_machine) (defScope s_law_machine) .none kV_law_machine dc_law_machine pm_law_machine an_law_machine cd_law_machine ct_law_machine), sl_law_machine⟩)
    (c_law_machine : PySem.W.codeIn K cd_law_machine "_law_machine" = true)
    (k_law_machine : PySem.W.keepIn K (.ref f_law_machine) = true)
    (a_law_pairs : PySem.W.nsIn K mainGlobals "_law_pairs" = some (some (.ref f_law_pairs)))
    (l_law_pairs : K.lookup f_law_pairs = some ⟨oc_law_pairs, od_law_pairs, .func (PySem.W.fnOf "_law_pairs" "_law_pairs" (defArgs s_law_pairs) (defBody s_law_pairs) (defScope s_law_pairs) .none kV_law_pairs dc_law_pairs pm_law_pairs an_law_pairs cd_law_pairs ct_law_pairs), sl_law_pairs⟩)
    (c_law_pairs : PySem.W.codeIn K cd_law_pairs "_law_pairs" = true)
    (k_law_pairs : PySem.W.keepIn K (.ref f_law_pairs) = true)
    (a_flag_table : PySem.W.nsIn K mainGlobals "flag_table" = some (some (.ref f_flag_table)))
    (l_flag_table : K.lookup f_flag_table = some ⟨oc_flag_table, od_flag_table, .func (PySem.W.fnOf "flag_table" "flag_table" (defArgs s_flag_table) (defBody s_flag_table) (defScope s_flag_table) .none kV_flag_table dc_flag_table pm_flag_table an_flag_table cd_flag_table ct_flag_table), sl_flag_table⟩)
    (c_flag_table : PySem.W.codeIn K cd_flag_table "flag_table" = true)
    (k_flag_table : PySem.W.keepIn K (.ref f_flag_table) = true)
    (a_Wish_init : PySem.W.findIn K (.ref C_Wish) "__init__" = some (some (.ref f_Wish_init)))
    (i_Wish_init : PySem.W.isFn K (.ref f_Wish_init) = true)
    (l_Wish_init : K.lookup f_Wish_init = some ⟨oc_Wish_init, od_Wish_init, .func (PySem.W.fnOf "__init__" "Wish.__init__" (defArgs s_Wish_init) (defBody s_Wish_init) (defScope s_Wish_init) (.ref dt_Wish_init) (.ref dk_Wish_init) dc_Wish_init pm_Wish_init an_Wish_init cd_Wish_init ct_Wish_init), sl_Wish_init⟩)
    (t_Wish_init : K.lookup dt_Wish_init = some ⟨oT_Wish_init, pT_Wish_init, .seq #[.ref c_empty] nT_Wish_init, sT_Wish_init⟩)
    (w_Wish_init_start : PySem.W.nsIn K dk_Wish_init "start" = some (some (.int 0 kt_Wish_init_start)))
    (c_Wish_init : PySem.W.codeIn K cd_Wish_init "Wish.__init__" = true)
    (k_Wish_init : PySem.W.keepIn K (.ref f_Wish_init) = true)
    (a_law_made : PySem.W.nsIn K mainGlobals "_law_made" = some (some (.ref f_law_made)))
    (l_law_made : K.lookup f_law_made = some ⟨oc_law_made, od_law_made, .func (PySem.W.fnOf "_law_made" "_law_made" (defArgs s_law_made) (defBody s_law_made) (defScope s_law_made) .none kV_law_made dc_law_made pm_law_made an_law_made cd_law_made ct_law_made), sl_law_made⟩)
    (c_law_made : PySem.W.codeIn K cd_law_made "_law_made" = true)
    (k_law_made : PySem.W.keepIn K (.ref f_law_made) = true)
    (a_law_word : PySem.W.nsIn K mainGlobals "_law_word" = some (some (.ref f_law_word)))
    (l_law_word : K.lookup f_law_word = some ⟨oc_law_word, od_law_word, .func (PySem.W.fnOf "_law_word" "_law_word" (defArgs s_law_word) (defBody s_law_word) (defScope s_law_word) .none kV_law_word dc_law_word pm_law_word an_law_word cd_law_word ct_law_word), sl_law_word⟩)
    (c_law_word : PySem.W.codeIn K cd_law_word "_law_word" = true)
    (k_law_word : PySem.W.keepIn K (.ref f_law_word) = true)
    (a_law_lap : PySem.W.nsIn K mainGlobals "_law_lap" = some (some (.ref f_law_lap)))
    (l_law_lap : K.lookup f_law_lap = some ⟨oc_law_lap, od_law_lap, .func (PySem.W.fnOf "_law_lap" "_law_lap" (defArgs s_law_lap) (defBody s_law_lap) (defScope s_law_lap) .none kV_law_lap dc_law_lap pm_law_lap an_law_lap cd_law_lap ct_law_lap), sl_law_lap⟩)
    (c_law_lap : PySem.W.codeIn K cd_law_lap "_law_lap" = true)
    (k_law_lap : PySem.W.keepIn K (.ref f_law_lap) = true)
    (a_Wish_marks : PySem.W.findIn K (.ref C_Wish) "marks" = some (some (.ref p_Wish_marks)))
    (pgt_Wish_marks : PySem.W.specialIn K (.ref p_Wish_marks) "__get__" = some (some (.builtin "property.__get__")))
    (ptk_Wish_marks : PySem.W.takesIn K (.ref p_Wish_marks) = some true)
    (prc_Wish_marks : PySem.W.recIn K p_Wish_marks "property" = some (.ref f_Wish_marks :: rr_Wish_marks))
    (l_Wish_marks : K.lookup f_Wish_marks = some ⟨oc_Wish_marks, od_Wish_marks, .func (PySem.W.fnOf "marks" "Wish.marks" (defArgs s_Wish_marks) (defBody s_Wish_marks) (defScope s_Wish_marks) .none kV_Wish_marks dc_Wish_marks pm_Wish_marks an_Wish_marks cd_Wish_marks ct_Wish_marks), sl_Wish_marks⟩)
    (c_Wish_marks : PySem.W.codeIn K cd_Wish_marks "Wish.marks" = true)
    (k_Wish_marks : PySem.W.keepIn K (.ref f_Wish_marks) = true)
    (a_Wish_lap : PySem.W.findIn K (.ref C_Wish) "lap" = some (some (.ref f_Wish_lap)))
    (i_Wish_lap : PySem.W.isFn K (.ref f_Wish_lap) = true)
    (l_Wish_lap : K.lookup f_Wish_lap = some ⟨oc_Wish_lap, od_Wish_lap, .func (PySem.W.fnOf "lap" "Wish.lap" (defArgs s_Wish_lap) (defBody s_Wish_lap) (defScope s_Wish_lap) .none kV_Wish_lap dc_Wish_lap pm_Wish_lap an_Wish_lap cd_Wish_lap ct_Wish_lap), sl_Wish_lap⟩)
    (c_Wish_lap : PySem.W.codeIn K cd_Wish_lap "Wish.lap" = true)
    (k_Wish_lap : PySem.W.keepIn K (.ref f_Wish_lap) = true)
    (a_Wish_reach : PySem.W.findIn K (.ref C_Wish) "reach" = some (some (.ref f_Wish_reach)))
    (i_Wish_reach : PySem.W.isFn K (.ref f_Wish_reach) = true)
    (l_Wish_reach : K.lookup f_Wish_reach = some ⟨oc_Wish_reach, od_Wish_reach, .func (PySem.W.fnOf "reach" "Wish.reach" (defArgs s_Wish_reach) (defBody s_Wish_reach) (defScope s_Wish_reach) .none kV_Wish_reach dc_Wish_reach pm_Wish_reach an_Wish_reach cd_Wish_reach ct_Wish_reach), sl_Wish_reach⟩)
    (c_Wish_reach : PySem.W.codeIn K cd_Wish_reach "Wish.reach" = true)
    (k_Wish_reach : PySem.W.keepIn K (.ref f_Wish_reach) = true)
    (a_Wish_rshift : PySem.W.findIn K (.ref C_Wish) "__rshift__" = some (some (.ref f_Wish_rshift)))
    (i_Wish_rshift : PySem.W.isFn K (.ref f_Wish_rshift) = true)
    (l_Wish_rshift : K.lookup f_Wish_rshift = some ⟨oc_Wish_rshift, od_Wish_rshift, .func (PySem.W.fnOf "__rshift__" "Wish.__rshift__" (defArgs s_Wish_rshift) (defBody s_Wish_rshift) (defScope s_Wish_rshift) .none kV_Wish_rshift dc_Wish_rshift pm_Wish_rshift an_Wish_rshift cd_Wish_rshift ct_Wish_rshift), sl_Wish_rshift⟩)
    (c_Wish_rshift : PySem.W.codeIn K cd_Wish_rshift "Wish.__rshift__" = true)
    (k_Wish_rshift : PySem.W.keepIn K (.ref f_Wish_rshift) = true)
    (a_Wish_text : PySem.W.findIn K (.ref C_Wish) "text" = some (some (.ref f_Wish_text)))
    (i_Wish_text : PySem.W.isFn K (.ref f_Wish_text) = true)
    (l_Wish_text : K.lookup f_Wish_text = some ⟨oc_Wish_text, od_Wish_text, .func (PySem.W.fnOf "text" "Wish.text" (defArgs s_Wish_text) (defBody s_Wish_text) (defScope s_Wish_text) .none kV_Wish_text dc_Wish_text pm_Wish_text an_Wish_text cd_Wish_text ct_Wish_text), sl_Wish_text⟩)
    (c_Wish_text : PySem.W.codeIn K cd_Wish_text "Wish.text" = true)
    (k_Wish_text : PySem.W.keepIn K (.ref f_Wish_text) = true)
    (a_law_text : PySem.W.nsIn K mainGlobals "_law_text" = some (some (.ref f_law_text)))
    (l_law_text : K.lookup f_law_text = some ⟨oc_law_text, od_law_text, .func (PySem.W.fnOf "_law_text" "_law_text" (defArgs s_law_text) (defBody s_law_text) (defScope s_law_text) .none kV_law_text dc_law_text pm_law_text an_law_text cd_law_text ct_law_text), sl_law_text⟩)
    (c_law_text : PySem.W.codeIn K cd_law_text "_law_text" = true)
    (k_law_text : PySem.W.keepIn K (.ref f_law_text) = true)
    (a_law_good : PySem.W.nsIn K mainGlobals "_law_good" = some (some (.ref f_law_good)))
    (l_law_good : K.lookup f_law_good = some ⟨oc_law_good, od_law_good, .func (PySem.W.fnOf "_law_good" "_law_good" (defArgs s_law_good) (defBody s_law_good) (defScope s_law_good) .none kV_law_good dc_law_good pm_law_good an_law_good cd_law_good ct_law_good), sl_law_good⟩)
    (c_law_good : PySem.W.codeIn K cd_law_good "_law_good" = true)
    (k_law_good : PySem.W.keepIn K (.ref f_law_good) = true)
    (a_Wish_contains : PySem.W.findIn K (.ref C_Wish) "__contains__" = some (some (.ref f_Wish_contains)))
    (i_Wish_contains : PySem.W.isFn K (.ref f_Wish_contains) = true)
    (l_Wish_contains : K.lookup f_Wish_contains = some ⟨oc_Wish_contains, od_Wish_contains, .func (PySem.W.fnOf "__contains__" "Wish.__contains__" (defArgs s_Wish_contains) (defBody s_Wish_contains) (defScope s_Wish_contains) .none kV_Wish_contains dc_Wish_contains pm_Wish_contains an_Wish_contains cd_Wish_contains ct_Wish_contains), sl_Wish_contains⟩)
    (c_Wish_contains : PySem.W.codeIn K cd_Wish_contains "Wish.__contains__" = true)
    (k_Wish_contains : PySem.W.keepIn K (.ref f_Wish_contains) = true)
    (a_Wish_remark : PySem.W.findIn K (.ref C_Wish) "remark" = some (some (.ref f_Wish_remark)))
    (i_Wish_remark : PySem.W.isFn K (.ref f_Wish_remark) = true)
    (l_Wish_remark : K.lookup f_Wish_remark = some ⟨oc_Wish_remark, od_Wish_remark, .func (PySem.W.fnOf "remark" "Wish.remark" (defArgs s_Wish_remark) (defBody s_Wish_remark) (defScope s_Wish_remark) .none kV_Wish_remark dc_Wish_remark pm_Wish_remark an_Wish_remark cd_Wish_remark ct_Wish_remark), sl_Wish_remark⟩)
    (c_Wish_remark : PySem.W.codeIn K cd_Wish_remark "Wish.remark" = true)
    (k_Wish_remark : PySem.W.keepIn K (.ref f_Wish_remark) = true)
    (a_Wish_column : PySem.W.findIn K (.ref C_Wish) "column" = some (some (.ref f_Wish_column)))
    (i_Wish_column : PySem.W.isFn K (.ref f_Wish_column) = true)
    (l_Wish_column : K.lookup f_Wish_column = some ⟨oc_Wish_column, od_Wish_column, .func (PySem.W.fnOf "column" "Wish.column" (defArgs s_Wish_column) (defBody s_Wish_column) (defScope s_Wish_column) .none kV_Wish_column dc_Wish_column pm_Wish_column an_Wish_column cd_Wish_column ct_Wish_column), sl_Wish_column⟩)
    (c_Wish_column : PySem.W.codeIn K cd_Wish_column "Wish.column" = true)
    (k_Wish_column : PySem.W.keepIn K (.ref f_Wish_column) = true)
    (a_Wish_setitem : PySem.W.findIn K (.ref C_Wish) "__setitem__" = some (some (.ref f_Wish_setitem)))
    (i_Wish_setitem : PySem.W.isFn K (.ref f_Wish_setitem) = true)
    (l_Wish_setitem : K.lookup f_Wish_setitem = some ⟨oc_Wish_setitem, od_Wish_setitem, .func (PySem.W.fnOf "__setitem__" "Wish.__setitem__" (defArgs s_Wish_setitem) (defBody s_Wish_setitem) (defScope s_Wish_setitem) .none kV_Wish_setitem dc_Wish_setitem pm_Wish_setitem an_Wish_setitem cd_Wish_setitem ct_Wish_setitem), sl_Wish_setitem⟩)
    (c_Wish_setitem : PySem.W.codeIn K cd_Wish_setitem "Wish.__setitem__" = true)
    (k_Wish_setitem : PySem.W.keepIn K (.ref f_Wish_setitem) = true)
    (a_law : PySem.W.nsIn K mainGlobals "law" = some (some (.ref f_law)))
    (l_law : K.lookup f_law = some ⟨oc_law, od_law, .func (PySem.W.fnOf "law" "law" (defArgs s_law) (defBody s_law) (defScope s_law) .none kV_law dc_law pm_law an_law cd_law ct_law), sl_law⟩)
    (c_law : PySem.W.codeIn K cd_law "law" = true)
    (k_law : PySem.W.keepIn K (.ref f_law) = true) :
    ∃ fd : FuncData, (∀ (s : Shared) (v : Value), BindsTo s fd ⟨[v], []⟩ [("_law_script", v)]) ∧ ∀ base : Heap, K.In base → base.Ns mainGlobals mg → FnOk l.prog w K mg base CX0 5 fa fd ["_law_script"] (sp_top K) := by
  have e := (PySem.W.mg_of X G a_law).symm.trans hfa
  cases e
  have e_Wish : cnOf mg "Wish" = C_Wish := cn_of (PySem.W.mg_of X G aC_Wish)
  subst e_Wish
  have e_ALPHABETS : cnOf mg "ALPHABETS" = c_ALPHABETS := cn_of (PySem.W.mg_of X G i_ALPHABETS)
  subst e_ALPHABETS
  have g_ALPHABETS : mg "ALPHABETS" = some (.ref (cnOf mg "ALPHABETS")) := PySem.W.mg_of X G i_ALPHABETS
  have kk_ALPHABETS : ∀ T M, Is (ct K mg) T M (.ref (cnOf mg "ALPHABETS")) (.tk kALPHABETS) := fun T M => .tk (xs := [V.str "a", V.str "ab", V.str "abc", V.str "abcd"]) (fun H => .inr ⟨_, _, nn_ALPHABETS, l_ALPHABETS, rfl, rfl, sz_of (by decide : 4 ≤ 100000), .cons (a := V.str "a") ⟨e_ALPHABETS_0, rfl⟩ (.cons (a := V.str "ab") ⟨e_ALPHABETS_1, rfl⟩ (.cons (a := V.str "abc") ⟨e_ALPHABETS_2, rfl⟩ (.cons (a := V.str "abcd") ⟨e_ALPHABETS_3, rfl⟩ (.nil))))⟩) (.cons (.v _) (.cons (.v _) (.cons (.v _) (.cons (.v _) (.nil)))))
  have g_MOST_STATES_wishes : ∃ t, mg "MOST_STATES_wishes" = some (.int 8 t) := ⟨_, PySem.W.mg_of X G i_MOST_STATES_wishes⟩
  have k : Kc (ct K mg) := { cl_Wish := ⟨pg_Wish, hd_Wish, po_Wish, sa_Wish⟩, n_Wish_flags := n_Wish_flags, n_Wish_letters := n_Wish_letters, n_Wish_size := n_Wish_size, n_Wish_start := n_Wish_start, n_Wish_targets := n_Wish_targets, k_ALPHABETS := kk_ALPHABETS }
  have T : Bt mg := ⟨PySem.W.mg_none_of X G z_len, PySem.W.mg_none_of X G z_int, PySem.W.mg_none_of X G z_str, PySem.W.mg_none_of X G z_range, PySem.W.mg_none_of X G z_abs, PySem.W.mg_none_of X G z_min, PySem.W.mg_none_of X G z_list, PySem.W.mg_none_of X G z_isinstance, PySem.W.mg_none_of X G z_sorted, PySem.W.mg_none_of X G z_enumerate, PySem.W.mg_none_of X G z_zip, PySem.W.mg_none_of X G z_bool, PySem.W.mg_none_of X G z_dict, PySem.W.mg_none_of X G z_tuple, PySem.W.mg_none_of X G z_max, PySem.W.mg_none_of X G z_sum, PySem.W.mg_none_of X G z_all, PySem.W.mg_none_of X G z_any⟩
  have F_law_draws := fun_mk (st := s_law_draws) l_law_draws c_law_draws k_law_draws
  have b_law_draws := F_law_draws.binds (ps := ["_law_script", "_law_k", "_law_many"]) fun _ _ _ _ _ _ us hl => match us, hl with | [_, _, _], _ => rfl
  have F_law_machine := fun_mk (st := s_law_machine) l_law_machine c_law_machine k_law_machine
  have b_law_machine := F_law_machine.binds (ps := ["_law_row", "_law_top"]) fun _ _ _ _ _ _ us hl => match us, hl with | [_, _], _ => rfl
  have F_law_pairs := fun_mk (st := s_law_pairs) l_law_pairs c_law_pairs k_law_pairs
  have b_law_pairs := F_law_pairs.binds (ps := ["_law_m"]) fun _ _ _ _ _ _ us hl => match us, hl with | [_], _ => rfl
  have F_flag_table := fun_mk (st := s_flag_table) l_flag_table c_flag_table k_flag_table
  have b_flag_table := F_flag_table.binds (ps := ["letters", "size", "pairs"]) fun _ _ _ _ _ _ us hl => match us, hl with | [_, _, _], _ => rfl
  have F_Wish_init : FunD K "__init__" "Wish.__init__" (defArgs s_Wish_init) (defBody s_Wish_init) (defScope s_Wish_init) [.ref c_empty] [("start", .int 0)] f_Wish_init _ := ⟨⟨oc_Wish_init, od_Wish_init, .ref dt_Wish_init, .ref dk_Wish_init, dc_Wish_init, pm_Wish_init, an_Wish_init, cd_Wish_init, ct_Wish_init, sl_Wish_init, rfl, l_Wish_init, c_Wish_init, .inr ⟨List.cons_ne_nil _ _, dt_Wish_init, _, [.ref c_empty], nT_Wish_init, rfl, t_Wish_init, rfl, .cons rfl .nil⟩, .inr ⟨dk_Wish_init, rfl, fun q hq => by cases List.mem_singleton.mp hq; exact ⟨_, w_Wish_init_start, _, rfl⟩⟩⟩, k_Wish_init⟩
  have F_law_made := fun_mk (st := s_law_made) l_law_made c_law_made k_law_made
  have b_law_made := F_law_made.binds (ps := ["_law_m"]) fun _ _ _ _ _ _ us hl => match us, hl with | [_], _ => rfl
  have F_law_word := fun_mk (st := s_law_word) l_law_word c_law_word k_law_word
  have b_law_word := F_law_word.binds (ps := ["_law_row", "_law_letters", "_law_top"]) fun _ _ _ _ _ _ us hl => match us, hl with | [_, _, _], _ => rfl
  have F_law_lap := fun_mk (st := s_law_lap) l_law_lap c_law_lap k_law_lap
  have b_law_lap := F_law_lap.binds (ps := ["_law_m", "_law_state", "_law_word_here"]) fun _ _ _ _ _ _ us hl => match us, hl with | [_, _, _], _ => rfl
  have F_Wish_marks := fun_mk (st := s_Wish_marks) l_Wish_marks c_Wish_marks k_Wish_marks
  have b_Wish_marks := F_Wish_marks.binds (ps := ["self"]) fun _ _ _ _ _ _ us hl => match us, hl with | [_], _ => rfl
  have F_Wish_lap := fun_mk (st := s_Wish_lap) l_Wish_lap c_Wish_lap k_Wish_lap
  have b_Wish_lap := F_Wish_lap.binds (ps := ["self", "state", "word"]) fun _ _ _ _ _ _ us hl => match us, hl with | [_, _, _], _ => rfl
  have F_Wish_reach := fun_mk (st := s_Wish_reach) l_Wish_reach c_Wish_reach k_Wish_reach
  have b_Wish_reach := F_Wish_reach.binds (ps := ["self", "word"]) fun _ _ _ _ _ _ us hl => match us, hl with | [_, _], _ => rfl
  have F_Wish_rshift := fun_mk (st := s_Wish_rshift) l_Wish_rshift c_Wish_rshift k_Wish_rshift
  have b_Wish_rshift := F_Wish_rshift.binds (ps := ["self", "word"]) fun _ _ _ _ _ _ us hl => match us, hl with | [_, _], _ => rfl
  have F_Wish_text := fun_mk (st := s_Wish_text) l_Wish_text c_Wish_text k_Wish_text
  have b_Wish_text := F_Wish_text.binds (ps := ["self"]) fun _ _ _ _ _ _ us hl => match us, hl with | [_], _ => rfl
  have F_law_text := fun_mk (st := s_law_text) l_law_text c_law_text k_law_text
  have b_law_text := F_law_text.binds (ps := ["_law_m"]) fun _ _ _ _ _ _ us hl => match us, hl with | [_], _ => rfl
  have F_law_good := fun_mk (st := s_law_good) l_law_good c_law_good k_law_good
  have b_law_good := F_law_good.binds (ps := ["_law_m", "_law_state", "_law_stem", "_law_loop"]) fun _ _ _ _ _ _ us hl => match us, hl with | [_, _, _, _], _ => rfl
  have F_Wish_contains := fun_mk (st := s_Wish_contains) l_Wish_contains c_Wish_contains k_Wish_contains
  have b_Wish_contains := F_Wish_contains.binds (ps := ["self", "lasso"]) fun _ _ _ _ _ _ us hl => match us, hl with | [_, _], _ => rfl
  have F_Wish_remark := fun_mk (st := s_Wish_remark) l_Wish_remark c_Wish_remark k_Wish_remark
  have b_Wish_remark := F_Wish_remark.binds (ps := ["self", "pairs"]) fun _ _ _ _ _ _ us hl => match us, hl with | [_, _], _ => rfl
  have F_Wish_column := fun_mk (st := s_Wish_column) l_Wish_column c_Wish_column k_Wish_column
  have b_Wish_column := F_Wish_column.binds (ps := ["self", "state", "letter"]) fun _ _ _ _ _ _ us hl => match us, hl with | [_, _, _], _ => rfl
  have F_Wish_setitem := fun_mk (st := s_Wish_setitem) l_Wish_setitem c_Wish_setitem k_Wish_setitem
  have b_Wish_setitem := F_Wish_setitem.binds (ps := ["self", "at", "worth"]) fun _ _ _ _ _ _ us hl => match us, hl with | [_, _, _], _ => rfl
  have F_law := fun_mk (st := s_law) l_law c_law k_law
  have O_law_draws : ∀ base : Heap, K.In base → base.Ns mainGlobals mg → FnOk l.prog w K mg base CX0 1 f_law_draws _ ["_law_script", "_law_k", "_law_many"] (SpF (ct K mg) x_law_draws) := fun base hb hg => ok_law_draws F_law_draws T k 
  have Hc_law_draws : ∀ base : Heap, K.In base → base.Ns mainGlobals mg → Cal l.prog w K mg base "_law_draws" 1 ["_law_script", "_law_k", "_law_many"] (SpF (ct K mg) x_law_draws) := fun base hb hg => ⟨f_law_draws, _, O_law_draws base hb hg, b_law_draws, PySem.W.mg_of X G a_law_draws, k_law_draws⟩
  have O_law_machine : ∀ base : Heap, K.In base → base.Ns mainGlobals mg → FnOk l.prog w K mg base CX0 1 f_law_machine _ ["_law_row", "_law_top"] (SpF (ct K mg) x_law_machine) := fun base hb hg => ok_law_machine F_law_machine T k 
  have Hc_law_machine : ∀ base : Heap, K.In base → base.Ns mainGlobals mg → Cal l.prog w K mg base "_law_machine" 1 ["_law_row", "_law_top"] (SpF (ct K mg) x_law_machine) := fun base hb hg => ⟨f_law_machine, _, O_law_machine base hb hg, b_law_machine, PySem.W.mg_of X G a_law_machine, k_law_machine⟩
  have O_law_pairs : ∀ base : Heap, K.In base → base.Ns mainGlobals mg → FnOk l.prog w K mg base CX0 1 f_law_pairs _ ["_law_m"] (SpF (ct K mg) x_law_pairs) := fun base hb hg => ok_law_pairs F_law_pairs T k 
  have Hc_law_pairs : ∀ base : Heap, K.In base → base.Ns mainGlobals mg → Cal l.prog w K mg base "_law_pairs" 1 ["_law_m"] (SpF (ct K mg) x_law_pairs) := fun base hb hg => ⟨f_law_pairs, _, O_law_pairs base hb hg, b_law_pairs, PySem.W.mg_of X G a_law_pairs, k_law_pairs⟩
  have O_flag_table : ∀ base : Heap, K.In base → base.Ns mainGlobals mg → FnOk l.prog w K mg base CX0 1 f_flag_table _ ["letters", "size", "pairs"] (SpF (ct K mg) x_flag_table) := fun base hb hg => ok_flag_table F_flag_table T k 
  have Hc_flag_table : ∀ base : Heap, K.In base → base.Ns mainGlobals mg → Cal l.prog w K mg base "flag_table" 1 ["letters", "size", "pairs"] (SpF (ct K mg) x_flag_table) := fun base hb hg => ⟨f_flag_table, _, O_flag_table base hb hg, b_flag_table, PySem.W.mg_of X G a_flag_table, k_flag_table⟩
  have O_Wish_init : ∀ base : Heap, K.In base → base.Ns mainGlobals mg → FnOk l.prog w K mg base CX0 2 f_Wish_init _ ["self", "letters", "targets", "marks", "start"] (SpF (ct K mg) x_Wish_init) := fun base hb hg => ok_Wish_init F_Wish_init T k g_ALPHABETS g_MOST_STATES_wishes (Hc_flag_table base hb hg)
  have KB_k_Wish_3_start : ∃ its mv : List Value, KBn K _ ["self", "letters", "targets", "marks", "start"] 4 ["start"] (fun us ws => us ++ ws) (fun vs zs => vs ++ zs) := F_Wish_init.kbinds 4 ["start"] [] (fun vs _ _ zs => vs ++ zs) (List.cons_ne_nil _ _) (List.cons_ne_nil _ _) (fun q h => nomatch h) (fun r1 _ _ r4 => r1.append r4) fun T D doc pm an cdv ct us its mv ws h1 h2 h3 h4 => match us, its, mv, ws, h1, h2, h3, h4 with | [_, _, _, _], [_], [], [_], _, _, _, _ => ⟨_, rfl, rfl⟩
  have Hk_Wish_3_start : ∀ base : Heap, K.In base → base.Ns mainGlobals mg → KCal l.prog w K mg base "Wish" (cnOf mg "Wish") 2 3 ["self", "letters", "targets", "marks", "start"] ["start"] (SpF (ct K mg) x_Wish_init) := fun base hb hg => by obtain ⟨_, _, kb⟩ := KB_k_Wish_3_start; exact ⟨f_Wish_init, _, _, O_Wish_init base hb hg, kb, ⟨mk_Wish, a_Wish_init, i_Wish_init, kc_Wish⟩, PySem.W.mg_of X G aC_Wish⟩
  have O_law_made : ∀ base : Heap, K.In base → base.Ns mainGlobals mg → FnOk l.prog w K mg base CX0 4 f_law_made _ ["_law_m"] (SpF (ct K mg) x_law_made) := fun base hb hg => ok_law_made F_law_made T k (Hc_law_pairs base hb hg) (Hk_Wish_3_start base hb hg)
  have Hc_law_made : ∀ base : Heap, K.In base → base.Ns mainGlobals mg → Cal l.prog w K mg base "_law_made" 4 ["_law_m"] (SpF (ct K mg) x_law_made) := fun base hb hg => ⟨f_law_made, _, O_law_made base hb hg, b_law_made, PySem.W.mg_of X G a_law_made, k_law_made⟩
  have O_law_word : ∀ base : Heap, K.In base → base.Ns mainGlobals mg → FnOk l.prog w K mg base CX0 1 f_law_word _ ["_law_row", "_law_letters", "_law_top"] (SpF (ct K mg) x_law_word) := fun base hb hg => ok_law_word F_law_word T k 
  have Hc_law_word : ∀ base : Heap, K.In base → base.Ns mainGlobals mg → Cal l.prog w K mg base "_law_word" 1 ["_law_row", "_law_letters", "_law_top"] (SpF (ct K mg) x_law_word) := fun base hb hg => ⟨f_law_word, _, O_law_word base hb hg, b_law_word, PySem.W.mg_of X G a_law_word, k_law_word⟩
  have O_law_lap : ∀ base : Heap, K.In base → base.Ns mainGlobals mg → FnOk l.prog w K mg base CX0 1 f_law_lap _ ["_law_m", "_law_state", "_law_word_here"] (SpF (ct K mg) x_law_lap) := fun base hb hg => ok_law_lap F_law_lap T k 
  have Hc_law_lap : ∀ base : Heap, K.In base → base.Ns mainGlobals mg → Cal l.prog w K mg base "_law_lap" 1 ["_law_m", "_law_state", "_law_word_here"] (SpF (ct K mg) x_law_lap) := fun base hb hg => ⟨f_law_lap, _, O_law_lap base hb hg, b_law_lap, PySem.W.mg_of X G a_law_lap, k_law_lap⟩
  have O_Wish_marks : ∀ base : Heap, K.In base → base.Ns mainGlobals mg → FnOk l.prog w K mg base CX0 1 f_Wish_marks _ ["self"] (SpF (ct K mg) x_Wish_marks) := fun base hb hg => ok_Wish_marks F_Wish_marks T k 
  have Hpq_Wish_marks : ∀ base : Heap, K.In base → base.Ns mainGlobals mg → PCal l.prog w K mg base (cnOf mg "Wish") "marks" 1 ["self"] (SpF (ct K mg) x_Wish_marks) := fun base hb hg => ⟨p_Wish_marks, f_Wish_marks, _, O_Wish_marks base hb hg, b_Wish_marks, ⟨a_Wish_marks, pgt_Wish_marks, ptk_Wish_marks, ⟨_, prc_Wish_marks⟩⟩⟩
  have O_Wish_lap : ∀ base : Heap, K.In base → base.Ns mainGlobals mg → FnOk l.prog w K mg base CX0 1 f_Wish_lap _ ["self", "state", "word"] (SpF (ct K mg) x_Wish_lap) := fun base hb hg => ok_Wish_lap F_Wish_lap T k 
  have Hq_Wish_lap : ∀ base : Heap, K.In base → base.Ns mainGlobals mg → MCal l.prog w K mg base (cnOf mg "Wish") "lap" 1 ["self", "state", "word"] (SpF (ct K mg) x_Wish_lap) := fun base hb hg => ⟨f_Wish_lap, _, O_Wish_lap base hb hg, b_Wish_lap, ⟨a_Wish_lap, i_Wish_lap, k_Wish_lap⟩⟩
  have O_Wish_reach : ∀ base : Heap, K.In base → base.Ns mainGlobals mg → FnOk l.prog w K mg base CX0 2 f_Wish_reach _ ["self", "word"] (SpF (ct K mg) x_Wish_reach) := fun base hb hg => ok_Wish_reach F_Wish_reach T k (Hq_Wish_lap base hb hg)
  have Hq_Wish_reach : ∀ base : Heap, K.In base → base.Ns mainGlobals mg → MCal l.prog w K mg base (cnOf mg "Wish") "reach" 2 ["self", "word"] (SpF (ct K mg) x_Wish_reach) := fun base hb hg => ⟨f_Wish_reach, _, O_Wish_reach base hb hg, b_Wish_reach, ⟨a_Wish_reach, i_Wish_reach, k_Wish_reach⟩⟩
  have O_Wish_rshift : ∀ base : Heap, K.In base → base.Ns mainGlobals mg → FnOk l.prog w K mg base CX0 4 f_Wish_rshift _ ["self", "word"] (SpF (ct K mg) x_Wish_rshift) := fun base hb hg => ok_Wish_rshift F_Wish_rshift T k (Hpq_Wish_marks base hb hg) (Hk_Wish_3_start base hb hg) (Hq_Wish_reach base hb hg)
  have Hbq_Wish_rshift : ∀ base : Heap, K.In base → base.Ns mainGlobals mg → BCal l.prog w K mg base (cnOf mg "Wish") .RShift 4 ["self", "word"] (SpF (ct K mg) x_Wish_rshift) := fun base hb hg => ⟨f_Wish_rshift, _, O_Wish_rshift base hb hg, b_Wish_rshift, sf_Wish_rshift, a_Wish_rshift, i_Wish_rshift, br_Wish_rshift, bs_Wish_rshift, bt_Wish_rshift, bu_Wish_rshift⟩
  have O_Wish_text : ∀ base : Heap, K.In base → base.Ns mainGlobals mg → FnOk l.prog w K mg base CX0 1 f_Wish_text _ ["self"] (SpF (ct K mg) x_Wish_text) := fun base hb hg => ok_Wish_text F_Wish_text T k 
  have Hq_Wish_text : ∀ base : Heap, K.In base → base.Ns mainGlobals mg → MCal l.prog w K mg base (cnOf mg "Wish") "text" 1 ["self"] (SpF (ct K mg) x_Wish_text) := fun base hb hg => ⟨f_Wish_text, _, O_Wish_text base hb hg, b_Wish_text, ⟨a_Wish_text, i_Wish_text, k_Wish_text⟩⟩
  have O_law_text : ∀ base : Heap, K.In base → base.Ns mainGlobals mg → FnOk l.prog w K mg base CX0 1 f_law_text _ ["_law_m"] (SpF (ct K mg) x_law_text) := fun base hb hg => ok_law_text F_law_text T k 
  have Hc_law_text : ∀ base : Heap, K.In base → base.Ns mainGlobals mg → Cal l.prog w K mg base "_law_text" 1 ["_law_m"] (SpF (ct K mg) x_law_text) := fun base hb hg => ⟨f_law_text, _, O_law_text base hb hg, b_law_text, PySem.W.mg_of X G a_law_text, k_law_text⟩
  have O_law_good : ∀ base : Heap, K.In base → base.Ns mainGlobals mg → FnOk l.prog w K mg base CX0 2 f_law_good _ ["_law_m", "_law_state", "_law_stem", "_law_loop"] (SpF (ct K mg) x_law_good) := fun base hb hg => ok_law_good F_law_good T k (Hc_law_lap base hb hg)
  have Hc_law_good : ∀ base : Heap, K.In base → base.Ns mainGlobals mg → Cal l.prog w K mg base "_law_good" 2 ["_law_m", "_law_state", "_law_stem", "_law_loop"] (SpF (ct K mg) x_law_good) := fun base hb hg => ⟨f_law_good, _, O_law_good base hb hg, b_law_good, PySem.W.mg_of X G a_law_good, k_law_good⟩
  have O_Wish_contains : ∀ base : Heap, K.In base → base.Ns mainGlobals mg → FnOk l.prog w K mg base CX0 3 f_Wish_contains _ ["self", "lasso"] (SpF (ct K mg) x_Wish_contains) := fun base hb hg => ok_Wish_contains F_Wish_contains T k (Hq_Wish_reach base hb hg) (Hq_Wish_lap base hb hg)
  have Hq_Wish_contains : ∀ base : Heap, K.In base → base.Ns mainGlobals mg → MCal l.prog w K mg base (cnOf mg "Wish") "__contains__" 3 ["self", "lasso"] (SpF (ct K mg) x_Wish_contains) := fun base hb hg => ⟨f_Wish_contains, _, O_Wish_contains base hb hg, b_Wish_contains, ⟨a_Wish_contains, i_Wish_contains, k_Wish_contains⟩⟩
  have O_Wish_remark : ∀ base : Heap, K.In base → base.Ns mainGlobals mg → FnOk l.prog w K mg base CX0 2 f_Wish_remark _ ["self", "pairs"] (SpF (ct K mg) x_Wish_remark) := fun base hb hg => ok_Wish_remark F_Wish_remark T k (Hc_flag_table base hb hg)
  have Hq_Wish_remark : ∀ base : Heap, K.In base → base.Ns mainGlobals mg → MCal l.prog w K mg base (cnOf mg "Wish") "remark" 2 ["self", "pairs"] (SpF (ct K mg) x_Wish_remark) := fun base hb hg => ⟨f_Wish_remark, _, O_Wish_remark base hb hg, b_Wish_remark, ⟨a_Wish_remark, i_Wish_remark, k_Wish_remark⟩⟩
  have O_Wish_column : ∀ base : Heap, K.In base → base.Ns mainGlobals mg → FnOk l.prog w K mg base CX0 1 f_Wish_column _ ["self", "state", "letter"] (SpF (ct K mg) x_Wish_column) := fun base hb hg => ok_Wish_column F_Wish_column T k 
  have Hq_Wish_column : ∀ base : Heap, K.In base → base.Ns mainGlobals mg → MCal l.prog w K mg base (cnOf mg "Wish") "column" 1 ["self", "state", "letter"] (SpF (ct K mg) x_Wish_column) := fun base hb hg => ⟨f_Wish_column, _, O_Wish_column base hb hg, b_Wish_column, ⟨a_Wish_column, i_Wish_column, k_Wish_column⟩⟩
  have O_Wish_setitem : ∀ base : Heap, K.In base → base.Ns mainGlobals mg → FnOk l.prog w K mg base CX0 2 f_Wish_setitem _ ["self", "at", "worth"] (SpF (ct K mg) x_Wish_setitem) := fun base hb hg => ok_Wish_setitem F_Wish_setitem T k (Hq_Wish_column base hb hg)
  have Hsq_Wish_setitem : ∀ base : Heap, K.In base → base.Ns mainGlobals mg → SCal l.prog w K mg base (cnOf mg "Wish") 2 ["self", "at", "worth"] (SpF (ct K mg) x_Wish_setitem) := fun base hb hg => ⟨f_Wish_setitem, _, O_Wish_setitem base hb hg, b_Wish_setitem, ⟨a_Wish_setitem, i_Wish_setitem, k_Wish_setitem⟩, ns_Wish⟩
  have O_law : ∀ base : Heap, K.In base → base.Ns mainGlobals mg → FnOk l.prog w K mg base CX0 5 fa _ ["_law_script"] (SpF (ct K mg) x_law) := fun base hb hg => ok_law F_law T k (Hc_law_draws base hb hg) (Hc_law_machine base hb hg) (Hc_law_made base hb hg) (Hc_law_word base hb hg) (Hc_law_lap base hb hg) (Hbq_Wish_rshift base hb hg) (Hq_Wish_text base hb hg) (Hc_law_text base hb hg) (Hc_law_good base hb hg) (Hq_Wish_contains base hb hg) (Hq_Wish_remark base hb hg) (Hsq_Wish_setitem base hb hg)
  exact ⟨_, fun s v => .of_eq rfl, fun base hb hg => toTop (O_law base hb hg)⟩
theorem walk {l : PySem.W.OpenLaw} {q : Program} {loose : List Str} {XP : (Str → Option Value) → Heap → Prop} {YP : World → Heap → Prop} {d : DefRec} {K : Params → PySem.W.Frag} (hn : l.most = some 63) (hdf : d.params.defaults = [])
    (hY : ∀ (w : World) (h : Heap), YP w h → (K w.params).In h)
    (F : ∀ (w : World) (mg : Str → Option Value) (fa : Addr) (h : Heap), (K w.params).In h → h.Ns mainGlobals mg → mg d.name = some (.ref fa) →
      ∃ fd : FuncData, (∀ (s : Shared) (u : Value), BindsTo s fd ⟨[u], []⟩ [("_law_script", u)]) ∧ ∀ base : Heap, (K w.params).In base → base.Ns mainGlobals mg → FnOk l.prog w (K w.params) mg base CX0 5 fa fd ["_law_script"] (sp_top (K w.params))) :
    PySem.W.WalkO q loose XP YP l.row.toRowW d [] (fun f vs => PySem.call f vs) :=
  L2.walk_of (n := 63) (k := 5) (x := "_law_script") (CX := fun _ => CX0) (sp := fun w => sp_top (K w.params)) hn (by decide) hdf ⟨rfl, by decide, by decide⟩ hY F (fun _ _ a ns hl _ hS => ⟨ns, a, rfl, hS, hl, fun _ => rfl⟩) fun _ _ _ _ _ z => z
end NV

open PySem PySem.W PyProof.Rows in
set_option maxRecDepth 100000 in
set_option maxHeartbeats 0 in
theorem PySem.Challenge.cw_noteless_k08_cut_behind_a_word_holds : PySem.Challenge.rw_noteless_k08_cut_behind_a_word.Holds := by
  w_on; o_law; k_head; (case hw => w_witness2)
  k_fill
  refine NV.walk (l := PySem.Challenge.rw_noteless_k08_cut_behind_a_word) rfl rfl (fun w h Y => PySem.W.kIn_of Y) ?F
  case F =>
    intro w mg fa h KX G hmg
    refine' NV.all_mk KX G hmg ?aC_Wish ?pg_Wish ?hd_Wish ?po_Wish ?sa_Wish ?mk_Wish ?kc_Wish ?n_Wish_flags ?n_Wish_letters ?n_Wish_size ?n_Wish_start ?n_Wish_targets ?sf_Wish_rshift ?br_Wish_rshift ?bs_Wish_rshift ?bt_Wish_rshift ?bu_Wish_rshift ?ns_Wish ?i_ALPHABETS ?l_ALPHABETS ?i_MOST_STATES_wishes ?z_len ?z_int ?z_str ?z_range ?z_abs ?z_min ?z_list ?z_isinstance ?z_sorted ?z_enumerate ?z_zip ?z_bool ?z_dict ?z_tuple ?z_max ?z_sum ?z_all ?z_any ?a_law_draws ?l_law_draws ?c_law_draws ?k_law_draws ?a_law_machine ?l_law_machine ?c_law_machine ?k_law_machine ?a_law_pairs ?l_law_pairs ?c_law_pairs ?k_law_pairs ?a_flag_table ?l_flag_table ?c_flag_table ?k_flag_table ?a_Wish_init ?i_Wish_init ?l_Wish_init ?t_Wish_init ?w_Wish_init_start ?c_Wish_init ?k_Wish_init ?a_law_made ?l_law_made ?c_law_made ?k_law_made ?a_law_word ?l_law_word ?c_law_word ?k_law_word ?a_law_lap ?l_law_lap ?c_law_lap ?k_law_lap ?a_Wish_marks ?pgt_Wish_marks ?ptk_Wish_marks ?prc_Wish_marks ?l_Wish_marks ?c_Wish_marks ?k_Wish_marks ?a_Wish_lap ?i_Wish_lap ?l_Wish_lap ?c_Wish_lap ?k_Wish_lap ?a_Wish_reach ?i_Wish_reach ?l_Wish_reach ?c_Wish_reach ?k_Wish_reach ?a_Wish_rshift ?i_Wish_rshift ?l_Wish_rshift ?c_Wish_rshift ?k_Wish_rshift ?a_Wish_text ?i_Wish_text ?l_Wish_text ?c_Wish_text ?k_Wish_text ?a_law_text ?l_law_text ?c_law_text ?k_law_text ?a_law_good ?l_law_good ?c_law_good ?k_law_good ?a_Wish_contains ?i_Wish_contains ?l_Wish_contains ?c_Wish_contains ?k_Wish_contains ?a_Wish_remark ?i_Wish_remark ?l_Wish_remark ?c_Wish_remark ?k_Wish_remark ?a_Wish_column ?i_Wish_column ?l_Wish_column ?c_Wish_column ?k_Wish_column ?a_Wish_setitem ?i_Wish_setitem ?l_Wish_setitem ?c_Wish_setitem ?k_Wish_setitem ?a_law ?l_law ?c_law ?k_law
    (case aC_Wish => k_is)
    (case pg_Wish => k_is)
    (case hd_Wish => k_is)
    (case po_Wish => k_is)
    (case sa_Wish => k_is)
    (case mk_Wish => k_is)
    (case kc_Wish => k_is)
    (case n_Wish_flags => k_is)
    (case n_Wish_letters => k_is)
    (case n_Wish_size => k_is)
    (case n_Wish_start => k_is)
    (case n_Wish_targets => k_is)
    (case sf_Wish_rshift => k_is)
    (case br_Wish_rshift => k_is)
    (case bs_Wish_rshift => k_is)
    (case bt_Wish_rshift => k_is)
    (case bu_Wish_rshift => k_is)
    (case ns_Wish => k_is)
    (case i_ALPHABETS => k_is)
    (case l_ALPHABETS => k_is)
    (case i_MOST_STATES_wishes => k_is)
    (case z_len => k_is)
    (case z_int => k_is)
    (case z_str => k_is)
    (case z_range => k_is)
    (case z_abs => k_is)
    (case z_min => k_is)
    (case z_list => k_is)
    (case z_isinstance => k_is)
    (case z_sorted => k_is)
    (case z_enumerate => k_is)
    (case z_zip => k_is)
    (case z_bool => k_is)
    (case z_dict => k_is)
    (case z_tuple => k_is)
    (case z_max => k_is)
    (case z_sum => k_is)
    (case z_all => k_is)
    (case z_any => k_is)
    (case a_law_draws => k_is)
    (case l_law_draws => k_is)
    (case c_law_draws => k_is)
    (case k_law_draws => k_is)
    (case a_law_machine => k_is)
    (case l_law_machine => k_is)
    (case c_law_machine => k_is)
    (case k_law_machine => k_is)
    (case a_law_pairs => k_is)
    (case l_law_pairs => k_is)
    (case c_law_pairs => k_is)
    (case k_law_pairs => k_is)
    (case a_flag_table => k_is)
    (case l_flag_table => k_is)
    (case c_flag_table => k_is)
    (case k_flag_table => k_is)
    (case a_Wish_init => k_is)
    (case i_Wish_init => k_is)
    (case l_Wish_init => k_is)
    (case t_Wish_init => k_is)
    (case w_Wish_init_start => k_is)
    (case c_Wish_init => k_is)
    (case k_Wish_init => k_is)
    (case a_law_made => k_is)
    (case l_law_made => k_is)
    (case c_law_made => k_is)
    (case k_law_made => k_is)
    (case a_law_word => k_is)
    (case l_law_word => k_is)
    (case c_law_word => k_is)
    (case k_law_word => k_is)
    (case a_law_lap => k_is)
    (case l_law_lap => k_is)
    (case c_law_lap => k_is)
    (case k_law_lap => k_is)
    (case a_Wish_marks => k_is)
    (case pgt_Wish_marks => k_is)
    (case ptk_Wish_marks => k_is)
    (case prc_Wish_marks => k_is)
    (case l_Wish_marks => k_is)
    (case c_Wish_marks => k_is)
    (case k_Wish_marks => k_is)
    (case a_Wish_lap => k_is)
    (case i_Wish_lap => k_is)
    (case l_Wish_lap => k_is)
    (case c_Wish_lap => k_is)
    (case k_Wish_lap => k_is)
    (case a_Wish_reach => k_is)
    (case i_Wish_reach => k_is)
    (case l_Wish_reach => k_is)
    (case c_Wish_reach => k_is)
    (case k_Wish_reach => k_is)
    (case a_Wish_rshift => k_is)
    (case i_Wish_rshift => k_is)
    (case l_Wish_rshift => k_is)
    (case c_Wish_rshift => k_is)
    (case k_Wish_rshift => k_is)
    (case a_Wish_text => k_is)
    (case i_Wish_text => k_is)
    (case l_Wish_text => k_is)
    (case c_Wish_text => k_is)
    (case k_Wish_text => k_is)
    (case a_law_text => k_is)
    (case l_law_text => k_is)
    (case c_law_text => k_is)
    (case k_law_text => k_is)
    (case a_law_good => k_is)
    (case l_law_good => k_is)
    (case c_law_good => k_is)
    (case k_law_good => k_is)
    (case a_Wish_contains => k_is)
    (case i_Wish_contains => k_is)
    (case l_Wish_contains => k_is)
    (case c_Wish_contains => k_is)
    (case k_Wish_contains => k_is)
    (case a_Wish_remark => k_is)
    (case i_Wish_remark => k_is)
    (case l_Wish_remark => k_is)
    (case c_Wish_remark => k_is)
    (case k_Wish_remark => k_is)
    (case a_Wish_column => k_is)
    (case i_Wish_column => k_is)
    (case l_Wish_column => k_is)
    (case c_Wish_column => k_is)
    (case k_Wish_column => k_is)
    (case a_Wish_setitem => k_is)
    (case i_Wish_setitem => k_is)
    (case l_Wish_setitem => k_is)
    (case c_Wish_setitem => k_is)
    (case k_Wish_setitem => k_is)
    (case a_law => k_is)
    (case l_law => k_is)
    (case c_law => k_is)
    (case k_law => k_is)
