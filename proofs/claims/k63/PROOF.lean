import PyProof.Rows.All
import Wide.All
import OpenK.AllK
import Wide.FinOn
import HandS.ForMost
import HandS.ForExc
import HandS.Flow
import HandS.TupAny
import HandS.IsInst
import HandS.CallSlots
import HandS.Wide
import HandS.TupLe
import HandS.Replace
import HandS.Dict
import HandS.Text
import HandS.RaiseMore
import HandS.ExcInit
import HandS.ExcField
import HandS.ExcIs
import HandS.TryOnly
import HandS.TryMany
import KE.GoesNew
import HandS.Conv
import HandS.SortInts
import HandS.Small
import PyProof.DictCopy
import KE.KExcIs
import HandS.DictSubView
import HandS.SetFor
import HandS.More
import HandS.Remove
import HandS.DictComp
import HandS.Defaults
import KE.GoesEnum
import HandS.OwnEq
import PyProof.NeKinds
import PyProof.InstNe
import KE.KFmtOwn
import HandS.RevTup
import HandS.Rev
import HandS.Star
import KE.GoesRaise
import HandS.Strs
import KE.KRevSl
import PySem.Challenge.RW_sparedwork_k63_orders_that_stand_ahead
set_option Elab.async false
set_option linter.all false
set_option maxRecDepth 100000
set_option maxHeartbeats 4000000
set_option autoImplicit false
/-! The layer of shallow semantics: data D, a store of live objects, and for each construct a rule
    whose reading is a plain function of the slots and the store. -/
namespace G
open PySem L2

inductive D where
  | non
  | bl (b : Bool)
  | int (i : Int)
  | str (x : Str)
  | tup (xs : List D)
  | lst (xs : List D)
  | dct (kvs : List (Key × D))
  | ins (c : Str) (fs : List (Str × D))
  | ref (n : Nat)
  | scr (ns : List Int)
  | exv (c : Str) (fs : List (Str × D))

/-- a live object -/
inductive MO where
  | lst (xs : List D)
  | dct (kvs : List (Key × D))
  | ldc (kvs : List (Key × D))
  | ins (c : Str) (fs : List (Str × D))
  | dead
abbrev Store := List MO
/-- an exception in flight: its class, its fields -/
structure Exc where
  cls : Str
  fs : List (Str × D)
inductive Res (α : Type) where
  | ok (a : α) (S : Store)
  | exc (x : Exc) (S : Store)
  | stk
def Res.bind {α β : Type} (r : Res α) (f : α → Store → Res β) : Res β := match r with
  | .ok a S => f a S
  | .exc x S => .exc x S
  | .stk => .stk
/-- an equation that simp takes by its proof, not by unfolding -/
theorem nrfl {α : Sort _} {a b : α} (h : a = b) : a = b := h
@[simp] theorem bind_ok {α β : Type} {a : α} {S : Store} {f : α → Store → Res β} : (Res.ok a S).bind f = f a S := nrfl rfl
@[simp] theorem bind_exc {α β : Type} {x : Exc} {S : Store} {f : α → Store → Res β} : (Res.exc x S).bind f = .exc x S := nrfl rfl
@[simp] theorem bind_stk {α β : Type} {f : α → Store → Res β} : (Res.stk : Res α).bind f = .stk := nrfl rfl
abbrev Sl := List (Option D)
abbrev M (α : Type) := Sl → Store → Res α
/-- a world: the frozen objects, the hidden ones, where the live ones stand -/
structure Wd where
  G : Hp
  P : Hp
  ι : Nat → Addr
  n : Nat
structure Le (W W' : Wd) : Prop where
  g : ∀ a o, W.G a = some o → W'.G a = some o
  i : ∀ j, j < W.n → W'.ι j = W.ι j
  n : W.n ≤ W'.n
  p : W'.P = W.P
theorem Le.rf (W : Wd) : Le W W := ⟨fun _ _ h => h, fun _ _ => rfl, Nat.le_refl _, rfl⟩
theorem Le.tr {A B C : Wd} (x : Le A B) (y : Le B C) : Le A C :=
  ⟨fun a o h => y.g a o (x.g a o h), fun j h => (y.i j (Nat.lt_of_lt_of_le h x.n)).trans (x.i j h), Nat.le_trans x.n y.n, y.p.trans x.p⟩
/-- of what a value leans on -/
structure Ls (W W' : Wd) : Prop where
  g : ∀ a o, W.G a = some o → W'.G a = some o
  i : ∀ j, j < W.n → W'.ι j = W.ι j
  n : W.n ≤ W'.n
theorem Le.s {W W' : Wd} (l : Le W W') : Ls W W' := ⟨l.g, l.i, l.n⟩
theorem Ls.tr {A B C : Wd} (x : Ls A B) (y : Ls B C) : Ls A C :=
  ⟨fun a o h => y.g a o (x.g a o h), fun j h => (y.i j (Nat.lt_of_lt_of_le h x.n)).trans (x.i j h), Nat.le_trans x.n y.n⟩

section
variable (K : PySem.W.Frag) (cl : Str → Option Addr)
mutual
inductive Rep (W : Wd) : V → D → Prop
  | non : Rep W .non .non
  | bl (b : Bool) : Rep W (.bl b) (.bl b)
  | int (i : Int) : Rep W (.int i) (.int i)
  | str (x : Str) : Rep W (.str x) (.str x)
  | tup {a : Addr} {vs : List V} {ds : List D} : SqT K W.G a vs → Reps W vs ds → Rep W (.ref a) (.tup ds)
  | lst {a : Addr} {vs : List V} {ds : List D} : W.G a = some (.lst vs) → Reps W vs ds → Rep W (.ref a) (.lst ds)
  | scr {a : Addr} {ns : List Int} : SqL K W.G a (ns.map V.int) → Rep W (.ref a) (.scr ns)
  | dct {a : Addr} {o : Obj} {vs : List (Key × V)} {ds : List (Key × D)} : W.G a = some (.frz o (.dK vs)) → RepK W vs ds → Rep W (.ref a) (.dct ds)
  | ins {a C dx : Addr} {c : Str} {vs : List (Str × V)} {ds : List (Str × D)} : W.G a = some (.ins C dx vs) → cl c = some C → RepF W vs ds → Rep W (.ref a) (.ins c ds)
  | ref {n : Nat} : n < W.n → Rep W (.ref (W.ι n)) (.ref n)
  | exv0 {a C : Addr} {c : Str} : cl "#a" = some a → cl "#c" = some C → cl "#d" = none → cl c = some C → Rep W (.ref a) (.exv c [])
  | exv1 {a C d : Addr} {c : Str} {vs : List (Str × V)} {ds : List (Str × D)} : cl "#a" = some a → cl "#c" = some C → cl "#d" = some d → cl c = some C → W.G d = some (.xd vs) → ds ≠ [] → RepF W vs ds → Rep W (.ref a) (.exv c ds)
inductive Reps (W : Wd) : List V → List D → Prop
  | nil : Reps W [] []
  | cons {v : V} {d : D} {vs : List V} {ds : List D} : Rep W v d → Reps W vs ds → Reps W (v :: vs) (d :: ds)
inductive RepK (W : Wd) : List (Key × V) → List (Key × D) → Prop
  | nil : RepK W [] []
  | cons {k : Key} {v : V} {d : D} {vs : List (Key × V)} {ds : List (Key × D)} : Rep W v d → RepK W vs ds → RepK W ((k, v) :: vs) ((k, d) :: ds)
inductive RepF (W : Wd) : List (Str × V) → List (Str × D) → Prop
  | nil : RepF W [] []
  | cons {k : Str} {v : V} {d : D} {vs : List (Str × V)} {ds : List (Str × D)} : Rep W v d → RepF W vs ds → RepF W ((k, v) :: vs) ((k, d) :: ds)
end
end

section
variable {K : PySem.W.Frag} {cl : Str → Option Addr} {W W' : Wd}
theorem sqT_up {A B : Hp} {a : Addr} {xs : List V} (g : ∀ a o, A a = some o → B a = some o) (h : SqT K A a xs) : SqT K B a xs := by
  rcases h with (h | ⟨o, h⟩) | h
  · exact .inl (.inl (g _ _ h))
  · exact .inl (.inr ⟨o, g _ _ h⟩)
  · exact .inr h
theorem sqL_up {A B : Hp} {a : Addr} {xs : List V} (g : ∀ a o, A a = some o → B a = some o) (h : SqL K A a xs) : SqL K B a xs := by
  rcases h with (h | ⟨o, h⟩) | h
  · exact .inl (.inl (g _ _ h))
  · exact .inl (.inr ⟨o, g _ _ h⟩)
  · exact .inr h
mutual
theorem Rep.ups (l : Ls W W') : ∀ {v : V} {d : D}, Rep K cl W v d → Rep K cl W' v d
  | _, _, .non => .non
  | _, _, .bl b => .bl b
  | _, _, .int i => .int i
  | _, _, .str x => .str x
  | _, _, .tup h t => .tup (sqT_up l.g h) (Reps.ups l t)
  | _, _, .lst h t => .lst (l.g _ _ h) (Reps.ups l t)
  | _, _, .scr h => .scr (sqL_up l.g h)
  | _, _, .dct h t => .dct (l.g _ _ h) (RepK.ups l t)
  | _, _, .ins h c t => .ins (l.g _ _ h) c (RepF.ups l t)
  | _, _, .ref (n := n) h => by
    rw [← l.i n h]
    exact .ref (Nat.lt_of_lt_of_le h l.n)
  | _, _, .exv0 h1 h2 h3 h4 => .exv0 h1 h2 h3 h4
  | _, _, .exv1 h1 h2 h3 h4 h5 h6 t => .exv1 h1 h2 h3 h4 (l.g _ _ h5) h6 (RepF.ups l t)
theorem Reps.ups (l : Ls W W') : ∀ {v : List V} {d : List D}, Reps K cl W v d → Reps K cl W' v d
  | _, _, .nil => .nil
  | _, _, .cons h t => .cons (Rep.ups l h) (Reps.ups l t)
theorem RepK.ups (l : Ls W W') : ∀ {v : List (Key × V)} {d : List (Key × D)}, RepK K cl W v d → RepK K cl W' v d
  | _, _, .nil => .nil
  | _, _, .cons h t => .cons (Rep.ups l h) (RepK.ups l t)
theorem RepF.ups (l : Ls W W') : ∀ {v : List (Str × V)} {d : List (Str × D)}, RepF K cl W v d → RepF K cl W' v d
  | _, _, .nil => .nil
  | _, _, .cons h t => .cons (Rep.ups l h) (RepF.ups l t)
end
theorem Rep.up (l : Le W W') {v : V} {d : D} (h : Rep K cl W v d) : Rep K cl W' v d := h.ups l.s
theorem Reps.up (l : Le W W') {v : List V} {d : List D} (h : Reps K cl W v d) : Reps K cl W' v d := h.ups l.s
theorem RepK.up (l : Le W W') {v : List (Key × V)} {d : List (Key × D)} (h : RepK K cl W v d) : RepK K cl W' v d := h.ups l.s
theorem RepF.up (l : Le W W') {v : List (Str × V)} {d : List (Str × D)} (h : RepF K cl W v d) : RepF K cl W' v d := h.ups l.s
theorem Reps.len : ∀ {v : List V} {d : List D}, Reps K cl W v d → v.length = d.length
  | _, _, .nil => rfl
  | _, _, .cons _ t => by simp [Reps.len t]
theorem Reps.at : ∀ {v : List V} {d : List D} {i : Nat} {x : D}, Reps K cl W v d → d[i]? = some x → ∃ y, v[i]? = some y ∧ Rep K cl W y x
  | _, _, _, _, .nil, e => by simp at e
  | _, _, 0, _, .cons h _, e => by simp at e; subst e; exact ⟨_, rfl, h⟩
  | _, _, i + 1, x, .cons _ t, e => by
    obtain ⟨y, h1, h2⟩ := Reps.at (i := i) (x := x) t (by simpa using e)
    exact ⟨y, by simpa using h1, h2⟩
theorem Reps.at' : ∀ {v : List V} {d : List D} {i : Nat} {y : V}, Reps K cl W v d → v[i]? = some y → ∃ x, d[i]? = some x ∧ Rep K cl W y x
  | _, _, _, _, .nil, e => by simp at e
  | _, _, 0, _, .cons h _, e => by simp at e; subst e; exact ⟨_, rfl, h⟩
  | _, _, i + 1, x, .cons _ t, e => by
    obtain ⟨y, h1, h2⟩ := Reps.at' (i := i) (y := x) t (by simpa using e)
    exact ⟨y, by simpa using h1, h2⟩
theorem Reps.app : ∀ {v w : List V} {d e : List D}, Reps K cl W v d → Reps K cl W w e → Reps K cl W (v ++ w) (d ++ e)
  | _, _, _, _, .nil, q => q
  | _, _, _, _, .cons h t, q => .cons h (Reps.app t q)
theorem Reps.set {x : V} {y : D} (r : Rep K cl W x y) : ∀ {v : List V} {d : List D} (i : Nat), Reps K cl W v d → Reps K cl W (v.set i x) (d.set i y)
  | _, _, _, .nil => .nil
  | _, _, 0, .cons _ t => .cons r t
  | _, _, i + 1, .cons q t => .cons q (Reps.set r i t)
theorem Reps.take : ∀ {v : List V} {d : List D} (n : Nat), Reps K cl W v d → Reps K cl W (v.take n) (d.take n)
  | _, _, 0, _ => by simp; exact .nil
  | _, _, n + 1, .nil => by simp; exact .nil
  | _, _, n + 1, .cons h t => .cons h (Reps.take n t)
theorem Reps.drop : ∀ {v : List V} {d : List D} (n : Nat), Reps K cl W v d → Reps K cl W (v.drop n) (d.drop n)
  | _, _, 0, h => h
  | _, _, n + 1, .nil => by simp; exact .nil
  | _, _, n + 1, .cons h t => Reps.drop n t
theorem Reps.rev : ∀ {v : List V} {d : List D}, Reps K cl W v d → Reps K cl W v.reverse d.reverse
  | _, _, .nil => .nil
  | _, _, .cons h t => by
    rw [List.reverse_cons, List.reverse_cons]
    exact (Reps.rev t).app (.cons h .nil)
end

section
variable (K : PySem.W.Frag) (cl : Str → Option Addr)
def MRep (W : Wd) (H : Hp) (a : Addr) : MO → Prop
  | .lst ds => ∃ vs, H a = some (.lst vs) ∧ Reps K cl W vs ds
  | .dct ds => ∃ vs, H a = some (.dK vs) ∧ RepK K cl W vs ds
  | .ldc ds => ∃ o vs, H a = some (.frz o (.dK vs)) ∧ RepK K cl W vs ds
  | .ins c ds => ∃ C dx vs, cl c = some C ∧ H a = some (.ins C dx vs) ∧ RepF K cl W vs ds
  | .dead => True
structure R (W : Wd) (H : Hp) (S : Store) : Prop where
  n : W.n = S.length
  sub : ∀ a o, W.G a = some o → H a = some o
  live : ∀ (i : Nat) (mo : MO), S[i]? = some mo → mo ≠ .dead → W.G (W.ι i) = none ∧ MRep K cl W H (W.ι i) mo
  inj : ∀ (i j : Nat) (m m' : MO), S[i]? = some m → S[j]? = some m' → m ≠ .dead → m' ≠ .dead → W.ι i = W.ι j → i = j
  priv : ∀ a o, W.P a = some o → H a = some o ∧ W.G a = none ∧ ∀ (i : Nat) (mo : MO), S[i]? = some mo → mo ≠ .dead → W.ι i ≠ a
def XRep (W : Wd) (cls : Value) (dd : Option Addr) (x : Exc) : Prop :=
  ∃ C, cl x.cls = some C ∧ cls = .ref C ∧ ((x.fs = [] ∧ dd = none) ∨ ∃ d vs, dd = some d ∧ W.G d = some (.xd vs) ∧ x.fs ≠ [] ∧ RepF K cl W vs x.fs)
structure Envs (W : Wd) (σ : St) (ρ : Sl) : Prop where
  len : σ.length = ρ.length
  at' : ∀ (i : Nat) (d : D), ρ[i]? = some (some d) → ∃ v, σ[i]? = some (some v) ∧ Rep K cl W v d
end

section
variable {K : PySem.W.Frag} {cl : Str → Option Addr} {W W' : Wd} {H : Hp} {S : Store} {σ : St} {ρ : Sl}
theorem Envs.ups (l : Ls W W') (e : Envs K cl W σ ρ) : Envs K cl W' σ ρ := ⟨e.len, fun i d h => let ⟨v, h1, h2⟩ := e.at' i d h; ⟨v, h1, h2.ups l⟩⟩
theorem Envs.up (l : Le W W') (e : Envs K cl W σ ρ) : Envs K cl W' σ ρ := e.ups l.s
theorem Envs.set {v : V} {d : D} (e : Envs K cl W σ ρ) (i : Nat) (r : Rep K cl W v d) : Envs K cl W (σ.set i (some v)) (ρ.set i (some d)) := by
  refine ⟨by simpa using e.len, fun j x h => ?_⟩
  by_cases hj : i = j
  · subst hj
    by_cases hi : i < ρ.length
    · rw [List.getElem?_set_self hi] at h
      have h := Option.some.inj (Option.some.inj h)
      subst h
      exact ⟨v, List.getElem?_set_self (by rw [e.len]; exact hi), r⟩
    · rw [List.getElem?_eq_none (by simpa using hi)] at h
      cases h
  · rw [List.getElem?_set_ne hj] at h ⊢
    exact e.at' j x h
theorem Envs.unset (e : Envs K cl W σ ρ) (i : Nat) (o : Option V) : Envs K cl W (σ.set i o) (ρ.set i none) := by
  refine ⟨by simpa using e.len, fun j x h => ?_⟩
  by_cases hj : i = j
  · subst hj
    by_cases hi : i < ρ.length
    · rw [List.getElem?_set_self hi] at h
      cases h
    · rw [List.getElem?_eq_none (by simpa using hi)] at h
      cases h
  · rw [List.getElem?_set_ne hj] at h ⊢
    exact e.at' j x h
theorem MRep.ups {a : Addr} {mo : MO} (l : Ls W W') (h : MRep K cl W H a mo) : MRep K cl W' H a mo := by
  cases mo with
  | lst ds => obtain ⟨vs, h1, h2⟩ := h; exact ⟨vs, h1, h2.ups l⟩
  | dct ds => obtain ⟨vs, h1, h2⟩ := h; exact ⟨vs, h1, h2.ups l⟩
  | ldc ds => obtain ⟨o, vs, h1, h2⟩ := h; exact ⟨o, vs, h1, h2.ups l⟩
  | ins c ds => obtain ⟨C, dx, vs, h0, h1, h2⟩ := h; exact ⟨C, dx, vs, h0, h1, h2.ups l⟩
  | dead => trivial
theorem MRep.up {a : Addr} {mo : MO} (l : Le W W') (h : MRep K cl W H a mo) : MRep K cl W' H a mo := h.ups l.s
theorem MRep.some {a : Addr} {mo : MO} (h : MRep K cl W H a mo) (nd : mo ≠ .dead) : ∃ o, H a = some o := by
  cases mo with
  | lst ds => obtain ⟨vs, h1, h2⟩ := h; exact ⟨_, h1⟩
  | dct ds => obtain ⟨vs, h1, h2⟩ := h; exact ⟨_, h1⟩
  | ldc ds => obtain ⟨o, vs, h1, h2⟩ := h; exact ⟨_, h1⟩
  | ins c ds => obtain ⟨C, dx, vs, h0, h1, h2⟩ := h; exact ⟨_, h1⟩
  | dead => exact absurd rfl nd
theorem MRep.at {a : Addr} {mo : MO} {H' : Hp} (h : MRep K cl W H a mo) (e : H' a = H a) : MRep K cl W H' a mo := by
  cases mo with
  | lst ds => obtain ⟨vs, h1, h2⟩ := h; exact ⟨vs, e.trans h1, h2⟩
  | dct ds => obtain ⟨vs, h1, h2⟩ := h; exact ⟨vs, e.trans h1, h2⟩
  | ldc ds => obtain ⟨o, vs, h1, h2⟩ := h; exact ⟨o, vs, e.trans h1, h2⟩
  | ins c ds => obtain ⟨C, dx, vs, h0, h1, h2⟩ := h; exact ⟨C, dx, vs, h0, e.trans h1, h2⟩
  | dead => trivial

/-- a new object, known to nobody -/
theorem R.junk {p : Addr} {o : HO} (r : R K cl W H S) (hp : H p = none) : R K cl W (upd H p o) S := by
  refine ⟨r.n, fun a u h => ?_, fun i mo h nd => ?_, r.inj, fun a u h => ?_⟩
  · rw [upd_ne (ne_of_none (r.sub a u h) hp)]
    exact r.sub a u h
  · obtain ⟨h1, h2⟩ := r.live i mo h nd
    obtain ⟨u, hu⟩ := h2.some nd
    exact ⟨h1, h2.at (upd_ne (ne_of_none hu hp))⟩
  · obtain ⟨h1, h2, h3⟩ := r.priv a u h
    exact ⟨by rw [upd_ne (ne_of_none h1 hp)]; exact h1, h2, h3⟩
def Wd.fz (W : Wd) (p : Addr) (o : HO) : Wd := { W with G := upd W.G p o }
theorem Le.fz {p : Addr} {o : HO} (h : W.G p = none) : Le W (W.fz p o) := ⟨fun a u e => by
  show upd W.G p o a = some u
  rw [upd_ne (ne_of_none e h)]
  exact e, fun _ _ => rfl, Nat.le_refl _, rfl⟩
/-- a tracked object that is no live one is frozen -/
theorem R.fzAt {p : Addr} {o : HO} (r : R K cl W H S) (hp : H p = some o) (hg : W.G p = none) (nl : ∀ (i : Nat) (mo : MO), S[i]? = some mo → mo ≠ .dead → W.ι i ≠ p) (np : W.P p = none) : R K cl (W.fz p o) H S := by
  refine ⟨r.n, fun a u h => ?_, fun i mo h nd => ?_, r.inj, fun a u h => ?_⟩
  · by_cases e : a = p
    · subst e
      rw [show (W.fz a o).G a = some o from upd_same] at h
      exact hp.trans h
    · rw [show (W.fz p o).G a = W.G a from upd_ne e] at h
      exact r.sub a u h
  · obtain ⟨h1, h2⟩ := r.live i mo h nd
    exact ⟨(upd_ne (nl i mo h nd)).trans h1, h2.up (Le.fz hg)⟩
  · obtain ⟨h1, h2, h3⟩ := r.priv a u h
    exact ⟨h1, (upd_ne (ne_of_none h np)).trans h2, h3⟩
/-- a new frozen object -/
theorem R.fz {p : Addr} {o : HO} (r : R K cl W H S) (hp : H p = none) : R K cl (W.fz p o) (upd H p o) S ∧ Le W (W.fz p o) := by
  have hg : W.G p = none := by
    cases e : W.G p with
    | none => rfl
    | some u => rw [r.sub p u e] at hp; cases hp
  have hq : W.P p = none := by
    cases e : W.P p with
    | none => rfl
    | some u => rw [(r.priv p u e).1] at hp; cases hp
  refine ⟨(r.junk hp).fzAt upd_same hg (fun i mo h nd => ?_) hq, Le.fz hg⟩
  obtain ⟨u, hu⟩ := (r.live i mo h nd).2.some nd
  exact ne_of_none hu hp
def Wd.lv (W : Wd) (p : Addr) : Wd := { W with ι := fun j => if j = W.n then p else W.ι j, n := W.n + 1 }
theorem Le.lv (W : Wd) (p : Addr) : Le W (W.lv p) := ⟨fun _ _ h => h, fun j h => by
  show (if j = W.n then p else W.ι j) = W.ι j
  rw [if_neg (Nat.ne_of_lt h)], Nat.le_succ _, rfl⟩
theorem Wd.lv_at (W : Wd) (p : Addr) : (W.lv p).ι W.n = p := if_pos rfl
/-- a new live object -/
theorem R.new {p : Addr} {o : HO} {mo : MO} (r : R K cl W H S) (hp : H p = none) (hm : MRep K cl W (upd H p o) p mo) : R K cl (W.lv p) (upd H p o) (S ++ [mo]) := by
  have hg : W.G p = none := by
    cases e : W.G p with
    | none => rfl
    | some u => rw [r.sub p u e] at hp; cases hp
  have old : ∀ (i : Nat) (m : MO), (S ++ [mo])[i]? = some m → (i < S.length ∧ S[i]? = some m) ∨ (i = S.length ∧ m = mo) := fun i m h => by
    by_cases hi : i < S.length
    · rw [List.getElem?_append_left hi] at h
      exact .inl ⟨hi, h⟩
    · rw [List.getElem?_append_right (by omega)] at h
      have hk : i - S.length = 0 := by
        cases q : i - S.length with
        | zero => rfl
        | succ k => rw [q] at h; simp at h
      rw [hk] at h
      simp at h
      exact .inr ⟨by omega, h.symm⟩
  have ιo : ∀ i, i < S.length → (W.lv p).ι i = W.ι i := fun i h => (Le.lv W p).i i (by rw [r.n]; exact h)
  have ιn : (W.lv p).ι S.length = p := by rw [← r.n]; exact W.lv_at p
  refine ⟨?_, (r.junk hp).sub, fun i m h nd => ?_, fun i j m m' h h' nd nd' e => ?_, fun a u q => ?_⟩
  · show W.n + 1 = _
    rw [List.length_append, r.n]
    rfl
  · rcases old i m h with ⟨hi, h⟩ | ⟨rfl, rfl⟩
    · obtain ⟨h1, h2⟩ := (r.junk (o := o) hp).live i m h nd
      rw [ιo i hi]
      exact ⟨h1, h2.up (Le.lv W p)⟩
    · rw [ιn]
      exact ⟨hg, hm.up (Le.lv W p)⟩
  · rcases old i m h with ⟨hi, h⟩ | ⟨rfl, rfl⟩
    · obtain ⟨u, hu⟩ := (r.live i m h nd).2.some nd
      rcases old j m' h' with ⟨hj, h'⟩ | ⟨rfl, rfl⟩
      · rw [ιo i hi, ιo j hj] at e
        exact r.inj i j m m' h h' nd nd' e
      · rw [ιo i hi, ιn] at e
        exact absurd e (ne_of_none hu hp)
    · rcases old j m' h' with ⟨hj, h'⟩ | ⟨rfl, rfl⟩
      · obtain ⟨u, hu⟩ := (r.live j m' h' nd').2.some nd'
        rw [ιo j hj, ιn] at e
        exact absurd e.symm (ne_of_none hu hp)
      · rfl
  · obtain ⟨g1, g2, g3⟩ := (r.junk (o := o) hp).priv a u q
    refine ⟨g1, g2, fun i m h nd => ?_⟩
    rcases old i m h with ⟨hi, h⟩ | ⟨rfl, rfl⟩
    · rw [ιo i hi]
      exact g3 i m h nd
    · rw [ιn]
      exact (ne_of_none (r.priv a u q).1 hp).symm
/-- a live object is changed -/
theorem R.put {i : Nat} {o : HO} {m mo : MO} (r : R K cl W H S) (h : S[i]? = some m) (nd : m ≠ .dead) (hm : MRep K cl W (upd H (W.ι i) o) (W.ι i) mo) : R K cl W (upd H (W.ι i) o) (S.set i mo) := by
  obtain ⟨h1, h2⟩ := r.live i m h nd
  have hi : i < S.length := (List.getElem?_eq_some_iff.mp h).1
  have hi2 : ∀ (j : Nat) (k : MO), (S.set i mo)[j]? = some k → k ≠ .dead → ∃ m', S[j]? = some m' ∧ m' ≠ .dead := fun j k e nk => by
    by_cases hj : i = j
    · subst hj
      exact ⟨m, h, nd⟩
    · rw [List.getElem?_set_ne hj] at e
      exact ⟨k, e, nk⟩
  refine ⟨by rw [List.length_set]; exact r.n, fun a u e => ?_, fun j k e nk => ?_, fun j k m1 m2 e1 e2 n1 n2 q => ?_, fun a u q => ?_⟩
  · rw [upd_ne (ne_of_none e h1)]
    exact r.sub a u e
  · by_cases hj : i = j
    · subst hj
      rw [List.getElem?_set_self hi] at e
      cases e
      exact ⟨h1, hm⟩
    · rw [List.getElem?_set_ne hj] at e
      obtain ⟨g1, g2⟩ := r.live j k e nk
      exact ⟨g1, g2.at (upd_ne fun q => hj (r.inj i j m k h e nd nk q.symm))⟩
  · by_cases hj : i = j
    · by_cases hk : i = k
      · exact hj.symm.trans hk
      · rw [List.getElem?_set_ne hk] at e2
        subst hj
        exact r.inj i k m m2 h e2 nd n2 q
    · rw [List.getElem?_set_ne hj] at e1
      by_cases hk : i = k
      · subst hk
        exact r.inj j i m1 m e1 h n1 nd q
      · rw [List.getElem?_set_ne hk] at e2
        exact r.inj j k m1 m2 e1 e2 n1 n2 q
  · obtain ⟨g1, g2, g3⟩ := r.priv a u q
    refine ⟨by rw [upd_ne (fun z => g3 i m h nd z.symm)]; exact g1, g2, fun j k e nk => ?_⟩
    obtain ⟨m', e', n'⟩ := hi2 j k e nk
    exact g3 j m' e' n'
/-- a hidden object: made, changed, shown -/
def Wd.hid (W : Wd) (p : Addr) (o : HO) : Wd := { W with P := upd W.P p o }
theorem Ls.hid {p : Addr} {o : HO} : Ls W (W.hid p o) := ⟨fun _ _ h => h, fun _ _ => rfl, Nat.le_refl _⟩
theorem Ls.shw {p : Addr} {o : HO} : Ls (W.hid p o) W := ⟨fun _ _ h => h, fun _ _ => rfl, Nat.le_refl _⟩
theorem R.hide {p : Addr} {o : HO} (r : R K cl W H S) (hp : H p = none) : R K cl (W.hid p o) (upd H p o) S := by
  have r' := r.junk (o := o) hp
  have hg : W.G p = none := by
    cases e : W.G p with
    | none => rfl
    | some u => rw [r.sub p u e] at hp; cases hp
  refine ⟨r'.n, r'.sub, fun i mo h nd => ⟨(r'.live i mo h nd).1, (r'.live i mo h nd).2.ups (Ls.hid (p := p) (o := o))⟩, r'.inj, fun a u h => ?_⟩
  by_cases e : a = p
  · subst e
    rw [show (W.hid a o).P a = some o from upd_same] at h
    cases h
    refine ⟨upd_same, hg, fun i mo h nd => ?_⟩
    obtain ⟨u, hu⟩ := (r.live i mo h nd).2.some nd
    exact ne_of_none hu hp
  · rw [show (W.hid p o).P a = W.P a from upd_ne e] at h
    exact r'.priv a u h
theorem R.turn {p : Addr} {o o' : HO} (r : R K cl (W.hid p o) H S) : R K cl (W.hid p o') (upd H p o') S := by
  obtain ⟨h1, h2, h3⟩ := r.priv p o upd_same
  refine ⟨r.n, fun a u h => ?_, fun i mo h nd => ?_, r.inj, fun a u h => ?_⟩
  · rw [upd_ne (ne_of_none h h2)]
    exact r.sub a u h
  · obtain ⟨g1, g2⟩ := r.live i mo h nd
    exact ⟨g1, MRep.at (g2.ups (Ls.shw.tr Ls.hid)) (upd_ne (h3 i mo h nd))⟩
  · by_cases e : a = p
    · subst e
      rw [show (W.hid a o').P a = some o' from upd_same] at h
      cases h
      exact ⟨upd_same, h2, h3⟩
    · rw [show (W.hid p o').P a = W.P a from upd_ne e] at h
      obtain ⟨g1, g2, g3⟩ := r.priv a u (by rw [show (W.hid p o).P a = W.P a from upd_ne e]; exact h)
      exact ⟨by rw [upd_ne e]; exact g1, g2, g3⟩
theorem R.unhide {p : Addr} {o : HO} (r : R K cl (W.hid p o) H S) (hq : W.P p = none) : R K cl W H S ∧ H p = some o ∧ W.G p = none ∧ ∀ (i : Nat) (mo : MO), S[i]? = some mo → mo ≠ .dead → W.ι i ≠ p := by
  obtain ⟨h1, h2, h3⟩ := r.priv p o upd_same
  refine ⟨⟨r.n, r.sub, fun i mo h nd => ⟨(r.live i mo h nd).1, (r.live i mo h nd).2.ups (Ls.shw (p := p) (o := o))⟩, r.inj, fun a u h => ?_⟩, h1, h2, h3⟩
  exact r.priv a u (by rw [show (W.hid p o).P a = W.P a from upd_ne (ne_of_none h hq)]; exact h)
end

/-! ### readings -/
section
variable (K : PySem.W.Frag) (cl : Str → Option Addr)
def Post {α β : Type} (rel : Wd → β → α → Prop) (W : Wd) (r : Res α) (Q : β → Hp → Prop) (E : XK) : Prop := match r with
  | .ok d S => ∀ W' H' v, Le W W' → R K cl W' H' S → rel W' v d → Q v H'
  | .exc x S => ∀ W' H' c dd, Le W W' → R K cl W' H' S → XRep K cl W' c dd x → E c dd H'
  | .stk => False
def Tg {α β : Type} (rel : Wd → β → α → Prop) (E : WX) (m : M α) : St → Hp → (β → Hp → Prop) → Prop := fun σ H Q =>
  ∃ W ρ S, R K cl W H S ∧ Envs K cl W σ ρ ∧ Post K cl rel W (m ρ S) Q (fun c d H' => E c d σ H')
abbrev relB : Wd → Bool → Bool → Prop := fun _ b c => b = c
abbrev relO : Wd → Option Int → Option Int → Prop := fun _ b c => b = c
abbrev T (E : WX) (m : M D) : TE := Tg K cl (Rep K cl) E m
abbrev TB (E : WX) (m : M Bool) : TT := Tg K cl relB E m
abbrev TL (E : WX) (m : M (List D)) : TA := Tg K cl (Reps K cl) E m
abbrev TP (E : WX) (m : M (Option Int)) : TO := Tg K cl relO E m
end
section
variable {K : PySem.W.Frag} {cl : Str → Option Addr} {W W' : Wd} {H : Hp} {S : Store} {σ : St} {ρ : Sl} {α β γ δ : Type} {rel : Wd → β → α → Prop} {rel2 : Wd → δ → γ → Prop}
theorem Post.up {r : Res α} {Q : β → Hp → Prop} {E : XK} (l : Le W W') (p : Post K cl rel W r Q E) : Post K cl rel W' r Q E := by
  cases r with
  | ok d S => exact fun W2 H2 v l2 => p W2 H2 v (l.tr l2)
  | exc x S => exact fun W2 H2 c dd l2 => p W2 H2 c dd (l.tr l2)
  | stk => exact p
theorem Post.now {d : α} {Q : β → Hp → Prop} {E : XK} {v : β} (p : Post K cl rel W (.ok d S) Q E) (r : R K cl W H S) (h : rel W v d) : Q v H := p W H v (.rf W) r h
/-- the first part runs, then the rest -/
theorem step {m : M α} {f : α → Store → Res γ} {Q : δ → Hp → Prop} {Q1 : β → Hp → Prop} {E : WX} (hr : R K cl W H S) (he : Envs K cl W σ ρ) (p : Post K cl rel2 W ((m ρ S).bind f) Q (fun c d H' => E c d σ H'))
    (k : ∀ W' H' v d S', Le W W' → R K cl W' H' S' → Envs K cl W' σ ρ → rel W' v d → Post K cl rel2 W' (f d S') Q (fun c d H' => E c d σ H') → Q1 v H') : Tg K cl rel E m σ H Q1 := by
  refine ⟨W, ρ, S, hr, he, ?_⟩
  cases e : m ρ S with
  | ok d S1 =>
    rw [e] at p
    exact fun W1 H1 v l1 r1 q1 => k W1 H1 v d S1 l1 r1 (he.up l1) q1 (Post.up l1 p)
  | exc x S1 =>
    rw [e] at p
    exact p
  | stk =>
    rw [e] at p
    exact p.elim
end
section
variable {X : Cx}
theorem pe_imp {e : Expr} {t t' : TE} (h : PE X e t) (k : ∀ σ H Q, t' σ H Q → t σ H Q) : PE X e t' := ⟨fun pins s σ H Q I q => h.run pins s σ H Q I (k σ H Q q)⟩
theorem pt_imp {e : Expr} {t t' : TT} (h : PT X e t) (k : ∀ σ H Q, t' σ H Q → t σ H Q) : PT X e t' := ⟨fun pins s σ H Q I q => h.run pins s σ H Q I (k σ H Q q)⟩
theorem pw_imp {e : Expr} {t t' : TT} (h : PW X e t) (k : ∀ σ H Q, t' σ H Q → t σ H Q) : PW X e t' := ⟨fun wh pins s σ H Q I q => h.run wh pins s σ H Q I (k σ H Q q)⟩
theorem pa_imp {e : List Expr} {t t' : TA} (h : PA X e t) (k : ∀ σ H Q, t' σ H Q → t σ H Q) : PA X e t' := ⟨fun pos pins s σ H Q I q => h.run pos pins s σ H Q I (k σ H Q q)⟩
theorem po_imp {e : Option Expr} {t t' : TO} (h : PO X e t) (k : ∀ σ H Q, t' σ H Q → t σ H Q) : PO X e t' := ⟨fun pins s σ H Q I q => h.run pins s σ H Q I (k σ H Q q)⟩
theorem ps_imp {e : Stmt} {t t' : TS} (h : PS X e t) (k : ∀ D σ H, t' D σ H → t D σ H) : PS X e t' := ⟨fun pins s σ H D I q => h.run pins s σ H D I (k D σ H q)⟩
theorem pss_imp {e : List Stmt} {t t' : TS} (h : PSs X e t) (k : ∀ D σ H, t' D σ H → t D σ H) : PSs X e t' := ⟨fun pins s σ H D I q => h.run pins s σ H D I (k D σ H q)⟩
theorem pe_either {e : Expr} {t t' : TE} (h : PE X e t) (h' : PE X e t') : PE X e (fun σ H Q => t σ H Q ∨ t' σ H Q) := ⟨fun pins s σ H Q I q => q.elim (h.run pins s σ H Q I) (h'.run pins s σ H Q I)⟩
end
end G
namespace G
open PySem L2

/-! ### the combinators of expressions -/
def mVar (i : Nat) : M D := fun ρ S => match ρ[i]? with
  | some (some d) => .ok d S
  | _ => .stk
def mC (d : D) : M D := fun _ S => .ok d S
def mOp (g : D → D → Store → Res D) (a b : M D) : M D := fun ρ S => (a ρ S).bind fun x S1 => (b ρ S1).bind fun y S2 => g x y S2
def mUn (g : D → Store → Res D) (a : M D) : M D := fun ρ S => (a ρ S).bind fun x S1 => g x S1
def mNil : M (List D) := fun _ S => .ok [] S
def mCons (a : M D) (b : M (List D)) : M (List D) := fun ρ S => (a ρ S).bind fun x S1 => (b ρ S1).bind fun y S2 => .ok (x :: y) S2
def mFn (g : List D → Store → Res D) (a : M (List D)) : M D := fun ρ S => (a ρ S).bind fun x S1 => g x S1
def mIte (c : M Bool) (a b : M D) : M D := fun ρ S => (c ρ S).bind fun k S1 => if k = true then a ρ S1 else b ρ S1
/-- tests -/
def asB (d : D) (S : Store) : Res Bool := match d with
  | .bl b => .ok b S
  | _ => .stk
def mTest (a : M D) : M Bool := fun ρ S => (a ρ S).bind fun x S1 => asB x S1
def lsOf (S : Store) (d : D) : Option (List D) := match d with
  | .lst xs => some xs
  | .ref n => (match S[n]? with
    | some (.lst xs) => some xs
    | _ => none)
  | _ => none
def truD (d : D) (S : Store) : Res Bool := match d with
  | .non => .ok false S
  | .bl b => .ok b S
  | .int i => .ok (i != 0) S
  | .str y => if y.length ≤ sizeLine then .ok ((y.length : Int) != 0) S else .stk
  | .tup xs => .ok (!xs.isEmpty) S
  | .lst xs => .ok (!xs.isEmpty) S
  | .dct _ => .stk
  | .ins _ _ => .stk
  | .scr _ => .stk
  | .exv _ _ => .stk
  | .ref n => (match S[n]? with
    | some (.lst xs) => .ok (!xs.isEmpty) S
    | some (.dct xs) => .ok (!xs.isEmpty) S
    | _ => .stk)
def mTru (a : M D) : M Bool := fun ρ S => (a ρ S).bind fun x S1 => truD x S1
def mAnd (a b : M Bool) : M Bool := fun ρ S => (a ρ S).bind fun k S1 => if k = true then b ρ S1 else .ok false S1
def mOr (a b : M Bool) : M Bool := fun ρ S => (a ρ S).bind fun k S1 => if k = true then .ok true S1 else b ρ S1
def mNot (a : M Bool) : M Bool := fun ρ S => (a ρ S).bind fun k S1 => .ok (!k) S1
/-- values by truth -/
def mAndV (a b : M D) : M D := fun ρ S => (a ρ S).bind fun x S1 => (truD x S1).bind fun k S2 => if k = true then b ρ S2 else .ok x S2
def mOrV (a b : M D) : M D := fun ρ S => (a ρ S).bind fun x S1 => (truD x S1).bind fun k S2 => if k = true then .ok x S2 else b ρ S2
def mNotV (a : M D) : M D := fun ρ S => (a ρ S).bind fun x S1 => (truD x S1).bind fun k S2 => .ok (.bl (!k)) S2
def mChain (g g' : D → D → Store → Res D) (a b c : M D) : M D := fun ρ S => (a ρ S).bind fun x S1 => (b ρ S1).bind fun y S2 => (g x y S2).bind fun z S3 => (asB z S3).bind fun k S4 =>
  if k = true then (c ρ S4).bind fun w S5 => g' y w S5 else .ok (.bl false) S4
def mNoPart : M (Option Int) := fun _ S => .ok none S
def mPart (a : M D) : M (Option Int) := fun ρ S => (a ρ S).bind fun x S1 => match x with
  | .int i => .ok (some i) S1
  | _ => .stk
def mSl (g : D → Option Int → Option Int → Store → Res D) (a : M D) (l h : M (Option Int)) : M D := fun ρ S => (a ρ S).bind fun x S1 => (l ρ S1).bind fun lo S2 => (h ρ S2).bind fun hi S3 => g x lo hi S3
def tupD (xs : List D) (S : Store) : Res D := if xs.length ≤ sizeLine then .ok (.tup xs) S else .stk
def lstD (xs : List D) (S : Store) : Res D := if xs.length ≤ sizeLine then .ok (.lst xs) S else .stk
def lstL (xs : List D) (S : Store) : Res D := if xs.length ≤ sizeLine then .ok (.ref S.length) (S ++ [.lst xs]) else .stk

/-! ### soundness of operations by values -/
section
variable (K : PySem.W.Frag) (cl : Str → Option Addr)
def OpS (r : R2) (g : D → D → Store → Res D) : Prop := ∀ (W : Wd) (H : Hp) (S : Store) (x y : V) (dx dy : D) (Q : VK) (E : XK),
  R K cl W H S → Rep K cl W x dx → Rep K cl W y dy → Post K cl (Rep K cl) W (g dx dy S) Q E → r x y H Q
def UnS (r : V → Hp → VK → Prop) (g : D → Store → Res D) : Prop := ∀ (W : Wd) (H : Hp) (S : Store) (x : V) (dx : D) (Q : VK) (E : XK),
  R K cl W H S → Rep K cl W x dx → Post K cl (Rep K cl) W (g dx S) Q E → r x H Q
def FnS (r : List V → Hp → VK → Prop) (g : List D → Store → Res D) : Prop := ∀ (W : Wd) (H : Hp) (S : Store) (x : List V) (dx : List D) (Q : VK) (E : XK),
  R K cl W H S → Reps K cl W x dx → Post K cl (Rep K cl) W (g dx S) Q E → r x H Q
def MtS (r : V → List V → Hp → VK → Prop) (g : D → List D → Store → Res D) : Prop := ∀ (W : Wd) (H : Hp) (S : Store) (x : V) (dx : D) (y : List V) (dy : List D) (Q : VK) (E : XK),
  R K cl W H S → Rep K cl W x dx → Reps K cl W y dy → Post K cl (Rep K cl) W (g dx dy S) Q E → r x y H Q
def SlS (r : V → Option Int → Option Int → Hp → VK → Prop) (g : D → Option Int → Option Int → Store → Res D) : Prop := ∀ (W : Wd) (H : Hp) (S : Store) (x : V) (dx : D) (lo hi : Option Int) (Q : VK) (E : XK),
  R K cl W H S → Rep K cl W x dx → Post K cl (Rep K cl) W (g dx lo hi S) Q E → r x lo hi H Q
end

section
variable {X : Cx} {cl : Str → Option Addr} {E : WX} {a b c : Expr} {es : List Expr} {m m1 m2 m3 : M D} {ms : M (List D)} {mb mb2 : M Bool} {pos : Pos}
/-- the slots -/
theorem t_var (i : Nat) {x : Str} (hN : X.N[i]? = some x := by rfl) (hv : Vis X.env.scope x := by first | exact Or.inl rfl | exact Or.inr (Or.inl rfl) | exact Or.inr (Or.inr rfl))
    (hd : (x == ("__debug__" : Str)) = false := by decide) (hcd : (x == ("__classdict__" : Str)) = false := by decide) : PE X (.Name x pos) (T X.K cl E (mVar i)) :=
  pe_imp (pe_var hN hv hd hcd) fun σ H Q ⟨W, ρ, S, hr, he, p⟩ => by
    unfold mVar at p
    split at p
    · rename_i d e
      obtain ⟨v, h1, h2⟩ := he.at' i d e
      exact ⟨v, h1, p.now hr h2⟩
    · exact p.elim
theorem t_int {i : Int} {j : Nat} : PE X (.Constant (.int i) j pos) (T X.K cl E (mC (.int i))) := pe_imp pe_int fun σ H Q ⟨W, ρ, S, hr, he, p⟩ => p.now hr (.int i)
theorem t_bl {i : Bool} {j : Nat} : PE X (.Constant (.bool i) j pos) (T X.K cl E (mC (.bl i))) := pe_imp pe_bl fun σ H Q ⟨W, ρ, S, hr, he, p⟩ => p.now hr (.bl i)
theorem t_str {i : Str} {j : Nat} : PE X (.Constant (.str i) j pos) (T X.K cl E (mC (.str i))) := pe_imp pe_str fun σ H Q ⟨W, ρ, S, hr, he, p⟩ => p.now hr (.str i)
theorem t_non {j : Nat} : PE X (.Constant .none j pos) (T X.K cl E (mC .non)) := pe_imp pe_non fun σ H Q ⟨W, ρ, S, hr, he, p⟩ => p.now hr .non
/-- a constant of the module -/
theorem t_glob {x : Str} {v : V} {u : Value} {d : D} (hm : X.mg x = some u) (r : RelV v u) (rp : ∀ W, Rep X.K cl W v d) (hg : Gl X x := by rfl) (hd : (x == ("__debug__" : Str)) = false := by decide) :
    PE X (.Name x pos) (T X.K cl E (mC d)) := pe_imp (pe_glob hg hm r hd) fun σ H Q ⟨W, ρ, S, hr, he, p⟩ => p.now hr (rp W)
theorem t_op {op : Operator} {r : R2} {g : D → D → Store → Res D} (ho : OpR X (binaryOp op) r) (hs : OpS X.K cl r g) (ha : PE X a (T X.K cl E m1)) (hb : PE X b (T X.K cl E m2)) :
    PE X (.BinOp a op b pos) (T X.K cl E (mOp g m1 m2)) :=
  pe_imp (pe_op ho ha hb) fun σ H Q ⟨W, ρ, S, hr, he, p⟩ => step hr he p fun W1 H1 x dx S1 l1 r1 e1 rx p1 => step r1 e1 p1 fun W2 H2 y dy S2 l2 r2 e2 ry p2 =>
    hs _ _ _ _ _ _ _ _ _ r2 (rx.up l2) ry p2
theorem t_cmp {op : CmpOp} {r : R2} {g : D → D → Store → Res D} (ho : OpR X (compareOp op) r) (hs : OpS X.K cl r g) (ha : PE X a (T X.K cl E m1)) (hb : PE X b (T X.K cl E m2))
    (hm : behindInMarks op b = false := by first | exact nomark _ | rfl) : PE X (.Compare a [op] [b] pos) (T X.K cl E (mOp g m1 m2)) :=
  pe_imp (pe_cmpR ho ha hb hm) fun σ H Q ⟨W, ρ, S, hr, he, p⟩ => step hr he p fun W1 H1 x dx S1 l1 r1 e1 rx p1 => step r1 e1 p1 fun W2 H2 y dy S2 l2 r2 e2 ry p2 =>
    hs _ _ _ _ _ _ _ _ _ r2 (rx.up l2) ry p2
theorem post_asB {d : D} {S : Store} {W : Wd} {Q : Bool → Hp → Prop} {E : XK} {K : PySem.W.Frag} (p : Post K cl relB W (asB d S) Q E) : ∃ k, d = .bl k := by
  cases d <;> first | exact ⟨_, rfl⟩ | exact p.elim
/-- a result, its bool read off -/
theorem post_test {K : PySem.W.Frag} {W : Wd} {r : Res D} {Q : Bool → Hp → Prop} {E : XK} (p : Post K cl relB W (r.bind fun x S1 => asB x S1) Q E) : Post K cl (Rep K cl) W r (fun x H' => ∃ k, x = .bl k ∧ Q k H') E := by
  cases r with
  | ok d S =>
    intro W' H' v l r' rep
    obtain ⟨k, rfl⟩ := post_asB p
    cases rep
    exact ⟨k, rfl, p W' H' k l r' rfl⟩
  | exc x S => exact p
  | stk => exact p
theorem tt_cmp {op : CmpOp} {r : R2} {g : D → D → Store → Res D} (ho : OpR X (compareOp op) r) (hs : OpS X.K cl r g) (ha : PE X a (T X.K cl E m1)) (hb : PE X b (T X.K cl E m2))
    (hm : behindInMarks op b = false := by first | exact nomark _ | rfl) : PT X (.Compare a [op] [b] pos) (TB X.K cl E (mTest (mOp g m1 m2))) :=
  pt_imp (pt_cmpR ho ha hb hm) fun σ H Q ⟨W, ρ, S, hr, he, p⟩ => by
    have p : Post X.K cl (Rep X.K cl) W (mOp g m1 m2 ρ S) _ _ := post_test p
    exact step hr he p fun W1 H1 x dx S1 l1 r1 e1 rx p1 => step r1 e1 p1 fun W2 H2 y dy S2 l2 r2 e2 ry p2 => hs _ _ _ _ _ _ _ _ _ r2 (rx.up l2) ry p2
theorem t_chain {op op' : CmpOp} {r r' : R2} {g g' : D → D → Store → Res D} (ho : OpR X (compareOp op) r) (hs : OpS X.K cl r g) (ho' : OpR X (compareOp op') r') (hs' : OpS X.K cl r' g')
    (ha : PE X a (T X.K cl E m1)) (hb : PE X b (T X.K cl E m2)) (hc : PE X c (T X.K cl E m3)) (hm : lastMarks [op, op'] [b, c] = false := by with_unfolding_all rfl) :
    PE X (.Compare a [op, op'] [b, c] pos) (T X.K cl E (mChain g g' m1 m2 m3)) :=
  pe_imp (pe_chain ho ho' ha hb hc hm) fun σ H Q ⟨W, ρ, S, hr, he, p⟩ => step hr he p fun W1 H1 x dx S1 l1 r1 e1 rx p1 => step r1 e1 p1 fun W2 H2 y dy S2 l2 r2 e2 ry p2 => by
    cases e : g dx dy S2 with
    | stk => rw [e] at p2; exact p2.elim
    | exc q S3 =>
      rw [e] at p2
      refine hs W2 H2 S2 x y dx dy _ (fun c d H' => E c d σ H') r2 (rx.up l2) ry ?_
      rw [e]
      exact p2
    | ok z S3 =>
      rw [e] at p2
      refine hs W2 H2 S2 x y dx dy _ (fun _ _ _ => True) r2 (rx.up l2) ry ?_
      rw [e]
      intro W3 H3 v l3 r3 rep
      cases z with
      | bl k =>
        cases rep
        refine ⟨k, rfl, ?_⟩
        cases k with
        | true =>
          show T X.K cl E m3 σ H3 _
          exact step r3 (e2.up l3) (p2.up l3) fun W4 H4 w dw S4 l4 r4 e4 rw' p4 => hs' _ _ _ _ _ _ _ _ _ r4 (ry.up (l3.tr l4)) rw' p4
        | false => exact Post.now (p2.up l3) r3 (.bl false)
      | _ => exact p2.elim
theorem tt_chain {op op' : CmpOp} {r r' : R2} {g g' : D → D → Store → Res D} (ho : OpR X (compareOp op) r) (hs : OpS X.K cl r g) (ho' : OpR X (compareOp op') r') (hs' : OpS X.K cl r' g')
    (ha : PE X a (T X.K cl E m1)) (hb : PE X b (T X.K cl E m2)) (hc : PE X c (T X.K cl E m3)) (hm : lastMarks [op, op'] [b, c] = false := by with_unfolding_all rfl) :
    PT X (.Compare a [op, op'] [b, c] pos) (TB X.K cl E (mTest (mChain g g' m1 m2 m3))) :=
  pt_imp (pt_chain ho ho' ha hb hc hm) fun σ H Q ⟨W, ρ, S, hr, he, p⟩ => by
    have p : Post X.K cl (Rep X.K cl) W (mChain g g' m1 m2 m3 ρ S) (fun x H' => ∃ k, x = V.bl k ∧ Q k H') _ := post_test p
    exact step hr he p fun W1 H1 x dx S1 l1 r1 e1 rx p1 => step r1 e1 p1 fun W2 H2 y dy S2 l2 r2 e2 ry p2 => by
      cases e : g dx dy S2 with
      | stk => rw [e] at p2; exact p2.elim
      | exc q S3 =>
        rw [e] at p2
        refine hs W2 H2 S2 x y dx dy _ (fun c d H' => E c d σ H') r2 (rx.up l2) ry ?_
        rw [e]
        exact p2
      | ok z S3 =>
        rw [e] at p2
        refine hs W2 H2 S2 x y dx dy _ (fun _ _ _ => True) r2 (rx.up l2) ry ?_
        rw [e]
        intro W3 H3 v l3 r3 rep
        cases z with
        | bl k =>
          cases rep
          refine ⟨k, rfl, ?_⟩
          cases k with
          | true =>
            show T X.K cl E m3 σ H3 _
            exact step r3 (e2.up l3) (p2.up l3) fun W4 H4 w dw S4 l4 r4 e4 rw' p4 => hs' _ _ _ _ _ _ _ _ _ r4 (ry.up (l3.tr l4)) rw' p4
          | false => exact Post.now (p2.up l3) r3 (.bl false)
        | _ => exact p2.elim
theorem tru_of {K : PySem.W.Frag} {W : Wd} {H : Hp} {S : Store} {x : V} {d : D} {γ δ : Type} {rel2 : Wd → δ → γ → Prop} {f : Bool → Store → Res γ} {Q : δ → Hp → Prop} {E : XK} (r : R K cl W H S) (rx : Rep K cl W x d) (p : Post K cl rel2 W ((truD d S).bind f) Q E) :
    ∃ k, TruV K x H k ∧ Post K cl rel2 W (f k S) Q E := by
  cases rx with
  | non => exact ⟨false, rfl, p⟩
  | bl b => exact ⟨b, rfl, p⟩
  | int i => exact ⟨_, rfl, p⟩
  | str y =>
    unfold truD at p
    dsimp only at p
    by_cases hy : y.length ≤ sizeLine
    · rw [if_pos hy] at p
      exact ⟨_, ⟨hy, rfl⟩, p⟩
    · rw [if_neg hy] at p
      exact p.elim
  | tup h t => exact ⟨_, .inr (.inl ⟨_, sqT_up r.sub h, rfl⟩), by cases t <;> exact p⟩
  | lst h t => exact ⟨_, .inl ⟨_, SqL.of (r.sub _ _ h), rfl⟩, by cases t <;> exact p⟩
  | scr h => exact p.elim
  | dct h t => exact p.elim
  | ins h c t => exact p.elim
  | exv0 => exact p.elim
  | exv1 => exact p.elim
  | ref hn =>
    rename_i n
    unfold truD at p
    dsimp only at p
    cases e : S[n]? with
    | none => simp only [e] at p; exact p.elim
    | some mo =>
      simp only [e] at p
      cases mo with
      | lst xs =>
        obtain ⟨_, vs, h1, h2⟩ := r.live n _ e (by intro q; cases q)
        exact ⟨_, .inl ⟨vs, SqL.of h1, rfl⟩, by cases h2 <;> exact p⟩
      | dct xs =>
        obtain ⟨_, vs, h1, h2⟩ := r.live n _ e (by intro q; cases q)
        exact ⟨_, .inr (.inr ⟨vs, h1, rfl⟩), by cases h2 <;> exact p⟩
      | ldc xs => exact p.elim
      | ins c fs => exact p.elim
      | dead => exact p.elim
theorem tt_tru (ha : PE X a (T X.K cl E m)) (he : ∀ whole, isTrue a X.env whole = (do let v ← whole; standAt a.pos; holding [v] (truthy v)) := by intro _; rfl) : PT X a (TB X.K cl E (mTru m)) :=
  pt_imp (pt_truth ha he) fun σ H Q ⟨W, ρ, S, hr, he, p⟩ => step hr he p fun W1 H1 x dx S1 l1 r1 e1 rx p1 => by
    have p1 : Post X.K cl relB W1 ((truD dx S1).bind fun k S => .ok k S) Q (fun c d H' => E c d σ H') := by cases q : truD dx S1 <;> (rw [q] at p1; exact p1)
    obtain ⟨k, h, p2⟩ := tru_of r1 rx p1
    exact ⟨k, h, p2.now r1 rfl⟩
theorem ite_of {K : PySem.W.Frag} {W : Wd} {H : Hp} {S : Store} {k : Bool} {A B : Prop} (h1 : k = true → A) (h2 : k = false → B) : if k = true then A else B := by
  cases k
  · exact h2 rfl
  · exact h1 rfl
theorem tw_and1 (ha : PT X a (TB X.K cl E mb)) : PW X (.BoolOp .And [a] pos) (TB X.K cl E mb) := pw_and1 ha
theorem tw_or1 (ha : PT X a (TB X.K cl E mb)) : PW X (.BoolOp .Or [a] pos) (TB X.K cl E mb) := pw_or1 ha
theorem tw_and {rest : List Expr} (ha : PT X a (TB X.K cl E mb)) (hb : PW X (.BoolOp .And (b :: rest) pos) (TB X.K cl E mb2)) : PW X (.BoolOp .And (a :: b :: rest) pos) (TB X.K cl E (mAnd mb mb2)) :=
  pw_imp (pw_and ha hb) fun σ H Q ⟨W, ρ, S, hr, he, p⟩ => step hr he p fun W1 H1 x dx S1 l1 r1 e1 rx p1 => by
    obtain rfl : x = dx := rx
    cases x with
    | true => exact ⟨W1, ρ, S1, r1, e1, p1⟩
    | false => exact p1.now r1 rfl
theorem tw_or {rest : List Expr} (ha : PT X a (TB X.K cl E mb)) (hb : PW X (.BoolOp .Or (b :: rest) pos) (TB X.K cl E mb2)) : PW X (.BoolOp .Or (a :: b :: rest) pos) (TB X.K cl E (mOr mb mb2)) :=
  pw_imp (pw_or ha hb) fun σ H Q ⟨W, ρ, S, hr, he, p⟩ => step hr he p fun W1 H1 x dx S1 l1 r1 e1 rx p1 => by
    obtain rfl : x = dx := rx
    cases x with
    | true => exact p1.now r1 rfl
    | false => exact ⟨W1, ρ, S1, r1, e1, p1⟩
theorem tt_not (ha : PT X a (TB X.K cl E mb)) : PT X (.UnaryOp .Not a pos) (TB X.K cl E (mNot mb)) :=
  pt_imp (pt_not ha) fun σ H Q ⟨W, ρ, S, hr, he, p⟩ => step hr he p fun W1 H1 x dx S1 l1 r1 e1 rx p1 => by
    obtain rfl : x = dx := rx
    exact p1.now r1 rfl
theorem t_one {op : BoolOp} (ha : PE X a (T X.K cl E m)) : PE X (.BoolOp op [a] pos) (T X.K cl E m) := pe_one ha
theorem t_and {rest : List Expr} (ha : PE X a (T X.K cl E m1)) (hb : PE X (.BoolOp .And (b :: rest) pos) (T X.K cl E m2)) : PE X (.BoolOp .And (a :: b :: rest) pos) (T X.K cl E (mAndV m1 m2)) :=
  pe_imp (pe_andT ha hb) fun σ H Q ⟨W, ρ, S, hr, he, p⟩ => step hr he p fun W1 H1 x dx S1 l1 r1 e1 rx p1 => by
    obtain ⟨k, h, p2⟩ := tru_of r1 rx p1
    refine ⟨k, h, ?_⟩
    cases k with
    | true => exact ⟨W1, ρ, S1, r1, e1, p2⟩
    | false => exact p2.now r1 rx
theorem t_or {rest : List Expr} (ha : PE X a (T X.K cl E m1)) (hb : PE X (.BoolOp .Or (b :: rest) pos) (T X.K cl E m2)) : PE X (.BoolOp .Or (a :: b :: rest) pos) (T X.K cl E (mOrV m1 m2)) :=
  pe_imp (pe_orT ha hb) fun σ H Q ⟨W, ρ, S, hr, he, p⟩ => step hr he p fun W1 H1 x dx S1 l1 r1 e1 rx p1 => by
    obtain ⟨k, h, p2⟩ := tru_of r1 rx p1
    refine ⟨k, h, ?_⟩
    cases k with
    | true => exact p2.now r1 rx
    | false => exact ⟨W1, ρ, S1, r1, e1, p2⟩
theorem t_not (ha : PE X a (T X.K cl E m)) : PE X (.UnaryOp .Not a pos) (T X.K cl E (mNotV m)) :=
  pe_imp (pe_notT ha) fun σ H Q ⟨W, ρ, S, hr, he, p⟩ => step hr he p fun W1 H1 x dx S1 l1 r1 e1 rx p1 => by
    obtain ⟨k, h, p2⟩ := tru_of r1 rx p1
    exact ⟨k, h, p2.now r1 (.bl _)⟩
theorem t_ite (hc : PT X c (TB X.K cl E mb)) (ha : PE X a (T X.K cl E m1)) (hb : PE X b (T X.K cl E m2)) : PE X (.IfExp c a b pos) (T X.K cl E (mIte mb m1 m2)) :=
  pe_imp (pe_ifExp hc ha hb) fun σ H Q ⟨W, ρ, S, hr, he, p⟩ => step hr he p fun W1 H1 x dx S1 l1 r1 e1 rx p1 => by
    obtain rfl : x = dx := rx
    cases x with
    | true => exact ⟨W1, ρ, S1, r1, e1, p1⟩
    | false => exact ⟨W1, ρ, S1, r1, e1, p1⟩
/-- argument lists -/
theorem ta_nil : PA X [] (TL X.K cl E mNil) := pa_imp pa_nil fun σ H Q ⟨W, ρ, S, hr, he, p⟩ => p.now hr .nil
theorem ta_cons (ha : PE X a (T X.K cl E m)) (hb : PA X es (TL X.K cl E ms)) (hs : starEach (a :: es) X.env = (false, eval a X.env) :: starEach es X.env := by rfl) : PA X (a :: es) (TL X.K cl E (mCons m ms)) :=
  pa_imp (pa_cons ha hb hs) fun σ H Q ⟨W, ρ, S, hr, he, p⟩ => step hr he p fun W1 H1 x dx S1 l1 r1 e1 rx p1 => step r1 e1 p1 fun W2 H2 y dy S2 l2 r2 e2 ry p2 => p2.now r2 (.cons (rx.up l2) ry)
theorem t_tup {x1 : _} (h : PA X es (TL X.K cl E ms)) : PE X (.Tuple es x1 pos) (T X.K cl E (mFn tupD ms)) :=
  pe_imp (pe_tup h) fun σ H Q ⟨W, ρ, S, hr, he, p⟩ => step hr he p fun W1 H1 x dx S1 l1 r1 e1 rx p1 => by
    unfold tupD at p1
    by_cases hz : dx.length ≤ sizeLine
    · rw [if_pos hz] at p1
      refine ⟨by rw [rx.len]; exact hz, fun q hq => ?_⟩
      obtain ⟨r2, l2⟩ := r1.fz (o := .tup x) hq
      exact p1 _ _ _ l2 r2 (.tup (SqT.of upd_same) (rx.up l2))
    · rw [if_neg hz] at p1
      exact p1.elim
theorem t_lst (h : PA X es (TL X.K cl E ms)) : PE X (.List es pos) (T X.K cl E (mFn lstD ms)) :=
  pe_imp (pe_lst h) fun σ H Q ⟨W, ρ, S, hr, he, p⟩ => step hr he p fun W1 H1 x dx S1 l1 r1 e1 rx p1 => by
    unfold lstD at p1
    by_cases hz : dx.length ≤ sizeLine
    · rw [if_pos hz] at p1
      refine ⟨by rw [rx.len]; exact hz, fun q hq => ?_⟩
      obtain ⟨r2, l2⟩ := r1.fz (o := .lst x) hq
      exact p1 _ _ _ l2 r2 (.lst upd_same (rx.up l2))
    · rw [if_neg hz] at p1
      exact p1.elim
/-- a list that will change -/
theorem t_lstL (h : PA X es (TL X.K cl E ms)) : PE X (.List es pos) (T X.K cl E (mFn lstL ms)) :=
  pe_imp (pe_lst h) fun σ H Q ⟨W, ρ, S, hr, he, p⟩ => step hr he p fun W1 H1 x dx S1 l1 r1 e1 rx p1 => by
    unfold lstL at p1
    by_cases hz : dx.length ≤ sizeLine
    · rw [if_pos hz] at p1
      refine ⟨by rw [rx.len]; exact hz, fun q hq => ?_⟩
      refine p1 (W1.lv q) _ _ (Le.lv W1 q) (r1.new hq ⟨x, upd_same, rx⟩) ?_
      have e : (W1.lv q).ι S1.length = q := by rw [← r1.n]; exact W1.lv_at q
      have z := Rep.ref (K := X.K) (cl := cl) (W := W1.lv q) (n := S1.length) (by show _ < W1.n + 1; rw [r1.n]; exact Nat.lt_succ_self _)
      rw [e] at z
      exact z
    · rw [if_neg hz] at p1
      exact p1.elim
theorem tp_none : PO X none (TP X.K cl E mNoPart) := po_imp po_none fun σ H Q ⟨W, ρ, S, hr, he, p⟩ => p.now hr rfl
theorem tp_some (h : PE X a (T X.K cl E m)) : PO X (some a) (TP X.K cl E (mPart m)) := po_imp (po_some h) fun σ H Q ⟨W, ρ, S, hr, he, p⟩ => step hr he p fun W1 H1 x dx S1 l1 r1 e1 rx p1 => by
  cases rx with
  | int i => exact ⟨i, rfl, p1.now r1 rfl⟩
  | _ => exact p1.elim
theorem t_sl {r : V → Option Int → Option Int → Hp → VK → Prop} {g : D → Option Int → Option Int → Store → Res D} {lo hi : Option Expr} {ml mh : M (Option Int)} {p2 : Pos} (hr : SlR X r) (hs : SlS X.K cl r g)
    (ha : PE X a (T X.K cl E m)) (hl : PO X lo (TP X.K cl E ml)) (hh : PO X hi (TP X.K cl E mh)) : PE X (.Subscript a (.Slice lo hi none p2) pos) (T X.K cl E (mSl g m ml mh)) :=
  pe_imp (pe_slice hr ha hl hh) fun σ H Q ⟨W, ρ, S, hr, he, p⟩ => step hr he p fun W1 H1 x dx S1 l1 r1 e1 rx p1 => step r1 e1 p1 fun W2 H2 y dy S2 l2 r2 e2 ry p2 => step r2 e2 p2 fun W3 H3 z dz S3 l3 r3 e3 rz p3 => by
    obtain rfl : y = dy := ry
    obtain rfl : z = dz := rz
    exact hs _ _ _ _ _ _ _ _ _ r3 (rx.up (l2.tr l3)) p3
theorem t_ix {r : R2} {g : D → D → Store → Res D} (ho : IxR X r) (hs : OpS X.K cl r g) (ha : PE X a (T X.K cl E m1)) (hb : PE X b (T X.K cl E m2)) (hp : PlainIx b := by exact fun _ _ => rfl) : PE X (.Subscript a b pos) (T X.K cl E (mOp g m1 m2)) :=
  pe_imp (pe_ix ho ha hb hp) fun σ H Q ⟨W, ρ, S, hr, he, p⟩ => step hr he p fun W1 H1 x dx S1 l1 r1 e1 rx p1 => step r1 e1 p1 fun W2 H2 y dy S2 l2 r2 e2 ry p2 => hs _ _ _ _ _ _ _ _ _ r2 (rx.up l2) ry p2
theorem t_un {op : UnaryOp} {r : V → Hp → VK → Prop} {g : D → Store → Res D} (ho : UnR X (unaryOp op) r) (hs : UnS X.K cl r g) (ha : PE X a (T X.K cl E m)) (hn : op ≠ .Not := by decide) : PE X (.UnaryOp op a pos) (T X.K cl E (mUn g m)) :=
  pe_imp (pe_un ho ha) fun σ H Q ⟨W, ρ, S, hr, he, p⟩ => step hr he p fun W1 H1 x dx S1 l1 r1 e1 rx p1 => hs _ _ _ _ _ _ _ r1 rx p1
end
end G
namespace G
open PySem L2

section
variable {X : Cx}
theorem opr_or {f : Value → Value → Sem Value} {r r' : R2} (h : OpR X f r) (h' : OpR X f r') : OpR X f (fun x y H Q => r x y H Q ∨ r' x y H Q) := fun pins s σ H x y v u Q I rx ry q =>
  q.elim (h pins s σ H x y v u Q I rx ry) (h' pins s σ H x y v u Q I rx ry)
theorem cr_or {f : Value} {r r' : List V → Hp → VK → Prop} (h : CallR X f r) (h' : CallR X f r') : CallR X f (fun x H Q => r x H Q ∨ r' x H Q) := fun pins s σ H x v Q I rx q =>
  q.elim (h pins s σ H x v Q I rx) (h' pins s σ H x v Q I rx)
theorem mt_or {f : String} {r r' : V → List V → Hp → VK → Prop} (h : MtR X f r) (h' : MtR X f r') : MtR X f (fun x y H Q => r x y H Q ∨ r' x y H Q) := fun pins s σ H x y v u Q I rx ry q =>
  q.elim (h pins s σ H x y v u Q I rx ry) (h' pins s σ H x y v u Q I rx ry)
end

def ofO (o : Option D) (S : Store) : Res D := match o with
  | some d => .ok d S
  | none => .stk
def ofB (o : Option Bool) (S : Store) : Res D := match o with
  | some d => .ok (.bl d) S
  | none => .stk

section
variable {K : PySem.W.Frag} {cl : Str → Option Addr} {W : Wd} {H : Hp} {S : Store}
/-- what is read as a list -/
theorem ls_of {v : V} {d : D} {xs : List D} (r : R K cl W H S) (h : Rep K cl W v d) (e : lsOf S d = some xs) : ∃ a vs, v = .ref a ∧ H a = some (.lst vs) ∧ Reps K cl W vs xs := by
  cases h with
  | lst g t =>
    have e := Option.some.inj e
    subst e
    exact ⟨_, _, rfl, r.sub _ _ g, t⟩
  | ref hn =>
    rename_i n
    unfold lsOf at e
    dsimp only at e
    cases q : S[n]? with
    | none => rw [q] at e; cases e
    | some mo =>
      rw [q] at e
      cases mo with
      | lst ys =>
        have e := Option.some.inj e
        subst e
        obtain ⟨_, vs, h1, h2⟩ := r.live n _ q (by intro z; cases z)
        exact ⟨_, vs, rfl, h1, h2⟩
      | _ => cases e
  | _ => cases e
theorem newT {vs : List V} {ds : List D} {Q : VK} {E : XK} (r : R K cl W H S) (t : Reps K cl W vs ds) (p : Post K cl (Rep K cl) W (.ok (.tup ds) S) Q E) : ∀ q, H q = none → Q (.ref q) (upd H q (.tup vs)) := fun q hq =>
  let ⟨r2, l2⟩ := r.fz (o := .tup vs) hq
  p _ _ _ l2 r2 (.tup (SqT.of upd_same) (t.up l2))
theorem newL {vs : List V} {ds : List D} {Q : VK} {E : XK} (r : R K cl W H S) (t : Reps K cl W vs ds) (p : Post K cl (Rep K cl) W (.ok (.lst ds) S) Q E) : ∀ q, H q = none → Q (.ref q) (upd H q (.lst vs)) := fun q hq =>
  let ⟨r2, l2⟩ := r.fz (o := .lst vs) hq
  p _ _ _ l2 r2 (.lst upd_same (t.up l2))
theorem newLv {vs : List V} {ds : List D} {Q : VK} {E : XK} (r : R K cl W H S) (t : Reps K cl W vs ds) (p : Post K cl (Rep K cl) W (.ok (.ref S.length) (S ++ [.lst ds])) Q E) : ∀ q, H q = none → Q (.ref q) (upd H q (.lst vs)) := fun q hq => by
  refine p (W.lv q) _ _ (Le.lv W q) (r.new hq ⟨vs, upd_same, t⟩) ?_
  have e : (W.lv q).ι S.length = q := by rw [← r.n]; exact W.lv_at q
  have z := Rep.ref (K := K) (cl := cl) (W := W.lv q) (n := S.length) (by show _ < W.n + 1; rw [r.n]; exact Nat.lt_succ_self _)
  rw [e] at z
  exact z
theorem atI_rep {vs : List V} {ds : List D} {i : Int} {d : D} (t : Reps K cl W vs ds) (h : atI ds i = some d) : ∃ v, atI vs i = some v ∧ Rep K cl W v d := by
  unfold atI at h ⊢
  rw [t.len]
  cases e : ixN ds.length i with
  | none => rw [e] at h; cases h
  | some j =>
    rw [e] at h
    exact t.at h
theorem atI_map {α β : Type} (f : α → β) {xs : List α} {i : Int} {x : α} (h : atI xs i = some x) : atI (xs.map f) i = some (f x) := by
  unfold atI at h ⊢
  rw [List.length_map]
  cases e : ixN xs.length i with
  | none => rw [e] at h; cases h
  | some j =>
    rw [e] at h
    have h : xs[j]? = some x := h
    show (xs.map f)[j]? = some (f x)
    rw [List.getElem?_map, h]
    rfl
end

/-! ### arithmetic -/
def addD (a b : D) (S : Store) : Res D := match a, b with
  | .int i, .int j => .ok (.int (i + j)) S
  | .str x, .str y => if x.length + y.length ≤ sizeLine then .ok (.str (x ++ y)) S else .stk
  | .tup x, .tup y => if x.length + y.length ≤ sizeLine then .ok (.tup (x ++ y)) S else .stk
  | a, b => (match lsOf S a, lsOf S b with
    | some x, some y => if x.length + y.length ≤ sizeLine then .ok (.lst (x ++ y)) S else .stk
    | _, _ => .stk)
def rAddA (K : PySem.W.Frag) : R2 := fun x y H Q => rI0 (fun i j => .int (i + j)) x y H Q ∨ (∃ i j, x = .str i ∧ y = .str j ∧ i.length + j.length ≤ sizeLine ∧ Q (.str (i ++ j)) H) ∨ rCatA K x y H Q ∨ rCat x y H Q
theorem op_addA {X : Cx} : OpR X (binaryOp .Add) (rAddA X.K) := opr_or op_add (opr_or op_add_str (opr_or op_catA op_cat))
theorem addL_s {K : PySem.W.Frag} {cl : Str → Option Addr} {W : Wd} {H : Hp} {S : Store} {x y : V} {a b : D} {Q : VK} {E : XK} (r : R K cl W H S) (rx : Rep K cl W x a) (ry : Rep K cl W y b)
    (p : Post K cl (Rep K cl) W (match lsOf S a, lsOf S b with
    | some x, some y => if x.length + y.length ≤ sizeLine then .ok (.lst (x ++ y)) S else .stk
    | _, _ => .stk) Q E) : rCat x y H Q := by
  cases e1 : lsOf S a with
  | none => rw [e1] at p; exact p.elim
  | some xs =>
    cases e2 : lsOf S b with
    | none => rw [e1, e2] at p; exact p.elim
    | some ys =>
      rw [e1, e2] at p
      dsimp only at p
      obtain ⟨l1, vs1, rfl, h1, t1⟩ := ls_of r rx e1
      obtain ⟨l2, vs2, rfl, h2, t2⟩ := ls_of r ry e2
      by_cases hz : xs.length + ys.length ≤ sizeLine
      · rw [if_pos hz] at p
        exact ⟨_, _, _, _, rfl, rfl, h1, h2, by rw [t1.len, t2.len]; exact hz, newL r (t1.app t2) p⟩
      · rw [if_neg hz] at p
        exact p.elim
theorem add_s {K : PySem.W.Frag} {cl : Str → Option Addr} : OpS K cl (rAddA K) addD := by
  intro W H S x y a b Q E r rx ry p
  unfold addD at p
  split at p
  · cases rx; cases ry
    exact .inl ⟨_, _, rfl, rfl, p.now r (.int _)⟩
  · cases rx; cases ry
    split at p
    · rename_i hz
      exact .inr (.inl ⟨_, _, rfl, rfl, hz, p.now r (.str _)⟩)
    · exact p.elim
  · cases rx with | tup h1 t1 =>
    cases ry with | tup h2 t2 =>
    split at p
    · rename_i hz
      refine .inr (.inr (.inl ⟨_, _, _, _, rfl, rfl, sqT_up r.sub h1, sqT_up r.sub h2, by rw [t1.len, t2.len]; exact hz, fun e => ?_, fun _ e => ?_, fun _ _ => newT r (t1.app t2) p⟩))
      · subst e
        cases t1
        exact p.now r (.tup h2 t2)
      · subst e
        cases t2
        rw [List.append_nil] at p
        exact p.now r (.tup h1 t1)
    · exact p.elim
  · exact .inr (.inr (.inr (addL_s r rx ry p)))
def subD (a b : D) (S : Store) : Res D := match a, b with
  | .int i, .int j => .ok (.int (i - j)) S
  | _, _ => .stk
theorem sub_s {K : PySem.W.Frag} {cl : Str → Option Addr} : OpS K cl (rI0 fun i j => .int (i - j)) subD := by
  intro W H S x y a b Q E r rx ry p
  unfold subD at p
  split at p
  · cases rx; cases ry
    exact ⟨_, _, rfl, rfl, p.now r (.int _)⟩
  · exact p.elim
def sm64 (i : Int) : Bool := decide (-18446744073709551616 < i) && decide (i < 18446744073709551616)
theorem sm64_of {i : Int} (h : sm64 i = true) : -(2 ^ 64) < i ∧ i < 2 ^ 64 := by
  unfold sm64 at h
  rw [Bool.and_eq_true, decide_eq_true_eq, decide_eq_true_eq] at h
  omega
/-- within the bounds of a range -/
def smR (i : Int) : Bool := decide (-4611686018427387904 ≤ i) && decide (i < 4611686018427387904)
theorem smR_of {i : Int} (h : smR i = true) : -(2 ^ 62) ≤ i ∧ i < 2 ^ 62 := by
  unfold smR at h
  rw [Bool.and_eq_true, decide_eq_true_eq, decide_eq_true_eq] at h
  omega
theorem smR_nat {n : Nat} (h : n ≤ 1000000) : smR (n : Int) = true := by
  unfold smR
  rw [Bool.and_eq_true, decide_eq_true_eq, decide_eq_true_eq]
  omega
theorem smR_int {i : Int} (h : 0 ≤ i) (h1 : i ≤ 1000000) : smR i = true := by
  unfold smR
  rw [Bool.and_eq_true, decide_eq_true_eq, decide_eq_true_eq]
  omega
def mulD (a b : D) (S : Store) : Res D := match a, b with
  | .int i, .int j => if (sm64 i || sm64 j) = true then .ok (.int (i * j)) S else .stk
  | a, .int k => (match lsOf S a with
    | some xs => if 0 ≤ k ∧ smR k = true ∧ xs.length * k.toNat ≤ sizeLine then .ok (.lst (List.replicate k.toNat xs).flatten) S else .stk
    | none => .stk)
  | _, _ => .stk
def rMulA : R2 := fun x y H Q => rI CMul (fun i j => .int (i * j)) x y H Q ∨ rRep x y H Q
theorem op_mulA {X : Cx} : OpR X (binaryOp .Mult) rMulA := opr_or op_mul op_rep
theorem Reps.rep {K : PySem.W.Frag} {cl : Str → Option Addr} {W : Wd} {vs : List V} {ds : List D} (t : Reps K cl W vs ds) : ∀ n : Nat, Reps K cl W (List.replicate n vs).flatten (List.replicate n ds).flatten
  | 0 => .nil
  | n + 1 => by
    rw [List.replicate_succ, List.replicate_succ, List.flatten_cons, List.flatten_cons]
    exact t.app (Reps.rep t n)
theorem mul_s {K : PySem.W.Frag} {cl : Str → Option Addr} : OpS K cl rMulA mulD := by
  intro W H S x y a b Q E r rx ry p
  unfold mulD at p
  split at p
  · cases rx; cases ry
    split at p
    · rename_i hz
      refine .inl ⟨_, _, rfl, rfl, ?_, p.now r (.int _)⟩
      rcases Bool.or_eq_true _ _ |>.mp hz with h | h
      · exact .inl (sm64_of h)
      · exact .inr (sm64_of h)
    · exact p.elim
  · rename_i k _
    cases ry
    split at p
    · rename_i xs e1
      obtain ⟨l1, vs1, rfl, h1, t1⟩ := ls_of r rx e1
      split at p
      · rename_i hz
        exact .inr ⟨_, _, _, rfl, rfl, h1, by have := (smR_of hz.2.1).1; omega, by have := (smR_of hz.2.1).2; omega, by rw [t1.len]; exact hz.2.2, newL r (t1.rep _) p⟩
      · exact p.elim
    · exact p.elim
  · exact p.elim
def fdivD (a b : D) (S : Store) : Res D := match a, b with
  | .int i, .int j => if 0 < j ∧ j.natAbs.log2 < 9000 then .ok (.int (i / j)) S else .stk
  | _, _ => .stk
theorem fdiv_s {K : PySem.W.Frag} {cl : Str → Option Addr} : OpS K cl (rI CDivW fun i j => .int (i / j)) fdivD := by
  intro W H S x y a b Q E r rx ry p
  unfold fdivD at p
  split at p
  · cases rx; cases ry
    split at p
    · rename_i hz
      exact ⟨_, _, rfl, rfl, hz, p.now r (.int _)⟩
    · exact p.elim
  · exact p.elim
def modD (a b : D) (S : Store) : Res D := match a, b with
  | .int i, .int j => if 0 < j then .ok (.int (i % j)) S else .stk
  | _, _ => .stk
theorem mod_s {K : PySem.W.Frag} {cl : Str → Option Addr} : OpS K cl (rI (fun _ j => 0 < j) fun i j => .int (i % j)) modD := by
  intro W H S x y a b Q E r rx ry p
  unfold modD at p
  split at p
  · cases rx; cases ry
    split at p
    · rename_i hz
      exact ⟨_, _, rfl, rfl, hz, p.now r (.int _)⟩
    · exact p.elim
  · exact p.elim
def powD (a b : D) (S : Store) : Res D := match a, b with
  | .int i, .int j => if 0 ≤ j ∧ j ≤ 1000000 ∧ i.natAbs < 2 ^ 64 then .ok (.int (i ^ j.toNat)) S else .stk
  | _, _ => .stk
theorem pow_s {K : PySem.W.Frag} {cl : Str → Option Addr} : OpS K cl (rI CPow fun i j => .int (i ^ j.toNat)) powD := by
  intro W H S x y a b Q E r rx ry p
  unfold powD at p
  split at p
  · cases rx; cases ry
    split at p
    · rename_i hz
      exact ⟨_, _, rfl, rfl, hz, p.now r (.int _)⟩
    · exact p.elim
  · exact p.elim
def negD (a : D) (S : Store) : Res D := match a with
  | .int i => .ok (.int (-i)) S
  | _ => .stk
theorem neg_s {K : PySem.W.Frag} {cl : Str → Option Addr} : UnS K cl (rU fun i => .int (-i)) negD := by
  intro W H S x a Q E r rx p
  unfold negD at p
  split at p
  · cases rx
    exact ⟨_, rfl, p.now r (.int _)⟩
  · exact p.elim

/-! ### comparisons -/
def scV : D → Option V
  | .non => some .non
  | .bl b => some (.bl b)
  | .int i => some (.int i)
  | .str x => some (.str x)
  | _ => none
def scVs : List D → Option (List V)
  | [] => some []
  | d :: ds => (match scV d, scVs ds with
    | some v, some vs => some (v :: vs)
    | _, _ => none)
mutual
def toPy : D → Option PyData
  | .non => some .none
  | .bl b => some (.bool b)
  | .int i => some (.int i)
  | .str x => some (.str x)
  | .tup xs => (toPys xs).map PyData.tuple
  | .lst xs => (toPys xs).map PyData.list
  | .dct _ => none
  | .exv _ _ => none
  | .ins _ _ => none
  | .ref _ => none
  | .scr _ => none
def toPys : List D → Option (List PyData)
  | [] => some []
  | d :: ds => (match toPy d, toPys ds with
    | some v, some vs => some (v :: vs)
    | _, _ => none)
end
def toPyS (S : Store) (d : D) : Option PyData := match d with
  | .ref n => (match S[n]? with
    | some (.lst xs) => (toPys xs).map PyData.list
    | _ => none)
  | d => toPy d
section
variable {K : PySem.W.Frag} {cl : Str → Option Addr} {W : Wd} {H : Hp} {S : Store}
theorem sc_of {v w : V} {d : D} (h : Rep K cl W v d) (e : scV d = some w) : v = w := by
  cases h <;> first | exact Option.some.inj e | cases e
theorem sc_flat {w : V} {d : D} (e : scV d = some w) : flatV w = true := by
  cases d <;> first | (have e := Option.some.inj e; subst e; rfl) | cases e
theorem scs_of : ∀ {vs ws : List V} {ds : List D}, Reps K cl W vs ds → scVs ds = some ws → vs = ws ∧ ws.all flatV = true
  | _, _, _, .nil, e => by
    have e := Option.some.inj e
    subst e
    exact ⟨rfl, rfl⟩
  | _, _, _, .cons (d := d) (ds := ds) h t, e => by
    unfold scVs at e
    cases e1 : scV d with
    | none => rw [e1] at e; cases e
    | some v =>
      cases e2 : scVs ds with
      | none => rw [e1, e2] at e; cases e
      | some vs =>
        rw [e1, e2] at e
        have e := Option.some.inj e
        subst e
        obtain ⟨h1, h2⟩ := scs_of t e2
        exact ⟨by rw [sc_of h e1, h1], by rw [List.all_cons, sc_flat e1, h2]; rfl⟩
mutual
theorem dp_of (r : ∀ a o, W.G a = some o → H a = some o) : ∀ {v : V} {d : D} {q : PyData}, Rep K cl W v d → toPy d = some q → Dp K H v q
  | _, _, _, .non, e => by cases e; exact .non
  | _, _, _, .bl b, e => by cases e; exact .bl b
  | _, _, _, .int b, e => by cases e; exact .int b
  | _, _, _, .str b, e => by cases e; exact .str b
  | _, _, _, .tup (ds := ds) h t, e => by
    unfold toPy at e
    cases e1 : toPys ds with
    | none => rw [e1] at e; cases e
    | some qs =>
      rw [e1] at e
      cases e
      exact .tup (sqT_up r h) (dps_of r t e1)
  | _, _, _, .lst (ds := ds) h t, e => by
    unfold toPy at e
    cases e1 : toPys ds with
    | none => rw [e1] at e; cases e
    | some qs =>
      rw [e1] at e
      cases e
      exact .lst (SqL.of (r _ _ h)) (dps_of r t e1)
  | _, _, _, .dct _ _, e => by cases e
  | _, _, _, .ins _ _ _, e => by cases e
  | _, _, _, .ref _, e => by cases e
  | _, _, _, .scr _, e => by cases e
  | _, _, _, .exv0 _ _ _ _, e => by cases e
  | _, _, _, .exv1 _ _ _ _ _ _ _, e => by cases e
theorem dps_of (r : ∀ a o, W.G a = some o → H a = some o) : ∀ {v : List V} {d : List D} {q : List PyData}, Reps K cl W v d → toPys d = some q → DpAll K H v q
  | _, _, _, .nil, e => by cases e; exact .nil
  | _, _, _, .cons (d := d) (ds := ds) h t, e => by
    unfold toPys at e
    cases e1 : toPy d with
    | none => rw [e1] at e; cases e
    | some v =>
      cases e2 : toPys ds with
      | none => rw [e1, e2] at e; cases e
      | some vs =>
        rw [e1, e2] at e
        cases e
        exact .cons (dp_of r h e1) (dps_of r t e2)
end
theorem dpS_of {v : V} {d : D} {q : PyData} (r : R K cl W H S) (h : Rep K cl W v d) (e : toPyS S d = some q) : Dp K H v q := by
  cases d with
  | ref n =>
    unfold toPyS at e
    dsimp only at e
    cases q1 : S[n]? with
    | none => rw [q1] at e; cases e
    | some mo =>
      rw [q1] at e
      cases mo with
      | lst ys =>
        cases h with | ref hn =>
        obtain ⟨_, vs, h1, h2⟩ := r.live n _ q1 (by intro z; cases z)
        cases e1 : toPys ys with
        | none => simp only [e1] at e; cases e
        | some qs =>
          simp only [e1] at e
          cases e
          exact .lst (SqL.of h1) (dps_of r.sub h2 e1)
      | _ => cases e
  | _ => exact dp_of r.sub h e
end
def eqB (S : Store) (a b : D) : Option Bool := match scV a, scV b with
  | some x, some y => if scal x y = true then some (decide (x = y)) else some (eqV x y)
  | _, _ => (match toPyS S a, toPyS S b with
    | some p, some q => if (SeqAt.shaped p && SeqAt.shaped q) = true then some (PyData.eqv p q) else none
    | _, _ => none)
def eqD (a b : D) (S : Store) : Res D := ofB (eqB S a b) S
def neD (a b : D) (S : Store) : Res D := ofB ((eqB S a b).map not) S
def rEqA (K : PySem.W.Frag) : R2 := fun x y H Q => rEq x y H Q ∨ rEqD K x y H Q
def rNeA (K : PySem.W.Frag) : R2 := fun x y H Q => rNe x y H Q ∨ rNeD K x y H Q
theorem op_eqA {X : Cx} {k : Nat} (hr : Room k X.A) : OpR X (compareOp .Eq) (rEqA X.K) := opr_or op_eq (op_eqD hr.units)
theorem op_neA {X : Cx} {k : Nat} (hr : Room k X.A) : OpR X (compareOp .NotEq) (rNeA X.K) := opr_or op_ne (op_neD hr.units)
section
variable {K : PySem.W.Frag} {cl : Str → Option Addr} {W : Wd} {H : Hp} {S : Store}
theorem eq_cases {x y : V} {a b : D} {k : Bool} (r : R K cl W H S) (rx : Rep K cl W x a) (ry : Rep K cl W y b) (e : eqB S a b = some k) :
    (scal x y = true ∧ k = decide (x = y)) ∨ ∃ d e, Dp K H x d ∧ Dp K H y e ∧ SeqAt.shaped d = true ∧ SeqAt.shaped e = true ∧ k = PyData.eqv d e := by
  unfold eqB at e
  split at e
  · rename_i u w e1 e2
    have h1 := sc_of rx e1
    have h2 := sc_of ry e2
    subst h1 h2
    split at e
    · rename_i hs
      exact .inl ⟨hs, (Option.some.inj e).symm⟩
    · rename_i hs
      right
      cases rx <;> first | (cases e1; done) | (cases ry <;> first | (cases e2; done) | (exfalso; exact hs rfl) | exact ⟨_, _, .bl _, .int _, rfl, rfl, (Option.some.inj e).symm⟩ | exact ⟨_, _, .int _, .bl _, rfl, rfl, (Option.some.inj e).symm⟩)
  · split at e
    · rename_i p q e1 e2
      split at e
      · rename_i hs
        rw [Bool.and_eq_true] at hs
        exact .inr ⟨p, q, dpS_of r rx e1, dpS_of r ry e2, hs.1, hs.2, (Option.some.inj e).symm⟩
      · cases e
    · cases e
theorem eq_s : OpS K cl (rEqA K) eqD := by
  intro W H S x y a b Q E r rx ry p
  unfold eqD at p
  cases e : eqB S a b with
  | none => rw [e] at p; exact p.elim
  | some k =>
    rw [e] at p
    have q : Q (.bl k) H := p.now r (.bl k)
    rcases eq_cases r rx ry e with ⟨h, rfl⟩ | ⟨d', e', h1, h2, h3, h4, rfl⟩
    · exact .inl ⟨h, q⟩
    · exact .inr ⟨d', e', h1, h2, h3, h4, q⟩
theorem ne_s : OpS K cl (rNeA K) neD := by
  intro W H S x y a b Q E r rx ry p
  unfold neD at p
  cases e : eqB S a b with
  | none => rw [e] at p; exact p.elim
  | some k =>
    rw [e] at p
    have q : Q (.bl (!k)) H := p.now r (.bl _)
    rcases eq_cases r rx ry e with ⟨h, rfl⟩ | ⟨d', e', h1, h2, h3, h4, rfl⟩
    · exact .inl ⟨h, q⟩
    · exact .inr ⟨d', e', h1, h2, h3, h4, q⟩
end
def ltD (a b : D) (S : Store) : Res D := match a, b with
  | .int i, .int j => .ok (.bl (decide (i < j))) S
  | .str x, .str y => .ok (.bl (decide (x.cps.toList < y.cps.toList))) S
  | _, _ => .stk
def rLtA : R2 := fun x y H Q => rI0 (fun i j => .bl (decide (i < j))) x y H Q ∨ (∃ i j, x = .str i ∧ y = .str j ∧ Q (.bl (decide (i.cps.toList < j.cps.toList))) H)
theorem op_ltA {X : Cx} : OpR X (compareOp .Lt) rLtA := opr_or op_lt op_lt_str
theorem lt_s {K : PySem.W.Frag} {cl : Str → Option Addr} : OpS K cl rLtA ltD := by
  intro W H S x y a b Q E r rx ry p
  unfold ltD at p
  split at p
  · cases rx; cases ry
    exact .inl ⟨_, _, rfl, rfl, p.now r (.bl _)⟩
  · cases rx; cases ry
    exact .inr ⟨_, _, rfl, rfl, p.now r (.bl _)⟩
  · exact p.elim
def leD (a b : D) (S : Store) : Res D := match a, b with
  | .int i, .int j => .ok (.bl (decide (i ≤ j))) S
  | .str x, .str y => .ok (.bl (!decide (y.cps.toList < x.cps.toList))) S
  | _, _ => .stk
def rLeA : R2 := fun x y H Q => rI0 (fun i j => .bl (decide (i ≤ j))) x y H Q ∨ (∃ i j, x = .str i ∧ y = .str j ∧ Q (.bl (!decide (j.cps.toList < i.cps.toList))) H)
theorem op_leA {X : Cx} : OpR X (compareOp .LtE) rLeA := opr_or op_le op_le_str
theorem le_s {K : PySem.W.Frag} {cl : Str → Option Addr} : OpS K cl rLeA leD := by
  intro W H S x y a b Q E r rx ry p
  unfold leD at p
  split at p
  · cases rx; cases ry
    exact .inl ⟨_, _, rfl, rfl, p.now r (.bl _)⟩
  · cases rx; cases ry
    exact .inr ⟨_, _, rfl, rfl, p.now r (.bl _)⟩
  · exact p.elim
def gtD (a b : D) (S : Store) : Res D := match a, b with
  | .int i, .int j => .ok (.bl (decide (j < i))) S
  | _, _ => .stk
theorem gt_s {K : PySem.W.Frag} {cl : Str → Option Addr} : OpS K cl (rI0 fun i j => .bl (decide (j < i))) gtD := by
  intro W H S x y a b Q E r rx ry p
  unfold gtD at p
  split at p
  · cases rx; cases ry
    exact ⟨_, _, rfl, rfl, p.now r (.bl _)⟩
  · exact p.elim
def geD (a b : D) (S : Store) : Res D := match a, b with
  | .int i, .int j => .ok (.bl (decide (j ≤ i))) S
  | _, _ => .stk
theorem ge_s {K : PySem.W.Frag} {cl : Str → Option Addr} : OpS K cl (rI0 fun i j => .bl (decide (j ≤ i))) geD := by
  intro W H S x y a b Q E r rx ry p
  unfold geD at p
  split at p
  · cases rx; cases ry
    exact ⟨_, _, rfl, rfl, p.now r (.bl _)⟩
  · exact p.elim
/-- is None, is not None -/
def isNb : D → Bool
  | .non => true
  | _ => false
def isND (a b : D) (S : Store) : Res D := match a, b with
  | a, .non => .ok (.bl (isNb a)) S
  | .bl x, .bl y => .ok (.bl (decide (x = y))) S
  | _, _ => .stk
def notND (a b : D) (S : Store) : Res D := match a, b with
  | a, .non => .ok (.bl (!isNb a)) S
  | .bl x, .bl y => .ok (.bl (!decide (x = y))) S
  | _, _ => .stk
def rIsA : R2 := fun x y H Q => (y = .non ∧ Q (.bl (decide (x = .non))) H) ∨ (∃ a b, x = .bl a ∧ y = .bl b ∧ Q (.bl (decide (a = b))) H)
def rNotA : R2 := fun x y H Q => (y = .non ∧ Q (.bl (!decide (x = .non))) H) ∨ (∃ a b, x = .bl a ∧ y = .bl b ∧ Q (.bl (!decide (a = b))) H)
theorem op_isA {X : Cx} : OpR X (compareOp .Is) rIsA := opr_or op_isN op_is_bl
theorem op_notA {X : Cx} : OpR X (compareOp .IsNot) rNotA := opr_or op_notN op_isnot_bl
theorem isN_rep {K : PySem.W.Frag} {cl : Str → Option Addr} {W : Wd} {x : V} {a : D} (rx : Rep K cl W x a) : decide (x = .non) = isNb a := by
  cases rx <;> first | rfl | exact decide_eq_false (by intro z; cases z)
theorem isN_s {K : PySem.W.Frag} {cl : Str → Option Addr} : OpS K cl rIsA isND := by
  intro W H S x y a b Q E r rx ry p
  unfold isND at p
  split at p
  · cases ry
    exact .inl ⟨rfl, by rw [isN_rep rx]; exact p.now r (.bl _)⟩
  · cases rx; cases ry
    exact .inr ⟨_, _, rfl, rfl, p.now r (.bl _)⟩
  · exact p.elim
theorem notN_s {K : PySem.W.Frag} {cl : Str → Option Addr} : OpS K cl rNotA notND := by
  intro W H S x y a b Q E r rx ry p
  unfold notND at p
  split at p
  · cases ry
    exact .inl ⟨rfl, by rw [isN_rep rx]; exact p.now r (.bl _)⟩
  · cases rx; cases ry
    exact .inr ⟨_, _, rfl, rfl, p.now r (.bl _)⟩
  · exact p.elim
/-- in: flat items; one sign of a text -/
def inB (S : Store) (x y : D) : Option Bool := match y with
  | .str z => (match x with
    | .str ⟨⟨[c]⟩⟩ => some (decide (c ∈ z.cps.toList))
    | _ => none)
  | .tup ds => (match scV x, scVs ds with
    | some v, some vs => some (inV v vs)
    | _, _ => none)
  | y => (match lsOf S y with
    | some ds => (match scV x, scVs ds with
      | some v, some vs => some (inV v vs)
      | _, _ => none)
    | none => none)
def inD (a b : D) (S : Store) : Res D := ofB (inB S a b) S
def notInD (a b : D) (S : Store) : Res D := ofB ((inB S a b).map not) S
def rInA (K : PySem.W.Frag) : R2 := fun x y H Q => (∃ (c : Nat) (z : Str), x = .str ⟨#[c]⟩ ∧ y = .str z ∧ Q (.bl (decide (c ∈ z.cps.toList))) H) ∨ rIn K false x y H Q
def rNotInA (K : PySem.W.Frag) : R2 := fun x y H Q => (∃ (c : Nat) (z : Str), x = .str ⟨#[c]⟩ ∧ y = .str z ∧ Q (.bl (!decide (c ∈ z.cps.toList))) H) ∨ rIn K true x y H Q
theorem op_inA {X : Cx} : OpR X (compareOp .In) (rInA X.K) := opr_or op_in_sign op_in_seq
theorem op_notInA {X : Cx} : OpR X (compareOp .NotIn) (rNotInA X.K) := opr_or op_notIn_sign op_notIn_seq
theorem in_cases {K : PySem.W.Frag} {cl : Str → Option Addr} {W : Wd} {H : Hp} {S : Store} {x y : V} {a b : D} {k : Bool} (r : R K cl W H S) (rx : Rep K cl W x a) (ry : Rep K cl W y b) (e : inB S a b = some k) :
    (∃ (c : Nat) (z : Str), x = .str ⟨#[c]⟩ ∧ y = .str z ∧ k = decide (c ∈ z.cps.toList)) ∨ ∃ p xs, y = .ref p ∧ (SqL K H p xs ∨ SqT K H p xs) ∧ flatV x = true ∧ xs.all flatV = true ∧ k = inV x xs := by
  unfold inB at e
  split at e
  · cases ry
    split at e
    · cases rx
      exact .inl ⟨_, _, rfl, rfl, (Option.some.inj e).symm⟩
    · cases e
  · cases ry with | tup h t =>
    split at e
    · rename_i v vs e1 e2
      obtain ⟨rfl, h2⟩ := scs_of t e2
      obtain rfl := sc_of rx e1
      exact .inr ⟨_, _, rfl, .inr (sqT_up r.sub h), sc_flat e1, h2, (Option.some.inj e).symm⟩
    · cases e
  · split at e
    · rename_i ds e0
      obtain ⟨p, us, rfl, h, t⟩ := ls_of r ry e0
      split at e
      · rename_i v vs e1 e2
        obtain ⟨rfl, h2⟩ := scs_of t e2
        obtain rfl := sc_of rx e1
        exact .inr ⟨_, _, rfl, .inl (SqL.of h), sc_flat e1, h2, (Option.some.inj e).symm⟩
      · cases e
    · cases e
theorem in_s {K : PySem.W.Frag} {cl : Str → Option Addr} : OpS K cl (rInA K) inD := by
  intro W H S x y a b Q E r rx ry p
  unfold inD at p
  cases e : inB S a b with
  | none => rw [e] at p; exact p.elim
  | some k =>
    rw [e] at p
    have q : Q (.bl k) H := p.now r (.bl k)
    rcases in_cases r rx ry e with ⟨c, z, h1, h2, rfl⟩ | ⟨u, xs, h1, h2, h3, h4, rfl⟩
    · exact .inl ⟨c, z, h1, h2, q⟩
    · exact .inr ⟨u, xs, h1, h2, h3, h4, q⟩
theorem notIn_s {K : PySem.W.Frag} {cl : Str → Option Addr} : OpS K cl (rNotInA K) notInD := by
  intro W H S x y a b Q E r rx ry p
  unfold notInD at p
  cases e : inB S a b with
  | none => rw [e] at p; exact p.elim
  | some k =>
    rw [e] at p
    have q : Q (.bl (!k)) H := p.now r (.bl _)
    rcases in_cases r rx ry e with ⟨c, z, h1, h2, rfl⟩ | ⟨u, xs, h1, h2, h3, h4, rfl⟩
    · exact .inl ⟨c, z, h1, h2, q⟩
    · exact .inr ⟨u, xs, h1, h2, h3, h4, q⟩

/-! ### subscripts -/
def ixO (S : Store) (a b : D) : Option D := match a, b with
  | .tup ds, .int i => atI ds i
  | .str z, .int i => if z.length ≤ sizeLine then (atI z.cps.toList i).map (fun c => .str ⟨#[c]⟩) else none
  | .scr ns, .int i => (atI ns i).map D.int
  | a, .int i => (match lsOf S a with
    | some ds => atI ds i
    | none => none)
  | _, _ => none
def ixD (a b : D) (S : Store) : Res D := ofO (ixO S a b) S
theorem ix_s {K : PySem.W.Frag} {cl : Str → Option Addr} : OpS K cl (rIx K) ixD := by
  intro W H S x y a b Q E r rx ry p
  unfold ixD at p
  cases e : ixO S a b with
  | none => rw [e] at p; exact p.elim
  | some d =>
    rw [e] at p
    unfold ixO at e
    split at e
    · cases ry
      cases rx with | tup h t =>
      obtain ⟨v, h1, h2⟩ := atI_rep t e
      exact .inr (.inl ⟨_, _, _, v, rfl, rfl, sqT_up r.sub h, h1, p.now r h2⟩)
    · cases ry; cases rx
      split at e
      · rename_i hz
        cases q : atI _ _ with
        | none => rw [q] at e; cases e
        | some c =>
          rw [q] at e
          cases e
          exact .inr (.inr ⟨_, _, c, rfl, rfl, hz, q, p.now r (.str _)⟩)
      · cases e
    · cases ry
      cases rx with | scr h =>
      cases q : atI _ _ with
      | none => rw [q] at e; cases e
      | some c =>
        rw [q] at e
        cases e
        exact .inl ⟨_, _, _, _, rfl, rfl, sqL_up r.sub h, atI_map V.int q, p.now r (.int _)⟩
    · cases ry
      split at e
      · rename_i ds e0
        obtain ⟨p', us, rfl, h, t⟩ := ls_of r rx e0
        obtain ⟨v, h1, h2⟩ := atI_rep t e
        exact .inl ⟨_, _, _, v, rfl, rfl, SqL.of h, h1, p.now r h2⟩
      · cases e
    · cases e
theorem ints_rep {K : PySem.W.Frag} {cl : Str → Option Addr} {W : Wd} : ∀ ns : List Int, Reps K cl W (ns.map V.int) (ns.map D.int)
  | [] => .nil
  | n :: ns => .cons (.int n) (ints_rep ns)
def cutD (xs : List D) (lo hi : Option Int) : List D := (xs.drop (HT.sIx xs.length 0 lo)).take (HT.sIx xs.length xs.length hi - HT.sIx xs.length 0 lo)
theorem cut_rep {K : PySem.W.Frag} {cl : Str → Option Addr} {W : Wd} {vs : List V} {ds : List D} (t : Reps K cl W vs ds) (lo hi : Option Int) : Reps K cl W (cutV vs lo hi) (cutD ds lo hi) := by
  unfold cutV cutD
  rw [t.len]
  exact (t.drop _).take _
def slD (a : D) (lo hi : Option Int) (S : Store) : Res D := match a with
  | .tup ds => .ok (.tup (cutD ds lo hi)) S
  | .str z => if z.length ≤ sizeLine then .ok (.str (cutS z lo hi)) S else .stk
  | .scr ns => .ok (.lst (cutD (ns.map D.int) lo hi)) S
  | a => (match lsOf S a with
    | some ds => .ok (.lst (cutD ds lo hi)) S
    | none => .stk)
def rSlAll (K : PySem.W.Frag) : V → Option Int → Option Int → Hp → VK → Prop := fun x lo hi H Q => rSlA K x lo hi H Q ∨ rSlS x lo hi H Q ∨ rSlL K x lo hi H Q
theorem sl_all {X : Cx} : SlR X (rSlAll X.K) := sl_tupA.or (sl_str.or sl_list)
theorem cut_all {xs : List D} {lo hi : Option Int} (h : HT.sIx xs.length 0 lo = 0 ∧ HT.sIx xs.length xs.length hi = xs.length) : cutD xs lo hi = xs := by
  unfold cutD
  rw [h.1, h.2]
  simp
theorem sl_s {K : PySem.W.Frag} {cl : Str → Option Addr} : SlS K cl (rSlAll K) slD := by
  intro W H S x a lo hi Q E r rx p
  unfold slD at p
  split at p
  · cases rx with | tup h t =>
    refine .inl ⟨_, _, rfl, sqT_up r.sub h, fun e => ?_, fun _ => newT r (cut_rep t lo hi) p⟩
    rw [t.len] at e
    rw [cut_all e] at p
    exact p.now r (.tup h t)
  · cases rx
    split at p
    · rename_i hz
      exact .inr (.inl ⟨_, rfl, hz, p.now r (.str _)⟩)
    · exact p.elim
  · cases rx with | scr h =>
    exact .inr (.inr ⟨_, _, rfl, sqL_up r.sub h, newL r (cut_rep (ints_rep _) lo hi) p⟩)
  · split at p
    · rename_i ds e0
      obtain ⟨p', us, rfl, h, t⟩ := ls_of r rx e0
      exact .inr (.inr ⟨_, _, rfl, SqL.of h, newL r (cut_rep t lo hi) p⟩)
    · exact p.elim

/-! ### built-ins by values -/
def lenO (S : Store) (d : D) : Option Nat := match d with
  | .str y => if y.length ≤ sizeLine then some y.length else none
  | .tup ds => some ds.length
  | .scr ns => some ns.length
  | d => (match lsOf S d with
    | some ds => some ds.length
    | none => none)
def lenD (as : List D) (S : Store) : Res D := match as with
  | [d] => ofO ((lenO S d).map fun n => .int n) S
  | _ => .stk
theorem len_s {K : PySem.W.Frag} {cl : Str → Option Addr} : FnS K cl (fun xs H Q => ∃ x n, xs = [x] ∧ LenV K x H n ∧ Q (.int n) H) lenD := by
  intro W H S x a Q E r rx p
  unfold lenD at p
  split at p
  · rename_i d
    cases rx with | cons rx rn =>
    cases rn
    cases e : lenO S d with
    | none => rw [e] at p; exact p.elim
    | some n =>
      rw [e] at p
      refine ⟨_, n, rfl, ?_, p.now r (.int _)⟩
      unfold lenO at e
      split at e
      · cases rx
        split at e
        · rename_i hz
          exact ⟨hz, (Option.some.inj e).symm⟩
        · cases e
      · cases rx with | tup h t =>
        exact .inr ⟨_, sqT_up r.sub h, by rw [t.len]; exact (Option.some.inj e).symm⟩
      · cases rx with | scr h =>
        exact .inl ⟨_, sqL_up r.sub h, by rw [List.length_map]; exact (Option.some.inj e).symm⟩
      · split at e
        · rename_i ds e0
          obtain ⟨p', us, rfl, h, t⟩ := ls_of r rx e0
          exact .inl ⟨_, SqL.of h, by rw [t.len]; exact (Option.some.inj e).symm⟩
        · cases e
  · exact p.elim
def intD (as : List D) (S : Store) : Res D := match as with
  | [.int i] => .ok (.int i) S
  | [.bl k] => .ok (.int (if k then 1 else 0)) S
  | _ => .stk
theorem int_s {K : PySem.W.Frag} {cl : Str → Option Addr} : FnS K cl (fun xs H Q => (∃ i, xs = [.int i] ∧ Q (.int i) H) ∨ ∃ k, xs = [.bl k] ∧ Q (.int (if k then 1 else 0)) H) intD := by
  intro W H S x a Q E r rx p
  unfold intD at p
  split at p
  · cases rx with | cons rx rn =>
    cases rn; cases rx
    exact .inl ⟨_, rfl, p.now r (.int _)⟩
  · cases rx with | cons rx rn =>
    cases rn; cases rx
    exact .inr ⟨_, rfl, p.now r (.int _)⟩
  · exact p.elim
def boolD (as : List D) (S : Store) : Res D := match as with
  | [.int i] => .ok (.bl (i != 0)) S
  | [.bl k] => .ok (.bl k) S
  | _ => .stk
theorem bool_s {K : PySem.W.Frag} {cl : Str → Option Addr} : FnS K cl (fun xs H Q => (∃ i, xs = [.int i] ∧ Q (.bl (i != 0)) H) ∨ ∃ k, xs = [.bl k] ∧ Q (.bl k) H) boolD := by
  intro W H S x a Q E r rx p
  unfold boolD at p
  split at p
  · cases rx with | cons rx rn =>
    cases rn; cases rx
    exact .inl ⟨_, rfl, p.now r (.bl _)⟩
  · cases rx with | cons rx rn =>
    cases rn; cases rx
    exact .inr ⟨_, rfl, p.now r (.bl _)⟩
  · exact p.elim
/-- the items of a list or tuple -/
def sqOf (S : Store) (d : D) : Option (List D) := match d with
  | .tup ds => some ds
  | d => lsOf S d
theorem sq_of' {K : PySem.W.Frag} {cl : Str → Option Addr} {W : Wd} {H : Hp} {S : Store} {v : V} {d : D} {xs : List D} (r : R K cl W H S) (h : Rep K cl W v d) (e : sqOf S d = some xs) :
    ∃ a vs, v = .ref a ∧ (SqL K H a vs ∨ SqT K H a vs) ∧ Reps K cl W vs xs := by
  unfold sqOf at e
  split at e
  · cases h with | tup h t =>
    cases e
    exact ⟨_, _, rfl, .inr (sqT_up r.sub h), t⟩
  · obtain ⟨p', us, rfl, h, t⟩ := ls_of r h e
    exact ⟨_, _, rfl, .inl (SqL.of h), t⟩
def tupleD (as : List D) (S : Store) : Res D := match as with
  | [d] => ofO ((sqOf S d).map D.tup) S
  | _ => .stk
theorem tuple_s {K : PySem.W.Frag} {cl : Str → Option Addr} : FnS K cl (fun xs H Q => ∃ p ys, xs = [.ref p] ∧ ((SqL K H p ys ∧ ∀ l, H l = none → Q (.ref l) (upd H l (.tup ys))) ∨ (SqT K H p ys ∧ Q (.ref p) H))) tupleD := by
  intro W H S x a Q E r rx p
  unfold tupleD at p
  split at p
  · rename_i d
    cases rx with | cons rx rn =>
    cases rn
    cases e : sqOf S d with
    | none => rw [e] at p; exact p.elim
    | some ds =>
      rw [e] at p
      unfold sqOf at e
      split at e
      · cases rx with | tup h t =>
        cases e
        exact ⟨_, _, rfl, .inr ⟨sqT_up r.sub h, p.now r (.tup h t)⟩⟩
      · obtain ⟨p', us, rfl, h, t⟩ := ls_of r rx e
        exact ⟨_, _, rfl, .inl ⟨SqL.of h, newT r t p⟩⟩
  · exact p.elim
def listD (as : List D) (S : Store) : Res D := match as with
  | [d] => ofO ((sqOf S d).map D.lst) S
  | _ => .stk
def listL (as : List D) (S : Store) : Res D := match as with
  | [d] => (match sqOf S d with
    | some xs => .ok (.ref S.length) (S ++ [.lst xs])
    | none => .stk)
  | _ => .stk
theorem list_s {K : PySem.W.Frag} {cl : Str → Option Addr} : FnS K cl (fun xs H Q => ∃ p ys, xs = [.ref p] ∧ (SqL K H p ys ∨ SqT K H p ys) ∧ ∀ l, H l = none → Q (.ref l) (upd H l (.lst ys))) listD := by
  intro W H S x a Q E r rx p
  unfold listD at p
  split at p
  · rename_i d
    cases rx with | cons rx rn =>
    cases rn
    cases e : sqOf S d with
    | none => rw [e] at p; exact p.elim
    | some ds =>
      rw [e] at p
      obtain ⟨a, vs, rfl, h, t⟩ := sq_of' r rx e
      exact ⟨_, _, rfl, h, newL r t p⟩
  · exact p.elim
theorem listL_s {K : PySem.W.Frag} {cl : Str → Option Addr} : FnS K cl (fun xs H Q => ∃ p ys, xs = [.ref p] ∧ (SqL K H p ys ∨ SqT K H p ys) ∧ ∀ l, H l = none → Q (.ref l) (upd H l (.lst ys))) listL := by
  intro W H S x a Q E r rx p
  unfold listL at p
  split at p
  · rename_i d
    cases rx with | cons rx rn =>
    cases rn
    cases e : sqOf S d with
    | none => rw [e] at p; exact p.elim
    | some ds =>
      rw [e] at p
      obtain ⟨a, vs, rfl, h, t⟩ := sq_of' r rx e
      exact ⟨_, _, rfl, h, newLv r t p⟩
  · exact p.elim
/-- all, any of a list of flags -/
def blO : D → Option Bool
  | .bl b => some b
  | _ => none
def blsO : List D → Option (List Bool)
  | [] => some []
  | d :: ds => (match blO d, blsO ds with
    | some b, some bs => some (b :: bs)
    | _, _ => none)
theorem bls_of {K : PySem.W.Frag} {cl : Str → Option Addr} {W : Wd} : ∀ {vs : List V} {ds : List D} {bs : List Bool}, Reps K cl W vs ds → blsO ds = some bs → vs = bs.map V.bl
  | _, _, _, .nil, e => by cases e; rfl
  | _, _, _, .cons (d := d) (ds := ds) h t, e => by
    unfold blsO at e
    cases e1 : blO d with
    | none => rw [e1] at e; cases e
    | some v =>
      cases e2 : blsO ds with
      | none => rw [e1, e2] at e; cases e
      | some vs =>
        rw [e1, e2] at e
        cases e
        rw [bls_of t e2]
        cases h <;> first | (cases e1; rfl) | cases e1
def allD (as : List D) (S : Store) : Res D := match as with
  | [d] => ofO (((lsOf S d).bind blsO).map fun bs => .bl (bs.all id)) S
  | _ => .stk
def anyD (as : List D) (S : Store) : Res D := match as with
  | [d] => ofO (((lsOf S d).bind blsO).map fun bs => .bl (bs.any id)) S
  | _ => .stk
theorem all_s {K : PySem.W.Frag} {cl : Str → Option Addr} : FnS K cl (rAll K) allD := by
  intro W H S x a Q E r rx p
  unfold allD at p
  split at p
  · rename_i d
    cases rx with | cons rx rn =>
    cases rn
    cases e : lsOf S d with
    | none => rw [e] at p; exact p.elim
    | some ds =>
      cases e2 : blsO ds with
      | none => simp only [e, e2, Option.bind] at p; exact p.elim
      | some bs =>
        simp only [e, e2, Option.bind] at p
        obtain ⟨a, vs, rfl, h, t⟩ := ls_of r rx e
        rw [bls_of t e2] at h
        exact ⟨_, bs, rfl, SqL.of h, p.now r (.bl _)⟩
  · exact p.elim
theorem any_s {K : PySem.W.Frag} {cl : Str → Option Addr} : FnS K cl (rAny K) anyD := by
  intro W H S x a Q E r rx p
  unfold anyD at p
  split at p
  · rename_i d
    cases rx with | cons rx rn =>
    cases rn
    cases e : lsOf S d with
    | none => rw [e] at p; exact p.elim
    | some ds =>
      cases e2 : blsO ds with
      | none => simp only [e, e2, Option.bind] at p; exact p.elim
      | some bs =>
        simp only [e, e2, Option.bind] at p
        obtain ⟨a, vs, rfl, h, t⟩ := ls_of r rx e
        rw [bls_of t e2] at h
        exact ⟨_, bs, rfl, SqL.of h, p.now r (.bl _)⟩
  · exact p.elim
section
variable {X : Cx} {cl : Str → Option Addr} {E : WX} {ms : M (List D)} {pos p : Pos} {x : Str} {e : Expr} {es : List Expr} {id T' : String} {r : List V → Hp → VK → Prop} {g : List D → Store → Res D}
theorem t_callB (hc : CallR X (.builtin id) r) (hs : FnS X.K cl r g) (hm : X.mg x = none) (hv : bootBuiltins x = some (.builtin id)) (ha : PA X (e :: es) (TL X.K cl E ms)) (hg : Gl X x := by rfl) (hn : x ≠ "__name__" := by decide) (hdb : (x == ("__debug__" : Str)) = false := by decide)
    (he : starEach (e :: es) X.env = (false, eval e X.env) :: starEach es X.env := by rfl) (hpl : (backTo pos (starEach es X.env)).any (·.1) = false := by rfl) : PE X (.Call (.Name x p) (e :: es) [] pos) (T X.K cl E (mFn g ms)) :=
  pe_imp (pe_callB hc hg hm hv ha hn hdb he hpl) fun σ H Q ⟨W, ρ, S, hr, he, p⟩ => step hr he p fun W1 H1 x dx S1 l1 r1 e1 rx p1 => hs _ _ _ _ _ _ _ r1 rx p1
theorem t_callTy (hc : CallR X (.type T') r) (hs : FnS X.K cl r g) (hm : X.mg x = none) (hv : bootBuiltins x = some (.type T')) (ha : PA X (e :: es) (TL X.K cl E ms)) (hg : Gl X x := by rfl) (hn : x ≠ "__name__" := by decide) (hdb : (x == ("__debug__" : Str)) = false := by decide)
    (he : starEach (e :: es) X.env = (false, eval e X.env) :: starEach es X.env := by rfl) (hpl : (backTo pos (starEach es X.env)).any (·.1) = false := by rfl) : PE X (.Call (.Name x p) (e :: es) [] pos) (T X.K cl E (mFn g ms)) :=
  pe_imp (pe_callTy hc hg hm hv ha hn hdb he hpl) fun σ H Q ⟨W, ρ, S, hr, he, p⟩ => step hr he p fun W1 H1 x dx S1 l1 r1 e1 rx p1 => hs _ _ _ _ _ _ _ r1 rx p1
end
end G
namespace G
open PySem L2

inductive Out where
  | nx (ρ : Sl) (S : Store)
  | rt (d : D) (S : Store)
  | bk (ρ : Sl) (S : Store)
  | ct (ρ : Sl) (S : Store)
  | exc (x : Exc) (ρ : Sl) (S : Store)
  | stk
abbrev MS := Sl → Store → Out
def sB {α : Type} (r : Res α) (ρ : Sl) (f : α → Store → Out) : Out := match r with
  | .ok a S => f a S
  | .exc x S => .exc x ρ S
  | .stk => .stk
@[simp] theorem sB_ok {α : Type} {a : α} {S : Store} {ρ : Sl} {f : α → Store → Out} : sB (.ok a S) ρ f = f a S := nrfl rfl
@[simp] theorem sB_exc {α : Type} {a : Exc} {S : Store} {ρ : Sl} {f : α → Store → Out} : sB (.exc a S) ρ f = .exc a ρ S := nrfl rfl
@[simp] theorem sB_stk {α : Type} {ρ : Sl} {f : α → Store → Out} : sB .stk ρ f = .stk := nrfl rfl
section
variable (K : PySem.W.Frag) (cl : Str → Option Addr)
def PostS (W : Wd) (o : Out) (A : Ends) (E : WX) : Prop := match o with
  | .nx ρ S => ∀ W' H' σ, Le W W' → R K cl W' H' S → Envs K cl W' σ ρ → A.nx σ H'
  | .rt d S => ∀ W' H' v, Le W W' → R K cl W' H' S → Rep K cl W' v d → A.rt v H'
  | .bk ρ S => ∀ W' H' σ, Le W W' → R K cl W' H' S → Envs K cl W' σ ρ → A.bk σ H'
  | .ct ρ S => ∀ W' H' σ, Le W W' → R K cl W' H' S → Envs K cl W' σ ρ → A.ct σ H'
  | .exc x ρ S => ∀ W' H' σ c dd, Le W W' → R K cl W' H' S → Envs K cl W' σ ρ → XRep K cl W' c dd x → E c dd σ H'
  | .stk => False
def Ts (E : WX) (m : MS) : TS := fun A σ H => ∃ W ρ S, R K cl W H S ∧ Envs K cl W σ ρ ∧ PostS K cl W (m ρ S) A E
/-- a target: names -/
abbrev Pt := D → Sl → Option Sl
/-- two rows of slots that are alike but at sl -/
def Off (sl : List Nat) (σ σ' : St) : Prop := σ.length = σ'.length ∧ ∀ i : Nat, i ∉ sl → σ'[i]? = σ[i]?
def Tp (sl : List Nat) (p : Pt) : TG := fun v σ H Q => ∃ W ρ S d ρ', R K cl W H S ∧ Envs K cl W σ ρ ∧ Rep K cl W v d ∧ p d ρ = some ρ' ∧ ∀ σ', Envs K cl W σ' ρ' → Off sl σ σ' → Q σ' H
def Tps (sl : List Nat) (p : List D → Sl → Option Sl) : TGs := fun v σ H Q => ∃ W ρ S d ρ', R K cl W H S ∧ Envs K cl W σ ρ ∧ Reps K cl W v d ∧ p d ρ = some ρ' ∧ ∀ σ', Envs K cl W σ' ρ' → Off sl σ σ' → Q σ' H
end
def ptN (i : Nat) : Pt := fun d ρ => some (ρ.set i (some d))
def ptT (p : List D → Sl → Option Sl) : Pt := fun d ρ => match d with
  | .tup ds => p ds ρ
  | _ => none
def psN : List D → Sl → Option Sl := fun d ρ => match d with
  | [] => some ρ
  | _ => none
def psC (p : Pt) (q : List D → Sl → Option Sl) : List D → Sl → Option Sl := fun d ρ => match d with
  | x :: xs => (match p x ρ with
    | some ρ' => q xs ρ'
    | none => none)
  | [] => none

/-! ### the combinators of statements -/
def sPass : MS := fun ρ S => .nx ρ S
def sBrk : MS := fun ρ S => .bk ρ S
def sCt : MS := fun ρ S => .ct ρ S
def sSet (i : Nat) (m : M D) : MS := fun ρ S => sB (m ρ S) ρ fun d S1 => .nx (ρ.set i (some d)) S1
def sAsg (p : Pt) (m : M D) : MS := fun ρ S => sB (m ρ S) ρ fun d S1 => match p d ρ with
  | some ρ' => .nx ρ' S1
  | none => .stk
def sExpr (m : M D) : MS := fun ρ S => sB (m ρ S) ρ fun _ S1 => .nx ρ S1
def sRet (m : M D) : MS := fun ρ S => sB (m ρ S) ρ fun d S1 => .rt d S1
def sRetN : MS := fun _ S => .rt .non S
def sIf (c : M Bool) (a b : MS) : MS := fun ρ S => sB (c ρ S) ρ fun k S1 => if k = true then a ρ S1 else b ρ S1
def sSeq (a b : MS) : MS := fun ρ S => match a ρ S with
  | .nx ρ1 S1 => b ρ1 S1
  | o => o
def sAug (i : Nat) (g : D → D → Store → Res D) (m : M D) : MS := fun ρ S => match ρ[i]? with
  | some (some x) => sB (m ρ S) ρ fun y S1 => sB (g x y S1) ρ fun z S2 => .nx (ρ.set i (some z)) S2
  | _ => .stk
/-- o[i] = e, a list -/
def putD (o i v : D) (S : Store) : Option Store := match o, i with
  | .ref n, .int k => (match S[n]? with
    | some (.lst xs) => (match ixN xs.length k with
      | some j => some (S.set n (.lst (xs.set j v)))
      | none => none)
    | _ => none)
  | _, _ => none
def sPut (o i e : M D) : MS := fun ρ S => sB (e ρ S) ρ fun v S1 => sB (o ρ S1) ρ fun x S2 => sB (i ρ S2) ρ fun y S3 => match putD x y v S3 with
  | some S4 => .nx ρ S4
  | none => .stk
structure Itb where
  xs : List D
  lv : Option Nat
/-- what is walked stands as it was -/
def Grd (it : Itb) (S : Store) : Prop := match it.lv with
  | none => True
  | some n => S[n]? = some (.lst it.xs)
open Classical in
noncomputable def forL (it : Itb) (p : Pt) (b : MS) : List D → MS
  | [], ρ, S => if Grd it S then .nx ρ S else .stk
  | d :: ds, ρ, S => if Grd it S then (match p d ρ with
    | some ρ1 => (match b ρ1 S with
      | .nx ρ2 S2 => forL it p b ds ρ2 S2
      | .ct ρ2 S2 => forL it p b ds ρ2 S2
      | .bk ρ2 S2 => .nx ρ2 S2
      | .rt v S2 => .rt v S2
      | .exc x ρ2 S2 => .exc x ρ2 S2
      | .stk => .stk)
    | none => .stk) else .stk
noncomputable def sFor (m : M Itb) (p : Pt) (b : MS) : MS := fun ρ S => sB (m ρ S) ρ fun it S1 => forL it p b it.xs ρ S1
def whileF (c : M Bool) (b : MS) : Nat → MS
  | 0, _, _ => .stk
  | n + 1, ρ, S => sB (c ρ S) ρ fun k S1 => if k = true then (match b ρ S1 with
      | .nx ρ2 S2 => whileF c b n ρ2 S2
      | .ct ρ2 S2 => whileF c b n ρ2 S2
      | .bk ρ2 S2 => .nx ρ2 S2
      | .rt v S2 => .rt v S2
      | .exc x ρ2 S2 => .exc x ρ2 S2
      | .stk => .stk) else .nx ρ S1
/-- the slots of a comprehension's own names forgotten -/
def wipeD (ρ : Sl) : List Nat → Sl
  | [] => ρ
  | v :: vs => (wipeD ρ vs).set v none
def Res.nox {α : Type} (r : Res α) : Res α := match r with
  | .ok a S => .ok a S
  | _ => .stk
@[simp] theorem nox_ok {α : Type} {a : α} {S : Store} : (Res.ok a S).nox = .ok a S := nrfl rfl
@[simp] theorem nox_exc {α : Type} {a : Exc} {S : Store} : (Res.exc a S : Res α).nox = .stk := nrfl rfl
@[simp] theorem nox_stk {α : Type} : (Res.stk : Res α).nox = .stk := nrfl rfl
open Classical in
noncomputable def compL (it : Itb) (p : Pt) (t : M Bool) (e : M D) (ρ : Sl) : List D → Nat → Store → Res (List D)
  | [], _, S => if Grd it S then .ok [] S else .stk
  | d :: ds, n, S => if Grd it S then (match p d ρ with
    | some ρ1 => (t ρ1 S).nox.bind fun k S1 => if k = true then (e ρ1 S1).nox.bind fun x S2 => if n < sizeLine then (compL it p t e ρ ds (n + 1) S2).bind fun xs S3 => .ok (x :: xs) S3 else .stk
        else compL it p t e ρ ds n S1
    | none => .stk) else .stk
noncomputable def mComp (m : M Itb) (p : Pt) (t : M Bool) (e : M D) (vs : List Nat) (mk : List D → Store → Res D) : M D := fun ρ S => (m ρ S).bind fun it S1 => (compL it p t e (wipeD ρ vs) it.xs 0 S1).bind fun xs S2 => mk xs S2
def mYes : M Bool := fun _ S => .ok true S
def frzD (xs : List D) (S : Store) : Res D := .ok (.lst xs) S
def lvD (xs : List D) (S : Store) : Res D := .ok (.ref S.length) (S ++ [.lst xs])

section
variable {K : PySem.W.Frag} {cl : Str → Option Addr} {W W' : Wd} {H : Hp} {S : Store} {σ : St} {ρ : Sl} {α β : Type} {rel : Wd → β → α → Prop} {A : Ends} {E : WX}
theorem PostS.up {o : Out} (l : Le W W') (p : PostS K cl W o A E) : PostS K cl W' o A E := by
  cases o with
  | nx ρ S => exact fun W2 H2 v l2 => p W2 H2 v (l.tr l2)
  | rt ρ S => exact fun W2 H2 v l2 => p W2 H2 v (l.tr l2)
  | bk ρ S => exact fun W2 H2 v l2 => p W2 H2 v (l.tr l2)
  | ct ρ S => exact fun W2 H2 v l2 => p W2 H2 v (l.tr l2)
  | exc x ρ S => exact fun W2 H2 v c dd l2 => p W2 H2 v c dd (l.tr l2)
  | stk => exact p
theorem stepS {m : M α} {f : α → Store → Out} {Q1 : β → Hp → Prop} (hr : R K cl W H S) (he : Envs K cl W σ ρ) (p : PostS K cl W (sB (m ρ S) ρ f) A E)
    (k : ∀ W' H' v d S', Le W W' → R K cl W' H' S' → Envs K cl W' σ ρ → rel W' v d → PostS K cl W' (f d S') A E → Q1 v H') : Tg K cl rel E m σ H Q1 := by
  refine ⟨W, ρ, S, hr, he, ?_⟩
  cases e : m ρ S with
  | ok d S1 =>
    rw [e] at p
    exact fun W1 H1 v l1 r1 q1 => k W1 H1 v d S1 l1 r1 (he.up l1) q1 (PostS.up l1 p)
  | exc x S1 =>
    rw [e] at p
    exact fun W1 H1 c dd l1 r1 x1 => p W1 H1 σ c dd l1 r1 (he.up l1) x1
  | stk =>
    rw [e] at p
    exact p.elim
end
section
variable {X : Cx} {cl : Str → Option Addr} {E : WX} {e tg : Expr} {es : List Expr} {m m1 m2 m3 : M D} {mb : M Bool} {s1 s2 : MS} {st : Stmt} {sts : List Stmt} {pos pos' : Pos}
theorem s_nil : PSs X [] (Ts X.K cl E sPass) := pss_imp pss_nil fun A σ H ⟨W, ρ, S, hr, he, p⟩ => p W H σ (.rf W) hr he
theorem s_one (h : PS X st (Ts X.K cl E s1)) : PSs X [st] (Ts X.K cl E s1) := pss_one h
theorem s_cons (h : PS X st (Ts X.K cl E s1)) (h2 : PSs X sts (Ts X.K cl E s2)) : PSs X (st :: sts) (Ts X.K cl E (sSeq s1 s2)) :=
  pss_imp (pss_cons h h2) fun A σ H ⟨W, ρ, S, hr, he, p⟩ => by
    refine ⟨W, ρ, S, hr, he, ?_⟩
    unfold sSeq at p
    cases q : s1 ρ S with
    | nx ρ1 S1 =>
      rw [q] at p
      exact fun W1 H1 σ1 l1 r1 e1 => ⟨W1, ρ1, S1, r1, e1, PostS.up l1 p⟩
    | rt d S1 => rw [q] at p; exact p
    | bk d S1 => rw [q] at p; exact p
    | ct d S1 => rw [q] at p; exact p
    | exc x d S1 => rw [q] at p; exact p
    | stk => rw [q] at p; exact p
theorem s_pass : PS X (.Pass pos) (Ts X.K cl E sPass) := ps_imp ps_pass fun A σ H ⟨W, ρ, S, hr, he, p⟩ => p W H σ (.rf W) hr he
theorem s_break : PS X (.Break pos) (Ts X.K cl E sBrk) := ps_imp ps_break fun A σ H ⟨W, ρ, S, hr, he, p⟩ => p W H σ (.rf W) hr he
theorem s_continue : PS X (.Continue pos) (Ts X.K cl E sCt) := ps_imp ps_continue fun A σ H ⟨W, ρ, S, hr, he, p⟩ => p W H σ (.rf W) hr he
theorem s_expr (h : PE X e (T X.K cl E m)) (hs : swapsWith e none pos.line X.env = pure false := by rfl) : PS X (.Expr e pos) (Ts X.K cl E (sExpr m)) :=
  ps_imp (ps_expr h hs) fun A σ H ⟨W, ρ, S, hr, he, p⟩ => stepS hr he p fun W1 H1 v d S1 l1 r1 e1 rv p1 => p1 W1 H1 σ (.rf W1) r1 e1
theorem s_ret (h : PE X e (T X.K cl E m)) : PS X (.Return (some e) pos) (Ts X.K cl E (sRet m)) :=
  ps_imp (ps_ret h) fun A σ H ⟨W, ρ, S, hr, he, p⟩ => stepS hr he p fun W1 H1 v d S1 l1 r1 e1 rv p1 => p1 W1 H1 v (.rf W1) r1 rv
theorem s_retN : PS X (.Return none pos) (Ts X.K cl E sRetN) := ps_imp ps_retN fun A σ H ⟨W, ρ, S, hr, he, p⟩ => p W H _ (.rf W) hr .non
theorem s_if {c : Expr} {a b : List Stmt} (hc : PT X c (TB X.K cl E mb)) (ha : PSs X a (Ts X.K cl E s1)) (hb : PSs X b (Ts X.K cl E s2)) : PS X (.If c a b pos) (Ts X.K cl E (sIf mb s1 s2)) :=
  ps_imp (ps_if hc ha hb) fun A σ H ⟨W, ρ, S, hr, he, p⟩ => stepS hr he p fun W1 H1 v d S1 l1 r1 e1 rv p1 => by
    obtain rfl : v = d := rv
    cases v with
    | true => exact ⟨W1, ρ, S1, r1, e1, p1⟩
    | false => exact ⟨W1, ρ, S1, r1, e1, p1⟩
theorem s_set (i : Nat) {x : Str} (hN : X.N.Nodup) (he : PE X e (T X.K cl E m)) (hi : X.N[i]? = some x := by rfl) (hx : Loc X.env.scope x := by first | exact Or.inl rfl | exact Or.inr rfl)
    (hs : swapsWith e (some (.Name x pos')) pos.line X.env = pure false := by rfl) (hf : X.fn x = true ∨ X.env.scope.names.lookup x = some .local := by first | exact .inl rfl | exact .inr rfl) :
    PS X (.Assign [.Name x pos'] e pos) (Ts X.K cl E (sSet i m)) :=
  ps_imp (ps_set hN hi hx he hs hf) fun A σ H ⟨W, ρ, S, hr, he, p⟩ => stepS hr he p fun W1 H1 v d S1 l1 r1 e1 rv p1 => p1 W1 H1 _ (.rf W1) r1 (e1.set i rv)
/-- targets -/
theorem g_name (i : Nat) {x : Str} (hN : X.N.Nodup) (hi : X.N[i]? = some x := by rfl) (hx : Loc X.env.scope x := by first | exact Or.inl rfl | exact Or.inr rfl)
    (hf : X.fn x = true ∨ X.env.scope.names.lookup x = some .local := by first | exact .inl rfl | exact .inr rfl) : PG X (.Name x pos) (Tp X.K cl [i] (ptN i)) :=
  ⟨fun pins s σ H v u Q I r ⟨W, ρ, S, d, ρ', hr, he, rv, ep, q⟩ => (pg_name hN hi hx hf).run pins s σ H v u Q I r (by
    cases ep
    exact q _ (he.set i rv) ⟨by simp, fun j hj => List.getElem?_set_ne (fun z => hj (by simp [z]))⟩)⟩
theorem Off.rf (σ : St) : Off [] σ σ := ⟨rfl, fun _ _ => rfl⟩
theorem Off.tr {a b : List Nat} {σ σ1 σ2 : St} (x : Off a σ σ1) (y : Off b σ1 σ2) : Off (a ++ b) σ σ2 := ⟨x.1.trans y.1, fun i hi => by
  rw [List.mem_append, not_or] at hi
  exact (y.2 i hi.2).trans (x.2 i hi.1)⟩
theorem gs_nil : PGs X [] (Tps X.K cl [] psN) := ⟨fun pins s σ H v u Q I r ⟨W, ρ, S, d, ρ', hr, he, rv, ep, q⟩ => pgs_nil.run pins s σ H v u Q I r (by
    cases rv with
    | nil =>
      cases ep
      exact ⟨rfl, q _ he (.rf _)⟩
    | cons _ _ => cases ep)⟩
theorem gs_cons {a b : List Nat} {p : Pt} {ps : List D → Sl → Option Sl} (h1 : PG X e (Tp X.K cl a p)) (h2 : PGs X es (Tps X.K cl b ps)) (hs : (assignEach (e :: es) X.env).map (·.2) = assign e X.env :: (assignEach es X.env).map (·.2) := by rfl) :
    PGs X (e :: es) (Tps X.K cl (a ++ b) (psC p ps)) := ⟨fun pins s σ H v u Q I r ⟨W, ρ, S, d, ρ', hr, he, rv, ep, q⟩ => (pgs_cons h1 h2 hs).run pins s σ H v u Q I r (by
    cases rv with
    | nil => cases ep
    | @cons x dx vs ds r1 r2 =>
      unfold psC at ep
      cases e1 : p dx ρ with
      | none => simp only [e1] at ep; cases ep
      | some ρ1 =>
        simp only [e1] at ep
        exact ⟨_, _, rfl, W, ρ, S, dx, ρ1, hr, he, r1, e1, fun σ1 he1 o1 => ⟨W, ρ1, S, ds, ρ', hr, he1, r2, ep, fun σ2 he2 o2 => q σ2 he2 (o1.tr o2)⟩⟩)⟩
theorem g_tup {k n : Nat} {a : List Nat} {ps : List D → Sl → Option Sl} (hc : X.calm = true) (h : PGs X es (Tps X.K cl a ps)) (hl : ∀ ds ρ ρ', ps ds ρ = some ρ' → ds.length = n)
    (hn : (assignEach es X.env).length = n := by rfl) (hst : (assignEach es X.env).findIdx? (·.1) = none := by rfl) : PG X (.Tuple es k pos) (Tp X.K cl a (ptT ps)) :=
  ⟨fun pins s σ H v u Q I r ⟨W, ρ, S, d, ρ', hr, he, rv, ep, q⟩ => (pg_tup hc h hn hst).run pins s σ H v u Q I r (by
    cases rv with
    | tup h1 t =>
      exact ⟨_, _, rfl, sqT_up hr.sub h1, by rw [t.len]; exact hl _ _ _ ep, W, ρ, S, _, ρ', hr, he, t, ep, q⟩
    | _ => cases ep)⟩
theorem ps_len0 : ∀ ds ρ ρ', psN ds ρ = some ρ' → ds.length = 0 := fun ds ρ ρ' h => by
  cases ds with
  | nil => rfl
  | cons _ _ => cases h
theorem ps_lenS {n : Nat} {p : Pt} {ps : List D → Sl → Option Sl} (hl : ∀ ds ρ ρ', ps ds ρ = some ρ' → ds.length = n) : ∀ ds ρ ρ', psC p ps ds ρ = some ρ' → ds.length = n + 1 := fun ds ρ ρ' h => by
  cases ds with
  | nil => cases h
  | cons d ds =>
    unfold psC at h
    cases e1 : p d ρ with
    | none => simp only [e1] at h; cases h
    | some ρ1 =>
      simp only [e1] at h
      rw [List.length_cons, hl _ _ _ h]
theorem s_asg {a : List Nat} {p : Pt} (he : PE X e (T X.K cl E m)) (hg : PG X tg (Tp X.K cl a p)) (hs : swapsWithSole [tg] e pos.line X.env = pure false := by rfl) (hw : swappedStores [tg] e X.env = pure none := by rfl) (h1 : (assignEach [tg] X.env).map (·.2) = [assign tg X.env] := by rfl) :
    PS X (.Assign [tg] e pos) (Ts X.K cl E (sAsg p m)) :=
  ps_imp (ps_asg he hg hs hw h1) fun A σ H ⟨W, ρ, S, hr, he, q⟩ => stepS hr he q fun W1 H1 v d S1 l1 r1 e1 rv p1 => by
    cases e2 : p d ρ with
    | none => simp only [e2] at p1; exact p1.elim
    | some ρ1 =>
      simp only [e2] at p1
      exact ⟨W1, ρ, S1, d, ρ1, r1, e1, rv, e2, fun σ1 he1 _ => p1 W1 H1 σ1 (.rf W1) r1 he1⟩
/-- x op= e, by a rule on values -/
theorem s_aug (i : Nat) {x : Str} {op : Operator} {r : TIp} {g : D → D → Store → Res D} (hN : X.N.Nodup) (ho : PIp X op r) (hg : OpS X.K cl r g) (he : PE X e (T X.K cl E m)) (hi : X.N[i]? = some x := by rfl) (hx : Loc X.env.scope x := by first | exact Or.inl rfl | exact Or.inr rfl)
    (hf : X.fn x = true ∨ X.env.scope.names.lookup x = some .local := by first | exact .inl rfl | exact .inr rfl) : PS X (.AugAssign (.Name x pos') op e pos) (Ts X.K cl E (sAug i g m)) :=
  ps_imp (ps_aug hN hi hx he ho hf) fun A σ H ⟨W, ρ, S, hr, he, p⟩ => by
    unfold sAug at p
    split at p
    · rename_i dx ex
      obtain ⟨v, h1, h2⟩ := he.at' i dx ex
      refine ⟨v, h1, stepS hr he p fun W1 H1 y dy S1 l1 r1 e1 ry p1 => ?_⟩
      refine hg W1 H1 S1 v y dx dy _ (fun c d H' => E c d σ H') r1 (h2.up l1) ry ?_
      cases q : g dx dy S1 with
      | ok z S2 =>
        rw [q] at p1
        exact fun W2 H2 w l2 r2 rw' => p1 W2 H2 _ l2 r2 ((e1.up l2).set i rw')
      | exc z S2 =>
        rw [q] at p1
        exact fun W2 H2 c dd l2 r2 x2 => p1 W2 H2 σ c dd l2 r2 (e1.up l2) x2
      | stk =>
        rw [q] at p1
        exact p1.elim
    · exact p.elim
theorem ip_addI {X : Cx} : PIp X .Add (rI0 fun i j => .int (i + j)) := fun pins s σ H x y v u Q I rx ry h => ip_add pins s σ H x y v u Q I rx ry h
theorem ip_subI {X : Cx} : PIp X .Sub (rI0 fun i j => .int (i - j)) := fun pins s σ H x y v u Q I rx ry h => ip_sub pins s σ H x y v u Q I rx ry h
def addI (a b : D) (S : Store) : Res D := match a, b with
  | .int i, .int j => .ok (.int (i + j)) S
  | _, _ => .stk
theorem addI_s {K : PySem.W.Frag} {cl : Str → Option Addr} : OpS K cl (rI0 fun i j => .int (i + j)) addI := by
  intro W H S x y a b Q E r rx ry p
  unfold addI at p
  split at p
  · cases rx; cases ry
    exact ⟨_, _, rfl, rfl, p.now r (.int _)⟩
  · exact p.elim
theorem s_put {o i : Expr} {tpos : Pos} (ho : PE X o (T X.K cl E m1)) (hi : PE X i (T X.K cl E m2)) (he : PE X e (T X.K cl E m3))
    (hs : swapsWithSole [.Subscript o i tpos] e pos.line X.env = pure false := by rfl) (hw : swappedStores [.Subscript o i tpos] e X.env = pure none := by rfl)
    (ha : ∀ v, assign (.Subscript o i tpos) X.env v = (do
      let a ← holding [v] (eval o X.env)
      let b ← holding [v, a] (eval i X.env)
      standAt tpos
      holding [v, a, b] (setItem a b v)
      release [v, a, b] []) := by intro _; rfl) : PS X (.Assign [.Subscript o i tpos] e pos) (Ts X.K cl E (sPut m1 m2 m3)) :=
  ps_imp (ps_asg he (pg_sub ho hi set_list ha) hs hw) fun A σ H ⟨W, ρ, S, hr, he, p⟩ => stepS hr he p fun W1 H1 v dv S1 l1 r1 e1 rv p1 =>
    stepS r1 e1 p1 fun W2 H2 x dx S2 l2 r2 e2 rx p2 => stepS r2 e2 p2 fun W3 H3 y dy S3 l3 r3 e3 ry p3 => by
      cases q : putD dx dy dv S3 with
      | none => simp only [q] at p3; exact p3.elim
      | some S4 =>
        simp only [q] at p3
        unfold putD at q
        split at q
        · rename_i n k
          cases ry
          cases (rx.up l3) with | ref hn =>
          split at q
          · rename_i xs e4
            split at q
            · rename_i j ej
              cases q
              obtain ⟨_, vs, h1, h2⟩ := r3.live n _ e4 (by intro z; cases z)
              have rv' := rv.up (l2.tr l3)
              refine ⟨_, _, _, j, rfl, rfl, h1, by rw [h2.len]; exact ej, ?_⟩
              exact p3 W3 _ σ (.rf W3) (r3.put e4 (by intro z; cases z) ⟨_, upd_same, Reps.set rv' j h2⟩) e3
            · cases q
          · cases q
        · cases q

/-! ### loops -/
section
variable (K : PySem.W.Frag) (cl : Str → Option Addr)
def ItS (W0 : Wd) (J : It) (it : Itb) : Prop := ∀ W H S, Ls W0 W → R K cl W H S → Grd it S →
  (∀ (i : Nat) (d : D), it.xs[i]? = some d → J.go i H ∧ ∀ x H', J.yld i H x H' → ∃ W', Le W W' ∧ R K cl W' H' S ∧ Rep K cl W' x d) ∧ J.stop it.xs.length H
abbrev TIt (E : WX) (m : M Itb) : TI := Tg K cl (ItS K cl) E m
end
theorem pi_imp {iter : Expr} {t t' : TI} (h : PI X tg iter t) (k : ∀ σ H Q, t' σ H Q → t σ H Q) : PI X tg iter t' := ⟨fun pins s σ H Q I q => h.run pins s σ H Q I (k σ H Q q)⟩
theorem pi_either {iter : Expr} {t t' : TI} (h : PI X tg iter t) (h' : PI X tg iter t') : PI X tg iter (fun σ H Q => t σ H Q ∨ t' σ H Q) := ⟨fun pins s σ H Q I q => q.elim (h.run pins s σ H Q I) (h'.run pins s σ H Q I)⟩
theorem s_for {iter : Expr} {body : List Stmt} {mi : M Itb} {a : List Nat} {p : Pt} (hp : PassesOwn (model X.prog X.w) X.A X.env X.xe) (hc : X.calm = true) (hi : PI X tg iter (TIt X.K cl E mi)) (hg : PG X tg (Tp X.K cl a p)) (hb : PSs X body (Ts X.K cl E s1))
    (hs : ∀ x, foldedSetIterable iter X.env x = pure x := by intro _; rfl) : PS X (.For tg iter body [] pos) (Ts X.K cl E (sFor mi p s1)) :=
  ps_imp (ps_for hp hc hi hg hb hs) fun A σ H ⟨W, ρ, S, hr, he, q⟩ => stepS hr he q fun W1 H1 J it S1 l1 r1 e1 hJ p1 => by
    refine ⟨fun i m σ' H' => m = it.xs.length - i ∧ i ≤ it.xs.length ∧ ∃ W' ρ' S', Le W1 W' ∧ R X.K cl W' H' S' ∧ Envs X.K cl W' σ' ρ' ∧ PostS X.K cl W' (forL it p s1 (it.xs.drop i) ρ' S') A E,
      ⟨_, rfl, Nat.zero_le _, W1, ρ, S1, .rf W1, r1, e1, p1⟩, ?_⟩
    rintro i m σ2 H2 ⟨rfl, hi, W2, ρ2, S2, l2, r2, e2, p2⟩
    by_cases hlt : i < it.xs.length
    · have ed : it.xs.drop i = it.xs[i] :: it.xs.drop (i + 1) := List.drop_eq_getElem_cons hlt
      have ei : it.xs[i]? = some it.xs[i] := List.getElem?_eq_getElem hlt
      generalize hd : it.xs[i] = d at ed ei
      rw [ed] at p2
      unfold forL at p2
      by_cases hG : Grd it S2
      · rw [if_pos hG] at p2
        obtain ⟨g1, _⟩ := hJ W2 H2 S2 l2.s r2 hG
        obtain ⟨go, yld⟩ := g1 i d ei
        refine .inr ⟨go, fun σ' H' => ∃ W' ρ' S', Le W1 W' ∧ R X.K cl W' H' S' ∧ Envs X.K cl W' σ' ρ' ∧ PostS X.K cl W' (forL it p s1 (it.xs.drop (i + 1)) ρ' S') A E, fun σ' H' n => ⟨it.xs.length - (i + 1), by omega, rfl, hlt, n⟩, fun x H3 y => ?_⟩
        obtain ⟨W3, l3, r3, rx⟩ := yld x H3 y
        cases e4 : p d ρ2 with
        | none => simp only [e4] at p2; exact p2.elim
        | some ρ3 =>
          simp only [e4] at p2
          refine ⟨W3, ρ2, S2, d, ρ3, r3, e2.up l3, rx, e4, fun σ3 e3 _ => ⟨W3, ρ3, S2, r3, e3, ?_⟩⟩
          cases q5 : s1 ρ3 S2 with
          | nx ρ5 S5 =>
            simp only [q5] at p2
            exact fun W5 H5 σ5 l5 r5 e5 => ⟨W5, ρ5, S5, (l2.tr l3).tr l5, r5, e5, p2.up (l3.tr l5)⟩
          | ct ρ5 S5 =>
            simp only [q5] at p2
            exact fun W5 H5 σ5 l5 r5 e5 => ⟨W5, ρ5, S5, (l2.tr l3).tr l5, r5, e5, p2.up (l3.tr l5)⟩
          | bk ρ5 S5 =>
            simp only [q5] at p2
            exact fun W5 H5 σ5 l5 r5 e5 => p2 W5 H5 σ5 (l3.tr l5) r5 e5
          | rt v S5 =>
            simp only [q5] at p2
            exact fun W5 H5 v5 l5 r5 e5 => p2 W5 H5 v5 (l3.tr l5) r5 e5
          | exc v ρ5 S5 =>
            simp only [q5] at p2
            exact fun W5 H5 v5 c dd l5 r5 e5 => p2 W5 H5 v5 c dd (l3.tr l5) r5 e5
          | stk =>
            simp only [q5] at p2
            exact p2.elim
      · rw [if_neg hG] at p2
        exact p2.elim
    · have ei : i = it.xs.length := by omega
      subst ei
      rw [List.drop_length] at p2
      unfold forL at p2
      by_cases hG : Grd it S2
      · rw [if_pos hG] at p2
        exact .inl ⟨(hJ W2 H2 S2 l2.s r2 hG).2, p2 W2 H2 σ2 (.rf W2) r2 e2⟩
      · rw [if_neg hG] at p2
        exact p2.elim
theorem s_while (n : Nat) {c : Expr} {body : List Stmt} (hp : PassesOwn (model X.prog X.w) X.A X.env X.xe) (hc : PT X c (TB X.K cl E mb)) (hb : PSs X body (Ts X.K cl E s1)) : PS X (.While c body [] pos) (Ts X.K cl E (whileF mb s1 n)) :=
  ps_imp (ps_while hp hc hb) fun A σ H ⟨W, ρ, S, hr, he, q⟩ => by
    refine ⟨fun m σ' H' => ∃ W' ρ' S', R X.K cl W' H' S' ∧ Envs X.K cl W' σ' ρ' ∧ PostS X.K cl W' (whileF mb s1 m ρ' S') A E, ⟨n, W, ρ, S, hr, he, q⟩, ?_⟩
    rintro m σ2 H2 ⟨W2, ρ2, S2, r2, e2, p2⟩
    cases m with
    | zero => exact p2.elim
    | succ m =>
      refine stepS r2 e2 p2 fun W3 H3 v d S3 l3 r3 e3 rv p3 => ?_
      obtain rfl : v = d := rv
      cases v with
      | false => exact p3 W3 H3 σ2 (.rf W3) r3 e3
      | true =>
        refine ⟨fun σ' H' => ∃ W' ρ' S', R X.K cl W' H' S' ∧ Envs X.K cl W' σ' ρ' ∧ PostS X.K cl W' (whileF mb s1 m ρ' S') A E, fun σ' H' n => ⟨m, Nat.lt_succ_self _, n⟩, W3, ρ2, S3, r3, e3, ?_⟩
        simp only [if_true] at p3
        cases q5 : s1 ρ2 S3 with
        | nx ρ5 S5 =>
          simp only [q5] at p3
          exact fun W5 H5 σ5 l5 r5 e5 => ⟨W5, ρ5, S5, r5, e5, p3.up l5⟩
        | ct ρ5 S5 =>
          simp only [q5] at p3
          exact fun W5 H5 σ5 l5 r5 e5 => ⟨W5, ρ5, S5, r5, e5, p3.up l5⟩
        | bk ρ5 S5 =>
          simp only [q5] at p3
          exact p3
        | rt v S5 =>
          simp only [q5] at p3
          exact p3
        | exc v ρ5 S5 =>
          simp only [q5] at p3
          exact p3
        | stk =>
          simp only [q5] at p3
          exact p3.elim
end
end G
namespace G
open PySem L2
section
variable {K : PySem.W.Frag} {cl : Str → Option Addr} {W W' : Wd} {H : Hp} {S : Store} {σ : St} {ρ : Sl}
/-- an object that nobody knows becomes a live one -/
theorem R.lvAt {p : Addr} {o : HO} {mo : MO} (r : R K cl W H S) (hp : H p = some o) (hg : W.G p = none) (nl : ∀ (i : Nat) (m : MO), S[i]? = some m → m ≠ .dead → W.ι i ≠ p) (np : W.P p = none) (hm : MRep K cl W H p mo) : R K cl (W.lv p) H (S ++ [mo]) := by
  have old : ∀ (i : Nat) (m : MO), (S ++ [mo])[i]? = some m → (i < S.length ∧ S[i]? = some m) ∨ (i = S.length ∧ m = mo) := fun i m h => by
    by_cases hi : i < S.length
    · rw [List.getElem?_append_left hi] at h
      exact .inl ⟨hi, h⟩
    · rw [List.getElem?_append_right (by omega)] at h
      have hk : i - S.length = 0 := by
        cases q : i - S.length with
        | zero => rfl
        | succ k => rw [q] at h; simp at h
      rw [hk] at h
      simp at h
      exact .inr ⟨by omega, h.symm⟩
  have ιo : ∀ i, i < S.length → (W.lv p).ι i = W.ι i := fun i h => (Le.lv W p).i i (by rw [r.n]; exact h)
  have ιn : (W.lv p).ι S.length = p := by rw [← r.n]; exact W.lv_at p
  refine ⟨?_, r.sub, fun i m h nd => ?_, fun i j m m' h h' nd nd' e => ?_, fun a u q => ?_⟩
  · show W.n + 1 = _
    rw [List.length_append, r.n]
    rfl
  · rcases old i m h with ⟨hi, h⟩ | ⟨rfl, rfl⟩
    · obtain ⟨h1, h2⟩ := r.live i m h nd
      rw [ιo i hi]
      exact ⟨h1, h2.up (Le.lv W p)⟩
    · rw [ιn]
      exact ⟨hg, hm.up (Le.lv W p)⟩
  · rcases old i m h with ⟨hi, h0⟩ | ⟨rfl, rfl⟩
    · rcases old j m' h' with ⟨hj, h1⟩ | ⟨rfl, rfl⟩
      · rw [ιo i hi, ιo j hj] at e
        exact r.inj i j m m' h0 h1 nd nd' e
      · rw [ιo i hi, ιn] at e
        exact absurd e (nl i m h0 nd)
    · rcases old j m' h' with ⟨hj, h1⟩ | ⟨rfl, rfl⟩
      · rw [ιo j hj, ιn] at e
        exact absurd e.symm (nl j m' h1 nd')
      · rfl
  · obtain ⟨g1, g2, g3⟩ := r.priv a u q
    refine ⟨g1, g2, fun i m h nd => ?_⟩
    rcases old i m h with ⟨hi, h⟩ | ⟨rfl, rfl⟩
    · rw [ιo i hi]
      exact g3 i m h nd
    · rw [ιn]
      exact (ne_of_none q np).symm
theorem rep_lv {p : Addr} (r : R K cl W H S) : Rep K cl (W.lv p) (.ref p) (.ref S.length) := by
  have e : (W.lv p).ι S.length = p := by rw [← r.n]; exact W.lv_at p
  have z := Rep.ref (K := K) (cl := cl) (W := W.lv p) (n := S.length) (by show _ < W.n + 1; rw [r.n]; exact Nat.lt_succ_self _)
  rw [e] at z
  exact z
/-- how a list that was just filled goes on -/
def MkS (K : PySem.W.Frag) (cl : Str → Option Addr) (mk : List D → Store → Res D) : Prop := ∀ (W : Wd) (H : Hp) (S : Store) (a : Addr) (vs : List V) (ds : List D) (Q : VK) (E : XK),
  R K cl W H S → H a = some (.lst vs) → W.G a = none → (∀ (i : Nat) (m : MO), S[i]? = some m → m ≠ .dead → W.ι i ≠ a) → W.P a = none → Reps K cl W vs ds → Post K cl (Rep K cl) W (mk ds S) Q E → Q (.ref a) H
theorem frz_s : MkS K cl frzD := fun W H S a vs ds Q E r ha hg nl np t p => p (W.fz a (.lst vs)) H _ (Le.fz hg) (r.fzAt ha hg nl np) (.lst upd_same (t.up (Le.fz hg)))
theorem lv_s : MkS K cl lvD := fun W H S a vs ds Q E r ha hg nl np t p => p (W.lv a) H _ (Le.lv W a) (r.lvAt ha hg nl np ⟨vs, ha, t⟩) (rep_lv r)
theorem Envs.wipe (e : Envs K cl W σ ρ) : ∀ vs : List Nat, Envs K cl W (L2.wipe σ vs) (wipeD ρ vs)
  | [] => e
  | v :: vs => (Envs.wipe e vs).unset v none
theorem wipe_ext {σ σ' : St} : ∀ {vs : List Nat}, σ.length = σ'.length → (∀ i : Nat, i ∉ vs → σ'[i]? = σ[i]?) → L2.wipe σ' vs = L2.wipe σ vs := fun {vs} hl h => by
  have at' : ∀ (vs : List Nat) (σ : St) (i : Nat), (L2.wipe σ vs)[i]? = if i ∈ vs then (if i < σ.length then some none else none) else σ[i]? := by
    intro vs
    induction vs with
    | nil => intro σ i; simp [L2.wipe]
    | cons v vs ih =>
      intro σ i
      unfold L2.wipe
      by_cases hv : v = i
      · subst hv
        rw [if_pos (by simp)]
        by_cases hi : v < σ.length
        · rw [List.getElem?_set_self (by rw [wipe_length]; exact hi), if_pos hi]
        · rw [List.getElem?_eq_none (by rw [List.length_set, wipe_length]; omega), if_neg hi]
      · rw [List.getElem?_set_ne hv, ih]
        have e : (i ∈ v :: vs) ↔ i ∈ vs := by simp [Ne.symm hv, fun z : i = v => hv z.symm]
        by_cases q : i ∈ vs
        · rw [if_pos q, if_pos (e.mpr q)]
        · rw [if_neg q, if_neg (fun z => q (e.mp z))]
  apply List.ext_getElem?
  intro i
  rw [at', at']
  by_cases q : i ∈ vs
  · rw [if_pos q, if_pos q, hl]
  · rw [if_neg q, if_neg q]
    exact h i q
def Wd.out (W : Wd) (P : Hp) : Wd := { W with P := P }
theorem Ls.out {P : Hp} : Ls W (W.out P) := ⟨fun _ _ h => h, fun _ _ => rfl, Nat.le_refl _⟩
end
abbrev F0 : WX := fun _ _ _ _ => False
section
variable {X : Cx} {cl : Str → Option Addr} {E : WX} {elt tg iter : Expr} {ifs : List Expr} {scope : Scope} {own : List (Str × Nat)} {pos : Pos} {mi : M Itb} {a : List Nat} {p : Pt} {mt : M Bool} {me : M D} {mk : List D → Store → Res D}
theorem tts_nil : PTs X [] (TB X.K cl E mYes) := ⟨fun pins s σ H Q I h => pts_nil.run pins s σ H Q I (by
  obtain ⟨W, ρ, S, hr, he, p⟩ := h
  exact p.now hr rfl)⟩
theorem tts_one {c : Expr} (h : PT X c (TB X.K cl E mt)) : PTs X [c] (TB X.K cl E mt) := pts_one h
/-- the reading of a comprehension -/
theorem lc_read {K : PySem.W.Frag} {σ : St} {H : Hp} {Q : VK} {vs : List Nat} (hk : MkS K cl mk) (ha : ∀ i ∈ a, i ∈ vs) (h : T K cl E (mComp mi p mt me vs mk) σ H Q) :
    tLc (TIt K cl E mi) (Tp K cl a p) (TB K cl F0 mt) (T K cl F0 me) vs σ H Q := by
  obtain ⟨W, ρ, S, hr, he, q⟩ := h
  refine step hr he q fun W1 H1 J it S1 l1 r1 e1 hJ p1 => ?_
  intro Dl hD
  have np : W1.P Dl = none := by
    cases e : W1.P Dl with
    | none => rfl
    | some u => rw [(r1.priv Dl u e).1] at hD; cases hD
  refine ⟨fun i m H' => m = it.xs.length - i ∧ i ≤ it.xs.length ∧ ∃ W' S' acc dacc, Le W1 W' ∧ R K cl (W'.hid Dl (.lst acc)) H' S' ∧ Reps K cl W' acc dacc ∧
      Post K cl (Rep K cl) W' ((compL it p mt me (wipeD ρ vs) (it.xs.drop i) dacc.length S').bind fun xs S2 => mk (dacc ++ xs) S2) Q (fun c d H' => E c d σ H'),
    ⟨_, rfl, Nat.zero_le _, W1, S1, [], [], .rf W1, r1.hide hD, .nil, p1⟩, ?_⟩
  rintro i m H2 ⟨rfl, hi, W2, S2, acc, dacc, l2, r2, t2, p2⟩
  by_cases hlt : i < it.xs.length
  · have ed : it.xs.drop i = it.xs[i] :: it.xs.drop (i + 1) := List.drop_eq_getElem_cons hlt
    have ei : it.xs[i]? = some it.xs[i] := List.getElem?_eq_getElem hlt
    generalize hd : it.xs[i] = d at ed ei
    rw [ed] at p2
    unfold compL at p2
    by_cases hG : Grd it S2
    · rw [if_pos hG] at p2
      obtain ⟨g1, _⟩ := hJ (W2.hid Dl (.lst acc)) H2 S2 (l2.s.tr Ls.hid) r2 hG
      obtain ⟨go, yld⟩ := g1 i d ei
      refine .inr ⟨go, fun H' => ∃ W' S' acc dacc, Le W1 W' ∧ R K cl (W'.hid Dl (.lst acc)) H' S' ∧ Reps K cl W' acc dacc ∧
          Post K cl (Rep K cl) W' ((compL it p mt me (wipeD ρ vs) (it.xs.drop (i + 1)) dacc.length S').bind fun xs S2 => mk (dacc ++ xs) S2) Q (fun c d H' => E c d σ H'), fun H' n => ⟨it.xs.length - (i + 1), by omega, rfl, hlt, n⟩, fun x H3 y => ?_⟩
      obtain ⟨W3, l3, r3, rx⟩ := yld x H3 y
      have back : ∀ W4 : Wd, Le (W2.hid Dl (.lst acc)) W4 → W4 = (W4.out W1.P).hid Dl (.lst acc) ∧ Le W2 (W4.out W1.P) := fun W4 l4 => by
        have eP : W4.P = upd W1.P Dl (.lst acc) := by rw [l4.p]; show upd W2.P Dl _ = _; rw [l2.p]
        refine ⟨?_, ⟨l4.g, l4.i, l4.n, l2.p.symm⟩⟩
        cases W4
        simp only [Wd.out, Wd.hid] at eP ⊢
        rw [eP]
      cases e4 : p d (wipeD ρ vs) with
      | none => simp only [e4] at p2; exact p2.elim
      | some ρ3 =>
        simp only [e4] at p2
        have ev : Envs K cl W3 (L2.wipe σ vs) (wipeD ρ vs) := ((e1.up l2).wipe vs).ups (Ls.hid.tr l3.s)
        refine ⟨W3, wipeD ρ vs, S2, d, ρ3, r3, ev, rx, e4, fun σ3 e3 off => ⟨?_, W3, ρ3, S2, r3, e3, ?_⟩⟩
        · have hw : L2.wipe σ3 vs = L2.wipe (L2.wipe σ vs) vs := wipe_ext off.1 fun j hj => off.2 j fun z => hj (ha j z)
          have hw2 : L2.wipe (L2.wipe σ vs) vs = L2.wipe σ vs := wipe_ext (wipe_length σ vs).symm fun j hj => by
            have : ∀ (vs : List Nat), j ∉ vs → (L2.wipe σ vs)[j]? = σ[j]? := by
              intro vs
              induction vs with
              | nil => intro _; rfl
              | cons v vs ih =>
                intro hj
                unfold L2.wipe
                rw [List.getElem?_set_ne (fun z => hj (by simp [z])), ih fun z => hj (by simp [z])]
            exact this vs hj
          exact hw.trans hw2
        · cases e5 : mt ρ3 S2 with
          | stk => rw [e5] at p2; exact p2.elim
          | exc z S5 => rw [e5] at p2; exact p2.elim
          | ok k S5 =>
            rw [e5] at p2
            intro W5 H5 b l5 r5 eb
            obtain rfl : b = k := eb
            cases b with
            | false =>
              obtain ⟨eq5, le5⟩ := back W5 (l3.tr l5)
              rw [eq5] at r5
              exact ⟨W5.out W1.P, S5, acc, dacc, l2.tr le5, r5, t2.up le5, Post.up le5 p2⟩
            | true =>
              refine ⟨W5, ρ3, S5, r5, e3.up l5, ?_⟩
              cases e6 : me ρ3 S5 with
              | stk => simp only [nox_ok, bind_ok, if_true, e6] at p2; exact p2.elim
              | exc z S6 => simp only [nox_ok, bind_ok, if_true, e6] at p2; exact p2.elim
              | ok dy S6 =>
                simp only [nox_ok, bind_ok, if_true, e6] at p2
                intro W6 H6 y6 l6 r6 ry
                obtain ⟨eq6, le6⟩ := back W6 ((l3.tr l5).tr l6)
                have r7 := r6
                rw [eq6] at r7
                by_cases hz : dacc.length < sizeLine
                · rw [if_pos hz] at p2
                  refine ⟨acc, (r7.priv Dl _ upd_same).1, by rw [t2.len]; exact hz, W6.out W1.P, S6, acc ++ [y6], dacc ++ [dy], l2.tr le6, r7.turn, (t2.up le6).app (.cons ?_ .nil), ?_⟩
                  · exact ry.ups Ls.out
                  · rw [List.length_append]
                    have p3 := Post.up le6 p2
                    revert p3
                    show _ → Post K cl (Rep K cl) _ ((compL it p mt me (wipeD ρ vs) (it.xs.drop (i + 1)) (dacc.length + 1) S6).bind fun xs S2 => mk (dacc ++ [dy] ++ xs) S2) _ _
                    cases compL it p mt me (wipeD ρ vs) (it.xs.drop (i + 1)) (dacc.length + 1) S6 with
                    | stk => exact fun z => z
                    | exc z S7 => exact fun z => z
                    | ok xs S7 =>
                      intro z
                      simp only [bind_ok] at z ⊢
                      rw [List.append_assoc]
                      exact z
                · rw [if_neg hz] at p2
                  exact p2.elim
    · rw [if_neg hG] at p2
      exact p2.elim
  · have ei : i = it.xs.length := by omega
    subst ei
    rw [List.drop_length] at p2
    unfold compL at p2
    by_cases hG : Grd it S2
    · rw [if_pos hG] at p2
      obtain ⟨g1, g2⟩ := hJ (W2.hid Dl (.lst acc)) H2 S2 (l2.s.tr Ls.hid) r2 hG
      have np2 : W2.P Dl = none := by rw [l2.p]; exact np
      obtain ⟨r3, h3, h4, h5⟩ := r2.unhide np2
      have p3 : Post K cl (Rep K cl) W2 (mk (dacc ++ []) S2) Q (fun c d H' => E c d σ H') := p2
      rw [List.append_nil] at p3
      exact .inl ⟨g2, hk W2 H2 S2 Dl acc dacc Q _ r3 h3 h4 h5 np2 t2 p3⟩
    · rw [if_neg hG] at p2
      exact p2.elim
theorem t_lc (own : List (Str × Nat)) (hk : MkS X.K cl mk) (hc : X.calm = true) (hN : X.N.Nodup) (hi : PI X tg iter (TIt X.K cl E mi)) (ok : BlkOk X.N X.env.scope scope own)
    (hg : ∀ (s : Shared) (H : Hp) (C : Addr) (ce : List (Str × Addr)) (fp : List Addr), PG (X.blk s H scope (compEnvC scope ce C X.env) fp) tg (Tp X.K cl a p))
    (ht : ∀ (s : Shared) (H : Hp) (C : Addr) (ce : List (Str × Addr)) (fp : List Addr), PTs (X.blk s H scope (compEnvC scope ce C X.env) fp) ifs (TB X.K cl F0 mt))
    (he : ∀ (s : Shared) (H : Hp) (C : Addr) (ce : List (Str × Addr)) (fp : List Addr), PE (X.blk s H scope (compEnvC scope ce C X.env) fp) elt (T X.K cl F0 me))
    (ha : ∀ i ∈ a, i ∈ own.map (·.2) := by decide) (hs : ∀ x, foldedSetIterable iter X.env x = pure x := by intro _; rfl) :
    PE X (.ListComp elt [⟨tg, iter, ifs, 0⟩] scope pos) (T X.K cl E (mComp mi p mt me (own.map (·.2)) mk)) :=
  pe_imp (pe_lc hc hN hi ok hg ht he hs) fun σ H Q h => lc_read hk ha h
/-- name = [..] on one line -/
theorem s_setLc (i : Nat) {y : Str} {py spos : Pos} (own : List (Str × Nat)) (hk : MkS X.K cl mk) (hc : X.calm = true) (hN : X.N.Nodup) (hi : PI X tg iter (TIt X.K cl E mi)) (ok : BlkOk X.N X.env.scope scope own)
    (hg : ∀ (s : Shared) (H : Hp) (C : Addr) (ce : List (Str × Addr)) (fp : List Addr), PG (X.blk s H scope (compEnvC scope ce C X.env) fp) tg (Tp X.K cl a p))
    (ht : ∀ (s : Shared) (H : Hp) (C : Addr) (ce : List (Str × Addr)) (fp : List Addr), PTs (X.blk s H scope (compEnvC scope ce C X.env) fp) ifs (TB X.K cl F0 mt))
    (he : ∀ (s : Shared) (H : Hp) (C : Addr) (ce : List (Str × Addr)) (fp : List Addr), PE (X.blk s H scope (compEnvC scope ce C X.env) fp) elt (T X.K cl F0 me))
    (hsw : swapsWith (.ListComp elt [⟨tg, iter, ifs, 0⟩] scope pos) (some (.Name y py)) spos.line X.env = pure true)
    (hy : X.N[i]? = some y := by rfl) (hyl : X.env.scope.names.lookup y = some .local := by rfl)
    (ha : ∀ i ∈ a, i ∈ own.map (·.2) := by decide) (hs : ∀ x, foldedSetIterable iter X.env x = pure x := by intro _; rfl) :
    PS X (.Assign [.Name y py] (.ListComp elt [⟨tg, iter, ifs, 0⟩] scope pos) spos) (Ts X.K cl E (sSet i (mComp mi p mt me (own.map (·.2)) mk))) :=
  ps_imp (ps_setLc hc hN hy hyl hsw hi ok hg ht he hs) fun A σ H ⟨W, ρ, S, hr, en, q⟩ => by
    refine lc_read hk ha ?_
    exact stepS hr en q fun W1 H1 v d S1 l1 r1 e1 rv p1 => p1 W1 H1 _ (.rf W1) r1 (e1.set i rv)

/-! ### what is walked -/
def itD (d : D) (S : Store) : Res Itb := match d with
  | .tup ds => .ok ⟨ds, none⟩ S
  | .lst ds => .ok ⟨ds, none⟩ S
  | .str z => .ok ⟨z.cps.toList.map fun c => .str ⟨#[c]⟩, none⟩ S
  | .ref n => (match S[n]? with
    | some (.lst ds) => .ok ⟨ds, some n⟩ S
    | _ => .stk)
  | _ => .stk
def mIt (m : M D) : M Itb := fun ρ S => (m ρ S).bind fun d S1 => itD d S1
theorem its_list {K : PySem.W.Frag} {W0 : Wd} {b : Addr} {it : Itb} (h : ∀ W H S, Ls W0 W → R K cl W H S → Grd it S → ∃ vs, SqL K H b vs ∧ (∀ ws, SqL K H b ws → ws = vs) ∧ Reps K cl W vs it.xs) : ItS K cl W0 (Itl K b) it := fun W H S l r g => by
  obtain ⟨vs, h1, h3, h2⟩ := h W H S l r g
  refine ⟨fun i d e => ?_, ⟨vs, h1, by rw [h2.len]; exact Nat.le_refl _⟩⟩
  obtain ⟨v, q1, q2⟩ := h2.at e
  refine ⟨⟨vs, v, h1, q1⟩, fun x H' ⟨eH, hx⟩ => ⟨W, .rf W, eH ▸ r, ?_⟩⟩
  have := hx vs h1
  rw [q1] at this
  cases this
  exact q2
theorem its_tup {K : PySem.W.Frag} {W0 : Wd} {b : Addr} {it : Itb} (h : ∀ W H S, Ls W0 W → R K cl W H S → Grd it S → ∃ vs, SqT K H b vs ∧ Reps K cl W vs it.xs) : ItS K cl W0 (Itt K b) it := fun W H S l r g => by
  obtain ⟨vs, h1, h2⟩ := h W H S l r g
  refine ⟨fun i d e => ?_, ⟨vs, h1, by rw [h2.len]; exact Nat.le_refl _⟩⟩
  obtain ⟨v, q1, q2⟩ := h2.at e
  refine ⟨⟨vs, v, h1, q1⟩, fun x H' ⟨eH, hx⟩ => ⟨W, .rf W, eH ▸ r, ?_⟩⟩
  have := hx vs h1
  rw [q1] at this
  cases this
  exact q2
theorem i_seq {m : M D} {e : Expr} (h : PE X e (T X.K cl E m)) : PI X tg e (TIt X.K cl E (mIt m)) :=
  pi_imp (pi_either (pi_tup h) (pi_either (pi_list h) (pi_str h))) fun σ H Q ⟨W, ρ, S, hr, he, q⟩ => by
    cases e0 : m ρ S with
    | stk => unfold mIt at q; rw [e0] at q; exact q.elim
    | exc x S1 =>
      unfold mIt at q
      rw [e0] at q
      refine .inl ⟨W, ρ, S, hr, he, ?_⟩
      rw [e0]
      exact q
    | ok d S1 =>
      unfold mIt at q
      rw [e0] at q
      replace q : Post X.K cl (ItS X.K cl) W (itD d S1) Q (fun c d H' => E c d σ H') := q
      unfold itD at q
      split at q
      · refine .inl ⟨W, ρ, S, hr, he, ?_⟩
        rw [e0]
        intro W1 H1 v l1 r1 rv
        cases rv with | tup h1 t =>
        refine ⟨_, rfl, ⟨_, sqT_up r1.sub h1⟩, q W1 H1 _ l1 r1 (its_tup fun W2 H2 S2 l2 r2 _ => ⟨_, sqT_up r2.sub (sqT_up l2.g h1), t.ups l2⟩)⟩
      · refine .inr (.inl ⟨W, ρ, S, hr, he, ?_⟩)
        rw [e0]
        intro W1 H1 v l1 r1 rv
        cases rv with | lst h1 t =>
        refine ⟨_, rfl, ⟨_, SqL.of (r1.sub _ _ h1)⟩, q W1 H1 _ l1 r1 ?_⟩
        intro W2 H2 S2 l2 r2 _
        have h2 := r2.sub _ _ (l2.g _ _ h1)
        refine ⟨fun i d e => ?_, ⟨_, SqL.of h2, by rw [t.len]; exact Nat.le_refl _⟩⟩
        obtain ⟨v, q1, q2⟩ := (t.ups l2).at e
        refine ⟨⟨_, v, SqL.of h2, q1⟩, fun x H' ⟨eH, hx⟩ => ⟨W2, .rf W2, eH ▸ r2, ?_⟩⟩
        have := hx _ (SqL.of h2)
        rw [q1] at this
        cases this
        exact q2
      · rename_i z
        refine .inr (.inr ⟨W, ρ, S, hr, he, ?_⟩)
        rw [e0]
        intro W1 H1 v l1 r1 rv
        cases rv
        refine ⟨_, rfl, q W1 H1 _ l1 r1 ?_⟩
        intro W2 H2 S2 l2 r2 _
        refine ⟨fun i d e => ?_, by show _ ≤ _; simp⟩
        rw [List.getElem?_map] at e
        cases ec : z.cps.toList[i]? with
        | none => rw [ec] at e; cases e
        | some c =>
          rw [ec] at e
          cases e
          refine ⟨?_, fun x H' ⟨eH, c', ec', ex⟩ => ⟨W2, .rf W2, eH ▸ r2, ?_⟩⟩
          · have := (List.getElem?_eq_some_iff.mp ec).1
            show i < z.cps.size
            simpa using this
          · rw [Array.getElem?_toList] at ec
            rw [ec] at ec'
            cases ec'
            rw [ex]
            exact .str _
      · rename_i n
        split at q
        · rename_i ds e1
          refine .inr (.inl ⟨W, ρ, S, hr, he, ?_⟩)
          rw [e0]
          intro W1 H1 v l1 r1 rv
          cases rv with | ref hn =>
          obtain ⟨g0, vs, h1, t⟩ := r1.live n _ e1 (by intro z; cases z)
          refine ⟨_, rfl, ⟨_, SqL.of h1⟩, q W1 H1 _ l1 r1 ?_⟩
          intro W2 H2 S2 l2 r2 hg
          have hg : S2[n]? = some (.lst ds) := hg
          obtain ⟨_, ws, h2, t2⟩ := r2.live n _ hg (by intro z; cases z)
          have ea : W2.ι n = W1.ι n := l2.i n hn
          rw [ea] at h2
          refine ⟨fun i d e => ?_, ⟨_, SqL.of h2, by rw [t2.len]; exact Nat.le_refl _⟩⟩
          obtain ⟨v, q1, q2⟩ := t2.at e
          refine ⟨⟨_, v, SqL.of h2, q1⟩, fun x H' ⟨eH, hx⟩ => ⟨W2, .rf W2, eH ▸ r2, ?_⟩⟩
          have := hx _ (SqL.of h2)
          rw [q1] at this
          cases this
          exact q2
        · exact q.elim
      · exact q.elim
def rng1 (as : List D) (S : Store) : Res Itb := match as with
  | [.int n] => if smR n = true then .ok ⟨(List.range n.toNat).map fun i => .int (i : Nat), none⟩ S else .stk
  | _ => .stk
def rng2 (as : List D) (S : Store) : Res Itb := match as with
  | [.int a, .int n] => if smR a = true ∧ smR n = true then .ok ⟨(List.range (n - a).toNat).map fun i => .int (a + (i : Nat)), none⟩ S else .stk
  | _ => .stk
def mRng (f : List D → Store → Res Itb) (m : M (List D)) : M Itb := fun ρ S => (m ρ S).bind fun d S1 => f d S1
theorem its_rng {K : PySem.W.Frag} {W0 : Wd} {lo : Int} {n : Nat} {xs : List D} (hx : xs = (List.range n).map fun i => D.int (lo + (i : Nat))) : ItS K cl W0 (Itr lo n) ⟨xs, none⟩ := fun W H S l r g => by
  subst hx
  refine ⟨fun i d e => ?_, by show n ≤ _; simp⟩
  have e : ((List.range n).map fun i => D.int (lo + (i : Nat)))[i]? = some d := e
  rw [List.getElem?_map] at e
  cases q : (List.range n)[i]? with
  | none => rw [q] at e; cases e
  | some j =>
    rw [q] at e
    cases e
    have hi : i < n := by have := (List.getElem?_eq_some_iff.mp q).1; simpa using this
    have hj : j = i := by rw [List.getElem?_range hi] at q; exact (Option.some.inj q).symm
    subst hj
    refine ⟨hi, fun x H' ⟨eH, ex⟩ => ⟨W, .rf W, eH ▸ r, ?_⟩⟩
    rw [ex]
    exact .int _
theorem i_range1 {e : Expr} {ms : M (List D)} {p pos : Pos} (hm : X.mg "range" = none) (ha : PA X [e] (TL X.K cl E ms)) (hg : Gl X "range" := by rfl) (hs : starEach [e] X.env = [(false, eval e X.env)] := by rfl) :
    PI X tg (.Call (.Name "range" p) [e] [] pos) (TIt X.K cl E (mRng rng1 ms)) :=
  pi_imp (pi_range1 hg hm ha hs) fun σ H Q ⟨W, ρ, S, hr, he, q⟩ => step hr he q fun W1 H1 x dx S1 l1 r1 e1 rx p1 => by
    unfold rng1 at p1
    split at p1
    · rename_i n
      cases rx with | cons ra rn =>
      cases rn; cases ra
      split at p1
      · rename_i hz
        refine ⟨n, rfl, (smR_of hz).1, (smR_of hz).2, p1.now r1 (its_rng ?_)⟩
        simp
      · exact p1.elim
    · exact p1.elim
theorem i_range2 {e e2 : Expr} {ms : M (List D)} {p pos : Pos} (hm : X.mg "range" = none) (ha : PA X [e, e2] (TL X.K cl E ms)) (hg : Gl X "range" := by rfl) (hs : starEach [e, e2] X.env = [(false, eval e X.env), (false, eval e2 X.env)] := by rfl)
    (hs2 : starEach [e2] X.env = [(false, eval e2 X.env)] := by rfl) : PI X tg (.Call (.Name "range" p) [e, e2] [] pos) (TIt X.K cl E (mRng rng2 ms)) :=
  pi_imp (pi_range2 hg hm ha hs hs2) fun σ H Q ⟨W, ρ, S, hr, he, q⟩ => step hr he q fun W1 H1 x dx S1 l1 r1 e1 rx p1 => by
    unfold rng2 at p1
    split at p1
    · rename_i b n
      cases rx with | cons ra rn =>
      cases rn with | cons rb rn =>
      cases rn; cases ra; cases rb
      split at p1
      · rename_i hz
        exact ⟨b, n, rfl, ⟨(smR_of hz.1).1, (smR_of hz.1).2, (smR_of hz.2).1, (smR_of hz.2).2⟩, p1.now r1 (its_rng rfl)⟩
      · exact p1.elim
    · exact p1.elim
end

/-! ### calls of defs -/
def ar (n : Nat) (g : List D → Store → Res D) (ds : List D) (S : Store) : Res D := if ds.length = n then g ds S else .stk
def spOf (K : PySem.W.Frag) (cl : Str → Option Addr) (n : Nat) (g : List D → Store → Res D) : Sp := fun vs H Q E => ∃ W S ds, R K cl W H S ∧ Reps K cl W vs ds ∧ Post K cl (Rep K cl) W (ar n g ds S) Q E
def startD (n : Nat) (ds : List D) : Sl := ds.map some ++ List.replicate (n - ds.length) none
def runB (n : Nat) (m : MS) (ds : List D) (S : Store) : Res D := match m (startD n ds) S with
  | .nx _ S => .ok .non S
  | .rt d S => .ok d S
  | .exc x _ S => .exc x S
  | .bk _ _ => .stk
  | .ct _ _ => .stk
  | .stk => .stk
theorem spOf_len {K : PySem.W.Frag} {cl : Str → Option Addr} {n : Nat} {g : List D → Store → Res D} {vs : List V} {H : Hp} {Q : VK} {E : XK} (h : spOf K cl n g vs H Q E) : vs.length = n := by
  obtain ⟨W, S, ds, r, t, p⟩ := h
  unfold ar at p
  by_cases hn : ds.length = n
  · rw [t.len]
    exact hn
  · rw [if_neg hn] at p
    exact p.elim
theorem spOf_imp {K : PySem.W.Frag} {cl : Str → Option Addr} {n : Nat} {g g' : List D → Store → Res D} (hg : ∀ ds S, ds.length = n → g' ds S = .stk ∨ g' ds S = g ds S) {vs : List V} {H : Hp} {Q : VK} {E : XK} (h : spOf K cl n g' vs H Q E) : spOf K cl n g vs H Q E := by
  obtain ⟨W, S, ds, r, t, p⟩ := h
  refine ⟨W, S, ds, r, t, ?_⟩
  unfold ar at p ⊢
  by_cases hn : ds.length = n
  · rw [if_pos hn] at p ⊢
    rcases hg ds S hn with e | e
    · rw [e] at p
      exact p.elim
    · rw [e] at p
      exact p
  · rw [if_neg hn] at p
    exact p.elim
theorem envs_start {K : PySem.W.Frag} {cl : Str → Option Addr} {W : Wd} {N : List Str} {vs : List V} {ds : List D} (t : Reps K cl W vs ds) : Envs K cl W (L2.start N vs) (startD N.length ds) := by
  unfold L2.start startD
  refine ⟨by simp [t.len], fun i d h => ?_⟩
  by_cases hi : i < ds.length
  · rw [List.getElem?_append_left (by simpa using hi), List.getElem?_map] at h
    cases e : ds[i]? with
    | none => rw [e] at h; cases h
    | some x =>
      rw [e] at h
      cases h
      obtain ⟨v, h1, h2⟩ := t.at e
      refine ⟨v, ?_, h2⟩
      rw [List.getElem?_append_left (by rw [List.length_map, t.len]; exact hi), List.getElem?_map, h1]
      rfl
  · rw [List.getElem?_append_right (by simpa using hi), List.getElem?_replicate] at h
    split at h <;> cases h
section
variable {P : Program} {w : World} {K : PySem.W.Frag} {mg : Str → Option Value} {base : Heap} {cl : Str → Option Addr}
/-- a def, by the semantics of its body -/
theorem fn_sem {x qual : Str} {st : Stmt} {f : Addr} {fd : FuncData} {N ps : List Str} {k n : Nat} {m : MS} (F : Fun K x qual st f fd) (Sc : FnScope N ps (defScope st)) (hn : ps.length = n)
    (body : ∀ (cdv : Value) (A : Around) (outer : List Env) (s : Shared) (H : Hp) (E : XK), Room k (A.deeper (PyProof.Rows.envOfC qual (defScope st) s.heap.objs.size f cdv)) →
      PSs (cxOf (L2.CX P w) P w K mg base N qual (defScope st) f cdv A outer s H E) (defBody st) (Ts K cl (fun c d _ H => E c d H) m)) : FnOk P w K mg base (L2.CX P w) (k + 1) f fd ps (spOf K cl n (runB N.length m)) := by
  refine F.okX Sc (fun vs H Q E h => by rw [spOf_len h, hn]) fun cdv A outer s H vs Q E hr h => ⟨_, body cdv A outer s H E hr, ?_⟩
  obtain ⟨W, S, ds, r, t, p⟩ := h
  refine ⟨W, startD N.length ds, S, r, envs_start t, ?_⟩
  unfold ar at p
  by_cases hn : ds.length = n
  · rw [if_pos hn] at p
    unfold runB at p
    cases e : m (startD N.length ds) S with
    | nx ρ S1 =>
      simp only [e] at p
      exact fun W1 H1 σ l1 r1 e1 => p W1 H1 _ l1 r1 .non
    | rt d S1 => simp only [e] at p; exact p
    | bk ρ S1 => simp only [e] at p; exact p.elim
    | ct ρ S1 => simp only [e] at p; exact p.elim
    | exc x ρ S1 =>
      simp only [e] at p
      exact fun W1 H1 σ c dd l1 r1 e1 x1 => p W1 H1 c dd l1 r1 x1
    | stk => simp only [e] at p; exact p.elim
  · rw [if_neg hn] at p
    exact p.elim
theorem fn_stk {f : Addr} {fd : FuncData} {ps : List Str} {n : Nat} : FnOk P w K mg base (L2.CX P w) 0 f fd ps (spOf K cl n fun _ _ => .stk) := by
  have no : ∀ {vs : List V} {H : Hp} {Q : VK} {E : XK}, spOf K cl n (fun _ _ => .stk) vs H Q E → False := fun h => by
    obtain ⟨W, S, ds, r, t, p⟩ := h
    unfold ar at p
    split at p <;> exact p
  exact ⟨fun vs H Q E h => (no h).elim, fun A outer s H args us vs Q E hr e0 hb r hs => (no hs).elim⟩
end
section
variable {X : Cx} {cl : Str → Option Addr} {E : WX} {k n : Nat} {f : Addr} {fd : FuncData} {ps : List Str} {g : List D → Store → Res D} {x : Str} {p pos : Pos} {e : Expr} {es : List Expr} {ms : M (List D)}
theorem t_call (F : FnOk X.prog X.w X.K X.mg X.base (L2.CX X.prog X.w) k f fd ps (spOf X.K cl n g)) (hr : Room k X.A) (hm : X.mg x = some (.ref f)) (hk : PySem.W.keepIn X.K (.ref f) = true) (hb : Binds X.K fd ps []) (tk : Takes X E)
    (ha : PA X (e :: es) (TL X.K cl E ms)) (hg : Gl X x := by rfl) (hdb : (x == ("__debug__" : Str)) = false := by decide) (he : starEach (e :: es) X.env = (false, eval e X.env) :: starEach es X.env := by rfl) (hpl : (backTo pos (starEach es X.env)).any (·.1) = false := by rfl) :
    PE X (.Call (.Name x p) (e :: es) [] pos) (T X.K cl E (mFn (ar n g) ms)) :=
  pe_imp (pe_callS F hr hg hm hk hb (fun σ => passAt tk σ) ha hdb he hpl) fun σ H Q ⟨W, ρ, S, hr, he, q⟩ => step hr he q fun W1 H1 x dx S1 l1 r1 e1 rx p1 => ⟨W1, S1, dx, r1, rx, p1⟩
end
end G
namespace G
open PySem L2
abbrev wFuel : Nat := 1000000
def mStk : M D := fun _ _ => .stk
def sStk : MS := fun _ _ => .stk
theorem bt_len : bootBuiltins "len" = some (.builtin "len") := by decide +kernel
theorem bt_all : bootBuiltins "all" = some (.builtin "all") := by decide +kernel
theorem bt_any : bootBuiltins "any" = some (.builtin "any") := by decide +kernel
theorem bt_isinstance : bootBuiltins "isinstance" = some (.builtin "isinstance") := by decide +kernel
theorem bt_int : bootBuiltins "int" = some (.type "int") := by decide +kernel
theorem bt_bool : bootBuiltins "bool" = some (.type "bool") := by decide +kernel
theorem bt_str : bootBuiltins "str" = some (.type "str") := by decide +kernel
theorem bt_list : bootBuiltins "list" = some (.type "list") := by decide +kernel
theorem bt_tuple : bootBuiltins "tuple" = some (.type "tuple") := by decide +kernel
theorem bt_dict : bootBuiltins "dict" = some (.type "dict") := by decide +kernel
section
variable {X : Cx} {cl : Str → Option Addr} {E : WX} {e : Expr} {st : Stmt} {sts : List Stmt} {pos : Pos}
/-- what is never come to -/
theorem t_stk : PE X e (T X.K cl E mStk) := ⟨fun _ _ _ _ _ _ ⟨_, _, _, _, _, p⟩ => p.elim⟩
theorem s_stk : PS X st (Ts X.K cl E sStk) := ⟨fun _ _ _ _ _ _ ⟨_, _, _, _, _, p⟩ => p.elim⟩
theorem ss_stk : PSs X sts (Ts X.K cl E sStk) := ⟨fun _ _ _ _ _ _ ⟨_, _, _, _, _, p⟩ => p.elim⟩
/-- a constant of the module, as the top left it -/
def GlobIs (K : PySem.W.Frag) (cl : Str → Option Addr) (mg : Str → Option Value) (x : Str) (d : D) : Prop := ∃ u v, mg x = some u ∧ RelV v u ∧ ∀ W, Rep K cl W v d
theorem t_glob' {x : Str} {d : D} (h : GlobIs X.K cl X.mg x d) (hg : Gl X x := by rfl) (hd : (x == ("__debug__" : Str)) = false := by decide) : PE X (.Name x pos) (T X.K cl E (mC d)) := by
  obtain ⟨u, v, hm, r, rp⟩ := h
  exact t_glob hm r rp hg hd
end
/-- a def of the module, by its semantics -/
structure Fn (P : Program) (w : World) (K : PySem.W.Frag) (mg : Str → Option Value) (base : Heap) (cl : Str → Option Addr) (x : Str) (k n : Nat) (g : List D → Store → Res D) : Prop where
  ex : ∃ f fd ps, FnOk P w K mg base (L2.CX P w) k f fd ps (spOf K cl n g) ∧ mg x = some (.ref f) ∧ PySem.W.keepIn K (.ref f) = true ∧ Binds K fd ps []
section
variable {X : Cx} {cl : Str → Option Addr} {E : WX} {k n : Nat} {g : List D → Store → Res D} {x : Str} {p pos : Pos} {e : Expr} {es : List Expr} {ms : M (List D)}
theorem t_callF (F : Fn X.prog X.w X.K X.mg X.base cl x k n g) (hr : Room k X.A) (tk : Takes X E) (ha : PA X (e :: es) (TL X.K cl E ms)) (hg : Gl X x := by rfl) (hdb : (x == ("__debug__" : Str)) = false := by decide)
    (he : starEach (e :: es) X.env = (false, eval e X.env) :: starEach es X.env := by rfl) (hpl : (backTo pos (starEach es X.env)).any (·.1) = false := by rfl) :
    PE X (.Call (.Name x p) (e :: es) [] pos) (T X.K cl E (mFn (ar n g) ms)) := by
  obtain ⟨f, fd, ps, h1, h2, h3, h4⟩ := F.ex
  exact t_call h1 hr h2 h3 h4 tk ha hg hdb he hpl
theorem t_callF0 (F : Fn X.prog X.w X.K X.mg X.base cl x k n g) (hr : Room k X.A) (tk : Takes X E) (hg : Gl X x := by rfl) (hdb : (x == ("__debug__" : Str)) = false := by decide) :
    PE X (.Call (.Name x p) [] [] pos) (T X.K cl E (mFn (ar n g) mNil)) := by
  obtain ⟨f, fd, ps, h1, h2, h3, h4⟩ := F.ex
  refine ⟨fun pins s σ H Q I ⟨W, ρ, S, hr', he', q⟩ => ?_⟩
  have hsp : spOf X.K cl n g [] H Q (WE E σ) := ⟨W, S, [], hr', .nil, q⟩
  refine wpAny_Call_Name_kw (ld_glob I hg h2 (PySem.W.callWith_K0 I.kIn h3 ?_) hdb)
  exact run_fnS (us := []) (vs := []) h1 hr h4 (passAt tk σ) I .nil hsp
end

/-! ### isinstance -/
inductive Kd where
  | non | bl | int | str | tup | lst | dct
def kd (S : Store) (d : D) : Option Kd := match d with
  | .non => some .non
  | .bl _ => some .bl
  | .int _ => some .int
  | .str _ => some .str
  | .tup _ => some .tup
  | .lst _ => some .lst
  | .dct _ => some .dct
  | .ref n => (match S[n]? with
    | some (.lst _) => some .lst
    | some (.dct _) => some .dct
    | _ => none)
  | _ => none
def Kd.ty : Kd → String
  | .non => "NoneType" | .bl => "bool" | .int => "int" | .str => "str" | .tup => "tuple" | .lst => "list" | .dct => "dict"
def isiD (f : Kd → Bool) (d : D) (S : Store) : Res D := ofB ((kd S d).map f) S
def k_int : Kd → Bool
  | .int => true | .bl => true | _ => false
def k_bool : Kd → Bool
  | .bl => true | _ => false
def k_str : Kd → Bool
  | .str => true | _ => false
def k_list : Kd → Bool
  | .lst => true | _ => false
def k_tuple : Kd → Bool
  | .tup => true | _ => false
def k_dict : Kd → Bool
  | .dct => true | _ => false
def k_list_tuple : Kd → Bool
  | .lst => true | .tup => true | _ => false
def IsK (T : String) (f : Kd → Bool) : Prop := ∀ k : Kd, kitB k.ty T = some (f k)
theorem is_int : IsK "int" k_int := fun k => by cases k <;> decide +kernel
theorem is_bool : IsK "bool" k_bool := fun k => by cases k <;> decide +kernel
theorem is_str : IsK "str" k_str := fun k => by cases k <;> decide +kernel
theorem is_list : IsK "list" k_list := fun k => by cases k <;> decide +kernel
theorem is_tuple : IsK "tuple" k_tuple := fun k => by cases k <;> decide +kernel
theorem is_dict : IsK "dict" k_dict := fun k => by cases k <;> decide +kernel
theorem kd_of {K : PySem.W.Frag} {cl : Str → Option Addr} {W : Wd} {H : Hp} {S : Store} {x : V} {d : D} {k : Kd} (r : R K cl W H S) (rx : Rep K cl W x d) (e : kd S d = some k) : TyX K H x (.type k.ty) := by
  cases rx with
  | non => cases e; exact .base .non
  | bl b => cases e; exact .base (.bl b)
  | int b => cases e; exact .base (.int b)
  | str b => cases e; exact .base (.str b)
  | tup h t =>
    cases e
    rcases h with (h | ⟨o, h⟩) | h
    · exact .base (.tup (r.sub _ _ h))
    · exact .fTuple (r.sub _ _ h)
    · obtain ⟨o, _, _, hk, hc, _⟩ := h
      exact .kTuple hk hc
  | lst h t => cases e; exact .base (.lst (r.sub _ _ h))
  | dct h t => cases e; exact .fDict (r.sub _ _ h)
  | ins h c t => cases e
  | exv0 => cases e
  | exv1 => cases e
  | scr h => cases e
  | @ref n hn =>
    unfold kd at e
    dsimp only at e
    cases q : S[n]? with
    | none => rw [q] at e; cases e
    | some mo =>
      rw [q] at e
      cases mo with
      | lst ys =>
        cases e
        obtain ⟨_, vs, h1, h2⟩ := r.live n _ q (by intro z; cases z)
        exact .base (.lst h1)
      | dct ys =>
        cases e
        obtain ⟨_, vs, h1, h2⟩ := r.live n _ q (by intro z; cases z)
        exact .base (.dK h1)
      | ldc ys => cases e
      | ins c fs => cases e
      | dead => cases e
section
variable {X : Cx} {cl : Str → Option Addr} {E : WX} {a b : Expr} {m : M D} {p p2 pos : Pos} {x : Str} {T' : String} {f : Kd → Bool}
theorem t_isi (hk : IsK T' f) (hm : X.mg "isinstance" = none) (hm2 : X.mg x = none) (hv : bootBuiltins x = some (.type T')) (ha : PE X a (T X.K cl E m)) (hg : Gl X "isinstance" := by rfl) (hg2 : Gl X x := by rfl) (hn : x ≠ "__name__" := by decide) (hdb : (x == ("__debug__" : Str)) = false := by decide)
    (hs : starEach [.Name x p2] X.env = (false, eval (.Name x p2) X.env) :: starEach [] X.env := by rfl)
    (he : starEach [a, .Name x p2] X.env = (false, eval a X.env) :: starEach [.Name x p2] X.env := by rfl) (hpl : (backTo pos (starEach [.Name x p2] X.env)).any (·.1) = false := by rfl) :
    PE X (.Call (.Name "isinstance" p) [a, .Name x p2] [] pos) (T X.K cl E (mUn (isiD f) m)) :=
  pe_imp (pe_callB call_isi hg hm bt_isinstance (pa_cons ha (pa_cons (pe_bltn (v := .ty T') hg2 hm2 hv rfl hn hdb) pa_nil hs) he) (by decide) (by decide) he hpl) fun σ H Q ⟨W, ρ, S, hr, en, q⟩ =>
    step hr en q fun W1 H1 v d S1 l1 r1 e1 rv p1 => by
      unfold isiD at p1
      cases e2 : kd S1 d with
      | none => rw [e2] at p1; exact p1.elim
      | some k =>
        rw [e2] at p1
        exact ⟨v, .ty T', _, _, f k, rfl, .ty T', kd_of r1 rv e2, kit_ty (hk k), p1.now r1 (.bl _)⟩
end

/-! ### methods of built-in types -/
def tyD (T : String) (S : Store) (d : D) : Bool := match d with
  | .str _ => T == "str"
  | .lst _ => T == "list"
  | .ref n => (match S[n]? with
    | some (.lst _) => T == "list"
    | some (.dct _) => T == "dict"
    | _ => false)
  | _ => false
def mMt (T : String) (g : D → List D → Store → Res D) (o : M D) (a : M (List D)) : M D := fun ρ S => (o ρ S).bind fun x S1 => if tyD T S1 x = true then (a ρ S1).bind fun y S2 => g x y S2 else .stk
theorem tyV_of {K : PySem.W.Frag} {cl : Str → Option Addr} {W : Wd} {H : Hp} {S : Store} {x : V} {d : D} {T : String} (r : R K cl W H S) (rx : Rep K cl W x d) (e : tyD T S d = true) : tyV K T x H := by
  cases rx with
  | str z => exact beq_iff_eq.mp e
  | lst h t => exact .inl ⟨beq_iff_eq.mp e, _, SqL.of (r.sub _ _ h)⟩
  | @ref n hn =>
    unfold tyD at e
    dsimp only at e
    cases q : S[n]? with
    | none => rw [q] at e; cases e
    | some mo =>
      rw [q] at e
      cases mo with
      | lst ys =>
        obtain ⟨_, vs, h1, h2⟩ := r.live n _ q (by intro z; cases z)
        exact .inl ⟨beq_iff_eq.mp e, _, SqL.of h1⟩
      | dct ys =>
        obtain ⟨_, vs, h1, h2⟩ := r.live n _ q (by intro z; cases z)
        exact .inr (.inr (.inl ⟨beq_iff_eq.mp e, .inl ⟨_, h1⟩⟩))
      | ldc ys => cases e
      | ins c fs => cases e
      | dead => cases e
  | _ => cases e
section
variable {X : Cx} {cl : Str → Option Addr} {E : WX} {o e : Expr} {es : List Expr} {m : M D} {ms : M (List D)} {name : Str} {apos cpos : Pos} {T' id : String} {r : V → List V → Hp → VK → Prop} {g : D → List D → Store → Res D}
theorem t_bm (pa : PlainAttrs T') (slot : Slot T' name id) (hty : typeOf (.builtin id) = pure (.type "method_descriptor")) (hm : MtR X id r) (hs : MtS X.K cl r g) (ho : PE X o (T X.K cl E m)) (ha : PA X (e :: es) (TL X.K cl E ms))
    (hbase : attributeBase o name X.env (eval o X.env) = eval o X.env := by rfl)
    (hfew : ((backTo cpos (starEach (e :: es) X.env)).all (fun x => !x.1) && (backToKw cpos (keywordEach [] X.env)).all (fun x => x.1.isSome) && decide ((e :: es).length + ([] : List Keyword).length + (if ([] : List Keyword).isEmpty then 0 else 1) < 30)) = true := by rfl)
    (hline : (apos.endLine == cpos.line) = true := by rfl) (hse : starEach (e :: es) X.env = (false, eval e X.env) :: starEach es X.env := by rfl) (hpl : (backTo cpos (starEach es X.env)).any (·.1) = false := by rfl) :
    PE X (.Call (.Attribute o name apos) (e :: es) [] cpos) (T X.K cl E (mMt T' g m ms)) :=
  pe_imp (pe_bm pa slot hty hm ho ha hbase hfew hline hse hpl) fun σ H Q ⟨W, ρ, S, hr, en, q⟩ => step hr en q fun W1 H1 v d S1 l1 r1 e1 rv p1 => by
    by_cases ht : tyD T' S1 d = true
    · rw [if_pos ht] at p1
      exact ⟨tyV_of r1 rv ht, step r1 e1 p1 fun W2 H2 ys ds S2 l2 r2 e2 ry p2 => hs _ _ _ _ _ _ _ _ _ r2 (rv.up l2) ry p2⟩
    · rw [if_neg ht] at p1
      exact p1.elim
theorem t_bm0 (pa : PlainAttrs T') (slot : Slot T' name id) (hty : typeOf (.builtin id) = pure (.type "method_descriptor")) (hm : MtR X id r) (hs : MtS X.K cl r g) (ho : PE X o (T X.K cl E m))
    (hbase : attributeBase o name X.env (eval o X.env) = eval o X.env := by rfl) (hline : (apos.endLine == cpos.line) = true := by rfl) :
    PE X (.Call (.Attribute o name apos) [] [] cpos) (T X.K cl E (mMt T' g m mNil)) :=
  pe_imp (pe_bm0 pa slot hty hm ho hbase hline) fun σ H Q ⟨W, ρ, S, hr, en, q⟩ => step hr en q fun W1 H1 v d S1 l1 r1 e1 rv p1 => by
    by_cases ht : tyD T' S1 d = true
    · rw [if_pos ht] at p1
      exact ⟨tyV_of r1 rv ht, hs _ _ _ _ _ _ _ _ _ r1 rv .nil p1⟩
    · rw [if_neg ht] at p1
      exact p1.elim
end
/-- sep.join -/
def stO : D → Option Str
  | .str b => some b
  | _ => none
def stsO : List D → Option (List Str)
  | [] => some []
  | d :: ds => (match stO d, stsO ds with
    | some b, some bs => some (b :: bs)
    | _, _ => none)
theorem sts_of {K : PySem.W.Frag} {cl : Str → Option Addr} {W : Wd} : ∀ {vs : List V} {ds : List D} {bs : List Str}, Reps K cl W vs ds → stsO ds = some bs → vs = bs.map V.str
  | _, _, _, .nil, e => by cases e; rfl
  | _, _, _, .cons (d := d) (ds := ds) h t, e => by
    unfold stsO at e
    cases e1 : stO d with
    | none => rw [e1] at e; cases e
    | some v =>
      cases e2 : stsO ds with
      | none => rw [e1, e2] at e; cases e
      | some vs =>
        rw [e1, e2] at e
        cases e
        rw [sts_of t e2]
        cases h <;> first | (cases e1; rfl) | cases e1
def joinD (x : D) (ys : List D) (S : Store) : Res D := match x, ys with
  | .str a, [y] => (match (sqOf S y).bind stsO with
    | some bs => if (bs.map (·.length)).sum + bs.length * a.length ≤ 16777216 then .ok (.str (Txt.join a bs)) S else .stk
    | none => .stk)
  | _, _ => .stk
theorem join_s {K : PySem.W.Frag} {cl : Str → Option Addr} : MtS K cl (fun x xs H Q => ∃ a p, ∃ ys : List Str, x = .str a ∧ xs = [.ref p] ∧ (SqL K H p (ys.map V.str) ∨ SqT K H p (ys.map V.str)) ∧
    (ys.map (·.length)).sum + ys.length * a.length ≤ 16777216 ∧ Q (.str (Txt.join a ys)) H) joinD := by
  intro W H S x a y b Q E r rx ry p
  unfold joinD at p
  split at p
  · rename_i z d
    cases rx
    cases ry with | cons ry rn =>
    cases rn
    split at p
    · rename_i bs eb
      cases e1 : sqOf S d with
      | none => rw [e1] at eb; cases eb
      | some ds =>
        rw [e1] at eb
        obtain ⟨q, vs, rfl, h, t⟩ := sq_of' r ry e1
        have ev := sts_of t (show stsO ds = some bs from eb)
        subst ev
        split at p
        · rename_i hz
          exact ⟨_, _, bs, rfl, rfl, h, hz, p.now r (.str _)⟩
        · exact p.elim
    · exact p.elim
  · exact p.elim
/-- append -/
def appD (x : D) (ys : List D) (S : Store) : Res D := match x, ys with
  | .ref n, [y] => (match S[n]? with
    | some (.lst xs) => if xs.length < sizeLine then .ok .non (S.set n (.lst (xs ++ [y]))) else .stk
    | _ => .stk)
  | _, _ => .stk
theorem app_s {K : PySem.W.Frag} {cl : Str → Option Addr} : MtS K cl rAppend appD := by
  intro W H S x a y b Q E r rx ry p
  unfold appD at p
  split at p
  · rename_i n d
    cases rx with | ref hn =>
    cases ry with | cons ry rn =>
    cases rn
    split at p
    · rename_i xs e1
      obtain ⟨_, vs, h1, h2⟩ := r.live n _ e1 (by intro z; cases z)
      split at p
      · rename_i hz
        exact ⟨_, vs, _, rfl, rfl, h1, by rw [h2.len]; exact hz, p W _ _ (.rf W) (r.put e1 (by intro z; cases z) ⟨_, upd_same, h2.app (.cons ry .nil)⟩) .non⟩
      · exact p.elim
    · exact p.elim
  · exact p.elim
section
variable {X : Cx} {cl : Str → Option Addr} {E : WX} {o e a b : Expr} {es : List Expr} {m : M D} {ms : M (List D)} {px py pt pt2 pos : Pos} {kt k2 : Nat}
/-- x, y = a, b -/
def sPar (i j : Nat) (a : M (List D)) : MS := fun ρ S => sB (a ρ S) ρ fun ds S1 => match ds with
  | [v, w] => .nx ((ρ.set i (some v)).set j (some w)) S1
  | _ => .stk
end
end G
/-! zip of two and three lists or tuples, enumerate: over the walks that tell the new tuple -/
namespace G
open PySem L2
/-- rows of n new tuples, as long as the sources stand -/
def Jt (n : Nat) (row : Nat → List V) (Sd : Hp → Prop) : It :=
  ⟨fun i H => i < n ∧ Sd H, fun i H v H' => ∃ a, v = .ref a ∧ H a = none ∧ H' = upd H a (.tup (row i)), fun i H => i = n ∧ Sd H⟩
theorem turn_of {P : Program} {w : World} {K : PySem.W.Frag} {elts : List Expr} {kk : Nat} {tpos : Pos} {fp : List Addr} {I : Addr} {n : Nat} {row : Nat → List V} {Sd : Hp → Prop} {tn : Nat → Heap → Prop}
    (mem : I ∈ fp) (obj : ∀ i h, tn i h → ∀ b ∈ fp, ∃ o, h.get? b = some o ∧ ∀ v, o.data ≠ .cell v)
    (keep : ∀ i h h', tn i h → (∀ b ∈ fp, ∀ o, h.get? b = some o → h'.get? b = some o) → tn i h') (small : ∀ i, (row i).length ≤ sizeLine)
    (src : ∀ (X : Cx) (pins : List (Addr × Obj)) (σ : L2.St) (H : Hp) (s : Shared), X.prog = P → X.w = w → X.K = K → X.calm = true → Inv X pins σ H s → Sd H → (∀ b ∈ fp, H b = none) →
      ∃ fp' wr Y Q, GoesN P w X.A (.Tuple elts kk tpos) I fp' wr n Y Q ∧ (∀ b ∈ wr, b ∈ fp) ∧ (∀ i, tn i s.heap → Q i s.heap) ∧ (∀ i h', Q i h' → tn i h') ∧
        ∀ i h v h', i < n → Y i h v h' → ∃ a us, v = .ref a ∧ h.objs.size ≤ a ∧ Vals (row i) us ∧ h'.IsTuple a us.toArray)
    (self : ∀ (A : Around) (i : Nat) (s : Shared) (Q : Value → Shared → Prop) (E : Value → Shared → Prop), tn i s.heap → Q (.ref I) s → wpAny (model P w) A (pyIter (.ref I)) Q E s) :
    Turn P w K (.Tuple elts kk tpos) (Jt n row Sd) fp I tn where
  mem := mem
  obj := obj
  keep := keep
  self := self
  item := by
    intro X hP hw hK hc i pins s σ H E J hf st hg
    obtain ⟨hi, sd⟩ := hg
    obtain ⟨fp', wr, Y, Q, W, hsub, h1, h2, h3⟩ := src X pins σ H s hP hw hK hc J sd fun b hb => (hf b hb).1
    refine W.goes i s _ E hi (h1 i st) fun v h' tk hY st' hk htk => ?_
    obtain ⟨a, us, rfl, hn, rv, ht⟩ := h3 i s.heap v h' hi hY
    have free : H a = none := J.hok.fresh hn
    have isT : ObjOk X.prog X.w (upd H a (.tup (row i))) h' a (.tup (row i)) := ⟨small i, us, rv, ht⟩
    have J' := J.turnedNew (t' := tk) (ch := fp) (fun b o hb e => hk b o (fun z => hb (hsub b z)) e) hf hn isT
    refine ⟨.ref a, _, J', rfl, ⟨a, rfl, free, rfl⟩, h2 _ _ st', fun b hb => ?_⟩
    obtain ⟨o, ho, _⟩ := obj i s.heap st b hb
    rw [upd_ne (Nat.ne_of_lt (Nat.lt_of_lt_of_le (Heap.lt_size ho) hn))]
    exact (hf b hb).1
  done := by
    intro X hP hw hK hc i pins s σ H E J hf st hg
    obtain ⟨rfl, sd⟩ := hg
    obtain ⟨fp', wr, Y, Q, W, hsub, h1, h2, h3⟩ := src X pins σ H s hP hw hK hc J sd fun b hb => (hf b hb).1
    exact W.stops s (fun s1 => Inv X pins σ H s1) E (h1 _ st) fun h' tk hk htk => J.turnedL (t' := tk) (ch := fp) (fun b o hb e => hk b o (fun z => hb (hsub b z)) e) hf

/-! a source: a tuple (true) or a list (false) -/
def SqK (k : Bool) (K : PySem.W.Frag) (H : Hp) (a : Addr) (xs : List V) : Prop := if k = true then SqT K H a xs else SqL K H a xs
def ItK (k : Bool) (h : Heap) (it a : Addr) (i : Nat) : Prop := if k = true then h.IsTupleIter it a i else h.IsListIter it a i
def HsK (k : Bool) (h : Heap) (a : Addr) (its : Array Value) : Prop := if k = true then h.IsTuple a its else h.IsList a its
def itO (k : Bool) (l : Addr) : Obj := { cls := .type (if k then "tuple_iterator" else "list_iterator"), data := .fields #[.ref l, .int 0 0] }
theorem drawsK (k : Bool) {prog : Program} {w : World} {A : Around} (hh : A.handled = none) (it t : Addr) (hne : t ≠ it) (its : Array Value) :
    Draws prog w A it [it, t] its.size (fun i v => its[i]? = some v) (fun i h => ItK k h it t i ∧ HsK k h t its) := by
  cases k
  · exact Draws.list hh it t hne its
  · exact Draws.tuple hh it t hne its
theorem beginsK (k : Bool) (l : Addr) (its : Array Value) : Begins (.ref l) (itO k l) fun h => HsK k h l its := by
  cases k
  · exact begins_list l its
  · exact begins_tuple l its
theorem itK_at {k : Bool} {h h' : Heap} {it a : Addr} {i : Nat} (x : ItK k h it a i) (e : ∀ o, h.get? it = some o → h'.get? it = some o) : ItK k h' it a i := by
  cases k
  · exact Heap.IsListIter.at x e
  · exact Heap.IsTupleIter.at x e
theorem itK_obj {k : Bool} {h : Heap} {it a : Addr} {i : Nat} (x : ItK k h it a i) : ∃ o, h.get? it = some o ∧ ∀ v, o.data ≠ .cell v := by
  cases k
  · obtain ⟨o, e, _, d⟩ := (show h.IsListIter it a i from x)
    exact ⟨o, e, fun v q => by rw [d] at q; cases q⟩
  · obtain ⟨o, e, _, d⟩ := (show h.IsTupleIter it a i from x)
    exact ⟨o, e, fun v q => by rw [d] at q; cases q⟩
theorem itK_new {k : Bool} {h : Heap} {it l : Addr} (e : h.get? it = some (itO k l)) : ItK k h it l 0 := by
  cases k
  · exact ⟨_, e, rfl, rfl⟩
  · exact ⟨_, e, rfl, rfl⟩
theorem sqK_up {k : Bool} {K : PySem.W.Frag} {A B : Hp} {a : Addr} {xs : List V} (g : ∀ a o, A a = some o → B a = some o) (h : SqK k K A a xs) : SqK k K B a xs := by
  cases k
  · exact sqL_up g h
  · exact sqT_up g h
theorem inv_K {X : Cx} {pins : List (Addr × Obj)} {σ : L2.St} {H : Hp} {s : Shared} {k : Bool} {a : Addr} {xs : List V} (J : Inv X pins σ H s) (h : SqK k X.K H a xs) : ∃ us : List Value, Vals xs us ∧ HsK k s.heap a us.toArray ∧ a < s.heap.objs.size := by
  cases k
  · obtain ⟨us, rv, p, _⟩ := J.list h
    exact ⟨us, rv, p.isList, p.lt⟩
  · obtain ⟨us, rv, p, _⟩ := J.tuple h
    obtain ⟨o, e, _⟩ := id p
    exact ⟨us, rv, p, Heap.lt_size e⟩
theorem vals_at {xs : List V} {us : List Value} {i : Nat} {x : V} {u : Value} (r : Vals xs us) (h : xs[i]? = some x) (e : us.toArray[i]? = some u) : RelV x u := by
  obtain ⟨u', h1, h2⟩ := r.get h
  have e : us[i]? = some u := by simpa using e
  rw [h1] at e
  cases e
  exact h2
def rowAt (ls : List (List V)) (i : Nat) : List V := ls.map fun xs => xs[i]?.getD .non
theorem fp_ok {X : Cx} {pins : List (Addr × Obj)} {σ : L2.St} {H : Hp} {s : Shared} (J : Inv X pins σ H s) {fp : List Addr} (h : ∀ b ∈ fp, s.heap.objs.size ≤ b) : ∀ b ∈ fp, FpOk X pins H b := fun b hb => J.fpOk (h b hb) (J.hok.fresh (h b hb))
def tn3 (k1 k2 k3 : Bool) (z ti tt i1 i2 i3 a b c : Addr) (i : Nat) (h : Heap) : Prop :=
  IsZip h z ti tt .none ∧ IsTupOf3 h ti (.ref i1) (.ref i2) (.ref i3) ∧ (∃ x y u, IsTupOf3 h tt x y u) ∧ ItK k1 h i1 a i ∧ ItK k2 h i2 b i ∧ ItK k3 h i3 c i
def tn2 (k1 k2 : Bool) (z ti tt i1 i2 a b : Addr) (i : Nat) (h : Heap) : Prop :=
  IsZip h z ti tt .none ∧ IsTupOf2 h ti (.ref i1) (.ref i2) ∧ (∃ x y, IsTupOf2 h tt x y) ∧ ItK k1 h i1 a i ∧ ItK k2 h i2 b i
theorem turn_zip3 {P : Program} {w : World} {K : PySem.W.Frag} {elts : List Expr} {kk : Nat} {tpos : Pos} {k1 k2 k3 : Bool} {N : Nat} {a b c : Addr} {xs ys zs : List V} (ha : a < N) (hb : b < N) (hc : c < N) :
    Turn P w K (.Tuple elts kk tpos) (Jt (min (min xs.length ys.length) zs.length) (rowAt [xs, ys, zs]) fun H => SqK k1 K H a xs ∧ SqK k2 K H b ys ∧ SqK k3 K H c zs) [N + 5, N + 3, N + 4, N, N + 1, N + 2] (N + 5) (tn3 k1 k2 k3 (N + 5) (N + 3) (N + 4) N (N + 1) (N + 2) a b c) := by
  refine turn_of (by simp) (fun i h st q hq => ?_) (fun i h h' st kp => ?_) (fun i => by show 3 ≤ sizeLine; decide) (fun X pins σ H s hP hw hK hcm J sd fr => ?_) (fun A i s Q E st q => wpAny_pyIter_zip st.1 q)
  · obtain ⟨hz, hTI, ⟨x, y, u, hTO⟩, h1, h2, h3⟩ := st
    simp only [List.mem_cons, List.not_mem_nil, or_false] at hq
    rcases hq with rfl | rfl | rfl | rfl | rfl | rfl
    · exact ⟨_, hz, fun v z => nomatch z⟩
    · exact ⟨_, hTI, fun v z => nomatch z⟩
    · exact ⟨_, hTO, fun v z => nomatch z⟩
    · exact itK_obj h1
    · exact itK_obj h2
    · exact itK_obj h3
  · obtain ⟨hz, hTI, ⟨x, y, u, hTO⟩, h1, h2, h3⟩ := st
    exact ⟨kp _ (by simp) _ hz, kp _ (by simp) _ hTI, ⟨x, y, u, kp _ (by simp) _ hTO⟩, itK_at h1 (kp _ (by simp)), itK_at h2 (kp _ (by simp)), itK_at h3 (kp _ (by simp))⟩
  · subst hP hw hK
    obtain ⟨s1, s2, s3⟩ := sd
    obtain ⟨u1, v1, q1, _⟩ := inv_K J s1
    obtain ⟨u2, v2, q2, _⟩ := inv_K J s2
    obtain ⟨u3, v3, q3, _⟩ := inv_K J s3
    have hh := J.ok.hd hcm
    have fst : ∀ d, d < N → ∀ e ∈ [d], e < N := fun d hd e he => by simp at he; omega
    have W := GoesN.zip3 (prog := X.prog) (w := X.w) (A := X.A) (elts := elts) (x1 := kk) (pos := tpos) (zip_sep3 (N := N) (fst a ha) (fst b hb) (fst c hc)) (drawsK k1 (A := X.A.in1) hh N a (Nat.ne_of_lt ha) u1.toArray) (drawsK k2 (A := X.A.in1) hh (N + 1) b (Nat.ne_of_lt (Nat.lt_of_lt_of_le hb (Nat.le_add_right _ _))) u2.toArray) (drawsK k3 (A := X.A.in1) hh (N + 2) c (Nat.ne_of_lt (Nat.lt_of_lt_of_le hc (Nat.le_add_right _ _))) u3.toArray)
    have en : min (min u1.toArray.size u2.toArray.size) u3.toArray.size = min (min xs.length ys.length) zs.length := by simp [v1.length, v2.length, v3.length]
    rw [en] at W
    refine ⟨_, _, _, _, W, ?_, fun i st => ?_, fun i h' st => ?_, fun i h v h' hi hY => ?_⟩
    · intro q hq
      simp only [List.mem_cons, List.not_mem_nil, or_false] at hq ⊢
      rcases hq with e | e | e | e | e <;> simp [e]
    · obtain ⟨hz, hTI, hTO, h1, h2, h3⟩ := st
      exact ⟨hz, hTI, hTO, ⟨h1, q1⟩, ⟨h2, q2⟩, ⟨h3, q3⟩⟩
    · obtain ⟨hz, hTI, hTO, h1, h2, h3⟩ := st
      exact ⟨hz, hTI, hTO, h1.1, h2.1, h3.1⟩
    · obtain ⟨t, x, y, u, rfl, hn, hx, hy, hu, ht⟩ := hY
      have g1 : xs[i]? = some (xs[i]?.getD .non) := by rw [List.getElem?_eq_getElem (by omega : i < xs.length)]; rfl
      have g2 : ys[i]? = some (ys[i]?.getD .non) := by rw [List.getElem?_eq_getElem (by omega : i < ys.length)]; rfl
      have g3 : zs[i]? = some (zs[i]?.getD .non) := by rw [List.getElem?_eq_getElem (by omega : i < zs.length)]; rfl
      exact ⟨t, [x, y, u], rfl, hn, .cons (vals_at v1 g1 hx) (.cons (vals_at v2 g2 hy) (.cons (vals_at v3 g3 hu) .nil)), ht⟩
theorem turn_zip2 {P : Program} {w : World} {K : PySem.W.Frag} {elts : List Expr} {kk : Nat} {tpos : Pos} {k1 k2 : Bool} {N : Nat} {a b : Addr} {xs ys : List V} (ha : a < N) (hb : b < N) :
    Turn P w K (.Tuple elts kk tpos) (Jt (min xs.length ys.length) (rowAt [xs, ys]) fun H => SqK k1 K H a xs ∧ SqK k2 K H b ys) [N + 4, N + 2, N + 3, N, N + 1] (N + 4) (tn2 k1 k2 (N + 4) (N + 2) (N + 3) N (N + 1) a b) := by
  refine turn_of (by simp) (fun i h st q hq => ?_) (fun i h h' st kp => ?_) (fun i => by show 2 ≤ sizeLine; decide) (fun X pins σ H s hP hw hK hcm J sd fr => ?_) (fun A i s Q E st q => wpAny_pyIter_zip st.1 q)
  · obtain ⟨hz, hTI, ⟨x, y, hTO⟩, h1, h2⟩ := st
    simp only [List.mem_cons, List.not_mem_nil, or_false] at hq
    rcases hq with rfl | rfl | rfl | rfl | rfl
    · exact ⟨_, hz, fun v z => nomatch z⟩
    · exact ⟨_, hTI, fun v z => nomatch z⟩
    · exact ⟨_, hTO, fun v z => nomatch z⟩
    · exact itK_obj h1
    · exact itK_obj h2
  · obtain ⟨hz, hTI, ⟨x, y, hTO⟩, h1, h2⟩ := st
    exact ⟨kp _ (by simp) _ hz, kp _ (by simp) _ hTI, ⟨x, y, kp _ (by simp) _ hTO⟩, itK_at h1 (kp _ (by simp)), itK_at h2 (kp _ (by simp))⟩
  · subst hP hw hK
    obtain ⟨s1, s2⟩ := sd
    obtain ⟨u1, v1, q1, _⟩ := inv_K J s1
    obtain ⟨u2, v2, q2, _⟩ := inv_K J s2
    have hh := J.ok.hd hcm
    have fst : ∀ d, d < N → ∀ e ∈ [d], e < N := fun d hd e he => by simp at he; omega
    have W := GoesN.zip2 (prog := X.prog) (w := X.w) (A := X.A) (elts := elts) (x1 := kk) (pos := tpos) (zip_sep2 (N := N) (fst a ha) (fst b hb)) (drawsK k1 (A := X.A.in1) hh N a (Nat.ne_of_lt ha) u1.toArray) (drawsK k2 (A := X.A.in1) hh (N + 1) b (Nat.ne_of_lt (Nat.lt_of_lt_of_le hb (Nat.le_add_right _ _))) u2.toArray)
    have en : min u1.toArray.size u2.toArray.size = min xs.length ys.length := by simp [v1.length, v2.length]
    rw [en] at W
    refine ⟨_, _, _, _, W, ?_, fun i st => ?_, fun i h' st => ?_, fun i h v h' hi hY => ?_⟩
    · intro q hq
      simp only [List.mem_cons, List.not_mem_nil, or_false] at hq ⊢
      rcases hq with e | e | e | e <;> simp [e]
    · obtain ⟨hz, hTI, hTO, h1, h2⟩ := st
      exact ⟨hz, hTI, hTO, ⟨h1, q1⟩, ⟨h2, q2⟩⟩
    · obtain ⟨hz, hTI, hTO, h1, h2⟩ := st
      exact ⟨hz, hTI, hTO, h1.1, h2.1⟩
    · obtain ⟨t, x, y, rfl, hn, hx, hy, ht⟩ := hY
      have g1 : xs[i]? = some (xs[i]?.getD .non) := by rw [List.getElem?_eq_getElem (by omega : i < xs.length)]; rfl
      have g2 : ys[i]? = some (ys[i]?.getD .non) := by rw [List.getElem?_eq_getElem (by omega : i < ys.length)]; rfl
      exact ⟨t, [x, y], rfl, hn, .cons (vals_at v1 g1 hx) (.cons (vals_at v2 g2 hy) .nil), ht⟩
/-- the walked things as they begin -/
def iZ3 (K : PySem.W.Frag) (ta : TA) : TI := fun σ H R => ta σ H fun vs H1 => ∃ k1 k2 k3 a b c xs ys zs, vs = [.ref a, .ref b, .ref c] ∧ SqK k1 K H1 a xs ∧ SqK k2 K H1 b ys ∧ SqK k3 K H1 c zs ∧
  R (Jt (min (min xs.length ys.length) zs.length) (rowAt [xs, ys, zs]) fun H => SqK k1 K H a xs ∧ SqK k2 K H b ys ∧ SqK k3 K H c zs) H1
def iZ2 (K : PySem.W.Frag) (ta : TA) : TI := fun σ H R => ta σ H fun vs H1 => ∃ k1 k2 a b xs ys, vs = [.ref a, .ref b] ∧ SqK k1 K H1 a xs ∧ SqK k2 K H1 b ys ∧
  R (Jt (min xs.length ys.length) (rowAt [xs, ys]) fun H => SqK k1 K H a xs ∧ SqK k2 K H b ys) H1
theorem pi_z3 {X : Cx} {e e2 e3 : Expr} {ta : TA} {p pos tpos : Pos} {elts : List Expr} {kk : Nat} (hg : Gl X "zip") (hm : X.mg "zip" = none) (ha : PA X [e, e2, e3] ta)
    (hs : starEach [e, e2, e3] X.env = (false, eval e X.env) :: starEach [e2, e3] X.env) (hpl : (backTo pos (starEach [e2, e3] X.env)).any (·.1) = false) :
    PI X (.Tuple elts kk tpos) (.Call (.Name "zip" p) [e, e2, e3] [] pos) (iZ3 X.K ta) := by
  refine ⟨fun pins s σ H Q J h => ?_⟩
  refine PyProof.Rows.Call_ (ld_blt J hg hm PyProof.Rows.boot_zip (PyProof.Rows.callWith_type1 (thn (ha.run pos pins s σ H _ J h) fun us s1 ⟨vs, H1, J1, r1, q1⟩ => ?_) hs hpl))
  obtain ⟨k1, k2, k3, a, b, c, xs, ys, zs, rfl, w1, w2, w3, q⟩ := q1
  cases r1 with | cons r r' =>
  cases r' with | cons r2 r' =>
  cases r' with | cons r3 r' =>
  cases r'; cases r; cases r2; cases r3
  obtain ⟨u1, v1, p1, t1⟩ := inv_K J1 w1
  obtain ⟨u2, v2, p2, t2⟩ := inv_K J1 w2
  obtain ⟨u3, v3, p3, t3⟩ := inv_K J1 w3
  refine zip_begins3 (beginsK k1 a u1.toArray) (beginsK k2 b u2.toArray) (beginsK k3 c u3.toArray) p1 p2 p3 fun h' hz hTI hTO o1 o2 o3 hsz hk => wpAny_pyIter_zip hz ?_
  have J2 : Inv X pins σ H1 { s1 with heap := h' } := J1.kept (t' := s1.toks) hk
  refine ⟨s1.heap.objs.size + 5, _, _, _, H1, rfl, J2, turn_zip3 (N := s1.heap.objs.size) t1 t2 t3, ⟨hz, hTI, ⟨_, _, _, hTO⟩, itK_new o1, itK_new o2, itK_new o3⟩, fp_ok J1 (fun q hq => ?_), q⟩
  simp only [List.mem_cons, List.not_mem_nil, or_false] at hq
  rcases hq with e | e | e | e | e | e <;> rw [e] <;> first | exact Nat.le_add_right _ _ | exact Nat.le_refl _
theorem pi_z2 {X : Cx} {e e2 : Expr} {ta : TA} {p pos tpos : Pos} {elts : List Expr} {kk : Nat} (hg : Gl X "zip") (hm : X.mg "zip" = none) (ha : PA X [e, e2] ta)
    (hs : starEach [e, e2] X.env = (false, eval e X.env) :: starEach [e2] X.env) (hpl : (backTo pos (starEach [e2] X.env)).any (·.1) = false) :
    PI X (.Tuple elts kk tpos) (.Call (.Name "zip" p) [e, e2] [] pos) (iZ2 X.K ta) := by
  refine ⟨fun pins s σ H Q J h => ?_⟩
  refine PyProof.Rows.Call_ (ld_blt J hg hm PyProof.Rows.boot_zip (PyProof.Rows.callWith_type1 (thn (ha.run pos pins s σ H _ J h) fun us s1 ⟨vs, H1, J1, r1, q1⟩ => ?_) hs hpl))
  obtain ⟨k1, k2, a, b, xs, ys, rfl, w1, w2, q⟩ := q1
  cases r1 with | cons r r' =>
  cases r' with | cons r2 r' =>
  cases r'; cases r; cases r2
  obtain ⟨u1, v1, p1, t1⟩ := inv_K J1 w1
  obtain ⟨u2, v2, p2, t2⟩ := inv_K J1 w2
  refine zip_begins2 (beginsK k1 a u1.toArray) (beginsK k2 b u2.toArray) p1 p2 fun h' hz hTI hTO o1 o2 hsz hk => wpAny_pyIter_zip hz ?_
  have J2 : Inv X pins σ H1 { s1 with heap := h' } := J1.kept (t' := s1.toks) hk
  refine ⟨s1.heap.objs.size + 4, _, _, _, H1, rfl, J2, turn_zip2 (N := s1.heap.objs.size) t1 t2, ⟨hz, hTI, ⟨_, _, hTO⟩, itK_new o1, itK_new o2⟩, fp_ok J1 (fun q hq => ?_), q⟩
  simp only [List.mem_cons, List.not_mem_nil, or_false] at hq
  rcases hq with e | e | e | e | e <;> rw [e] <;> first | exact Nat.le_add_right _ _ | exact Nat.le_refl _
/-- frozen lists and tuples -/
def frzOf (d : D) : Option (List D) := match d with
  | .tup ds => some ds
  | .lst ds => some ds
  | _ => none
theorem frz_of {K : PySem.W.Frag} {cl : Str → Option Addr} {W : Wd} {x : V} {d : D} {ds : List D} (h : Rep K cl W x d) (e : frzOf d = some ds) : ∃ k a vs, x = .ref a ∧ SqK k K W.G a vs ∧ Reps K cl W vs ds := by
  cases h <;> first | (cases e; done) | skip
  · rename_i hq t
    cases e
    exact ⟨true, _, _, rfl, hq, t⟩
  · rename_i hq t
    cases e
    exact ⟨false, _, _, rfl, SqL.of hq, t⟩
def zipRow (ls : List (List D)) (i : Nat) : D := .tup (ls.map fun xs => xs[i]?.getD .non)
theorem row_rep {K : PySem.W.Frag} {cl : Str → Option Addr} {W : Wd} {i : Nat} {xs : List V} {ds : List D} (t : Reps K cl W xs ds) (h : i < ds.length) : Rep K cl W (xs[i]?.getD .non) (ds[i]?.getD .non) := by
  obtain ⟨v, h1, h2⟩ := t.at (List.getElem?_eq_getElem h)
  rw [h1, List.getElem?_eq_getElem h]
  exact h2
def zip3 (as : List D) (S : Store) : Res Itb := match as with
  | [a, b, c] => (match frzOf a, frzOf b, frzOf c with
    | some x, some y, some z => .ok ⟨(List.range (min (min x.length y.length) z.length)).map (zipRow [x, y, z]), none⟩ S
    | _, _, _ => .stk)
  | _ => .stk
def zip2 (as : List D) (S : Store) : Res Itb := match as with
  | [a, b] => (match frzOf a, frzOf b with
    | some x, some y => .ok ⟨(List.range (min x.length y.length)).map (zipRow [x, y]), none⟩ S
    | _, _ => .stk)
  | _ => .stk
theorem its_row {K : PySem.W.Frag} {cl : Str → Option Addr} {W0 : Wd} {n : Nat} {row : Nat → List V} {Sd : Hp → Prop} {f : Nat → List D} (hs : ∀ W H S, Ls W0 W → R K cl W H S → Sd H) (hr : ∀ i, i < n → Reps K cl W0 (row i) (f i)) :
    ItS K cl W0 (Jt n row Sd) ⟨(List.range n).map fun i => .tup (f i), none⟩ := fun W H S l r g => by
  refine ⟨fun i d e => ?_, ?_⟩
  · have e : ((List.range n).map fun i => D.tup (f i))[i]? = some d := e
    rw [List.getElem?_map] at e
    cases q : (List.range n)[i]? with
    | none => rw [q] at e; cases e
    | some j =>
      rw [q] at e
      cases e
      have hi : i < n := by have := (List.getElem?_eq_some_iff.mp q).1; simpa using this
      have hj : j = i := by rw [List.getElem?_range hi] at q; exact (Option.some.inj q).symm
      subst hj
      refine ⟨⟨hi, hs W H S l r⟩, fun x H' ⟨a, ex, ha, eH⟩ => ?_⟩
      subst ex eH
      obtain ⟨r2, l2⟩ := r.fz (o := .tup (row j)) ha
      exact ⟨_, l2, r2, .tup (SqT.of upd_same) (((hr j hi).ups l).up l2)⟩
  · show _ = n ∧ Sd H
    exact ⟨by simp, hs W H S l r⟩
section
variable {X : Cx} {cl : Str → Option Addr} {E : WX} {e e2 e3 : Expr} {ms : M (List D)} {p pos tpos : Pos} {elts : List Expr} {kk : Nat}
theorem i_zip3 (hm : X.mg "zip" = none) (ha : PA X [e, e2, e3] (TL X.K cl E ms)) (hg : Gl X "zip" := by rfl)
    (hs : starEach [e, e2, e3] X.env = (false, eval e X.env) :: starEach [e2, e3] X.env := by rfl) (hpl : (backTo pos (starEach [e2, e3] X.env)).any (·.1) = false := by rfl) :
    PI X (.Tuple elts kk tpos) (.Call (.Name "zip" p) [e, e2, e3] [] pos) (TIt X.K cl E (mRng zip3 ms)) :=
  pi_imp (pi_z3 hg hm ha hs hpl) fun σ H Q ⟨W, ρ, S, hr, he, q⟩ => step hr he q fun W1 H1 x dx S1 l1 r1 e1 rx p1 => by
    unfold zip3 at p1
    split at p1
    · cases rx with | cons ra rn =>
      cases rn with | cons rb rn =>
      cases rn with | cons rc rn =>
      cases rn
      split at p1
      · rename_i x y z ea eb ec
        obtain ⟨k1, a, xs, rfl, s1, t1⟩ := frz_of ra ea
        obtain ⟨k2, b, ys, rfl, s2, t2⟩ := frz_of rb eb
        obtain ⟨k3, c, zs, rfl, s3, t3⟩ := frz_of rc ec
        refine ⟨k1, k2, k3, a, b, c, xs, ys, zs, rfl, sqK_up r1.sub s1, sqK_up r1.sub s2, sqK_up r1.sub s3, p1.now r1 ?_⟩
        rw [t1.len, t2.len, t3.len]
        refine its_row (fun W H S l r => ⟨sqK_up r.sub (sqK_up l.g s1), sqK_up r.sub (sqK_up l.g s2), sqK_up r.sub (sqK_up l.g s3)⟩) fun i hi => ?_
        exact .cons (row_rep t1 (by omega)) (.cons (row_rep t2 (by omega)) (.cons (row_rep t3 (by omega)) .nil))
      · exact p1.elim
    · exact p1.elim
theorem i_zip2 (hm : X.mg "zip" = none) (ha : PA X [e, e2] (TL X.K cl E ms)) (hg : Gl X "zip" := by rfl)
    (hs : starEach [e, e2] X.env = (false, eval e X.env) :: starEach [e2] X.env := by rfl) (hpl : (backTo pos (starEach [e2] X.env)).any (·.1) = false := by rfl) :
    PI X (.Tuple elts kk tpos) (.Call (.Name "zip" p) [e, e2] [] pos) (TIt X.K cl E (mRng zip2 ms)) :=
  pi_imp (pi_z2 hg hm ha hs hpl) fun σ H Q ⟨W, ρ, S, hr, he, q⟩ => step hr he q fun W1 H1 x dx S1 l1 r1 e1 rx p1 => by
    unfold zip2 at p1
    split at p1
    · cases rx with | cons ra rn =>
      cases rn with | cons rb rn =>
      cases rn
      split at p1
      · rename_i x y ea eb
        obtain ⟨k1, a, xs, rfl, s1, t1⟩ := frz_of ra ea
        obtain ⟨k2, b, ys, rfl, s2, t2⟩ := frz_of rb eb
        refine ⟨k1, k2, a, b, xs, ys, rfl, sqK_up r1.sub s1, sqK_up r1.sub s2, p1.now r1 ?_⟩
        rw [t1.len, t2.len]
        refine its_row (fun W H S l r => ⟨sqK_up r.sub (sqK_up l.g s1), sqK_up r.sub (sqK_up l.g s2)⟩) fun i hi => ?_
        exact .cons (row_rep t1 (by omega)) (.cons (row_rep t2 (by omega)) .nil)
      · exact p1.elim
    · exact p1.elim
end
end G
/-! running the semantics by simp: from the left, never under a continuation -/
namespace G
open PySem L2
def oB (o : Out) (f : Sl → Store → Out) : Out := match o with
  | .nx ρ S => f ρ S
  | o => o
def fB (o : Out) (f : Sl → Store → Out) : Out := match o with
  | .nx ρ S => f ρ S
  | .ct ρ S => f ρ S
  | .bk ρ S => .nx ρ S
  | .rt d S => .rt d S
  | .exc x ρ S => .exc x ρ S
  | .stk => .stk
def rB (o : Out) : Res D := match o with
  | .nx _ S => .ok .non S
  | .rt d S => .ok d S
  | .exc x _ S => .exc x S
  | .bk _ _ => .stk
  | .ct _ _ => .stk
  | .stk => .stk
def vO (o : Option (Option D)) (S : Store) : Res D := match o with
  | some (some d) => .ok d S
  | _ => .stk
def pO (o : Option Sl) (S : Store) : Out := match o with
  | some ρ => .nx ρ S
  | none => .stk
def qO (o : Option Store) (ρ : Sl) : Out := match o with
  | some S => .nx ρ S
  | none => .stk
def gO (o : Option (Option D)) (f : D → Out) : Out := match o with
  | some (some d) => f d
  | _ => .stk
def prO (d : D) (S : Store) : Res (Option Int) := match d with
  | .int i => .ok (some i) S
  | _ => .stk
/-! the continuations, by name -/
section
variable (ρ : Sl)
def kOp (g : D → D → Store → Res D) (b : M D) (x : D) (S : Store) : Res D := (b ρ S).bind (g x)
def kC (x : D) (y : List D) (S : Store) : Res (List D) := .ok (x :: y) S
def kCons (b : M (List D)) (x : D) (S : Store) : Res (List D) := (b ρ S).bind (kC x)
def kIte (a b : M D) (k : Bool) (S : Store) : Res D := if k = true then a ρ S else b ρ S
def kAnd (b : M Bool) (k : Bool) (S : Store) : Res Bool := if k = true then b ρ S else .ok false S
def kOr (b : M Bool) (k : Bool) (S : Store) : Res Bool := if k = true then .ok true S else b ρ S
def kNot (k : Bool) (S : Store) : Res Bool := .ok (!k) S
def kAndV2 (b : M D) (x : D) (k : Bool) (S : Store) : Res D := if k = true then b ρ S else .ok x S
def kAndV (b : M D) (x : D) (S : Store) : Res D := (truD x S).bind (kAndV2 ρ b x)
def kOrV2 (b : M D) (x : D) (k : Bool) (S : Store) : Res D := if k = true then .ok x S else b ρ S
def kOrV (b : M D) (x : D) (S : Store) : Res D := (truD x S).bind (kOrV2 ρ b x)
def kNotV2 (k : Bool) (S : Store) : Res D := .ok (.bl (!k)) S
def kNotV (x : D) (S : Store) : Res D := (truD x S).bind kNotV2
def kCh4 (g' : D → D → Store → Res D) (c : M D) (y : D) (k : Bool) (S : Store) : Res D := if k = true then (c ρ S).bind (g' y) else .ok (.bl false) S
def kCh3 (g' : D → D → Store → Res D) (c : M D) (y z : D) (S : Store) : Res D := (asB z S).bind (kCh4 ρ g' c y)
def kCh2 (g g' : D → D → Store → Res D) (c : M D) (x y : D) (S : Store) : Res D := (g x y S).bind (kCh3 ρ g' c y)
def kCh (g g' : D → D → Store → Res D) (b c : M D) (x : D) (S : Store) : Res D := (b ρ S).bind (kCh2 ρ g g' c x)
def kSl2 (g : D → Option Int → Option Int → Store → Res D) (h : M (Option Int)) (x : D) (lo : Option Int) (S : Store) : Res D := (h ρ S).bind (g x lo)
def kSl (g : D → Option Int → Option Int → Store → Res D) (l h : M (Option Int)) (x : D) (S : Store) : Res D := (l ρ S).bind (kSl2 ρ g h x)
def kMt (t : String) (g : D → List D → Store → Res D) (a : M (List D)) (x : D) (S : Store) : Res D := if tyD t S x = true then (a ρ S).bind (g x) else .stk
noncomputable def kComp (p : Pt) (t : M Bool) (e : M D) (vs : List Nat) (mk : List D → Store → Res D) (it : Itb) (S : Store) : Res D := (compL it p t e (wipeD ρ vs) it.xs 0 S).bind mk
def kSet (n : Nat) (d : D) (S : Store) : Out := .nx (ρ.set n (some d)) S
def kAsg (p : Pt) (d : D) (S : Store) : Out := pO (p d ρ) S
def kExpr (_ : D) (S : Store) : Out := .nx ρ S
def kIf (a b : MS) (k : Bool) (S : Store) : Out := if k = true then a ρ S else b ρ S
def kAug2 (n : Nat) (g : D → D → Store → Res D) (x y : D) (S : Store) : Out := sB (g x y S) ρ (kSet ρ n)
def kAug (n : Nat) (g : D → D → Store → Res D) (m : M D) (S : Store) (x : D) : Out := sB (m ρ S) ρ (kAug2 ρ n g x)
def kPut3 (v x y : D) (S : Store) : Out := qO (putD x y v S) ρ
def kPut2 (i : M D) (v x : D) (S : Store) : Out := sB (i ρ S) ρ (kPut3 ρ v x)
def kPut (o i : M D) (v : D) (S : Store) : Out := sB (o ρ S) ρ (kPut2 ρ i v)
noncomputable def kFor (p : Pt) (b : MS) (it : Itb) (S : Store) : Out := forL it p b it.xs ρ S
def kWh (c : M Bool) (b : MS) (n : Nat) (k : Bool) (S : Store) : Out := if k = true then fB (b ρ S) (whileF c b n) else .nx ρ S
def kCp3 (x : D) (xs : List D) (S : Store) : Res (List D) := .ok (x :: xs) S
noncomputable def kCp2 (it : Itb) (p : Pt) (t : M Bool) (e : M D) (ds : List D) (n : Nat) (x : D) (S : Store) : Res (List D) := if n < sizeLine then (compL it p t e ρ ds (n + 1) S).bind (kCp3 x) else .stk
noncomputable def kCp (it : Itb) (p : Pt) (t : M Bool) (e : M D) (ds : List D) (n : Nat) (ρ1 : Sl) (k : Bool) (S : Store) : Res (List D) := if k = true then (e ρ1 S).nox.bind (kCp2 ρ it p t e ds n) else compL it p t e ρ ds n S
end
def rtO (d : D) (S : Store) : Out := .rt d S
section
variable {α β : Type} {ρ : Sl} {S S1 : Store} {d x y z : D} {ds es : List D} {i j : Int} {n : Nat}
@[simp] theorem oB_nx {f : Sl → Store → Out} : oB (.nx ρ S) f = f ρ S := nrfl rfl
@[simp] theorem oB_rt {f : Sl → Store → Out} : oB (.rt d S) f = .rt d S := nrfl rfl
@[simp] theorem oB_bk {f : Sl → Store → Out} : oB (.bk ρ S) f = .bk ρ S := nrfl rfl
@[simp] theorem oB_ct {f : Sl → Store → Out} : oB (.ct ρ S) f = .ct ρ S := nrfl rfl
@[simp] theorem oB_exc {f : Sl → Store → Out} {x : Exc} : oB (.exc x ρ S) f = .exc x ρ S := nrfl rfl
@[simp] theorem oB_stk {f : Sl → Store → Out} : oB .stk f = .stk := nrfl rfl
@[simp] theorem fB_nx {f : Sl → Store → Out} : fB (.nx ρ S) f = f ρ S := nrfl rfl
@[simp] theorem fB_ct {f : Sl → Store → Out} : fB (.ct ρ S) f = f ρ S := nrfl rfl
@[simp] theorem fB_bk {f : Sl → Store → Out} : fB (.bk ρ S) f = .nx ρ S := nrfl rfl
@[simp] theorem fB_rt {f : Sl → Store → Out} : fB (.rt d S) f = .rt d S := nrfl rfl
@[simp] theorem fB_exc {f : Sl → Store → Out} {x : Exc} : fB (.exc x ρ S) f = .exc x ρ S := nrfl rfl
@[simp] theorem fB_stk {f : Sl → Store → Out} : fB .stk f = .stk := nrfl rfl
@[simp] theorem rB_nx : rB (.nx ρ S) = .ok .non S := nrfl rfl
@[simp] theorem rB_rt : rB (.rt d S) = .ok d S := nrfl rfl
@[simp] theorem rB_exc {x : Exc} : rB (.exc x ρ S) = .exc x S := nrfl rfl
@[simp] theorem rB_stk : rB .stk = .stk := nrfl rfl
@[simp] theorem vO_some : vO (some (some d)) S = .ok d S := nrfl rfl
@[simp] theorem pO_some : pO (some ρ) S = .nx ρ S := nrfl rfl
@[simp] theorem qO_some : qO (some S) ρ = .nx ρ S := nrfl rfl
@[simp] theorem gO_some {f : D → Out} : gO (some (some d)) f = f d := nrfl rfl
@[simp] theorem prO_int : prO (.int i) S = .ok (some i) S := nrfl rfl
@[simp] theorem rtO_eq : rtO d S = .rt d S := nrfl rfl
@[simp] theorem e_var : mVar n ρ S = vO ρ[n]? S := by
  unfold mVar vO
  rfl
@[simp] theorem e_c : mC d ρ S = .ok d S := nrfl rfl
@[simp] theorem e_op {g : D → D → Store → Res D} {a b : M D} : mOp g a b ρ S = (a ρ S).bind (kOp ρ g b) := nrfl rfl
@[simp] theorem e_op2 {g : D → D → Store → Res D} {b : M D} : kOp ρ g b x S = (b ρ S).bind (g x) := nrfl rfl
@[simp] theorem e_un {g : D → Store → Res D} {a : M D} : mUn g a ρ S = (a ρ S).bind g := nrfl rfl
@[simp] theorem e_nil : mNil ρ S = .ok [] S := nrfl rfl
@[simp] theorem e_cons {a : M D} {b : M (List D)} : mCons a b ρ S = (a ρ S).bind (kCons ρ b) := nrfl rfl
@[simp] theorem e_cons2 {b : M (List D)} : kCons ρ b x S = (b ρ S).bind (kC x) := nrfl rfl
@[simp] theorem e_cons3 : kC x ds S = .ok (x :: ds) S := nrfl rfl
@[simp] theorem e_fn {g : List D → Store → Res D} {a : M (List D)} : mFn g a ρ S = (a ρ S).bind g := nrfl rfl
@[simp] theorem e_ite {c : M Bool} {a b : M D} : mIte c a b ρ S = (c ρ S).bind (kIte ρ a b) := nrfl rfl
@[simp] theorem e_ite2 {a b : M D} {k : Bool} : kIte ρ a b k S = if k = true then a ρ S else b ρ S := nrfl rfl
@[simp] theorem e_asB {b : Bool} : asB (.bl b) S = .ok b S := nrfl rfl
@[simp] theorem e_test {a : M D} : mTest a ρ S = (a ρ S).bind asB := nrfl rfl
@[simp] theorem e_tru {a : M D} : mTru a ρ S = (a ρ S).bind truD := nrfl rfl
@[simp] theorem e_and {a b : M Bool} : mAnd a b ρ S = (a ρ S).bind (kAnd ρ b) := nrfl rfl
@[simp] theorem e_and2 {b : M Bool} {k : Bool} : kAnd ρ b k S = if k = true then b ρ S else .ok false S := nrfl rfl
@[simp] theorem e_or {a b : M Bool} : mOr a b ρ S = (a ρ S).bind (kOr ρ b) := nrfl rfl
@[simp] theorem e_or2 {b : M Bool} {k : Bool} : kOr ρ b k S = if k = true then .ok true S else b ρ S := nrfl rfl
@[simp] theorem e_not {a : M Bool} : mNot a ρ S = (a ρ S).bind kNot := nrfl rfl
@[simp] theorem e_not2 {k : Bool} : kNot k S = .ok (!k) S := nrfl rfl
@[simp] theorem e_andV {a b : M D} : mAndV a b ρ S = (a ρ S).bind (kAndV ρ b) := nrfl rfl
@[simp] theorem e_andV2 {b : M D} : kAndV ρ b x S = (truD x S).bind (kAndV2 ρ b x) := nrfl rfl
@[simp] theorem e_andV3 {b : M D} {k : Bool} : kAndV2 ρ b x k S = if k = true then b ρ S else .ok x S := nrfl rfl
@[simp] theorem e_orV {a b : M D} : mOrV a b ρ S = (a ρ S).bind (kOrV ρ b) := nrfl rfl
@[simp] theorem e_orV2 {b : M D} : kOrV ρ b x S = (truD x S).bind (kOrV2 ρ b x) := nrfl rfl
@[simp] theorem e_orV3 {b : M D} {k : Bool} : kOrV2 ρ b x k S = if k = true then .ok x S else b ρ S := nrfl rfl
@[simp] theorem e_notV {a : M D} : mNotV a ρ S = (a ρ S).bind kNotV := nrfl rfl
@[simp] theorem e_notV2 : kNotV x S = (truD x S).bind kNotV2 := nrfl rfl
@[simp] theorem e_notV3 {k : Bool} : kNotV2 k S = .ok (.bl (!k)) S := nrfl rfl
@[simp] theorem e_chain {g g' : D → D → Store → Res D} {a b c : M D} : mChain g g' a b c ρ S = (a ρ S).bind (kCh ρ g g' b c) := nrfl rfl
@[simp] theorem e_chain2 {g g' : D → D → Store → Res D} {b c : M D} : kCh ρ g g' b c x S = (b ρ S).bind (kCh2 ρ g g' c x) := nrfl rfl
@[simp] theorem e_chain3 {g g' : D → D → Store → Res D} {c : M D} : kCh2 ρ g g' c x y S = (g x y S).bind (kCh3 ρ g' c y) := nrfl rfl
@[simp] theorem e_chain4 {g' : D → D → Store → Res D} {c : M D} : kCh3 ρ g' c y z S = (asB z S).bind (kCh4 ρ g' c y) := nrfl rfl
@[simp] theorem e_chain5 {g' : D → D → Store → Res D} {c : M D} {k : Bool} : kCh4 ρ g' c y k S = if k = true then (c ρ S).bind (g' y) else .ok (.bl false) S := nrfl rfl
@[simp] theorem e_noPart : mNoPart ρ S = .ok none S := nrfl rfl
@[simp] theorem e_part {a : M D} : mPart a ρ S = (a ρ S).bind prO := by
  unfold mPart
  rfl
@[simp] theorem e_sl {g : D → Option Int → Option Int → Store → Res D} {a : M D} {l h : M (Option Int)} : mSl g a l h ρ S = (a ρ S).bind (kSl ρ g l h) := nrfl rfl
@[simp] theorem e_sl2 {g : D → Option Int → Option Int → Store → Res D} {l h : M (Option Int)} : kSl ρ g l h x S = (l ρ S).bind (kSl2 ρ g h x) := nrfl rfl
@[simp] theorem e_sl3 {g : D → Option Int → Option Int → Store → Res D} {h : M (Option Int)} {lo : Option Int} : kSl2 ρ g h x lo S = (h ρ S).bind (g x lo) := nrfl rfl
@[simp] theorem e_mt {t : String} {g : D → List D → Store → Res D} {o : M D} {a : M (List D)} : mMt t g o a ρ S = (o ρ S).bind (kMt ρ t g a) := nrfl rfl
@[simp] theorem e_mt2 {t : String} {g : D → List D → Store → Res D} {a : M (List D)} : kMt ρ t g a x S = if tyD t S x = true then (a ρ S).bind (g x) else .stk := nrfl rfl
@[simp] theorem e_rng {f : List D → Store → Res Itb} {m : M (List D)} : mRng f m ρ S = (m ρ S).bind f := nrfl rfl
@[simp] theorem e_it {m : M D} : mIt m ρ S = (m ρ S).bind itD := nrfl rfl
@[simp] theorem e_yes : mYes ρ S = .ok true S := nrfl rfl
@[simp] theorem e_stk : mStk ρ S = .stk := nrfl rfl
@[simp] theorem e_comp {m : M Itb} {p : Pt} {t : M Bool} {e : M D} {vs : List Nat} {mk : List D → Store → Res D} : mComp m p t e vs mk ρ S = (m ρ S).bind (kComp ρ p t e vs mk) := nrfl rfl
@[simp] theorem e_comp2 {p : Pt} {t : M Bool} {e : M D} {vs : List Nat} {mk : List D → Store → Res D} {it : Itb} : kComp ρ p t e vs mk it S = (compL it p t e (wipeD ρ vs) it.xs 0 S).bind mk := nrfl rfl
@[simp] theorem e_ar {g : List D → Store → Res D} : ar n g ds S = if ds.length = n then g ds S else .stk := nrfl rfl
theorem run_eq {m : MS} : runB n m ds S = rB (m (startD n ds) S) := by
  unfold runB rB
  rfl
@[simp] theorem e_frz : frzD ds S = .ok (.lst ds) S := nrfl rfl
@[simp] theorem e_lv : lvD ds S = .ok (.ref S.length) (S ++ [.lst ds]) := nrfl rfl
/-! statements -/
@[simp] theorem x_pass : sPass ρ S = .nx ρ S := nrfl rfl
@[simp] theorem x_brk : sBrk ρ S = .bk ρ S := nrfl rfl
@[simp] theorem x_ct : sCt ρ S = .ct ρ S := nrfl rfl
@[simp] theorem x_stk : sStk ρ S = .stk := nrfl rfl
@[simp] theorem x_set {m : M D} : sSet n m ρ S = sB (m ρ S) ρ (kSet ρ n) := nrfl rfl
@[simp] theorem x_set2 : kSet ρ n d S = .nx (ρ.set n (some d)) S := nrfl rfl
@[simp] theorem x_asg {p : Pt} {m : M D} : sAsg p m ρ S = sB (m ρ S) ρ (kAsg ρ p) := by
  unfold sAsg
  rfl
@[simp] theorem x_asg2 {p : Pt} : kAsg ρ p d S = pO (p d ρ) S := nrfl rfl
@[simp] theorem x_expr {m : M D} : sExpr m ρ S = sB (m ρ S) ρ (kExpr ρ) := nrfl rfl
@[simp] theorem x_expr2 : kExpr ρ d S = .nx ρ S := nrfl rfl
@[simp] theorem x_ret {m : M D} : sRet m ρ S = sB (m ρ S) ρ rtO := nrfl rfl
@[simp] theorem x_retN : sRetN ρ S = .rt .non S := nrfl rfl
@[simp] theorem x_if {c : M Bool} {a b : MS} : sIf c a b ρ S = sB (c ρ S) ρ (kIf ρ a b) := nrfl rfl
@[simp] theorem x_if2 {a b : MS} {k : Bool} : kIf ρ a b k S = if k = true then a ρ S else b ρ S := nrfl rfl
@[simp] theorem x_seq {a b : MS} : sSeq a b ρ S = oB (a ρ S) b := by
  unfold sSeq oB
  rfl
@[simp] theorem x_aug {g : D → D → Store → Res D} {m : M D} : sAug n g m ρ S = gO ρ[n]? (kAug ρ n g m S) := by
  unfold sAug gO
  rfl
@[simp] theorem x_aug2 {g : D → D → Store → Res D} {m : M D} : kAug ρ n g m S x = sB (m ρ S) ρ (kAug2 ρ n g x) := nrfl rfl
@[simp] theorem x_aug3 {g : D → D → Store → Res D} : kAug2 ρ n g x y S = sB (g x y S) ρ (kSet ρ n) := nrfl rfl
@[simp] theorem x_put {o i e : M D} : sPut o i e ρ S = sB (e ρ S) ρ (kPut ρ o i) := by
  unfold sPut
  rfl
@[simp] theorem x_put2 {o i : M D} : kPut ρ o i d S = sB (o ρ S) ρ (kPut2 ρ i d) := nrfl rfl
@[simp] theorem x_put3 {i : M D} : kPut2 ρ i d x S = sB (i ρ S) ρ (kPut3 ρ d x) := nrfl rfl
@[simp] theorem x_put4 : kPut3 ρ d x y S = qO (putD x y d S) ρ := nrfl rfl
@[simp] theorem x_for {m : M Itb} {p : Pt} {b : MS} : sFor m p b ρ S = sB (m ρ S) ρ (kFor ρ p b) := nrfl rfl
@[simp] theorem x_for2 {p : Pt} {b : MS} {it : Itb} : kFor ρ p b it S = forL it p b it.xs ρ S := nrfl rfl
theorem x_wh {c : M Bool} {b : MS} : whileF c b (n + 1) ρ S = sB (c ρ S) ρ (kWh ρ c b n) := nrfl rfl
@[simp] theorem x_wh2 {c : M Bool} {b : MS} {k : Bool} : kWh ρ c b n k S = if k = true then fB (b ρ S) (whileF c b n) else .nx ρ S := nrfl rfl
@[simp] theorem p_n : ptN n d ρ = some (ρ.set n (some d)) := nrfl rfl
@[simp] theorem p_t {p : List D → Sl → Option Sl} : ptT p (.tup ds) ρ = p ds ρ := nrfl rfl
@[simp] theorem p_nil : psN [] ρ = some ρ := nrfl rfl
@[simp] theorem p_cons {p : Pt} {q : List D → Sl → Option Sl} : psC p q (d :: ds) ρ = (p d ρ).bind (q ds) := by
  show (match p d ρ with | some ρ' => q ds ρ' | none => none) = _
  cases p d ρ <;> rfl
theorem for_nilG {it : Itb} {p : Pt} {b : MS} (hg : Grd it S) : forL it p b [] ρ S = .nx ρ S := by
  unfold forL
  exact if_pos hg
theorem for_consG {it : Itb} {p : Pt} {b : MS} {ρ1 : Sl} (hg : Grd it S) (h : p d ρ = some ρ1) : forL it p b (d :: ds) ρ S = fB (b ρ1 S) (forL it p b ds) := by
  rw [forL.eq_2, if_pos hg, h]
  unfold fB
  rfl
/-- a loop that changes slots alone -/
theorem for_all {it : Itb} {p : Pt} {b : MS} (hg : Grd it S) (Q : Sl → Prop) : ∀ (ds : List D) (ρ : Sl), (∀ d ∈ ds, ∀ ρ, Q ρ → ∃ ρ1 ρ2, p d ρ = some ρ1 ∧ (b ρ1 S = .nx ρ2 S ∨ b ρ1 S = .ct ρ2 S) ∧ Q ρ2) → Q ρ → ∃ ρ', forL it p b ds ρ S = .nx ρ' S ∧ Q ρ' := by
  intro ds
  induction ds with
  | nil => intro ρ _ q; exact ⟨ρ, for_nilG hg, q⟩
  | cons d ds ih =>
    intro ρ h q
    obtain ⟨ρ1, ρ2, hp, hb, q2⟩ := h d (by simp) ρ q
    obtain ⟨ρ3, e3, q3⟩ := ih ρ2 (fun d hd => h d (by simp [hd])) q2
    refine ⟨ρ3, ?_, q3⟩
    rw [for_consG hg hp]
    rcases hb with hb | hb <;> rw [hb]
    · rw [fB_nx, e3]
    · rw [fB_ct, e3]
theorem for_nil {xs : List D} {p : Pt} {b : MS} : forL ⟨xs, none⟩ p b [] ρ S = .nx ρ S := by
  unfold forL
  exact if_pos trivial
theorem for_cons {xs : List D} {p : Pt} {b : MS} {ρ1 : Sl} (h : p d ρ = some ρ1) : forL ⟨xs, none⟩ p b (d :: ds) ρ S = fB (b ρ1 S) (forL ⟨xs, none⟩ p b ds) := by
  rw [forL.eq_2, if_pos (show Grd ⟨xs, none⟩ S from trivial), h]
  unfold fB
  rfl
theorem comp_nil {xs : List D} {p : Pt} {t : M Bool} {e : M D} : compL ⟨xs, none⟩ p t e ρ [] n S = .ok [] S := by
  unfold compL
  exact if_pos trivial
theorem comp_cons {xs : List D} {p : Pt} {t : M Bool} {e : M D} {ρ1 : Sl} (h : p d ρ = some ρ1) : compL ⟨xs, none⟩ p t e ρ (d :: ds) n S = (t ρ1 S).nox.bind (kCp ρ ⟨xs, none⟩ p t e ds n ρ1) := by
  rw [compL.eq_2, if_pos (show Grd ⟨xs, none⟩ S from trivial), h]
  rfl
@[simp] theorem c_cp {it : Itb} {p : Pt} {t : M Bool} {e : M D} {ρ1 : Sl} {k : Bool} : kCp ρ it p t e ds n ρ1 k S = if k = true then (e ρ1 S).nox.bind (kCp2 ρ it p t e ds n) else compL it p t e ρ ds n S := nrfl rfl
@[simp] theorem c_cp2 {it : Itb} {p : Pt} {t : M Bool} {e : M D} : kCp2 ρ it p t e ds n x S = if n < sizeLine then (compL it p t e ρ ds (n + 1) S).bind (kCp3 x) else .stk := nrfl rfl
@[simp] theorem c_cp3 : kCp3 x ds S = .ok (x :: ds) S := nrfl rfl
/-! values -/
@[simp] theorem r_some : ofO (some d) S = .ok d S := nrfl rfl
@[simp] theorem r_bl {b : Bool} : ofB (some b) S = .ok (.bl b) S := nrfl rfl
@[simp] theorem v_ls : lsOf S (.lst ds) = some ds := nrfl rfl
@[simp] theorem v_sq : sqOf S (.tup ds) = some ds := nrfl rfl
@[simp] theorem v_sq' : sqOf S (.lst ds) = some ds := nrfl rfl
@[simp] theorem v_add : addD (.int i) (.int j) S = .ok (.int (i + j)) S := nrfl rfl
@[simp] theorem v_addS {a b : Str} : addD (.str a) (.str b) S = if a.length + b.length ≤ sizeLine then .ok (.str (a ++ b)) S else .stk := nrfl rfl
@[simp] theorem v_addT : addD (.tup ds) (.tup es) S = if ds.length + es.length ≤ sizeLine then .ok (.tup (ds ++ es)) S else .stk := nrfl rfl
@[simp] theorem v_addL : addD (.lst ds) (.lst es) S = if ds.length + es.length ≤ sizeLine then .ok (.lst (ds ++ es)) S else .stk := nrfl rfl
@[simp] theorem v_addI : addI (.int i) (.int j) S = .ok (.int (i + j)) S := nrfl rfl
@[simp] theorem v_sub : subD (.int i) (.int j) S = .ok (.int (i - j)) S := nrfl rfl
@[simp] theorem v_mul : mulD (.int i) (.int j) S = if (sm64 i || sm64 j) = true then .ok (.int (i * j)) S else .stk := nrfl rfl
@[simp] theorem v_mulL : mulD (.lst ds) (.int j) S = if 0 ≤ j ∧ smR j = true ∧ ds.length * j.toNat ≤ sizeLine then .ok (.lst (List.replicate j.toNat ds).flatten) S else .stk := nrfl rfl
@[simp] theorem v_fdiv : fdivD (.int i) (.int j) S = if 0 < j ∧ j.natAbs.log2 < 9000 then .ok (.int (i / j)) S else .stk := nrfl rfl
@[simp] theorem v_mod : modD (.int i) (.int j) S = if 0 < j then .ok (.int (i % j)) S else .stk := nrfl rfl
@[simp] theorem v_pow : powD (.int i) (.int j) S = if 0 ≤ j ∧ j ≤ 1000000 ∧ i.natAbs < 2 ^ 64 then .ok (.int (i ^ j.toNat)) S else .stk := nrfl rfl
@[simp] theorem v_neg : negD (.int i) S = .ok (.int (-i)) S := nrfl rfl
@[simp] theorem v_eq : eqD x y S = ofB (eqB S x y) S := nrfl rfl
@[simp] theorem v_ne : neD x y S = ofB ((eqB S x y).map not) S := nrfl rfl
@[simp] theorem q_int : eqB S (.int i) (.int j) = some (decide (i = j)) := by
  show some (decide (V.int i = V.int j)) = _
  simp
@[simp] theorem q_str {a b : Str} : eqB S (.str a) (.str b) = some (decide (a = b)) := by
  show some (decide (V.str a = V.str b)) = _
  simp
@[simp] theorem q_bl {a b : Bool} : eqB S (.bl a) (.bl b) = some (decide (a = b)) := by
  show some (decide (V.bl a = V.bl b)) = _
  simp
@[simp] theorem q_nn : eqB S .non .non = some true := nrfl rfl
@[simp] theorem q_ni : eqB S .non (.int i) = some false := nrfl rfl
@[simp] theorem q_in : eqB S (.int i) .non = some false := nrfl rfl
@[simp] theorem q_ns {a : Str} : eqB S .non (.str a) = some false := nrfl rfl
@[simp] theorem q_sn {a : Str} : eqB S (.str a) .non = some false := nrfl rfl
@[simp] theorem v_lt : ltD (.int i) (.int j) S = .ok (.bl (decide (i < j))) S := nrfl rfl
@[simp] theorem v_ltS {a b : Str} : ltD (.str a) (.str b) S = .ok (.bl (decide (a.cps.toList < b.cps.toList))) S := nrfl rfl
@[simp] theorem v_le : leD (.int i) (.int j) S = .ok (.bl (decide (i ≤ j))) S := nrfl rfl
@[simp] theorem v_gt : gtD (.int i) (.int j) S = .ok (.bl (decide (j < i))) S := nrfl rfl
@[simp] theorem v_ge : geD (.int i) (.int j) S = .ok (.bl (decide (j ≤ i))) S := nrfl rfl
@[simp] theorem v_isN : isND x .non S = .ok (.bl (isNb x)) S := nrfl (by cases x <;> rfl)
@[simp] theorem v_isB {a b : Bool} : isND (.bl a) (.bl b) S = .ok (.bl (decide (a = b))) S := nrfl rfl
@[simp] theorem v_notB {a b : Bool} : notND (.bl a) (.bl b) S = .ok (.bl (!decide (a = b))) S := nrfl rfl
@[simp] theorem v_notN : notND x .non S = .ok (.bl (!isNb x)) S := nrfl (by cases x <;> rfl)
@[simp] theorem n_non : isNb .non = true := nrfl rfl
@[simp] theorem n_int : isNb (.int i) = false := nrfl rfl
@[simp] theorem n_str {a : Str} : isNb (.str a) = false := nrfl rfl
@[simp] theorem n_bl {a : Bool} : isNb (.bl a) = false := nrfl rfl
@[simp] theorem n_tup : isNb (.tup ds) = false := nrfl rfl
@[simp] theorem n_lst : isNb (.lst ds) = false := nrfl rfl
@[simp] theorem n_ref : isNb (.ref n) = false := nrfl rfl
@[simp] theorem t_bl' {b : Bool} : truD (.bl b) S = .ok b S := nrfl rfl
@[simp] theorem t_non' : truD .non S = .ok false S := nrfl rfl
@[simp] theorem t_int' : truD (.int i) S = .ok (i != 0) S := nrfl rfl
@[simp] theorem t_tup' : truD (.tup ds) S = .ok (!ds.isEmpty) S := nrfl rfl
@[simp] theorem t_lst' : truD (.lst ds) S = .ok (!ds.isEmpty) S := nrfl rfl
@[simp] theorem v_ix : ixD x y S = ofO (ixO S x y) S := nrfl rfl
@[simp] theorem i_tup : ixO S (.tup ds) (.int i) = atI ds i := nrfl rfl
@[simp] theorem i_lst : ixO S (.lst ds) (.int i) = atI ds i := nrfl rfl
@[simp] theorem i_scr {ns : List Int} : ixO S (.scr ns) (.int i) = (atI ns i).map D.int := nrfl rfl
@[simp] theorem i_str {a : Str} : ixO S (.str a) (.int i) = if a.length ≤ sizeLine then (atI a.cps.toList i).map (fun c => .str ⟨#[c]⟩) else none := nrfl rfl
/-- the store by its own names -/
def sg (S : Store) (n : Nat) : Option MO := S[n]?
def sp (S : Store) (n : Nat) (m : MO) : Store := S.set n m
@[simp] theorem sp_len {m : MO} : (sp S n m).length = S.length := List.length_set
@[simp] theorem sg_sp {m : MO} (h : n < S.length) : sg (sp S n m) n = some m := List.getElem?_set_self h
theorem sg_ne {m : MO} {k : Nat} (h : n ≠ k) : sg (sp S n m) k = sg S k := List.getElem?_set_ne h
@[simp] theorem sp_sp {m m' : MO} : sp (sp S n m) n m' = sp S n m' := List.set_set ..
theorem sg_lt {m : MO} (h : sg S n = some m) : n < S.length := (List.getElem?_eq_some_iff.mp h).1
def rI (o : Option MO) (i : Int) : Option D := match o with
  | some (.lst ds) => atI ds i
  | _ => none
@[simp] theorem rI_some : rI (some (.lst ds)) i = atI ds i := nrfl rfl
@[simp] theorem i_ref' : ixO S (.ref n) (.int i) = rI (sg S n) i := by
  show (match lsOf S (.ref n) with | some ds => atI ds i | none => none) = _
  unfold lsOf rI sg
  dsimp only
  cases S[n]? with
  | none => rfl
  | some mo => cases mo <;> rfl
def rP (o : Option MO) (n : Nat) (i : Int) (x : D) (S : Store) : Option Store := match o with
  | some (.lst ds) => (match ixN ds.length i with
    | some k => some (sp S n (.lst (ds.set k x)))
    | none => none)
  | _ => none
theorem rP_some {k : Nat} (hk : ixN ds.length i = some k) : rP (some (.lst ds)) n i x S = some (sp S n (.lst (ds.set k x))) := by
  unfold rP
  simp only [hk]
def tyO (t : String) (o : Option MO) : Bool := match o with
  | some (.lst _) => t == "list"
  | some (.dct _) => t == "dict"
  | _ => false
@[simp] theorem tyO_lst {t : String} : tyO t (some (.lst ds)) = (t == "list") := nrfl rfl
@[simp] theorem ty_ref {t : String} : tyD t S (.ref n) = tyO t (sg S n) := by
  unfold tyD tyO sg
  rfl
@[simp] theorem ty_str {t : String} {a : Str} : tyD t S (.str a) = (t == "str") := nrfl rfl
@[simp] theorem ty_lst {t : String} : tyD t S (.lst ds) = (t == "list") := nrfl rfl
def rA (o : Option MO) (n : Nat) (y : D) (S : Store) : Res D := match o with
  | some (.lst xs) => if xs.length < sizeLine then .ok .non (sp S n (.lst (xs ++ [y]))) else .stk
  | _ => .stk
@[simp] theorem rA_some {xs : List D} : rA (some (.lst xs)) n y S = if xs.length < sizeLine then .ok .non (sp S n (.lst (xs ++ [y]))) else .stk := nrfl rfl
@[simp] theorem app_ref : appD (.ref n) [y] S = rA (sg S n) n y S := by
  unfold appD rA sg sp
  rfl
def rW (o : Option MO) (n : Nat) (S : Store) : Res Itb := match o with
  | some (.lst xs) => .ok ⟨xs, some n⟩ S
  | _ => .stk
@[simp] theorem rW_some {xs : List D} : rW (some (.lst xs)) n S = .ok ⟨xs, some n⟩ S := nrfl rfl
@[simp] theorem w_ref' : itD (.ref n) S = rW (sg S n) n S := by
  unfold itD rW sg
  rfl
@[simp] theorem put_ref' : putD (.ref n) (.int i) x S = rP (sg S n) n i x S := by
  unfold putD rP sg sp
  rfl
theorem i_ref (h : S[n]? = some (.lst ds)) : ixO S (.ref n) (.int i) = atI ds i := by
  show (match lsOf S (.ref n) with | some ds => atI ds i | none => none) = _
  unfold lsOf
  simp only [h]
theorem put_ref (h : S[n]? = some (.lst ds)) {k : Nat} (hk : ixN ds.length i = some k) : putD (.ref n) (.int i) x S = some (S.set n (.lst (ds.set k x))) := by
  unfold putD
  simp only [h, hk]
@[simp] theorem v_sl {lo hi : Option Int} : slD (.tup ds) lo hi S = .ok (.tup (cutD ds lo hi)) S := nrfl rfl
@[simp] theorem v_len : lenD [x] S = ofO ((lenO S x).map fun n => .int n) S := nrfl rfl
@[simp] theorem l_tup : lenO S (.tup ds) = some ds.length := nrfl rfl
@[simp] theorem l_lst : lenO S (.lst ds) = some ds.length := nrfl rfl
@[simp] theorem l_scr {ns : List Int} : lenO S (.scr ns) = some ns.length := nrfl rfl
@[simp] theorem l_str {a : Str} : lenO S (.str a) = if a.length ≤ sizeLine then some a.length else none := nrfl rfl
theorem l_ref (h : S[n]? = some (.lst ds)) : lenO S (.ref n) = some ds.length := by
  show (match lsOf S (.ref n) with | some ds => some ds.length | none => none) = _
  unfold lsOf
  simp only [h]
@[simp] theorem v_int : intD [.int i] S = .ok (.int i) S := nrfl rfl
@[simp] theorem v_bool {b : Bool} : boolD [.bl b] S = .ok (.bl b) S := nrfl rfl
@[simp] theorem v_tupleL : tupleD [.lst ds] S = .ok (.tup ds) S := nrfl rfl
@[simp] theorem v_tupleT : tupleD [.tup ds] S = .ok (.tup ds) S := nrfl rfl
@[simp] theorem v_listL : listD [.lst ds] S = .ok (.lst ds) S := nrfl rfl
@[simp] theorem v_listT : listD [.tup ds] S = .ok (.lst ds) S := nrfl rfl
@[simp] theorem v_tupD : tupD ds S = if ds.length ≤ sizeLine then .ok (.tup ds) S else .stk := nrfl rfl
@[simp] theorem v_lstD : lstD ds S = if ds.length ≤ sizeLine then .ok (.lst ds) S else .stk := nrfl rfl
@[simp] theorem v_lstL : lstL ds S = if ds.length ≤ sizeLine then .ok (.ref S.length) (S ++ [.lst ds]) else .stk := nrfl rfl
@[simp] theorem w_tup : itD (.tup ds) S = .ok ⟨ds, none⟩ S := nrfl rfl
@[simp] theorem w_lst : itD (.lst ds) S = .ok ⟨ds, none⟩ S := nrfl rfl
theorem w_ref (h : S[n]? = some (.lst ds)) : itD (.ref n) S = .ok ⟨ds, some n⟩ S := by
  unfold itD
  simp only [h]
@[simp] theorem w_str {a : Str} : itD (.str a) S = .ok ⟨a.cps.toList.map fun c => .str ⟨#[c]⟩, none⟩ S := nrfl rfl
@[simp] theorem w_r1 : rng1 [.int i] S = if smR i = true then .ok ⟨(List.range i.toNat).map fun k => .int (k : Nat), none⟩ S else .stk := nrfl rfl
@[simp] theorem w_r2 : rng2 [.int i, .int j] S = if smR i = true ∧ smR j = true then .ok ⟨(List.range (j - i).toNat).map fun k => .int (i + (k : Nat)), none⟩ S else .stk := nrfl rfl
@[simp] theorem w_isi {f : Kd → Bool} : isiD f x S = ofB ((kd S x).map f) S := nrfl rfl
@[simp] theorem k_bl' {b : Bool} : kd S (.bl b) = some .bl := nrfl rfl
@[simp] theorem k_int' : kd S (.int i) = some .int := nrfl rfl
@[simp] theorem k_str' {a : Str} : kd S (.str a) = some .str := nrfl rfl
@[simp] theorem k_non' : kd S .non = some .non := nrfl rfl
@[simp] theorem k_tup' : kd S (.tup ds) = some .tup := nrfl rfl
@[simp] theorem k_lst' : kd S (.lst ds) = some .lst := nrfl rfl
end
end G
namespace G
open PySem L2
/-! ### texts: split, index; range with a step; a new dict; lists joined to a live one -/
theorem strs_rep {K : PySem.W.Frag} {cl : Str → Option Addr} {W : Wd} : ∀ ns : List Str, Reps K cl W (ns.map V.str) (ns.map D.str)
  | [] => .nil
  | n :: ns => .cons (.str n) (strs_rep ns)
def splitD (x : D) (ys : List D) (S : Store) : Res D := match x, ys with
  | .str a, [.str b] => if (b.length == 0) = false ∧ a.length + 2 ≤ sizeLine then .ok (.lst ((Txt.split a b).map D.str)) S else .stk
  | _, _ => .stk
theorem split_s {K : PySem.W.Frag} {cl : Str → Option Addr} : MtS K cl (fun x xs H Q => ∃ a b, x = .str a ∧ xs = [.str b] ∧ (b.length == 0) = false ∧ a.length + 2 ≤ sizeLine ∧ rNewStrs (Txt.split a b) H Q) splitD := by
  intro W H S x a y b Q E r rx ry p
  unfold splitD at p
  split at p
  · cases rx
    cases ry with | cons ry rn =>
    cases rn; cases ry
    split at p
    · rename_i hz
      exact ⟨_, _, rfl, rfl, hz.1, hz.2, newL r (strs_rep _) p⟩
    · exact p.elim
  · exact p.elim
def indexD (x : D) (ys : List D) (S : Store) : Res D := match x, ys with
  | .str a, [.str b] => (match Builtin.Str.occurrences a b 0 a.length 1 with
    | i :: _ => .ok (.int (i : Nat)) S
    | [] => .stk)
  | _, _ => .stk
theorem index_s {K : PySem.W.Frag} {cl : Str → Option Addr} : MtS K cl (fun x xs H Q => ∃ a b i rest, x = .str a ∧ xs = [.str b] ∧ Builtin.Str.occurrences a b 0 a.length 1 = i :: rest ∧ Q (.int (i : Nat)) H) indexD := by
  intro W H S x a y b Q E r rx ry p
  unfold indexD at p
  split at p
  · cases rx
    cases ry with | cons ry rn =>
    cases rn; cases ry
    split at p
    · rename_i e
      exact ⟨_, _, _, _, rfl, rfl, e, p.now r (.int _)⟩
    · exact p.elim
  · exact p.elim
section
variable {X : Cx} {tg : Expr} {cl : Str → Option Addr} {E : WX}
def rng3 (as : List D) (S : Store) : Res Itb := match as with
  | [.int a, .int n, .int c] => if c = -1 ∧ smR a = true ∧ smR n = true then .ok ⟨(List.range (a - n).toNat).map fun i => .int (a - (i : Nat)), none⟩ S else .stk
  | _ => .stk
theorem its_rngC {K : PySem.W.Frag} {W0 : Wd} {lo c : Int} {n : Nat} {xs : List D} (hx : xs = (List.range n).map fun i => D.int (lo + (i : Nat) * c)) : ItS K cl W0 (Itc lo c n) ⟨xs, none⟩ := fun W H S l r g => by
  subst hx
  refine ⟨fun i d e => ?_, by show n ≤ _; simp⟩
  have e : ((List.range n).map fun i => D.int (lo + (i : Nat) * c))[i]? = some d := e
  rw [List.getElem?_map] at e
  cases q : (List.range n)[i]? with
  | none => rw [q] at e; cases e
  | some j =>
    rw [q] at e
    cases e
    have hi : i < n := by have := (List.getElem?_eq_some_iff.mp q).1; simpa using this
    have hj : j = i := by rw [List.getElem?_range hi] at q; exact (Option.some.inj q).symm
    subst hj
    refine ⟨hi, fun x H' ⟨eH, ex⟩ => ⟨W, .rf W, eH ▸ r, ?_⟩⟩
    rw [ex]
    exact .int _
theorem i_range3 {e e2 e3 : Expr} {ms : M (List D)} {p pos : Pos} (hm : X.mg "range" = none) (ha : PA X [e, e2, e3] (TL X.K cl E ms)) (hg : Gl X "range" := by rfl) (hs : starEach [e, e2, e3] X.env = (false, eval e X.env) :: starEach [e2, e3] X.env := by rfl)
    (hpl : (backTo pos (starEach [e2, e3] X.env)).any (·.1) = false := by rfl) : PI X tg (.Call (.Name "range" p) [e, e2, e3] [] pos) (TIt X.K cl E (mRng rng3 ms)) :=
  pi_imp (pi_range3 hg hm ha hs hpl) fun σ H Q ⟨W, ρ, S, hr, he, q⟩ => step hr he q fun W1 H1 x dx S1 l1 r1 e1 rx p1 => by
    unfold rng3 at p1
    split at p1
    · rename_i b n c
      cases rx with | cons ra rn =>
      cases rn with | cons rb rn =>
      cases rn with | cons rc rn =>
      cases rn; cases ra; cases rb; cases rc
      split at p1
      · rename_i hz
        obtain ⟨rfl, h1, h2⟩ := hz
        refine ⟨b, n, -1, _, rfl, RgC.neg (smR_of h1).1 (smR_of h1).2 (smR_of h2).1 (smR_of h2).2, p1.now r1 (its_rngC ?_)⟩
        congr 1
        funext i
        congr 1
        omega
      · exact p1.elim
    · exact p1.elim
theorem upd_twice {H : Hp} {a : Addr} {o u : HO} : upd (upd H a o) a u = upd H a u := by
  funext b
  by_cases hb : b = a
  · subst hb; rw [upd_same, upd_same]
  · rw [upd_ne hb, upd_ne hb, upd_ne hb]
/-- a new thing is locked for good -/
theorem pe_frzD {e : Expr} {t : TE} (h : PE X e t) : PE X e (fun σ H Q => t σ H fun x H1 => ∃ d u, x = .ref d ∧ H1 d = some u ∧ Mut (some u) ∧ ∀ od, Q x (upd H1 d (.frz od u))) :=
  ⟨fun pins s σ H Q I hw => thn (h.run pins s σ H _ I hw) fun v s1 ⟨x, H1, I1, r, d, u, _, hd, mu, q⟩ => let ⟨od, I2⟩ := I1.lock hd mu; ⟨x, _, I2, r, q od⟩⟩
theorem t_dict0 {pos : Pos} : PE X (.Dict [] [] pos) (T X.K cl E (mC (.dct []))) :=
  pe_imp (pe_frzD pe_dnewK) fun σ H Q ⟨W, ρ, S, hr, he, q⟩ p hp => ⟨p, .dK [], rfl, upd_same, True.intro, fun od => by
    rw [upd_twice]
    obtain ⟨r2, l2⟩ := hr.fz (o := .frz od (.dK [])) hp
    exact q _ _ _ l2 r2 (.dct upd_same .nil)⟩
end
/-! a tuple of the module -/
def absD : V → Option D
  | .non => some .non
  | .bl b => some (.bl b)
  | .int i => some (.int i)
  | .str s => some (.str s)
  | _ => none
theorem abs_rep {K : PySem.W.Frag} {cl : Str → Option Addr} {W : Wd} {v : V} {d : D} (h : absD v = some d) : Rep K cl W v d := by
  cases v <;> cases h <;> constructor
inductive AbsL : List Value → List D → Prop
  | nil : AbsL [] []
  | cons {u : Value} {d : D} {us : List Value} {ds : List D} : (∃ v, RelV v u ∧ absD v = some d) → AbsL us ds → AbsL (u :: us) (d :: ds)
theorem AbsL.get {K : PySem.W.Frag} {cl : Str → Option Addr} {W : Wd} : ∀ {us : List Value} {ds : List D}, AbsL us ds → ∃ vs, Vals vs us ∧ Reps K cl W vs ds
  | _, _, .nil => ⟨[], .nil, .nil⟩
  | _, _, .cons ⟨v, h1, h2⟩ t => let ⟨vs, q1, q2⟩ := t.get; ⟨v :: vs, .cons h1 q1, .cons (abs_rep h2) q2⟩
theorem AbsL.str {s : Str} {n : Tok} {us : List Value} {ds : List D} (t : AbsL us ds) : AbsL (.str s n :: us) (.str s :: ds) := .cons ⟨.str s, ⟨n, rfl⟩, rfl⟩ t

/-! ### a call that leaves no objects behind: what is answered is frozen, new objects are forgotten -/
mutual
def belD (n : Nat) : D → Bool
  | .tup xs => belL n xs
  | .lst xs => belL n xs
  | .dct xs => belK n xs
  | .ins _ xs => belF n xs
  | .exv _ xs => belF n xs
  | .ref m => decide (m < n)
  | _ => true
def belL (n : Nat) : List D → Bool
  | [] => true
  | d :: ds => belD n d && belL n ds
def belK (n : Nat) : List (Key × D) → Bool
  | [] => true
  | (_, d) :: ds => belD n d && belK n ds
def belF (n : Nat) : List (Str × D) → Bool
  | [] => true
  | (_, d) :: ds => belD n d && belF n ds
end
def belM (n : Nat) : MO → Bool
  | .lst xs => belL n xs
  | .dct xs => belK n xs
  | .ldc xs => belK n xs
  | .ins _ xs => belF n xs
  | .dead => true
def topF (n : Nat) (d : D) (S : Store) : D × Store := match d with
  | .ref m => if n ≤ m then (match S[m]? with
    | some (.lst xs) => (.lst xs, S.set m .dead)
    | _ => (.ref m, S)) else (.ref m, S)
  | d => (d, S)
def clE (n : Nat) (r : Res D) : Res D := match r with
  | .ok d S => if belD n (topF n d S).1 = true ∧ ((topF n d S).2.take n).all (belM n) = true then .ok (topF n d S).1 ((topF n d S).2.take n) else .stk
  | .exc x S => if belF n x.fs = true ∧ (S.take n).all (belM n) = true then .exc x (S.take n) else .stk
  | .stk => .stk
def cln (g : List D → Store → Res D) (ds : List D) (S : Store) : Res D := clE S.length (g ds S)
section
variable {K : PySem.W.Frag} {cl : Str → Option Addr} {W W' : Wd} {H : Hp} {S : Store} {n : Nat}
def Wd.cut (W : Wd) (n : Nat) : Wd := { W with n := n }
mutual
theorem Rep.cut : ∀ {v : V} {d : D}, Rep K cl W v d → belD n d = true → Rep K cl (W.cut n) v d
  | _, _, .non, _ => .non
  | _, _, .bl b, _ => .bl b
  | _, _, .int i, _ => .int i
  | _, _, .str x, _ => .str x
  | _, _, .tup h t, e => .tup h (Reps.cut t e)
  | _, _, .lst h t, e => .lst h (Reps.cut t e)
  | _, _, .scr h, _ => .scr h
  | _, _, .dct h t, e => .dct h (RepK.cut t e)
  | _, _, .ins h c t, e => .ins h c (RepF.cut t e)
  | _, _, .ref (n := m) h, e => .ref (W := W.cut n) (of_decide_eq_true e)
  | _, _, .exv0 h1 h2 h3 h4, _ => .exv0 h1 h2 h3 h4
  | _, _, .exv1 h1 h2 h3 h4 h5 h6 t, e => .exv1 h1 h2 h3 h4 h5 h6 (RepF.cut t e)
theorem Reps.cut : ∀ {v : List V} {d : List D}, Reps K cl W v d → belL n d = true → Reps K cl (W.cut n) v d
  | _, _, .nil, _ => .nil
  | _, _, .cons h t, e => .cons (Rep.cut h (Bool.and_eq_true_iff.mp e).1) (Reps.cut t (Bool.and_eq_true_iff.mp e).2)
theorem RepK.cut : ∀ {v : List (Key × V)} {d : List (Key × D)}, RepK K cl W v d → belK n d = true → RepK K cl (W.cut n) v d
  | _, _, .nil, _ => .nil
  | _, _, .cons h t, e => .cons (Rep.cut h (Bool.and_eq_true_iff.mp e).1) (RepK.cut t (Bool.and_eq_true_iff.mp e).2)
theorem RepF.cut : ∀ {v : List (Str × V)} {d : List (Str × D)}, RepF K cl W v d → belF n d = true → RepF K cl (W.cut n) v d
  | _, _, .nil, _ => .nil
  | _, _, .cons h t, e => .cons (Rep.cut h (Bool.and_eq_true_iff.mp e).1) (RepF.cut t (Bool.and_eq_true_iff.mp e).2)
end
theorem MRep.cut {a : Addr} {mo : MO} (h : MRep K cl W H a mo) (e : belM n mo = true) : MRep K cl (W.cut n) H a mo := by
  cases mo with
  | lst ds => obtain ⟨vs, h1, h2⟩ := h; exact ⟨vs, h1, h2.cut e⟩
  | dct ds => obtain ⟨vs, h1, h2⟩ := h; exact ⟨vs, h1, h2.cut e⟩
  | ldc ds => obtain ⟨o, vs, h1, h2⟩ := h; exact ⟨o, vs, h1, h2.cut e⟩
  | ins c ds => obtain ⟨C, dx, vs, h0, h1, h2⟩ := h; exact ⟨C, dx, vs, h0, h1, h2.cut e⟩
  | dead => trivial
theorem take_some {i : Nat} {mo : MO} (h : (S.take n)[i]? = some mo) : S[i]? = some mo := by
  rw [List.getElem?_take] at h
  split at h
  · exact h
  · cases h
theorem R.cut (r : R K cl W H S) (hn : n ≤ S.length) (hb : (S.take n).all (belM n) = true) : R K cl (W.cut n) H (S.take n) := by
  refine ⟨?_, r.sub, fun i mo h nd => ?_, fun i j m m' h h' nd nd' e => ?_, fun a o h => ?_⟩
  · show n = _
    rw [List.length_take]
    omega
  · obtain ⟨h1, h2⟩ := r.live i mo (take_some h) nd
    exact ⟨h1, h2.cut (List.all_eq_true.mp hb mo (List.mem_of_getElem? h))⟩
  · exact r.inj i j m m' (take_some h) (take_some h') nd nd' e
  · obtain ⟨h1, h2, h3⟩ := r.priv a o h
    exact ⟨h1, h2, fun i mo h nd => h3 i mo (take_some h) nd⟩
theorem Le.cut {W0 : Wd} (l : Le W0 W) : Le W0 (W.cut W0.n) := ⟨l.g, l.i, Nat.le_refl _, l.p⟩
theorem set_live {m i : Nat} {mo : MO} (h : (S.set m .dead)[i]? = some mo) (nd : mo ≠ .dead) : S[i]? = some mo ∧ i ≠ m := by
  by_cases e : m = i
  · subst e
    by_cases hm : m < S.length
    · rw [List.getElem?_set_self hm] at h
      exact absurd (Option.some.inj h).symm nd
    · rw [List.getElem?_eq_none (by simpa using hm)] at h
      cases h
  · rw [List.getElem?_set_ne e] at h
    exact ⟨h, fun q => e q.symm⟩
theorem R.kill (r : R K cl W H S) (m : Nat) : R K cl W H (S.set m .dead) := by
  refine ⟨by simpa using r.n, r.sub, fun i mo h nd => r.live i mo (set_live h nd).1 nd, fun i j m m' h h' nd nd' e => r.inj i j m m' (set_live h nd).1 (set_live h' nd').1 nd nd' e, fun a o h => ?_⟩
  obtain ⟨h1, h2, h3⟩ := r.priv a o h
  exact ⟨h1, h2, fun i mo h nd => h3 i mo (set_live h nd).1 nd⟩
theorem R.freeze {m : Nat} {xs : List D} (r : R K cl W H S) (e : S[m]? = some (.lst xs)) : ∃ W', Le W W' ∧ R K cl W' H (S.set m .dead) ∧ Rep K cl W' (.ref (W.ι m)) (.lst xs) := by
  have nd : MO.lst xs ≠ .dead := by intro z; cases z
  obtain ⟨g0, vs, h1, t⟩ := r.live m _ e nd
  refine ⟨W.fz (W.ι m) (.lst vs), Le.fz g0, (r.kill m).fzAt h1 g0 (fun i mo h ndi q => ?_) ?_, .lst upd_same (t.up (Le.fz g0))⟩
  · obtain ⟨h', hne⟩ := set_live h ndi
    exact hne (r.inj i m mo _ h' e ndi nd q)
  · cases q : W.P (W.ι m) with
    | none => rfl
    | some o => exact absurd rfl ((r.priv _ _ q).2.2 m _ e nd)
theorem top_ok {d : D} {v : V} (r : R K cl W H S) (rv : Rep K cl W v d) : ∃ W', Le W W' ∧ R K cl W' H (topF n d S).2 ∧ Rep K cl W' v (topF n d S).1 := by
  unfold topF
  split
  · rename_i m
    split
    · split
      · rename_i xs e
        cases rv
        exact r.freeze e
      · exact ⟨W, .rf W, r, rv⟩
    · exact ⟨W, .rf W, r, rv⟩
  · exact ⟨W, .rf W, r, rv⟩
theorem top_len {d : D} : (topF n d S).2.length = S.length := by
  unfold topF
  split
  · split
    · split
      · simp
      · rfl
    · rfl
  · rfl
theorem cln_post {g : List D → Store → Res D} {ds : List D} {Q : VK} {E : XK} (r : R K cl W H S) (p : Post K cl (Rep K cl) W (cln g ds S) Q E) : Post K cl (Rep K cl) W (g ds S) Q E := by
  unfold cln at p
  have en := r.n
  cases e : g ds S with
  | stk => rw [e] at p; exact p
  | ok d S1 =>
    rw [e] at p
    unfold clE at p
    dsimp only at p
    split at p
    · rename_i hz
      intro W1 H1 v l1 r1 rv
      obtain ⟨W2, l2, r2, rv2⟩ := top_ok (n := S.length) r1 rv
      have hl : S.length ≤ (topF S.length d S1).2.length := by
        rw [top_len, ← r1.n, ← en]
        exact l1.n
      have q := p (W2.cut S.length) H1 v (by rw [← en]; exact (l1.tr l2).cut) (r2.cut hl hz.2) (rv2.cut hz.1)
      exact q
    · exact p.elim
  | exc x S1 =>
    rw [e] at p
    unfold clE at p
    dsimp only at p
    split at p
    · rename_i hz
      intro W1 H1 c dd l1 r1 rx
      have hl : S.length ≤ S1.length := by
        rw [← r1.n, ← en]
        exact l1.n
      refine p (W1.cut S.length) H1 c dd (by rw [← en]; exact l1.cut) (r1.cut hl hz.2) ?_
      obtain ⟨C, q1, q2, q3⟩ := rx
      refine ⟨C, q1, q2, ?_⟩
      rcases q3 with q3 | ⟨a, vs, q3, q4, qn, q5⟩
      · exact .inl q3
      · exact .inr ⟨a, vs, q3, q4, qn, q5.cut hz.1⟩
    · exact p.elim
end
theorem spOf_cln {K : PySem.W.Frag} {cl : Str → Option Addr} {n : Nat} {g : List D → Store → Res D} {vs : List V} {H : Hp} {Q : VK} {E : XK} (h : spOf K cl n (cln g) vs H Q E) : spOf K cl n g vs H Q E := by
  obtain ⟨W, S, ds, r, t, p⟩ := h
  refine ⟨W, S, ds, r, t, ?_⟩
  unfold ar at p ⊢
  split at p
  · rename_i e
    rw [if_pos e]
    exact cln_post r p
  · exact p.elim
/-- lists joined to a live one -/
def addLv (a b : D) (S : Store) : Res D := match lsOf S a, lsOf S b with
  | some x, some y => if x.length + y.length ≤ sizeLine then .ok (.ref S.length) (S ++ [.lst (x ++ y)]) else .stk
  | _, _ => .stk
theorem addLv_s {K : PySem.W.Frag} {cl : Str → Option Addr} : OpS K cl (rAddA K) addLv := by
  intro W H S x y a b Q E r rx ry p
  unfold addLv at p
  cases e1 : lsOf S a with
  | none => rw [e1] at p; exact p.elim
  | some xs =>
    cases e2 : lsOf S b with
    | none => rw [e1, e2] at p; exact p.elim
    | some ys =>
      rw [e1, e2] at p
      dsimp only at p
      obtain ⟨l1, vs1, rfl, h1, t1⟩ := ls_of r rx e1
      obtain ⟨l2, vs2, rfl, h2, t2⟩ := ls_of r ry e2
      by_cases hz : xs.length + ys.length ≤ sizeLine
      · rw [if_pos hz] at p
        exact .inr (.inr (.inr ⟨_, _, _, _, rfl, rfl, h1, h2, by rw [t1.len, t2.len]; exact hz, newLv r (t1.app t2) p⟩))
      · rw [if_neg hz] at p
        exact p.elim
theorem glob_sc {K : PySem.W.Frag} {cl : Str → Option Addr} {mg : Str → Option Value} {x : Str} {u : Value} {d : D} (h : mg x = some u) (r : ∃ v, RelV v u ∧ absD v = some d) : GlobIs K cl mg x d := by
  obtain ⟨v, h1, h2⟩ := r
  exact ⟨u, v, h, h1, fun W => abs_rep h2⟩
theorem glob_tup {K : PySem.W.Frag} {cl : Str → Option Addr} {mg : Str → Option Value} {x : Str} {p : Addr} {od : Option Addr} {its : Array Value} {n : Nat} {sl : Array (Option Value)} {ds : List D} (h : mg x = some (.ref p))
    (hk : K.lookup p = some ⟨.type "tuple", od, .seq its n, sl⟩) (t : AbsL its.toList ds) (hz : its.size ≤ sizeLine) : GlobIs K cl mg x (.tup ds) := by
  refine ⟨_, .ref p, h, rfl, fun W => ?_⟩
  obtain ⟨vs, h1, h2⟩ := t.get (K := K) (cl := cl) (W := W)
  exact .tup (.inr ⟨_, its, n, hk, rfl, rfl, hz, h1⟩) h2
theorem fn_cln {P : Program} {w : World} {K : PySem.W.Frag} {mg : Str → Option Value} {base : Heap} {cl : Str → Option Addr} {k n : Nat} {f : Addr} {fd : FuncData} {ps : List Str} {g : List D → Store → Res D} (F : FnOk P w K mg base (L2.CX P w) k f fd ps (spOf K cl n g)) :
    FnOk P w K mg base (L2.CX P w) k f fd ps (spOf K cl n (cln g)) := F.imp fun _ _ _ _ h => spOf_cln h
end G
namespace G
open PySem L2
/-! ### plain helps -/
@[simp] theorem v_intB {k : Bool} {S : Store} : intD [.bl k] S = .ok (.int (if k = true then 1 else 0)) S := nrfl rfl
@[simp] theorem v_slL {ds : List D} {S : Store} {lo hi : Option Int} : slD (.lst ds) lo hi S = .ok (.lst (cutD ds lo hi)) S := nrfl rfl
@[simp] theorem v_slS {z : Str} {S : Store} {lo hi : Option Int} : slD (.str z) lo hi S = if z.length ≤ sizeLine then .ok (.str (cutS z lo hi)) S else .stk := nrfl rfl
@[simp] theorem v_slC {ns : List Int} {S : Store} {lo hi : Option Int} : slD (.scr ns) lo hi S = .ok (.lst (cutD (ns.map D.int) lo hi)) S := nrfl rfl
@[simp] theorem v_r3 {i j k : Int} {S : Store} : rng3 [.int i, .int j, .int k] S = if k = -1 ∧ smR i = true ∧ smR j = true then .ok ⟨(List.range (i - j).toNat).map fun k => .int (i - (k : Nat)), none⟩ S else .stk := nrfl rfl
@[simp] theorem v_leS {x y : Str} {S : Store} : leD (.str x) (.str y) S = .ok (.bl (!decide (y.cps.toList < x.cps.toList))) S := nrfl rfl
@[simp] theorem v_addLv {x y : List D} {S : Store} : addLv (.lst x) (.lst y) S = if x.length + y.length ≤ sizeLine then .ok (.ref S.length) (S ++ [.lst (x ++ y)]) else .stk := nrfl rfl
theorem sm_of {i : Int} (h0 : 0 ≤ i) (h1 : i < 4294967296) : sm64 i = true := by
  unfold sm64
  simp
  omega
theorem sm_mod {x : Int} (k : Int) (h0 : 0 < k) (h1 : k < 4294967296) : sm64 (x % k) = true := sm_of (Int.emod_nonneg _ (by omega)) (Int.lt_trans (Int.emod_lt_of_pos _ h0) h1)
theorem sz {n : Nat} (h : n ≤ 100000) : n ≤ sizeLine := Nat.le_trans h (by decide)
theorem szl {n : Nat} (h : n < 100000) : n < sizeLine := Nat.lt_of_lt_of_le h (by decide)
theorem atI_lt {α : Type} {xs : List α} {r : Int} (h0 : 0 ≤ r) (h1 : r < xs.length) : ∃ x, atI xs r = some x ∧ x ∈ xs := by
  obtain ⟨k, rfl⟩ := Int.eq_ofNat_of_zero_le h0
  have hk : k < xs.length := by omega
  exact ⟨xs[k], atI_nat (List.getElem?_eq_getElem hk), List.getElem_mem hk⟩
/-- the store but for the object at n is S0 -/
structure AtP (P : MO → Prop) (n : Nat) (S0 S : Store) : Prop where
  lt : n < S0.length
  ex : ∃ m, P m ∧ S = sp S0 n m
theorem AtP.get {P : MO → Prop} {n : Nat} {S0 S : Store} (h : AtP P n S0 S) : ∃ m, P m ∧ sg S n = some m := by
  obtain ⟨hl, m, hp, rfl⟩ := h
  exact ⟨m, hp, sg_sp hl⟩
theorem AtP.put {P : MO → Prop} {n : Nat} {S0 S : Store} {m : MO} (h : AtP P n S0 S) (hm : P m) : AtP P n S0 (sp S n m) := by
  obtain ⟨hl, m', hp, rfl⟩ := h
  exact ⟨hl, m, hm, by rw [sp_sp]⟩
theorem AtP.len {P : MO → Prop} {n : Nat} {S0 S : Store} (h : AtP P n S0 S) : S.length = S0.length := by
  obtain ⟨hl, m', hp, rfl⟩ := h
  exact sp_len
/-- a comprehension whose element goes on with the state -/
theorem comp_each {all : List D} {p : Pt} {e : M D} {ρ : Sl} (I : Store → Prop) (Q : D → Prop) : ∀ (xs : List D) (k : Nat) (S : Store),
    (∀ d ∈ xs, ∃ ρ1, p d ρ = some ρ1 ∧ ∀ S, I S → ∃ y S', e ρ1 S = .ok y S' ∧ I S' ∧ Q y) → I S → k + xs.length ≤ sizeLine →
    ∃ ys S', compL ⟨all, none⟩ p mYes e ρ xs k S = .ok ys S' ∧ ys.length = xs.length ∧ (∀ y ∈ ys, Q y) ∧ I S' := by
  intro xs
  induction xs with
  | nil => intro k S _ hI _; exact ⟨[], S, comp_nil, rfl, fun y h => (nomatch h), hI⟩
  | cons d xs ih =>
    intro k S h hI hk
    obtain ⟨ρ1, hp, he⟩ := h d (by simp)
    obtain ⟨y, S1, e1, I1, q1⟩ := he S hI
    rw [List.length_cons] at hk
    obtain ⟨ys, S2, e2, l2, q2, I2⟩ := ih (k + 1) S1 (fun d hd => h d (by simp [hd])) I1 (by omega)
    refine ⟨y :: ys, S2, ?_, by simp [l2], fun z hz => ?_, I2⟩
    · rw [comp_cons hp]
      have hk' : k < sizeLine := by omega
      simp [e1, hk', e2]
    · rcases List.mem_cons.mp hz with rfl | hz
      · exact q1
      · exact q2 z hz
/-- a comprehension of a plain function -/
theorem comp_fun {all : List D} {p : Pt} {e : M D} {ρ : Sl} {S : Store} (f : D → D) : ∀ (xs : List D) (k : Nat),
    (∀ d ∈ xs, ∃ ρ1, p d ρ = some ρ1 ∧ e ρ1 S = .ok (f d) S) → k + xs.length ≤ sizeLine →
    compL ⟨all, none⟩ p mYes e ρ xs k S = .ok (xs.map f) S := by
  intro xs
  induction xs with
  | nil => intro k _ _; exact comp_nil
  | cons d xs ih =>
    intro k h hk
    obtain ⟨ρ1, hp, he⟩ := h d (by simp)
    rw [List.length_cons] at hk
    have e2 := ih (k + 1) (fun d hd => h d (by simp [hd])) (by omega)
    rw [comp_cons hp]
    have hk' : k < sizeLine := by omega
    simp [he, hk', e2]
theorem comp_map {α : Type} {all : List D} {p : Pt} {e : M D} {ρ : Sl} {S : Store} (g f : α → D) : ∀ (xs : List α) (k : Nat),
    (∀ d ∈ xs, ∃ ρ1, p (g d) ρ = some ρ1 ∧ e ρ1 S = .ok (f d) S) → k + xs.length ≤ sizeLine →
    compL ⟨all, none⟩ p mYes e ρ (xs.map g) k S = .ok (xs.map f) S := by
  intro xs
  induction xs with
  | nil => intro k _ _; exact comp_nil
  | cons d xs ih =>
    intro k h hk
    obtain ⟨ρ1, hp, he⟩ := h d (by simp)
    rw [List.length_cons] at hk
    have e2 := ih (k + 1) (fun d hd => h d (by simp [hd])) (by omega)
    rw [List.map_cons, comp_cons hp]
    have hk' : k < sizeLine := by omega
    simp [he, hk', e2]
theorem bls_map {α : Type} (f : α → Bool) : ∀ l : List α, blsO (l.map fun x => .bl (f x)) = some (l.map f)
  | [] => rfl
  | x :: l => by
    rw [List.map_cons, List.map_cons]
    unfold blsO
    rw [bls_map f l]
    rfl
theorem all_bl {α : Type} {S : Store} (f : α → Bool) (l : List α) : allD [.lst (l.map fun x => .bl (f x))] S = .ok (.bl (l.all f)) S := by
  show ofO ((blsO (l.map fun x => .bl (f x))).map fun bs => D.bl (bs.all id)) S = _
  rw [bls_map]
  show Res.ok (D.bl ((l.map f).all id)) S = _
  rw [List.all_map]
  rfl
/-- a loop that goes through, with the state -/
theorem for_inv {all : List D} {p : Pt} {b : MS} (I : Sl → Store → Prop) : ∀ (ds : List D) (ρ : Sl) (S : Store),
    (∀ d ∈ ds, ∀ ρ S, I ρ S → ∃ ρ1 ρ2 S2, p d ρ = some ρ1 ∧ (b ρ1 S = .nx ρ2 S2 ∨ b ρ1 S = .ct ρ2 S2) ∧ I ρ2 S2) → I ρ S →
    ∃ ρ' S', forL ⟨all, none⟩ p b ds ρ S = .nx ρ' S' ∧ I ρ' S' := by
  intro ds
  induction ds with
  | nil => intro ρ S _ q; exact ⟨ρ, S, for_nil, q⟩
  | cons d ds ih =>
    intro ρ S h q
    obtain ⟨ρ1, ρ2, S2, hp, hb, q2⟩ := h d (by simp) ρ S q
    obtain ⟨ρ3, S3, e3, q3⟩ := ih ρ2 S2 (fun d hd => h d (by simp [hd])) q2
    refine ⟨ρ3, S3, ?_, q3⟩
    rw [for_cons hp]
    rcases hb with hb | hb <;> rw [hb]
    · rw [fB_nx, e3]
    · rw [fB_ct, e3]
/-- a loop that goes through, counted -/
theorem for_cnt {all : List D} {p : Pt} {b : MS} (N : Nat) (I : Nat → Sl → Store → Prop) : ∀ (ds : List D) (k : Nat) (ρ : Sl) (S : Store), k + ds.length ≤ N →
    (∀ k, k < N → ∀ d ∈ ds, ∀ ρ S, I k ρ S → ∃ ρ1 ρ2 S2, p d ρ = some ρ1 ∧ (b ρ1 S = .nx ρ2 S2 ∨ b ρ1 S = .ct ρ2 S2) ∧ I (k + 1) ρ2 S2) → I k ρ S →
    ∃ ρ' S', forL ⟨all, none⟩ p b ds ρ S = .nx ρ' S' ∧ I (k + ds.length) ρ' S' := by
  intro ds
  induction ds with
  | nil => intro k ρ S _ _ q; exact ⟨ρ, S, for_nil, q⟩
  | cons d ds ih =>
    intro k ρ S hN h q
    rw [List.length_cons] at hN
    obtain ⟨ρ1, ρ2, S2, hp, hb, q2⟩ := h k (by omega) d (by simp) ρ S q
    obtain ⟨ρ3, S3, e3, q3⟩ := ih (k + 1) ρ2 S2 (by omega) (fun k hk d hd => h k hk d (by simp [hd])) q2
    refine ⟨ρ3, S3, ?_, by rw [List.length_cons, Nat.add_comm ds.length 1, ← Nat.add_assoc]; exact q3⟩
    rw [for_cons hp]
    rcases hb with hb | hb <;> rw [hb]
    · rw [fB_nx, e3]
    · rw [fB_ct, e3]
/-- slices, lengths of a live list -/
def rSl (o : Option MO) (lo hi : Option Int) (S : Store) : Res D := match o with
  | some (.lst ds) => .ok (.lst (cutD ds lo hi)) S
  | _ => .stk
@[simp] theorem rSl_some {ds : List D} {lo hi : Option Int} {S : Store} : rSl (some (.lst ds)) lo hi S = .ok (.lst (cutD ds lo hi)) S := nrfl rfl
@[simp] theorem v_slR {n : Nat} {S : Store} {lo hi : Option Int} : slD (.ref n) lo hi S = rSl (sg S n) lo hi S := by
  show (match lsOf S (.ref n) with | some ds => Res.ok (D.lst (cutD ds lo hi)) S | none => Res.stk) = _
  unfold lsOf rSl sg
  dsimp only
  cases S[n]? with
  | none => rfl
  | some mo => cases mo <;> rfl
/-- calls that leave nothing behind -/
theorem cln_ok {g : List D → Store → Res D} {ds : List D} {S S' T : Store} {d d' : D} (e : g ds S = .ok d S') (h1 : topF S.length d S' = (d', T)) (h2 : belD S.length d' = true) (h3 : (T.take S.length).all (belM S.length) = true) :
    cln g ds S = .ok d' (T.take S.length) := by
  unfold cln clE
  rw [e]
  dsimp only
  rw [h1]
  exact if_pos ⟨h2, h3⟩
theorem topF_ref {n m : Nat} {S : Store} {xs : List D} (h : n ≤ m) (e : sg S m = some (.lst xs)) : topF n (.ref m) S = (.lst xs, sp S m .dead) := by
  unfold topF
  dsimp only
  rw [if_pos h, show S[m]? = some (.lst xs) from e]
  rfl
def Wf (S : Store) : Prop := S.all (belM S.length) = true
theorem take_sp {S : Store} {n k : Nat} {m : MO} : (sp S n m).take k = sp (S.take k) n m := List.take_set
theorem take_sp_ge {S : Store} {n k : Nat} {m : MO} (h : k ≤ n) : (sp S n m).take k = S.take k := List.take_set_of_le h
theorem Wf.sp {S : Store} {n : Nat} {m : MO} (h : Wf S) (hm : belM S.length m = true) : Wf (sp S n m) := by
  unfold Wf
  rw [sp_len]
  refine List.all_eq_true.mpr fun x hx => ?_
  rcases List.mem_or_eq_of_mem_set hx with hx | rfl
  · exact List.all_eq_true.mp h x hx
  · exact hm
theorem bel_strs {n : Nat} : ∀ l : List Str, belL n (l.map D.str) = true
  | [] => rfl
  | _ :: l => by
    show (true && belL n (l.map D.str)) = true
    rw [bel_strs l]
    rfl
/-! texts -/
def cs (t : Str) : List Nat := t.cps.toList
def ofC (l : List Nat) : Str := ⟨⟨l⟩⟩
theorem ofC_cs (t : Str) : ofC (cs t) = t := rfl
theorem cs_ofC (l : List Nat) : cs (ofC l) = l := rfl
theorem len_cs (t : Str) : t.length = (cs t).length := rfl
theorem cs_app (x y : Str) : cs (x ++ y) = cs x ++ cs y := by
  show (x.cps ++ y.cps).toList = _
  exact Array.toList_append
theorem str_eq {x y : Str} : x = y ↔ cs x = cs y := ⟨fun h => h ▸ rfl, fun h => by rw [← ofC_cs x, ← ofC_cs y, h]⟩
theorem join_ones (l : List Nat) : cs (Txt.join "" (l.map fun c => (⟨#[c]⟩ : Str))) = l := by
  show (Txt.join "" (l.map fun c => (⟨#[c]⟩ : Str))).cps.toList = l
  rw [TL.join_eq]
  have h := TL.tl_join ("" : Str) (l.map fun c => (⟨#[c]⟩ : Str))
  have e : (TL.tl ("" : Str)) = [] := rfl
  rw [e] at h
  refine h.trans ?_
  clear h e
  induction l with
  | nil => rfl
  | cons c l ih =>
    cases l with
    | nil => rfl
    | cons d l =>
      show [c] ++ ([] ++ TL.joinL [] (List.map TL.tl (List.map (fun c => (⟨#[c]⟩ : Str)) (d :: l)))) = _
      rw [ih]
      rfl
def OneIn (P : Nat → Prop) (d : D) : Prop := ∃ c : Nat, d = .str ⟨#[c]⟩ ∧ P c
theorem ones_sts {P : Nat → Prop} : ∀ {ys : List D}, (∀ y ∈ ys, OneIn P y) → ∃ l : List Nat, stsO ys = some (l.map fun c => (⟨#[c]⟩ : Str)) ∧ l.length = ys.length ∧ ∀ c ∈ l, P c
  | [], _ => ⟨[], rfl, rfl, fun c h => nomatch h⟩
  | y :: ys, h => by
    obtain ⟨c, rfl, hc⟩ := h y (by simp)
    obtain ⟨l, e, hl, hcs⟩ := ones_sts (ys := ys) fun z hz => h z (by simp [hz])
    refine ⟨c :: l, ?_, by simp [hl], fun d hd => ?_⟩
    · unfold stsO
      rw [e]
      rfl
    · rcases List.mem_cons.mp hd with rfl | hd
      · exact hc
      · exact hcs d hd
theorem ones_sum (l : List Nat) : (l.map ((fun x : Str => x.length) ∘ fun c => (⟨#[c]⟩ : Str))).sum = l.length := by
  induction l with
  | nil => rfl
  | cons c l ih => rw [List.map_cons, List.sum_cons, ih]; show 1 + _ = _; rw [List.length_cons]; omega
end G
namespace G
open PySem L2
/-! ### instances -/
def insO (S : Store) (d : D) : Option (Str × List (Str × D)) := match d with
  | .ref n => (match S[n]? with
    | some (.ins c fs) => some (c, fs)
    | _ => none)
  | .ins c fs => some (c, fs)
  | _ => none
section
variable {K : PySem.W.Frag} {cl : Str → Option Addr} {W : Wd} {H : Hp} {S : Store}
theorem ins_of {v : V} {d : D} {c : Str} {fs : List (Str × D)} (r : R K cl W H S) (h : Rep K cl W v d) (e : insO S d = some (c, fs)) : ∃ a C dx vs, v = .ref a ∧ cl c = some C ∧ H a = some (.ins C dx vs) ∧ RepF K cl W vs fs := by
  cases h with
  | ins g q t =>
    cases e
    exact ⟨_, _, _, _, rfl, q, r.sub _ _ g, t⟩
  | @ref n hn =>
    unfold insO at e
    dsimp only at e
    cases q : S[n]? with
    | none => rw [q] at e; cases e
    | some mo =>
      rw [q] at e
      cases mo with
      | ins c' fs' =>
        cases e
        obtain ⟨_, C, dx, vs, h0, h1, h2⟩ := r.live n _ q (by intro z; cases z)
        exact ⟨_, _, _, _, rfl, h0, h1, h2⟩
      | _ => cases e
  | _ => cases e
theorem RepF.get : ∀ {vs : List (Str × V)} {fs : List (Str × D)} {f : Str} {d : D}, RepF K cl W vs fs → fs.lookup f = some d → ∃ v, vs.lookup f = some v ∧ Rep K cl W v d
  | _, _, _, _, .nil, e => by cases e
  | _, _, f, d, .cons (k := k) h t, e => by
    rw [List.lookup_cons] at e ⊢
    cases q : f == k with
    | true =>
      rw [q] at e
      cases e
      exact ⟨_, rfl, h⟩
    | false =>
      rw [q] at e
      exact t.get e
theorem RepF.no : ∀ {vs : List (Str × V)} {fs : List (Str × D)} {f : Str}, RepF K cl W vs fs → fs.lookup f = none → vs.lookup f = none
  | _, _, _, .nil, _ => rfl
  | _, _, f, .cons (k := k) h t, e => by
    rw [List.lookup_cons] at e ⊢
    cases q : f == k with
    | true =>
      rw [q] at e
      cases e
    | false =>
      rw [q] at e
      exact t.no e
theorem RepF.len : ∀ {vs : List (Str × V)} {fs : List (Str × D)}, RepF K cl W vs fs → vs.length = fs.length
  | _, _, .nil => rfl
  | _, _, .cons _ t => by simp [t.len]
end
def putFD (f : Str) (v : D) : List (Str × D) → List (Str × D)
  | [] => [(f, v)]
  | (g, x) :: r => if g = f then (g, v) :: r else (g, x) :: putFD f v r
theorem RepF.put {K : PySem.W.Frag} {cl : Str → Option Addr} {W : Wd} {f : Str} {y : V} {d : D} (hy : Rep K cl W y d) : ∀ {vs : List (Str × V)} {fs : List (Str × D)}, RepF K cl W vs fs → RepF K cl W (putF f y vs) (putFD f d fs)
  | _, _, .nil => .cons hy .nil
  | _, _, .cons (k := k) h t => by
    unfold putF putFD
    by_cases e : k = f
    · rw [if_pos e, if_pos e]
      exact .cons hy t
    · rw [if_neg e, if_neg e]
      exact .cons h (t.put hy)
/-- f is a field of the objects of these classes -/
def AttrOk (K : PySem.W.Frag) (cl : Str → Option Addr) (f : Str) (cs : List Str) : Prop := ∀ c ∈ cs, ∀ C, cl c = some C → Cls K C ∧ NoAttr K C f
def fldD (cs : List Str) (f : Str) (d : D) (S : Store) : Res D := match insO S d with
  | some (c, fs) => if c ∈ cs then ofO (fs.lookup f) S else .stk
  | none => .stk
section
variable {X : Cx} {cl : Str → Option Addr} {E : WX} {e o value : Expr} {m mo mv : M D} {f : Str} {pos pos' : Pos} {cs : List Str}
theorem t_fld (ht : AttrOk X.K cl f cs) (h : PE X e (T X.K cl E m)) (hb : attributeBase e f X.env (eval e X.env) = eval e X.env := by rfl) : PE X (.Attribute e f pos) (T X.K cl E (mUn (fldD cs f) m)) :=
  pe_imp (pe_fld h hb) fun σ H Q ⟨W, ρ, S, hr, en, q⟩ => step hr en q fun W1 H1 v d S1 l1 r1 e1 rv p1 => by
    unfold fldD at p1
    split at p1
    · rename_i c fs ei
      obtain ⟨a, C, dx, vs, rfl, hc, ha, rf⟩ := ins_of r1 rv ei
      split at p1
      · rename_i hm
        obtain ⟨q1, q2⟩ := ht c hm C hc
        cases el : fs.lookup f with
        | none => rw [el] at p1; exact p1.elim
        | some x =>
          rw [el] at p1
          obtain ⟨y, hy, ry⟩ := rf.get el
          exact ⟨a, C, dx, vs, y, rfl, ha, q1, q2, hy, p1.now r1 ry⟩
      · exact p1.elim
    · exact p1.elim
def setFD (cs : List Str) (f : Str) (v x : D) (S : Store) : Option Store := match x with
  | .ref n => (match S[n]? with
    | some (.ins c fs) => if c ∈ cs ∧ fs.length < 1000 then some (S.set n (.ins c (putFD f v fs))) else none
    | _ => none)
  | _ => none
def sSetF (cs : List Str) (f : Str) (o e : M D) : MS := fun ρ S => sB (e ρ S) ρ fun v S1 => sB (o ρ S1) ρ fun x S2 => match setFD cs f v x S2 with
  | some S3 => .nx ρ S3
  | none => .stk
theorem s_fld (ht : AttrOk X.K cl f cs) (ho : PE X o (T X.K cl E mo)) (hv : PE X value (T X.K cl E mv)) (hs : swapsWith value (some (.Attribute o f pos')) pos.line X.env = pure false := by rfl) :
    PS X (.Assign [.Attribute o f pos'] value pos) (Ts X.K cl E (sSetF cs f mo mv)) :=
  ps_imp (ps_fld ho hv hs) fun A σ H ⟨W, ρ, S, hr, en, q⟩ => stepS hr en q fun W1 H1 v d S1 l1 r1 e1 rv p1 => stepS r1 e1 p1 fun W2 H2 x y S2 l2 r2 e2 rx p2 => by
    cases q : setFD cs f d y S2 with
    | none => simp only [q] at p2; exact p2.elim
    | some S3 =>
      simp only [q] at p2
      unfold setFD at q
      split at q
      · rename_i n
        split at q
        · rename_i c fs es
          split at q
          · rename_i hm
            cases q
            cases rx with | ref hn =>
            obtain ⟨g0, C, dx, vs, hc, ha, rf⟩ := r2.live n _ es (by intro z; cases z)
            obtain ⟨q1, q2⟩ := ht c hm.1 C hc
            refine ⟨_, C, dx, vs, rfl, ha, q1, q2, by rw [rf.len]; exact hm.2, ?_⟩
            exact p2 W2 _ σ (.rf W2) (r2.put es (by intro z; cases z) ⟨C, dx, _, hc, upd_same, rf.put (rv.up l2)⟩) e2
          · cases q
        · cases q
      · cases q
end

/-! methods: by the class of the object -/
def MFn (P : Program) (w : World) (K : PySem.W.Frag) (mg : Str → Option Value) (base : Heap) (cl : Str → Option Addr) (c m : Str) (k n : Nat) (g : List D → Store → Res D) : Prop :=
  ∃ C f fd ps, cl c = some C ∧ Cls K C ∧ Meth K C m f ∧ FnOk P w K mg base (L2.CX P w) k f fd ps (spOf K cl n g) ∧ Binds K fd ps []
def Mkr (P : Program) (w : World) (K : PySem.W.Frag) (mg : Str → Option Value) (base : Heap) (cl : Str → Option Addr) (c : Str) (k n : Nat) (g : List D → Store → Res D) : Prop :=
  ∃ C f fd ps, cl c = some C ∧ mg c = some (.ref C) ∧ Mk K C f ∧ FnOk P w K mg base (L2.CX P w) k f fd ps (spOf K cl n g) ∧ Binds K fd ps []
abbrev MT := List (Str × (List D → Store → Res D))
def mMeth (tb : MT) (m : Str) (n : Nat) (o : M D) (a : M (List D)) : M D := fun ρ S => (o ρ S).bind fun x S1 => match insO S1 x with
  | some (c, fs) => (match fs.lookup m, tb.lookup c with
    | none, some g => (a ρ S1).bind fun ys S2 => ar n g (x :: ys) S2
    | _, _ => .stk)
  | none => .stk
section
variable {X : Cx} {k : Nat} {f C : Addr} {fd : FuncData} {ps : List Str} {pr : Sp} {E : WX} {x m : Str} {p pos apos : Pos} {e o : Expr} {es : List Expr} {ta : TE} {t : TA}
/-- a method's call; the wish about exceptions may speak of the slots -/
theorem pe_methX {pl : Sem Bool} (ho : PE X o ta) (hC : Cls X.K C) (hM : Meth X.K C m f) (Fk : FnOk X.prog X.w X.K X.mg X.base (L2.CX X.prog X.w) k f fd ps pr) (rm : Room k X.A) (bd : Binds X.K fd ps []) (tk : Takes X E) (hA : PA X (e :: es) t)
    (h1 : starEach (e :: es) X.env = (false, eval e X.env) :: starEach es X.env := by rfl) (h2 : (backTo pos (starEach es X.env)).any (·.1) = false := by rfl)
    (h3 : eval (.Call (.Attribute o m apos) (e :: es) [] pos) X.env = (do
      let obj ← eval o X.env
      standAt apos.atName
      let (g, fst) ← holding [obj] (getMethod obj m pl)
      callWith pos g fst (backTo pos (starEach (e :: es) X.env)) (backToKw pos (keywordEach [] X.env))) := by rfl) :
    PE X (.Call (.Attribute o m apos) (e :: es) [] pos) (fun σ H Q => ta σ H fun x H1 => ∃ a dx fs, x = .ref a ∧ H1 a = some (.ins C dx fs) ∧ fs.lookup m = none ∧ t σ H1 fun vs H2 => pr (x :: vs) H2 Q (fun c d H' => E c d σ H')) := by
  refine ⟨fun pins s σ H Q I q => ?_⟩
  refine PySem.W.methodCall_KW (pl := pl) (thn (ho.run pins s σ H _ I q) fun u s1 ⟨y, H1, I1, ry, a, dx, fs, ey, ea, l, q1⟩ => ?_) h3
  subst ey
  obtain rfl : u = Value.ref a := ry
  refine getmeth_ok I1 ea hC hM l ?_
  refine PySem.W.callWith_K (first := [.ref a]) (h₀ := X.base) I.ok.mod.kin hM.kp (thn (hA.run pos pins s1 σ H1 _ I1 q1) fun us s2 ⟨vs, H2, I2, rs, q2⟩ => ⟨I2.kIn, ?_⟩) h1 h2
  exact run_fnSD (E := fun σ c d H' => E c d σ H') (dvs := []) (us := .ref a :: us) (vs := .ref a :: vs) Fk rm bd .nil (passAt tk σ) I2 (.cons rfl rs) (by rw [List.append_nil]; exact q2)
theorem pe_methX0 {pl : Sem Bool} (ho : PE X o ta) (hC : Cls X.K C) (hM : Meth X.K C m f) (Fk : FnOk X.prog X.w X.K X.mg X.base (L2.CX X.prog X.w) k f fd ps pr) (rm : Room k X.A) (bd : Binds X.K fd ps []) (tk : Takes X E)
    (h3 : eval (.Call (.Attribute o m apos) [] [] pos) X.env = (do
      let obj ← eval o X.env
      standAt apos.atName
      let (g, fst) ← holding [obj] (getMethod obj m pl)
      callWith pos g fst (backTo pos (starEach [] X.env)) (backToKw pos (keywordEach [] X.env))) := by rfl) :
    PE X (.Call (.Attribute o m apos) [] [] pos) (fun σ H Q => ta σ H fun x H1 => ∃ a dx fs, x = .ref a ∧ H1 a = some (.ins C dx fs) ∧ fs.lookup m = none ∧ pr [x] H1 Q (fun c d H' => E c d σ H')) := by
  refine ⟨fun pins s σ H Q I q => ?_⟩
  refine PySem.W.methodCall_KW (pl := pl) (thn (ho.run pins s σ H _ I q) fun u s1 ⟨y, H1, I1, ry, a, dx, fs, ey, ea, l, q1⟩ => ?_) h3
  subst ey
  obtain rfl : u = Value.ref a := ry
  refine getmeth_ok I1 ea hC hM l ?_
  refine PySem.W.callWith_K0 (first := [.ref a]) I1.kIn hM.kp ?_
  exact run_fnSD (E := fun σ c d H' => E c d σ H') (dvs := []) (us := [.ref a]) (vs := [.ref a]) Fk rm bd .nil (passAt tk σ) I1 (.cons rfl .nil) q1
end
section
variable {X : Cx} {cl : Str → Option Addr} {E : WX} {k n : Nat} {m : Str} {p pos apos : Pos} {e o : Expr} {es : List Expr} {mo : M D} {ms : M (List D)} {tb : MT}
theorem t_meth {pl : Sem Bool} (ht : ∀ c g, tb.lookup c = some g → MFn X.prog X.w X.K X.mg X.base cl c m k n g) (h0 : ∃ c g, tb.lookup c = some g) (rm : Room k X.A) (tk : Takes X E) (ho : PE X o (T X.K cl E mo)) (hA : PA X (e :: es) (TL X.K cl E ms))
    (h1 : starEach (e :: es) X.env = (false, eval e X.env) :: starEach es X.env := by rfl) (h2 : (backTo pos (starEach es X.env)).any (·.1) = false := by rfl)
    (h3 : eval (.Call (.Attribute o m apos) (e :: es) [] pos) X.env = (do
      let obj ← eval o X.env
      standAt apos.atName
      let (g, fst) ← holding [obj] (getMethod obj m pl)
      callWith pos g fst (backTo pos (starEach (e :: es) X.env)) (backToKw pos (keywordEach [] X.env))) := by rfl) :
    PE X (.Call (.Attribute o m apos) (e :: es) [] pos) (T X.K cl E (mMeth tb m n mo ms)) := by
  refine ⟨fun pins s σ H Q I ⟨W, ρ, S, hr, en, q⟩ => ?_⟩
  unfold mMeth at q
  cases e0 : mo ρ S with
  | stk => rw [e0] at q; exact q.elim
  | exc x S1 =>
    rw [e0] at q
    obtain ⟨c, g, hg⟩ := h0
    obtain ⟨C, f, fd, ps, c1, c2, c3, c4, c5⟩ := ht c g hg
    refine (pe_methX (pl := pl) ho c2 c3 c4 rm c5 tk hA h1 h2 h3).run pins s σ H Q I ⟨W, ρ, S, hr, en, ?_⟩
    rw [e0]
    exact q
  | ok d S1 =>
    rw [e0] at q
    dsimp only [Res.bind] at q
    split at q
    · rename_i c fs ei
      split at q
      · rename_i g l1 hg
        obtain ⟨C, f, fd, ps, c1, c2, c3, c4, c5⟩ := ht c g hg
        refine (pe_methX (pl := pl) ho c2 c3 c4 rm c5 tk hA h1 h2 h3).run pins s σ H Q I ⟨W, ρ, S, hr, en, ?_⟩
        rw [e0]
        intro W1 H1 v le r1 rv
        obtain ⟨a, C', dx, vs, rfl, hc, ha, rf⟩ := ins_of r1 rv ei
        rw [c1] at hc
        cases hc
        refine ⟨a, dx, vs, rfl, ha, rf.no l1, ?_⟩
        exact step r1 (en.up le) (Post.up le q) fun W2 H2 ys ds S2 l2 r2 e2 ry p2 => ⟨W2, S2, d :: ds, r2, .cons (rv.up l2) ry, p2⟩
      · exact q.elim
    · exact q.elim
theorem t_meth0 {pl : Sem Bool} (ht : ∀ c g, tb.lookup c = some g → MFn X.prog X.w X.K X.mg X.base cl c m k n g) (h0 : ∃ c g, tb.lookup c = some g) (rm : Room k X.A) (tk : Takes X E) (ho : PE X o (T X.K cl E mo))
    (h3 : eval (.Call (.Attribute o m apos) [] [] pos) X.env = (do
      let obj ← eval o X.env
      standAt apos.atName
      let (g, fst) ← holding [obj] (getMethod obj m pl)
      callWith pos g fst (backTo pos (starEach [] X.env)) (backToKw pos (keywordEach [] X.env))) := by rfl) :
    PE X (.Call (.Attribute o m apos) [] [] pos) (T X.K cl E (mMeth tb m n mo mNil)) := by
  refine ⟨fun pins s σ H Q I ⟨W, ρ, S, hr, en, q⟩ => ?_⟩
  unfold mMeth at q
  cases e0 : mo ρ S with
  | stk => rw [e0] at q; exact q.elim
  | exc x S1 =>
    rw [e0] at q
    obtain ⟨c, g, hg⟩ := h0
    obtain ⟨C, f, fd, ps, c1, c2, c3, c4, c5⟩ := ht c g hg
    refine (pe_methX0 (pl := pl) ho c2 c3 c4 rm c5 tk h3).run pins s σ H Q I ⟨W, ρ, S, hr, en, ?_⟩
    rw [e0]
    exact q
  | ok d S1 =>
    rw [e0] at q
    dsimp only [Res.bind] at q
    split at q
    · rename_i c fs ei
      split at q
      · rename_i g l1 hg
        obtain ⟨C, f, fd, ps, c1, c2, c3, c4, c5⟩ := ht c g hg
        refine (pe_methX0 (pl := pl) ho c2 c3 c4 rm c5 tk h3).run pins s σ H Q I ⟨W, ρ, S, hr, en, ?_⟩
        rw [e0]
        intro W1 H1 v le r1 rv
        obtain ⟨a, C', dx, vs, rfl, hc, ha, rf⟩ := ins_of r1 rv ei
        rw [c1] at hc
        cases hc
        exact ⟨a, dx, vs, rfl, ha, rf.no l1, W1, S1, [d], r1, .cons rv .nil, Post.up le q⟩
      · exact q.elim
    · exact q.elim
end
/-! makers -/
/-- a new object of the class, then __init__ -/
def mMake (c : Str) (n : Nat) (g : List D → Store → Res D) (a : M (List D)) : M D := fun ρ S => (a ρ S).bind fun ys S1 => (ar n g (.ref S1.length :: ys) (S1 ++ [.ins c []])).bind fun d S2 => match d with
  | .non => .ok (.ref S1.length) S2
  | _ => .stk
section
variable {X : Cx} {k : Nat} {f C : Addr} {fd : FuncData} {ps : List Str} {pr : Sp} {E : WX} {x m : Str} {p pos apos : Pos} {e o : Expr} {es : List Expr} {ta : TE} {t : TA}
theorem run_makeX {pins : List (Addr × Obj)} {σ : St} {H : Hp} {s : Shared} {Q : VK} {us : List Value} {vs : List V} (Mq : Mk X.K C f) (Fk : FnOk X.prog X.w X.K X.mg X.base (L2.CX X.prog X.w) k f fd ps pr) (rm : Room (k + 1) X.A) (bd : Binds X.K fd ps []) (tk : Takes X E)
    (I : L2.Inv X pins σ H s) (rs : Vals vs us)
    (q : ∀ x dx, H x = none → H dx = none → dx ≠ x → pr (.ref x :: vs) (upd (upd H dx (.own x)) x (.ins C dx [])) (fun v H2 => v = .non ∧ Q (.ref x) H2) (fun c d H' => E c d σ H')) :
    wpAny (model X.prog X.w) X.A (call (.ref C) us) (EP X pins σ Q) X.xe s := by
  have z := s.heap.objs.size
  have q0 := q (s.heap.objs.size + 1) s.heap.objs.size (I.hok.fresh (Nat.le_succ _)) (I.hok.fresh (Nat.le_refl _)) (Nat.ne_of_lt (Nat.lt_succ_self _))
  have J := Inv.made (C := C) I
  have rs2 : Vals (V.ref (s.heap.objs.size + 1) :: vs) (Value.ref (s.heap.objs.size + 1) :: us) := .cons rfl rs
  have hl : ((Value.ref (s.heap.objs.size + 1) :: us) ++ ([] : List Value)).length = ps.length := by
    rw [List.append_nil, ← rs2.length]
    exact Fk.len _ _ _ _ q0
  have bb := bd _ (Value.ref (s.heap.objs.size + 1) :: us) J.kIn hl
  rw [List.append_nil] at bb
  refine wpAny_call (make_map (f := f) I.kIn Mq.makes Mq.init (beq_iff_eq.mp Mq.fn) (codeAny_mono (Fk.run _ X.stack _ _ ⟨Value.ref (s.heap.objs.size + 1) :: us, []⟩ _ _ _ _ (rm.make C us []) (J.env0.make C us []) bb rs2 q0) fun r s2 h2 => ?_))
  match r, h2 with
  | .error e, h2 => exact passAt tk σ pins _ _ e s2 J h2
  | .ok (.ret u), h2 =>
    obtain ⟨v, H2, J2, rv, ev, q2⟩ := J.after h2
    subst ev
    exact ⟨rv, ⟨V.ref (s.heap.objs.size + 1), H2, J2, rfl, q2⟩⟩
  | .ok .next, h2 => exact h2.elim
  | .ok .brk, h2 => exact h2.elim
  | .ok .cont, h2 => exact h2.elim
end
section
variable {X : Cx} {cl : Str → Option Addr} {E : WX} {k n : Nat} {c : Str} {p pos : Pos} {e : Expr} {es : List Expr} {ms : M (List D)} {g : List D → Store → Res D}
theorem make_rd {W : Wd} {H : Hp} {S : Store} {C : Addr} {vs : List V} {ds : List D} {Q : VK} {σ : St} (hC : cl c = some C) (r : R X.K cl W H S) (t : Reps X.K cl W vs ds)
    (q : Post X.K cl (Rep X.K cl) W ((ar n g (.ref S.length :: ds) (S ++ [.ins c []])).bind fun d S2 => match d with
      | .non => .ok (.ref S.length) S2
      | _ => .stk) Q (fun c d H' => E c d σ H')) :
    ∀ x dx, H x = none → H dx = none → dx ≠ x → spOf X.K cl n g (.ref x :: vs) (upd (upd H dx (.own x)) x (.ins C dx [])) (fun v H2 => v = .non ∧ Q (.ref x) H2) (fun c d H' => E c d σ H') := by
  intro x dx hx hdx ne
  have r1 := r.junk (o := .own x) hdx
  have hx1 : upd H dx (.own x) x = none := by
    rw [upd_ne (fun h => ne h.symm)]
    exact hx
  have r2 := r1.new (o := .ins C dx []) (mo := .ins c []) hx1 ⟨C, dx, [], hC, upd_same, .nil⟩
  have ew : (W.lv x).ι S.length = x := by rw [← r.n]; exact W.lv_at x
  have rx : Rep X.K cl (W.lv x) (.ref x) (.ref S.length) := by
    have z := Rep.ref (K := X.K) (cl := cl) (W := W.lv x) (n := S.length) (by show S.length < W.n + 1; rw [r.n]; exact Nat.lt_succ_self _)
    rw [ew] at z
    exact z
  refine ⟨W.lv x, S ++ [.ins c []], .ref S.length :: ds, r2, .cons rx (t.up (Le.lv W x)), ?_⟩
  cases e : ar n g (.ref S.length :: ds) (S ++ [.ins c []]) with
  | stk => rw [e] at q; exact q.elim
  | exc y S3 =>
    rw [e] at q
    exact fun W' H' c' dd l' r' rx' => q W' H' c' dd ((Le.lv W x).tr l') r' rx'
  | ok d S3 =>
    rw [e] at q
    intro W' H' v l' r' rv
    dsimp only [Res.bind] at q
    split at q
    · cases rv
      exact ⟨rfl, q W' H' _ ((Le.lv W x).tr l') r' (rx.up l')⟩
    · exact q.elim
theorem t_make (hM : Mkr X.prog X.w X.K X.mg X.base cl c k n g) (rm : Room (k + 1) X.A) (tk : Takes X E) (hA : PA X (e :: es) (TL X.K cl E ms)) (hg : Gl X c := by rfl) (hdb : (c == ("__debug__" : Str)) = false := by decide)
    (h1 : starEach (e :: es) X.env = (false, eval e X.env) :: starEach es X.env := by rfl) (h2 : (backTo pos (starEach es X.env)).any (·.1) = false := by rfl) :
    PE X (.Call (.Name c p) (e :: es) [] pos) (T X.K cl E (mMake c n g ms)) := by
  obtain ⟨C, f, fd, ps, c1, c2, c3, c4, c5⟩ := hM
  refine ⟨fun pins s σ H Q I ⟨W, ρ, S, hr, en, q⟩ => ?_⟩
  refine wpAny_Call_Name_kw (ld_glob I hg c2 ?_ hdb)
  refine PySem.W.callWith_K (h₀ := X.base) I.ok.mod.kin c3.kp (thn (hA.run pos pins s σ H _ I (step (rel := Reps X.K cl) hr en q fun W1 H1 ys ds S1 l1 r1 e1 ry p1 => make_rd c1 r1 ry p1)) fun us s1 ⟨vs, H1, I1, rs, q1⟩ => ⟨I1.kIn, ?_⟩) h1 h2
  exact run_makeX c3 c4 rm c5 tk I1 rs q1
theorem t_make0 (hM : Mkr X.prog X.w X.K X.mg X.base cl c k n g) (rm : Room (k + 1) X.A) (tk : Takes X E) (hg : Gl X c := by rfl) (hdb : (c == ("__debug__" : Str)) = false := by decide) :
    PE X (.Call (.Name c p) [] [] pos) (T X.K cl E (mMake c n g mNil)) := by
  obtain ⟨C, f, fd, ps, c1, c2, c3, c4, c5⟩ := hM
  refine ⟨fun pins s σ H Q I ⟨W, ρ, S, hr, en, q⟩ => ?_⟩
  refine wpAny_Call_Name_kw (ld_glob I hg c2 ?_ hdb)
  exact PySem.W.callWith_K0 I.kIn c3.kp (run_makeX (us := []) c3 c4 rm c5 tk I .nil (make_rd c1 hr .nil q))
end
end G
namespace G
open PySem L2
/-! ### the handled exception: cl at reserved names -/
structure Rsv (cl : Str → Option Addr) : Prop where
  a : cl "#a" = none
  c : cl "#c" = none
  d : cl "#d" = none
def clX (cl : Str → Option Addr) (a C : Addr) (d : Option Addr) : Str → Option Addr := fun s => if s = "#a" then some a else if s = "#c" then some C else if s = "#d" then d else cl s
theorem clX_a {cl : Str → Option Addr} {a C : Addr} {d : Option Addr} : clX cl a C d "#a" = some a := if_pos rfl
theorem clX_c {cl : Str → Option Addr} {a C : Addr} {d : Option Addr} : clX cl a C d "#c" = some C := (if_neg (by decide)).trans (if_pos rfl)
theorem clX_d {cl : Str → Option Addr} {a C : Addr} {d : Option Addr} : clX cl a C d "#d" = d := (if_neg (by decide)).trans ((if_neg (by decide)).trans (if_pos rfl))
theorem clX_of {cl : Str → Option Addr} {a C : Addr} {d : Option Addr} {c : Str} {B : Addr} (r : Rsv cl) (h : cl c = some B) : clX cl a C d c = some B := by
  have h1 : c ≠ "#a" := fun e => by rw [e, r.a] at h; cases h
  have h2 : c ≠ "#c" := fun e => by rw [e, r.c] at h; cases h
  have h3 : c ≠ "#d" := fun e => by rw [e, r.d] at h; cases h
  unfold clX
  rw [if_neg h1, if_neg h2, if_neg h3]
  exact h
def rsvN (c : Str) : Bool := decide (c = "#a") || decide (c = "#c") || decide (c = "#d")
theorem clX_to {cl : Str → Option Addr} {a C : Addr} {d : Option Addr} {c : Str} {B : Addr} (n : rsvN c = false) (h : clX cl a C d c = some B) : cl c = some B := by
  unfold rsvN at n
  simp only [Bool.or_eq_false_iff, decide_eq_false_iff_not] at n
  unfold clX at h
  rw [if_neg n.1.1, if_neg n.1.2, if_neg n.2] at h
  exact h
mutual
/-- no handled exception within -/
def xf : D → Bool
  | .tup xs => xfL xs
  | .lst xs => xfL xs
  | .dct xs => xfK xs
  | .ins c xs => !rsvN c && xfF xs
  | .exv _ _ => false
  | _ => true
def xfL : List D → Bool
  | [] => true
  | d :: ds => xf d && xfL ds
def xfK : List (Key × D) → Bool
  | [] => true
  | (_, d) :: ds => xf d && xfK ds
def xfF : List (Str × D) → Bool
  | [] => true
  | (_, d) :: ds => xf d && xfF ds
end
theorem rsv_no {cl : Str → Option Addr} {c : Str} {B : Addr} (r : Rsv cl) (h : cl c = some B) : rsvN c = false := by
  unfold rsvN
  simp only [Bool.or_eq_false_iff, decide_eq_false_iff_not]
  refine ⟨⟨fun e => ?_, fun e => ?_⟩, fun e => ?_⟩
  · rw [e, r.a] at h; cases h
  · rw [e, r.c] at h; cases h
  · rw [e, r.d] at h; cases h
section
variable {K : PySem.W.Frag} {cl : Str → Option Addr} {W : Wd} {H : Hp} {S : Store} {a C : Addr} {d : Option Addr}
mutual
theorem Rep.toX (q : Rsv cl) : ∀ {v : V} {x : D}, Rep K cl W v x → Rep K (clX cl a C d) W v x ∧ xf x = true
  | _, _, .non => ⟨.non, rfl⟩
  | _, _, .bl b => ⟨.bl b, rfl⟩
  | _, _, .int i => ⟨.int i, rfl⟩
  | _, _, .str x => ⟨.str x, rfl⟩
  | _, _, .tup h t => ⟨.tup h (Reps.toX q t).1, (Reps.toX q t).2⟩
  | _, _, .lst h t => ⟨.lst h (Reps.toX q t).1, (Reps.toX q t).2⟩
  | _, _, .scr h => ⟨.scr h, rfl⟩
  | _, _, .dct h t => ⟨.dct h (RepK.toX q t).1, (RepK.toX q t).2⟩
  | _, _, .ins h c t => ⟨.ins h (clX_of q c) (RepF.toX q t).1, by
    show (!rsvN _ && _) = true
    rw [rsv_no q c, (RepF.toX q t).2]
    rfl⟩
  | _, _, .ref h => ⟨.ref h, rfl⟩
  | _, _, .exv0 h _ _ _ => by rw [q.a] at h; cases h
  | _, _, .exv1 h _ _ _ _ _ _ => by rw [q.a] at h; cases h
theorem Reps.toX (q : Rsv cl) : ∀ {v : List V} {x : List D}, Reps K cl W v x → Reps K (clX cl a C d) W v x ∧ xfL x = true
  | _, _, .nil => ⟨.nil, rfl⟩
  | _, _, .cons h t => ⟨.cons (Rep.toX q h).1 (Reps.toX q t).1, by
    show (_ && _) = true
    rw [(Rep.toX q h).2, (Reps.toX q t).2]
    rfl⟩
theorem RepK.toX (q : Rsv cl) : ∀ {v : List (Key × V)} {x : List (Key × D)}, RepK K cl W v x → RepK K (clX cl a C d) W v x ∧ xfK x = true
  | _, _, .nil => ⟨.nil, rfl⟩
  | _, _, .cons h t => ⟨.cons (Rep.toX q h).1 (RepK.toX q t).1, by
    show (_ && _) = true
    rw [(Rep.toX q h).2, (RepK.toX q t).2]
    rfl⟩
theorem RepF.toX (q : Rsv cl) : ∀ {v : List (Str × V)} {x : List (Str × D)}, RepF K cl W v x → RepF K (clX cl a C d) W v x ∧ xfF x = true
  | _, _, .nil => ⟨.nil, rfl⟩
  | _, _, .cons h t => ⟨.cons (Rep.toX q h).1 (RepF.toX q t).1, by
    show (_ && _) = true
    rw [(Rep.toX q h).2, (RepF.toX q t).2]
    rfl⟩
end
mutual
theorem Rep.ofX : ∀ {v : V} {x : D}, Rep K (clX cl a C d) W v x → xf x = true → Rep K cl W v x
  | _, _, .non, _ => .non
  | _, _, .bl b, _ => .bl b
  | _, _, .int i, _ => .int i
  | _, _, .str x, _ => .str x
  | _, _, .tup h t, e => .tup h (Reps.ofX t e)
  | _, _, .lst h t, e => .lst h (Reps.ofX t e)
  | _, _, .scr h, _ => .scr h
  | _, _, .dct h t, e => .dct h (RepK.ofX t e)
  | _, _, .ins h c t, e => .ins h (clX_to (by simpa using (Bool.and_eq_true_iff.mp e).1) c) (RepF.ofX t (Bool.and_eq_true_iff.mp e).2)
  | _, _, .ref h, _ => .ref h
  | _, _, .exv0 _ _ _ _, e => by cases e
  | _, _, .exv1 _ _ _ _ _ _ _, e => by cases e
theorem Reps.ofX : ∀ {v : List V} {x : List D}, Reps K (clX cl a C d) W v x → xfL x = true → Reps K cl W v x
  | _, _, .nil, _ => .nil
  | _, _, .cons h t, e => .cons (Rep.ofX h (Bool.and_eq_true_iff.mp e).1) (Reps.ofX t (Bool.and_eq_true_iff.mp e).2)
theorem RepK.ofX : ∀ {v : List (Key × V)} {x : List (Key × D)}, RepK K (clX cl a C d) W v x → xfK x = true → RepK K cl W v x
  | _, _, .nil, _ => .nil
  | _, _, .cons h t, e => .cons (Rep.ofX h (Bool.and_eq_true_iff.mp e).1) (RepK.ofX t (Bool.and_eq_true_iff.mp e).2)
theorem RepF.ofX : ∀ {v : List (Str × V)} {x : List (Str × D)}, RepF K (clX cl a C d) W v x → xfF x = true → RepF K cl W v x
  | _, _, .nil, _ => .nil
  | _, _, .cons h t, e => .cons (Rep.ofX h (Bool.and_eq_true_iff.mp e).1) (RepF.ofX t (Bool.and_eq_true_iff.mp e).2)
end
def xfM : MO → Bool
  | .lst xs => xfL xs
  | .dct xs => xfK xs
  | .ldc xs => xfK xs
  | .ins c xs => !rsvN c && xfF xs
  | .dead => true
theorem MRep.toX {b : Addr} {mo : MO} (q : Rsv cl) (h : MRep K cl W H b mo) : MRep K (clX cl a C d) W H b mo ∧ xfM mo = true := by
  cases mo with
  | lst ds => obtain ⟨vs, h1, h2⟩ := h; exact ⟨⟨vs, h1, (h2.toX q).1⟩, (h2.toX (a := a) (C := C) (d := d) q).2⟩
  | dct ds => obtain ⟨vs, h1, h2⟩ := h; exact ⟨⟨vs, h1, (h2.toX q).1⟩, (h2.toX (a := a) (C := C) (d := d) q).2⟩
  | ldc ds => obtain ⟨o, vs, h1, h2⟩ := h; exact ⟨⟨o, vs, h1, (h2.toX q).1⟩, (h2.toX (a := a) (C := C) (d := d) q).2⟩
  | ins c ds =>
    obtain ⟨B, dx, vs, h0, h1, h2⟩ := h
    refine ⟨⟨B, dx, vs, clX_of q h0, h1, (h2.toX q).1⟩, ?_⟩
    show (!rsvN c && _) = true
    rw [rsv_no q h0, (h2.toX (a := a) (C := C) (d := d) q).2]
    rfl
  | dead => exact ⟨trivial, rfl⟩
theorem MRep.ofX {b : Addr} {mo : MO} (h : MRep K (clX cl a C d) W H b mo) (e : xfM mo = true) : MRep K cl W H b mo := by
  cases mo with
  | lst ds => obtain ⟨vs, h1, h2⟩ := h; exact ⟨vs, h1, h2.ofX e⟩
  | dct ds => obtain ⟨vs, h1, h2⟩ := h; exact ⟨vs, h1, h2.ofX e⟩
  | ldc ds => obtain ⟨o, vs, h1, h2⟩ := h; exact ⟨o, vs, h1, h2.ofX e⟩
  | ins c ds =>
    obtain ⟨B, dx, vs, h0, h1, h2⟩ := h
    exact ⟨B, dx, vs, clX_to (by simpa using (Bool.and_eq_true_iff.mp e).1) h0, h1, h2.ofX (Bool.and_eq_true_iff.mp e).2⟩
  | dead => trivial
theorem R.toX (q : Rsv cl) (r : R K cl W H S) : R K (clX cl a C d) W H S ∧ ∀ (i : Nat) (mo : MO), S[i]? = some mo → mo ≠ .dead → xfM mo = true :=
  ⟨⟨r.n, r.sub, fun i mo h nd => ⟨(r.live i mo h nd).1, ((r.live i mo h nd).2.toX q).1⟩, r.inj, r.priv⟩, fun i mo h nd => ((r.live i mo h nd).2.toX (a := a) (C := C) (d := d) q).2⟩
theorem R.ofX (r : R K (clX cl a C d) W H S) (x : ∀ (i : Nat) (mo : MO), S[i]? = some mo → mo ≠ .dead → xfM mo = true) : R K cl W H S :=
  ⟨r.n, r.sub, fun i mo h nd => ⟨(r.live i mo h nd).1, (r.live i mo h nd).2.ofX (x i mo h nd)⟩, r.inj, r.priv⟩
theorem Envs.toX {σ : St} {ρ : Sl} (q : Rsv cl) (e : Envs K cl W σ ρ) : Envs K (clX cl a C d) W σ ρ ∧ ∀ (i : Nat) (x : D), ρ[i]? = some (some x) → xf x = true :=
  ⟨⟨e.len, fun i x h => let ⟨v, h1, h2⟩ := e.at' i x h; ⟨v, h1, (h2.toX q).1⟩⟩, fun i x h => by
    obtain ⟨v, h1, h2⟩ := e.at' i x h
    exact (h2.toX (a := a) (C := C) (d := d) q).2⟩
theorem XRep.exv {x : Exc} (q : Rsv cl) (h : XRep K cl W (.ref C) d x) : Rep K (clX cl a C d) W (.ref a) (.exv x.cls x.fs) := by
  obtain ⟨B, h1, h2, h3⟩ := h
  cases h2
  rcases h3 with ⟨h3, rfl⟩ | ⟨d', vs, rfl, h4, hn, h5⟩
  · rw [h3]
    exact .exv0 clX_a clX_c clX_d (clX_of q h1)
  · exact .exv1 clX_a clX_c clX_d (clX_of q h1) h4 hn (h5.toX q).1
end
/-- a suite's reading, by the class of the exception -/
def tsX (t : Addr → Addr → Option Addr → TS) (a : Addr) (cls : Value) (d : Option Addr) : TS := match cls with
  | .ref C => t a C d
  | _ => fun _ _ _ => False
theorem tsX_of {X : Cx} {st : List Stmt} {t : Addr → Addr → Option Addr → TS} (h : ∀ (a : Addr) (oe : Obj) (C : Addr) (d : Option Addr) (pn : List (Addr × Obj)), Zc (.ref C) d oe → (∃ vs, oe.data = .fields vs) → PSs (X.suite a ((a, oe) :: pn)) st (t a C d)) :
    ∀ (a : Addr) (oe : Obj) (cls : Value) (d : Option Addr) (pn : List (Addr × Obj)), Zc cls d oe → (∃ vs, oe.data = .fields vs) → PSs (X.suite a ((a, oe) :: pn)) st (tsX t a cls d) := fun a oe cls d pn hz hf => by
  cases cls with
  | ref C => exact h a oe C d pn hz hf
  | _ => exact ⟨fun _ _ _ _ _ _ q => q.elim⟩
/-- try: body; except c as n: slot j = m -/
noncomputable def sTryA (cs : List (Str × Bool)) (i j : Nat) (m : M D) (mb : MS) : MS := open Classical in fun ρ S => match mb ρ S with
  | .exc x ρ1 S1 => (match cs.lookup x.cls with
    | some true => (match m (ρ1.set i (some (.exv x.cls x.fs))) S1 with
      | .ok d S2 => if xf d = true ∧ S2 = S1 then .nx ((ρ1.set j (some d)).set i none) S1 else .stk
      | _ => .stk)
    | some false => .exc x ρ1 S1
    | none => .stk)
  | o => o
section
variable {X : Cx} {cl : Str → Option Addr} {E : WX} {x n t : Str} {hc : Value} {i j : Nat} {body : List Stmt} {e : Expr} {np pos pos' ap : Pos} {mb : MS} {m : M D} {cs : List (Str × Bool)} {tp : Pos}
theorem s_tryA (q : Rsv cl) (hs : X.stack = X.env :: X.outer) (hf : X.env.frame = some X.env.locals) (hN : X.N.Nodup) (hi : X.N[i]? = some n) (hln : X.env.kindOf n = some .local) (hn : Names X x hc) (tk : Takes X E) (hij : i ≠ j)
    (ht : ∀ c b, cs.lookup c = some b → ∀ C, cl c = some C → PySem.W.exmOne X.K (.ref C) hc = some b)
    (hb : ∀ (W : WX) (pn : List (Addr × Obj)) (xe : Value → Shared → Prop), Takes (X.tr pn xe) W → PassesOwn (model X.prog X.w) X.A X.env xe → PSs (X.tr pn xe) body (Ts X.K cl W mb))
    (hsu : ∀ (a : Addr) (oe : Obj) (C : Addr) (d : Option Addr) (pn : List (Addr × Obj)), Zc (.ref C) d oe → (∃ vs, oe.data = .fields vs) → PSs (X.suite a ((a, oe) :: pn)) [.Assign [.Name t tp] e ap] (Ts X.K (clX cl a C d) (fun _ _ _ _ => False) (sSet j m))) :
    PS X (.Try body [.ExceptHandler (some (.Name x np)) (some n) [.Assign [.Name t tp] e ap] pos'] [] [] pos) (Ts X.K cl E (sTryA cs i j m mb)) :=
  ps_imp (ps_try_as hs hf hN hi hln hn tk hb (tsX_of (t := fun a C d => Ts X.K (clX cl a C d) (fun _ _ _ _ => False) (sSet j m)) hsu)) fun A σ H ⟨W, ρ, S, hr, he, p⟩ => ⟨W, ρ, S, hr, he, by
    unfold sTryA at p
    cases eb : mb ρ S with
    | nx ρ1 S1 => rw [eb] at p; exact p
    | rt v S1 => rw [eb] at p; exact p
    | bk ρ1 S1 => rw [eb] at p; exact p
    | ct ρ1 S1 => rw [eb] at p; exact p
    | stk => rw [eb] at p; exact p
    | exc y ρ1 S1 =>
      rw [eb] at p
      dsimp only at p
      intro W1 H1 σ1 cls dd l1 r1 e1 xr
      have xr0 := xr
      obtain ⟨C, h1, rfl, h3⟩ := xr0
      cases el : cs.lookup y.cls with
      | none => rw [el] at p; exact p.elim
      | some b =>
        rw [el] at p
        refine ⟨b, ht _ _ el C h1, fun hbt a ha => ?_, fun hbf => ?_⟩
        · subst hbt
          dsimp only at p
          have rX := r1.toX (a := a) (C := C) (d := dd) q
          have eX := e1.toX (a := a) (C := C) (d := dd) q
          have xX : Rep X.K (clX cl a C dd) W1 (.ref a) (.exv y.cls y.fs) := xr.exv q
          refine ⟨W1, ρ1.set i (some (.exv y.cls y.fs)), S1, rX.1, eX.1.set i xX, ?_⟩
          unfold sSet
          cases em : m (ρ1.set i (some (.exv y.cls y.fs))) S1 with
          | stk => rw [em] at p; exact p.elim
          | exc z S2 => rw [em] at p; exact p.elim
          | ok d S2 =>
            rw [em] at p
            dsimp only at p
            split at p
            · rename_i hg
              obtain ⟨hx, rfl⟩ := hg
              intro W2 H2 σ2 l2 r2 e2
              refine p W2 H2 _ (l1.tr l2) (r2.ofX rX.2) ⟨by simpa using e2.len, fun k z hz => ?_⟩
              by_cases hk : i = k
              · subst hk
                by_cases hl : i < (ρ1.set j (some d)).length
                · rw [List.getElem?_set_self hl] at hz
                  cases hz
                · rw [List.getElem?_eq_none (by simpa using hl)] at hz
                  cases hz
              · rw [List.getElem?_set_ne hk] at hz
                have hz2 : ((ρ1.set i (some (.exv y.cls y.fs))).set j (some d))[k]? = some (some z) := by
                  by_cases hj : j = k
                  · subst hj
                    by_cases hl : j < ρ1.length
                    · rw [List.getElem?_set_self hl] at hz
                      rw [List.getElem?_set_self (by simpa using hl)]
                      exact hz
                    · rw [List.getElem?_eq_none (by simpa using hl)] at hz
                      cases hz
                  · rw [List.getElem?_set_ne hj] at hz ⊢
                    rw [List.getElem?_set_ne hk]
                    exact hz
                obtain ⟨v, hv, rv⟩ := e2.at' k z hz2
                refine ⟨v, by rw [List.getElem?_set_ne hk]; exact hv, rv.ofX ?_⟩
                by_cases hj : j = k
                · subst hj
                  by_cases hl : j < ρ1.length
                  · rw [List.getElem?_set_self hl] at hz
                    have := Option.some.inj (Option.some.inj hz)
                    rw [← this]
                    exact hx
                  · rw [List.getElem?_eq_none (by simpa using hl)] at hz
                    cases hz
                · rw [List.getElem?_set_ne hj] at hz
                  exact eX.2 k z hz
            · exact p.elim
        · subst hbf
          exact p W1 H1 σ1 _ dd l1 r1 e1 xr⟩
end
end G
namespace G
open PySem L2
/-! ### raise -/
section
variable {X : Cx}
/-- C(), an own error without __init__ of its own -/
theorem pmk_own0 {C : Addr} {bmB : List Value} {B newId initId : String} {x : Str} {p pos : Pos} (Fx : ExcBaseFacts B newId initId bmB) (q : PySem.W.excIn X.K C bmB newId = true) (gC : X.mg x = some (.ref C)) (kC : PySem.W.keepIn X.K (.ref C) = true) (r : Raises X (.ref C)) (hg : Gl X x)
    (hdb : (x == ("__debug__" : Str)) = false := by decide) : PMk X (.Call (.Name x p) [] [] pos) (fun σ H Q => Q (.ref C) none H) := by
  intro pins s σ H Q I h
  refine wpAny_Call_Name_kw (ld_glob I hg gC ?_ hdb)
  refine PySem.W.callWith_K0 I.kIn kC ?_
  obtain ⟨bm, N, nm, qn, bs, hdct, sn, sub, ab, col, dd, k0, k1, k2, k3, k5, mN, hC, hN, hni, Tq⟩ := exc_obj I.kIn q
  refine wpAny_call_exc_subT Fx Tq hC hN hni (fun h2 e hm => ?_) (Nat.zero_le _)
  exact mk_of I hm r h (I.hok.gone hm.new)
end
/-! an own error with fields: its __init__ -/
def tErr (K : PySem.W.Frag) : List (Str × Nat) → TS
  | [] => tNext
  | (f, i) :: r => tSeq (tOst K f (tVar 0) (tVar i)) (tErr K r)
section
variable {X : Cx} {f p : Str} {i : Nat} {r : List (Str × Nat)} {sts : List Stmt} {p0 p1 p2 pos : Pos} {self : Str}
theorem er_nil : PSs X [] (tErr X.K []) := pss_nil
theorem er_cons (i : Nat) (h : PSs X sts (tErr X.K r)) (h0 : X.N[0]? = some self := by rfl) (h1 : X.N[i]? = some p := by rfl) (v0 : Vis X.env.scope self := by first | exact Or.inl rfl | exact Or.inr (Or.inl rfl) | exact Or.inr (Or.inr rfl))
    (v1 : Vis X.env.scope p := by first | exact Or.inl rfl | exact Or.inr (Or.inl rfl) | exact Or.inr (Or.inr rfl)) (d0 : (self == ("__debug__" : Str)) = false := by decide) (c0 : (self == ("__classdict__" : Str)) = false := by decide)
    (d1 : (p == ("__debug__" : Str)) = false := by decide) (c1 : (p == ("__classdict__" : Str)) = false := by decide) (hs : swapsWith (.Name p p2) (some (.Attribute (.Name self p0) f p1)) pos.line X.env = pure false := by rfl) :
    PSs X (.Assign [.Attribute (.Name self p0) f p1] (.Name p p2) pos :: sts) (tErr X.K ((f, i) :: r)) :=
  pss_cons (ps_ost (pe_var h0 v0 d0 c0) (pe_var h1 v1 d1 c1) hs) h
end
def errF (σ : St) : List (Str × V) → List (Str × Nat) → List (Str × V)
  | acc, [] => acc
  | acc, (f, i) :: r => errF σ ((f, ((σ[i]?.bind id).getD .non)) :: acc) r
theorem err_run {K : PySem.W.Frag} {H : Hp} {a C dx : Addr} {σ : St} {D : Ends} (T : OexC K C) (h0 : σ[0]? = some (some (.ref a))) (hne : dx ≠ a) : ∀ (r : List (Str × Nat)) (acc : List (Str × V)), (∀ q ∈ r, PySem.W.findIn K (.ref C) q.1 = some none ∧ ∃ w, σ[q.2]? = some (some w)) → acc.length + r.length ≤ 900 →
    D.nx σ (upd (upd H dx (exd dx (errF σ acc r))) a (exo a C (some dx))) → tErr K r D σ (upd (upd H dx (exd dx acc)) a (exo a C (some dx)))
  | [], acc, _, _, q => q
  | (f, i) :: r, acc, hr, hl, q => by
    obtain ⟨hf, w, hw⟩ := hr (f, i) (by simp)
    rw [List.length_cons] at hl
    refine ⟨w, hw, .ref a, h0, a, C, rfl, T, hf, .inr ⟨dx, acc, upd_same, ?_, by omega, ?_⟩⟩
    · rw [upd_ne hne]
      exact upd_same
    · have e : upd (upd (upd H dx (exd dx acc)) a (exo a C (some dx))) dx (exd dx ((f, w) :: acc)) = upd (upd H dx (exd dx ((f, w) :: acc))) a (exo a C (some dx)) := by
        funext b
        by_cases hb : b = dx
        · subst hb
          rw [upd_same, upd_ne hne, upd_same]
        · rw [upd_ne hb]
          by_cases ha : b = a
          · subst ha
            rw [upd_same, upd_same]
          · rw [upd_ne ha, upd_ne ha, upd_ne hb, upd_ne hb]
      show tErr K r D σ _
      rw [e]
      refine err_run T h0 hne r _ (fun q hq => hr q (by simp [hq])) (by simp; omega) ?_
      have ew : ((σ[i]?.bind id).getD .non) = w := by rw [hw]; rfl
      unfold errF at q
      rw [ew] at q
      exact q
/-- what an error's __init__ promises -/
def spErr (K : PySem.W.Frag) (N : List Str) (n : Nat) (r : List (Str × Nat)) : Sp := fun vs H Q _ => ∃ (a C : Addr) (ws : List V), vs = .ref a :: ws ∧ vs.length = n ∧ OexC K C ∧ (∀ q ∈ r, PySem.W.findIn K (.ref C) q.1 = some none) ∧ H a = some (exo a C none) ∧
  ∀ dx, H dx = none → dx ≠ a → Q .non (upd (upd H dx (exd dx (errF (L2.start N vs) [] r))) a (exo a C (some dx)))
section
variable {P : Program} {w : World} {K : PySem.W.Frag} {mg : Str → Option Value} {base : Heap}
theorem err_fn {x qual : Str} {st : Stmt} {f : Addr} {fd : FuncData} {N ps : List Str} {k n : Nat} {g : Str} {i : Nat} {r : List (Str × Nat)} (F : Fun K x qual st f fd) (Sc : FnScope N ps (defScope st)) (hn : ps.length = n) (hlen : r.length ≤ 800) (hps : ∀ q ∈ (g, i) :: r, q.2 < n)
    (body : ∀ (cdv : Value) (A : Around) (outer : List Env) (s : Shared) (H : Hp) (E : XK), PSs (cxOf (L2.CX P w) P w K mg base N qual (defScope st) f cdv A outer s H E) (defBody st) (tErr K ((g, i) :: r))) :
    FnOk P w K mg base (L2.CX P w) (k + 1) f fd ps (spErr K N n ((g, i) :: r)) := by
  refine F.okX Sc (fun vs H Q E h => by obtain ⟨_, _, _, _, h, _⟩ := h; rw [h, hn]) fun cdv A outer s H vs Q E hr h => ⟨_, body cdv A outer s H E, ?_⟩
  obtain ⟨a, C, ws, rfl, hl, T, hf, ha, q⟩ := h
  have st0 : (L2.start N (V.ref a :: ws))[0]? = some (some (.ref a)) := rfl
  have sti : ∀ j, j < n → ∃ v, (L2.start N (V.ref a :: ws))[j]? = some (some v) := fun j hj => by
    have hj2 : j < (V.ref a :: ws).length := by rw [hl]; exact hj
    refine ⟨(V.ref a :: ws)[j], ?_⟩
    unfold L2.start
    rw [List.getElem?_append_left (by simpa using hj2), List.getElem?_map, List.getElem?_eq_getElem hj2]
    rfl
  obtain ⟨v, hv⟩ := sti i (hps (g, i) (by simp))
  refine ⟨v, hv, .ref a, st0, a, C, rfl, T, hf (g, i) (by simp), .inl ⟨ha, fun dx hdx hne => ?_⟩⟩
  refine err_run T st0 hne r [(g, v)] (fun q hq => ⟨hf q (by simp [hq]), sti q.2 (hps q (by simp [hq]))⟩) (by simp; omega) ?_
  have := q dx hdx hne
  have ew : (((L2.start N (V.ref a :: ws))[i]?.bind id).getD .non) = v := by rw [hv]; rfl
  unfold errF at this
  rw [ew] at this
  exact this
end
def errFD (ρ : Sl) : List (Str × D) → List (Str × Nat) → List (Str × D)
  | acc, [] => acc
  | acc, (f, i) :: r => errFD ρ ((f, ((ρ[i]?.bind id).getD .non)) :: acc) r
theorem errF_rep {K : PySem.W.Frag} {cl : Str → Option Addr} {W : Wd} {σ : St} {ρ : Sl} : ∀ (r : List (Str × Nat)) {acc : List (Str × V)} {acd : List (Str × D)}, (∀ q ∈ r, ∃ v d, σ[q.2]? = some (some v) ∧ ρ[q.2]? = some (some d) ∧ Rep K cl W v d) → RepF K cl W acc acd →
    RepF K cl W (errF σ acc r) (errFD ρ acd r)
  | [], _, _, _, h => h
  | (f, i) :: r, acc, acd, hr, h => by
    obtain ⟨v, d, h1, h2, h3⟩ := hr (f, i) (by simp)
    unfold errF errFD
    rw [h1, h2]
    exact errF_rep r (fun q hq => hr q (by simp [hq])) (.cons h3 h)
theorem errFD_len {ρ : Sl} : ∀ (r : List (Str × Nat)) (acc : List (Str × D)), (errFD ρ acc r).length = acc.length + r.length
  | [], acc => rfl
  | (f, i) :: r, acc => by
    unfold errFD
    rw [errFD_len r]
    simp
    omega
theorem errFD_ne {ρ : Sl} {r : List (Str × Nat)} (h : r ≠ []) : errFD ρ [] r ≠ [] := fun e => by
  have q := errFD_len (ρ := ρ) r []
  rw [e] at q
  have := List.length_pos_iff.mpr h
  simp at q
  omega
/-- raise c(..), an own error with fields -/
def ErrF (P : Program) (w : World) (K : PySem.W.Frag) (mg : Str → Option Value) (base : Heap) (cl : Str → Option Addr) (c : Str) (k n : Nat) (N : List Str) (r : List (Str × Nat)) : Prop :=
  ∃ C fI fd ps, cl c = some C ∧ mg c = some (.ref C) ∧ OexC K C ∧ PySem.W.findIn K (.ref C) "__init__" = some (some (.ref fI)) ∧ PySem.W.typeIn K (.ref fI) = some (.type "function") ∧
    FnOk P w K mg base (L2.CX P w) k fI fd ps (spErr K N n r) ∧ Binds K fd ps [] ∧ ∀ q ∈ r, PySem.W.findIn K (.ref C) q.1 = some none
def sRaise (c : Str) (n N : Nat) (r : List (Str × Nat)) (a : M (List D)) : MS := fun ρ S => sB (a ρ S) ρ fun ds S1 => if ds.length + 1 = n ∧ ds.length ≤ 1000 then .exc ⟨c, errFD (startD N (.non :: ds)) [] r⟩ ρ S1 else .stk
section
variable {X : Cx} {cl : Str → Option Addr} {E : WX} {c : Str} {k n : Nat} {N : List Str} {r : List (Str × Nat)} {e : Expr} {es : List Expr} {ms : M (List D)} {p pos pos' : Pos}
theorem s_raiseF (h : ErrF X.prog X.w X.K X.mg X.base cl c k n N r) (rm : Room (k + 1) X.A) (tk : Takes X E) (hA : PA X (e :: es) (TL X.K cl E ms)) (hr0 : r ≠ []) (hq : ∀ q ∈ r, 1 ≤ q.2 ∧ q.2 < n) (hcalm : X.calm = true := by rfl) (hg : Gl X c := by rfl)
    (hdb : (c == ("__debug__" : Str)) = false := by decide) (h1 : starEach (e :: es) X.env = (false, eval e X.env) :: starEach es X.env := by rfl) (h2 : (backTo pos (starEach es X.env)).any (·.1) = false := by rfl) :
    PS X (.Raise (some (.Call (.Name c p) (e :: es) [] pos)) none pos') (Ts X.K cl E (sRaise c n N.length r ms)) := by
  obtain ⟨C, fI, fd, ps, c1, c2, c3, c4, c5, c6, c7, c8⟩ := h
  have hx : Passes (L2.CX X.prog X.w) X (fun _ _ _ => False) := fun pins σ H s e s' I z => passAt (X := X) (W := fun _ _ _ _ => False) takes0 σ pins H s e s' I z
  refine ps_imp (ps_raise hcalm tk (pmk_oex c3 c4 c5 c6 rm c7 .nil hx hg c2 hA hdb h1 h2)) fun A σ H ⟨W, ρ, S, hr, he, pp⟩ => ?_
  refine stepS (rel := Reps X.K cl) hr he pp fun W1 H1 vs ds S1 l1 r1 e1 rv p1 => ?_
  split at p1
  · rename_i hz
    refine ⟨by rw [rv.len]; exact hz.2, fun a ha => ?_⟩
    rw [List.append_nil]
    have lv : vs.length = ds.length := rv.len
    refine ⟨a, C, vs, rfl, by rw [List.length_cons, lv]; exact hz.1, c3, c8, upd_same, fun dx hdx hne => ⟨rfl, dx, errF (L2.start N (V.ref a :: vs)) [] r, upd_same, ?_, ?_, ?_⟩⟩
    · rw [upd_ne hne]
      exact upd_same
    · rw [upd_ne hne] at hdx
      exact hdx
    · rw [upd_ne hne] at hdx
      have eh : upd (del (upd (upd (upd H1 a (exo a C none)) dx (exd dx (errF (L2.start N (V.ref a :: vs)) [] r))) a (exo a C (some dx))) a) dx (.xd (errF (L2.start N (V.ref a :: vs)) [] r)) = upd H1 dx (.xd (errF (L2.start N (V.ref a :: vs)) [] r)) := by
        funext b
        by_cases hb : b = dx
        · subst hb
          rw [upd_same, upd_same]
        · rw [upd_ne hb, upd_ne hb]
          by_cases hba : b = a
          · subst hba
            rw [del_same, ha]
          · rw [del_ne hba, upd_ne hba, upd_ne hb, upd_ne hba]
      rw [eh]
      obtain ⟨r2, l2⟩ := r1.fz (o := .xd (errF (L2.start N (V.ref a :: vs)) [] r)) hdx
      refine p1 _ _ σ (.ref C) (some dx) l2 r2 (e1.up l2) ⟨C, c1, rfl, .inr ⟨dx, _, rfl, upd_same, errFD_ne hr0, errF_rep r (fun q hqq => ?_) .nil⟩⟩
      obtain ⟨q1, q2⟩ := hq q hqq
      obtain ⟨m, hm⟩ : ∃ m, q.2 = m + 1 := ⟨q.2 - 1, by omega⟩
      have hmd : m < ds.length := by omega
      obtain ⟨y, hy, ry⟩ := (rv.up l2).at (i := m) (x := ds[m]) (List.getElem?_eq_getElem hmd)
      refine ⟨y, ds[m], ?_, ?_, ry⟩
      · rw [hm]
        unfold L2.start
        rw [List.getElem?_append_left (by simp; omega), List.getElem?_map, List.getElem?_cons_succ, hy]
        rfl
      · rw [hm]
        unfold startD
        rw [List.getElem?_append_left (by simp; omega), List.getElem?_map, List.getElem?_cons_succ, List.getElem?_eq_getElem hmd]
        rfl
  · exact p1.elim
end
/-- raise c(), an own error without fields -/
def Err0 (K : PySem.W.Frag) (mg : Str → Option Value) (cl : Str → Option Addr) (c : Str) : Prop :=
  ∃ (C : Addr) (B newId initId : String) (bmB : List Value), cl c = some C ∧ mg c = some (.ref C) ∧ ExcBaseFacts B newId initId bmB ∧ PySem.W.excIn K C bmB newId = true ∧ PySem.W.keepIn K (.ref C) = true ∧ PySem.W.subIn K (.ref C) (.type "BaseException") = some true ∧ PySem.W.typeIn K (.ref C) = some (.type "type")
def sRaise0 (c : Str) : MS := fun ρ S => .exc ⟨c, []⟩ ρ S
theorem s_raise0 {X : Cx} {cl : Str → Option Addr} {E : WX} {c : Str} {p pos pos' : Pos} (h : Err0 X.K X.mg cl c) (tk : Takes X E) (hcalm : X.calm = true := by rfl) (hg : Gl X c := by rfl) (hdb : (c == ("__debug__" : Str)) = false := by decide) :
    PS X (.Raise (some (.Call (.Name c p) [] [] pos)) none pos') (Ts X.K cl E (sRaise0 c)) := by
  obtain ⟨C, B, newId, initId, bmB, c1, c2, c3, c4, c5, c6, c7⟩ := h
  exact ps_imp (ps_raise hcalm tk (pmk_own0 c3 c4 c2 c5 (raises_own c6 c7) hg hdb)) fun A σ H ⟨W, ρ, S, hr, he, pp⟩ => pp W H σ (.ref C) none (.rf W) hr he ⟨C, c1, rfl, .inl ⟨rfl, rfl⟩⟩
end G
namespace G
open PySem L2
/-! ### in an except suite: fields of the handled exception -/
def xfD (cs : List Str) (f : Str) (d : D) (S : Store) : Res D := match d with
  | .exv c fs => if c ∈ cs then ofO (fs.lookup f) S else .stk
  | _ => .stk
/-- f is a field of these errors -/
def XAttr (K : PySem.W.Frag) (cl : Str → Option Addr) (f : Str) (cs : List Str) : Prop := ∀ c ∈ cs, rsvN c = false ∧ ∀ C, cl c = some C → XfC K C ∧ PySem.W.findIn K (.ref C) f = some none
section
variable {X : Cx} {cl : Str → Option Addr} {E : WX} {a : Addr} {oe : Obj} {C0 : Addr} {d : Option Addr} {pn : List (Addr × Obj)} {f n : Str} {cs : List Str} {i : Nat} {np pos : Pos}
theorem t_xf (i : Nat) (ht : XAttr X.K cl f cs) (hz : Zc (.ref C0) d oe) (hf : ∃ vs, oe.data = .fields vs) (hN : X.N[i]? = some n := by rfl) (hv : Vis X.env.scope n := by first | exact Or.inl rfl | exact Or.inr (Or.inl rfl) | exact Or.inr (Or.inr rfl))
    (hd : (n == ("__debug__" : Str)) = false := by decide) (hcd : (n == ("__classdict__" : Str)) = false := by decide) (hb : attributeBase (.Name n np) f X.env (eval (.Name n np) X.env) = eval (.Name n np) X.env := by rfl) :
    PE (X.suite a ((a, oe) :: pn)) (.Attribute (.Name n np) f pos) (T X.K (clX cl a C0 d) E (mUn (xfD cs f) (mVar i))) := by
  refine ⟨fun pins s σ H Q I ⟨W, ρ, S, hr, he, p⟩ => ?_⟩
  unfold mUn mVar at p
  split at p
  · rename_i x e
    obtain ⟨v, h1, h2⟩ := he.at' i x e
    dsimp only [Res.bind] at p
    unfold xfD at p
    split at p
    · rename_i c fs
      split at p
      · rename_i hm
        obtain ⟨n1, n2⟩ := ht c hm
        cases el : fs.lookup f with
        | none => rw [el] at p; exact p.elim
        | some y =>
          rw [el] at p
          cases h2 with
          | exv0 g1 g2 g3 g4 => cases el
          | exv1 g1 g2 g3 g4 g5 g7 g6 =>
            rw [clX_a] at g1
            rw [clX_c] at g2
            rw [clX_d] at g3
            cases g1
            cases g2
            obtain ⟨T1, T2⟩ := n2 _ (clX_to n1 g4)
            obtain ⟨u, hu, ru⟩ := g6.get el
            refine (pe_xf (te := tVar i) T1 T2 hz hf (pe_var (X := X.suite a ((a, oe) :: pn)) hN hv hd hcd) hb).run pins s σ H Q I ⟨_, h1, rfl, rfl, _, _, u, g3, hr.sub _ _ g5, hu, p.now hr ru⟩
      · exact p.elim
    · exact p.elim
  · exact p.elim
end
/-! isinstance of the handled exception (an error without fields) -/
def isE (tb : List (Str × Bool)) (d : D) (S : Store) : Res D := match d with
  | .exv c [] => (match tb.lookup c with
    | some b => .ok (.bl b) S
    | none => .stk)
  | _ => .stk
def XIs (K : PySem.W.Frag) (cl : Str → Option Addr) (c2 : Value) (tb : List (Str × Bool)) : Prop := ∀ c b, tb.lookup c = some b → rsvN c = false ∧ ∀ C, cl c = some C → ExcC K C ∧ PySem.W.kitOne K (.ref C) c2 = some b
section
variable {X : Cx} {cl : Str → Option Addr} {E : WX} {a C0 C2 : Addr} {oe : Obj} {d : Option Addr} {pn : List (Addr × Obj)} {n x2 : Str} {tb : List (Str × Bool)} {i : Nat} {p p1 p2 pos : Pos}
theorem t_isE (i : Nat) (ht : XIs X.K cl (.ref C2) tb) (hm2 : X.mg x2 = some (.ref C2)) (hz : Zc (.ref C0) d oe) (hf : ∃ vs, oe.data = .fields vs) (hm : X.mg "isinstance" = none) (hN : X.N[i]? = some n := by rfl) (hv : Vis X.env.scope n := by first | exact Or.inl rfl | exact Or.inr (Or.inl rfl) | exact Or.inr (Or.inr rfl))
    (hd : (n == ("__debug__" : Str)) = false := by decide) (hcd : (n == ("__classdict__" : Str)) = false := by decide) (hg : Gl X "isinstance" := by rfl) (hg2 : Gl X x2 := by rfl) (hd2 : (x2 == ("__debug__" : Str)) = false := by decide)
    (hs : starEach [.Name x2 p2] X.env = (false, eval (.Name x2 p2) X.env) :: starEach [] X.env := by rfl)
    (he : starEach [.Name n p1, .Name x2 p2] X.env = (false, eval (.Name n p1) X.env) :: starEach [.Name x2 p2] X.env := by rfl) (hpl : (backTo pos (starEach [.Name x2 p2] X.env)).any (·.1) = false := by rfl) :
    PE (X.suite a ((a, oe) :: pn)) (.Call (.Name "isinstance" p) [.Name n p1, .Name x2 p2] [] pos) (T X.K (clX cl a C0 d) E (mUn (isE tb) (mVar i))) := by
  refine ⟨fun pins s σ H Q I ⟨W, ρ, S, hr, hen, q⟩ => ?_⟩
  unfold mUn mVar at q
  split at q
  · rename_i x e
    obtain ⟨v, h1, h2⟩ := hen.at' i x e
    dsimp only [Res.bind] at q
    unfold isE at q
    split at q
    · rename_i c
      split at q
      · rename_i b el
        obtain ⟨n1, n2⟩ := ht c b el
        cases h2 with
        | exv1 g1 g2 g3 g4 g5 g7 g6 => exact absurd rfl g7
        | exv0 g1 g2 g3 g4 =>
          rw [clX_a] at g1
          rw [clX_c] at g2
          rw [clX_d] at g3
          cases g1
          cases g2
          subst g3
          obtain ⟨T1, T2⟩ := n2 _ (clX_to n1 g4)
          refine (pe_callB (X := X.suite a ((a, oe) :: pn)) (call_isE T1 hz hf) hg hm bt_isinstance (pa_cons (pe_var (X := X.suite a ((a, oe) :: pn)) hN hv hd hcd) (pa_cons (pe_glob (v := .ref C2) hg2 hm2 rfl hd2) pa_nil hs) he) (by decide) (by decide) he hpl).run pins s σ H Q I ?_
          exact ⟨_, h1, .ref C2, .ref C2, b, rfl, fun u r => r, T2, q.now hr (.bl b)⟩
      · exact q.elim
    · exact q.elim
  · exact q.elim
end
end G
namespace G
open PySem L2
/-! ### the table of classes, read from the written part -/
def clOf (names : List Str) (K : PySem.W.Frag) : Str → Option Addr := fun c => if names.contains c = true then (match PySem.W.nsIn K mainGlobals c with
  | some (some (.ref C)) => some C
  | _ => none) else none
theorem clOf_at {names : List Str} {K : PySem.W.Frag} {c : Str} {C : Addr} (h : PySem.W.nsIn K mainGlobals c = some (some (.ref C))) (hm : names.contains c = true) : clOf names K c = some C := by
  unfold clOf
  rw [if_pos hm, h]
theorem clOf_rsv {names : List Str} {K : PySem.W.Frag} (h : (names.contains "#a" || names.contains "#c" || names.contains "#d") = false) : Rsv (clOf names K) := by
  simp only [Bool.or_eq_false_iff] at h
  obtain ⟨⟨h1, h2⟩, h3⟩ := h
  exact ⟨by unfold clOf; rw [h1]; rfl, by unfold clOf; rw [h2]; rfl, by unfold clOf; rw [h3]; rfl⟩
/-! tables of methods -/
section
variable {P : Program} {w : World} {K : PySem.W.Frag} {mg : Str → Option Value} {base : Heap} {cl : Str → Option Addr} {c m : Str} {j k n : Nat} {g : List D → Store → Res D} {tb : MT}
theorem MFn.mono (h : MFn P w K mg base cl c m j n g) (le : j ≤ k) : MFn P w K mg base cl c m k n g := by
  obtain ⟨C, f, fd, ps, h1, h2, h3, h4, h5⟩ := h
  exact ⟨C, f, fd, ps, h1, h2, h3, h4.mono le, h5⟩
theorem mt_nil : ∀ c g, ([] : MT).lookup c = some g → MFn P w K mg base cl c m k n g := fun c g h => by cases h
theorem mt_cons (h : MFn P w K mg base cl c m k n g) (ht : ∀ c g, tb.lookup c = some g → MFn P w K mg base cl c m k n g) : ∀ c' g', ((c, g) :: tb).lookup c' = some g' → MFn P w K mg base cl c' m k n g' := fun c' g' e => by
  rw [List.lookup_cons] at e
  cases q : c' == c with
  | true =>
    rw [q] at e
    cases e
    rw [eq_of_beq q]
    exact h
  | false =>
    rw [q] at e
    exact ht c' g' e
theorem mt_ex : ∃ c' g', ((c, g) :: tb).lookup c' = some g' := ⟨c, g, by rw [List.lookup_cons, beq_self_eq_true]⟩
theorem at_nil {f : Str} : AttrOk K cl f [] := fun _ h => nomatch h
theorem at_cons {f : Str} {C : Addr} {cs : List Str} (hc : cl c = some C) (h1 : Cls K C) (h2 : NoAttr K C f) (h : AttrOk K cl f cs) : AttrOk K cl f (c :: cs) := fun c' hm C' hC' => by
  rcases List.mem_cons.mp hm with rfl | hm
  · rw [hc] at hC'
    cases hC'
    exact ⟨h1, h2⟩
  · exact h c' hm C' hC'
end
/-- a live [x] * n -/
def mulLv (a b : D) (S : Store) : Res D := match b with
  | .int k => (match lsOf S a with
    | some xs => if 0 ≤ k ∧ smR k = true ∧ xs.length * k.toNat ≤ sizeLine then .ok (.ref S.length) (S ++ [.lst (List.replicate k.toNat xs).flatten]) else .stk
    | none => .stk)
  | _ => .stk
theorem mulLv_s {K : PySem.W.Frag} {cl : Str → Option Addr} : OpS K cl rMulA mulLv := by
  intro W H S x y a b Q E r rx ry p
  unfold mulLv at p
  split at p
  · cases ry
    split at p
    · rename_i xs e1
      obtain ⟨l1, vs1, rfl, h1, t1⟩ := ls_of r rx e1
      split at p
      · rename_i hz
        exact .inr ⟨_, _, _, rfl, rfl, h1, by have := (smR_of hz.2.1).1; omega, by have := (smR_of hz.2.1).2; omega, by rw [t1.len]; exact hz.2.2, newLv r (t1.rep _) p⟩
      · exact p.elim
    · exact p.elim
  · exact p.elim
/-! exceptions, by name -/
def XIsN (K : PySem.W.Frag) (mg : Str → Option Value) (cl : Str → Option Addr) (x : Str) (tb : List (Str × Bool)) : Prop := ∃ C2, mg x = some (.ref C2) ∧ XIs K cl (.ref C2) tb
def TryT (K : PySem.W.Frag) (mg : Str → Option Value) (cl : Str → Option Addr) (x : Str) (tb : List (Str × Bool)) : Prop := ∃ C2, mg x = some (.ref C2) ∧ ∀ c b, tb.lookup c = some b → ∀ C, cl c = some C → PySem.W.exmOne K (.ref C) (.ref C2) = some b
section
variable {X : Cx} {cl : Str → Option Addr} {E : WX} {a C0 : Addr} {oe : Obj} {d : Option Addr} {pn : List (Addr × Obj)} {n x2 : Str} {tb : List (Str × Bool)} {p p1 p2 pos : Pos}
theorem t_isEN (i : Nat) (ht : XIsN X.K X.mg cl x2 tb) (hz : Zc (.ref C0) d oe) (hf : ∃ vs, oe.data = .fields vs) (hm : X.mg "isinstance" = none) (hN : X.N[i]? = some n := by rfl) (hv : Vis X.env.scope n := by first | exact Or.inl rfl | exact Or.inr (Or.inl rfl) | exact Or.inr (Or.inr rfl))
    (hd : (n == ("__debug__" : Str)) = false := by decide) (hcd : (n == ("__classdict__" : Str)) = false := by decide) (hg : Gl X "isinstance" := by rfl) (hg2 : Gl X x2 := by rfl) (hd2 : (x2 == ("__debug__" : Str)) = false := by decide)
    (hs : starEach [.Name x2 p2] X.env = (false, eval (.Name x2 p2) X.env) :: starEach [] X.env := by rfl)
    (he : starEach [.Name n p1, .Name x2 p2] X.env = (false, eval (.Name n p1) X.env) :: starEach [.Name x2 p2] X.env := by rfl) (hpl : (backTo pos (starEach [.Name x2 p2] X.env)).any (·.1) = false := by rfl) :
    PE (X.suite a ((a, oe) :: pn)) (.Call (.Name "isinstance" p) [.Name n p1, .Name x2 p2] [] pos) (T X.K (clX cl a C0 d) E (mUn (isE tb) (mVar i))) := by
  obtain ⟨C2, h1, h2⟩ := ht
  exact t_isE i h2 h1 hz hf hm hN hv hd hcd hg hg2 hd2 hs he hpl
end
section
variable {X : Cx} {cl : Str → Option Addr} {E : WX} {x n t : Str} {i j : Nat} {body : List Stmt} {e : Expr} {np pos pos' ap : Pos} {mb : MS} {m : M D} {cs : List (Str × Bool)} {tp : Pos}
theorem s_tryAN (q : Rsv cl) (hs : X.stack = X.env :: X.outer) (hf : X.env.frame = some X.env.locals) (hN : X.N.Nodup) (hi : X.N[i]? = some n) (hln : X.env.kindOf n = some .local) (ht : TryT X.K X.mg cl x cs) (tk : Takes X E) (hij : i ≠ j)
    (hb : ∀ (W : WX) (pn : List (Addr × Obj)) (xe : Value → Shared → Prop), Takes (X.tr pn xe) W → PassesOwn (model X.prog X.w) X.A X.env xe → PSs (X.tr pn xe) body (Ts X.K cl W mb))
    (hsu : ∀ (a : Addr) (oe : Obj) (C : Addr) (d : Option Addr) (pn : List (Addr × Obj)), Zc (.ref C) d oe → (∃ vs, oe.data = .fields vs) → PSs (X.suite a ((a, oe) :: pn)) [.Assign [.Name t tp] e ap] (Ts X.K (clX cl a C d) (fun _ _ _ _ => False) (sSet j m)))
    (hg : Gl X x := by rfl) (hdb : (x == ("__debug__" : Str)) = false := by decide) :
    PS X (.Try body [.ExceptHandler (some (.Name x np)) (some n) [.Assign [.Name t tp] e ap] pos'] [] [] pos) (Ts X.K cl E (sTryA cs i j m mb)) := by
  obtain ⟨C2, h1, h2⟩ := ht
  exact s_tryA q hs hf hN hi hln ⟨hg, hdb, .inl h1⟩ tk hij h2 hb hsu
end
end G
namespace G
open PySem L2
/-! ### o.f, o.g = e -/
section
variable {X : Cx} {cl : Str → Option Addr} {E : WX} {o e : Expr} {m mo : M D} {f g : Str} {pos pos' p1 p2 : Pos} {cs : List Str} {kt : Nat}
/-- the target o.f -/
theorem pg_fldX {to : TE} (ho : PE X o to) : PG X (.Attribute o f pos) (fun v σ H Q => to σ H fun x H1 => ∃ a C dx fs, x = .ref a ∧ H1 a = some (.ins C dx fs) ∧ Cls X.K C ∧ NoAttr X.K C f ∧ fs.length < 1000 ∧ Q σ (upd H1 a (.ins C dx (putF f v fs)))) :=
  ⟨fun pins s σ H v u Q I rv hw => PySem.W.kas_attr (thn (ho.run pins s σ H _ I hw) fun ov s1 ⟨x, H1, I1, rx, a, C, dx, fs, ex, ea, c, n, l, q⟩ => by
    subst ex
    obtain rfl : ov = Value.ref a := rx
    exact setattr_ok I1 ea c n l rv fun s2 I2 => ⟨σ, _, I2, q⟩)⟩
def sSetF2 (cs : List Str) (f g : Str) (o e : M D) : MS := fun ρ S => sB (e ρ S) ρ fun v S1 => match v with
  | .tup [x, y] => sB (o ρ S1) ρ fun z S2 => (match setFD cs f x z S2 with
    | some S3 => sB (o ρ S3) ρ fun z' S4 => (match setFD cs g y z' S4 with
      | some S5 => .nx ρ S5
      | none => .stk)
    | none => .stk)
  | _ => .stk
theorem setFD_of {K : PySem.W.Frag} {W : Wd} {H : Hp} {S S3 : Store} {x : V} {y d : D} {v : V} (ht : AttrOk K cl f cs) (r : R K cl W H S) (rx : Rep K cl W x y) (rv : Rep K cl W v d) (q : setFD cs f d y S = some S3) :
    ∃ a C dx fs, x = .ref a ∧ H a = some (.ins C dx fs) ∧ Cls K C ∧ NoAttr K C f ∧ fs.length < 1000 ∧ R K cl W (upd H a (.ins C dx (putF f v fs))) S3 := by
  unfold setFD at q
  split at q
  · rename_i n
    split at q
    · rename_i c fs es
      split at q
      · rename_i hm
        cases q
        cases rx with | ref hn =>
        obtain ⟨g0, C, dx, vs, hc, ha, rf⟩ := r.live n _ es (by intro z; cases z)
        obtain ⟨q1, q2⟩ := ht c hm.1 C hc
        exact ⟨_, C, dx, vs, rfl, ha, q1, q2, by rw [rf.len]; exact hm.2, r.put es (by intro z; cases z) ⟨C, dx, _, hc, upd_same, rf.put rv⟩⟩
      · cases q
    · cases q
  · cases q
theorem s_fld2 {o' : Expr} (hf : AttrOk X.K cl f cs) (hg : AttrOk X.K cl g cs) (ho : PE X o (T X.K cl E mo)) (ho' : PE X o' (T X.K cl E mo)) (he : PE X e (T X.K cl E m)) (hc : X.calm = true := by rfl)
    (hs : swapsWithSole [.Tuple [.Attribute o f p1, .Attribute o' g p2] kt pos'] e pos.line X.env = pure false := by rfl) (hw : swappedStores [.Tuple [.Attribute o f p1, .Attribute o' g p2] kt pos'] e X.env = pure none := by rfl)
    (h1 : (assignEach [.Tuple [.Attribute o f p1, .Attribute o' g p2] kt pos'] X.env).map (·.2) = [assign (.Tuple [.Attribute o f p1, .Attribute o' g p2] kt pos') X.env] := by rfl)
    (ha : (assignEach [.Attribute o f p1, .Attribute o' g p2] X.env).map (·.2) = assign (.Attribute o f p1) X.env :: (assignEach [.Attribute o' g p2] X.env).map (·.2) := by rfl)
    (hb : (assignEach [.Attribute o' g p2] X.env).map (·.2) = assign (.Attribute o' g p2) X.env :: (assignEach [] X.env).map (·.2) := by rfl)
    (hn : (assignEach [.Attribute o f p1, .Attribute o' g p2] X.env).length = 2 := by rfl) (hst : (assignEach [.Attribute o f p1, .Attribute o' g p2] X.env).findIdx? (·.1) = none := by rfl) :
    PS X (.Assign [.Tuple [.Attribute o f p1, .Attribute o' g p2] kt pos'] e pos) (Ts X.K cl E (sSetF2 cs f g mo m)) :=
  ps_imp (ps_asg he (pg_tup hc (pgs_cons (pg_fldX ho) (pgs_cons (pg_fldX ho') pgs_nil hb) ha) hn hst) hs hw h1) fun A σ H ⟨W, ρ, S, hr, en, q⟩ => stepS hr en q fun W1 H1 v d S1 l1 r1 e1 rv p1 => by
    split at p1
    · rename_i dx dy
      cases rv with | tup h t =>
      cases t with | cons r2 t =>
      cases t with | cons r3 t =>
      cases t
      refine ⟨_, _, rfl, sqT_up r1.sub h, rfl, _, _, rfl, ?_⟩
      refine stepS r1 e1 p1 fun W2 H2 z dz S2 l2 r4 e2 rz p2 => ?_
      cases q3 : setFD cs f dx dz S2 with
      | none => simp only [q3] at p2; exact p2.elim
      | some S3 =>
        simp only [q3] at p2
        obtain ⟨a, C, dx', fs, ez, ea, c1, c2, c3, r5⟩ := setFD_of hf r4 rz (r2.up l2) q3
        refine ⟨a, C, dx', fs, ez, ea, c1, c2, c3, _, _, rfl, ?_⟩
        refine stepS r5 e2 p2 fun W3 H3 z' dz' S4 l3 r6 e3 rz' p3 => ?_
        cases q4 : setFD cs g dy dz' S4 with
        | none => simp only [q4] at p3; exact p3.elim
        | some S5 =>
          simp only [q4] at p3
          obtain ⟨a', C', dx2, fs', ez', ea', c1', c2', c3', r7⟩ := setFD_of hg r6 rz' (r3.up (l2.tr l3)) q4
          exact ⟨a', C', dx2, fs', ez', ea', c1', c2', c3', rfl, p3 W3 _ σ (.rf W3) r7 e3⟩
    · exact p1.elim
end
theorem s_par {X : Cx} {cl : Str → Option Addr} {E : WX} {x y : Str} {a b : Expr} {ms : M (List D)} {px py pt pos : Pos} {kt k2 : Nat} {pt2 : Pos} (i j : Nat) (hN : X.N.Nodup) (ha : PA X [a, b] (TL X.K cl E ms)) (hc : X.calm = true := by rfl) (hi : X.N[i]? = some x := by rfl) (hj : X.N[j]? = some y := by rfl) (hij : i ≠ j := by decide)
    (hx : X.env.scope.names.lookup x = some .local := by rfl) (hy : X.env.scope.names.lookup y = some .local := by rfl)
    (hw : swappedStores [.Tuple [.Name x px, .Name y py] kt pt] (.Tuple [a, b] k2 pt2) X.env = pure (some [x, y]) := by rfl)
    (hs : swapsWithSole [.Tuple [.Name x px, .Name y py] kt pt] (.Tuple [a, b] k2 pt2) pos.line X.env = pure false := by rfl) :
    PS X (.Assign [.Tuple [.Name x px, .Name y py] kt pt] (.Tuple [a, b] k2 pt2) pos) (Ts X.K cl E (sPar i j ms)) :=
  ps_imp (ps_par hc hN hi hj hij hx hy ha hw hs) fun A σ H ⟨W, ρ, S, hr, en, q⟩ => stepS hr en q fun W1 H1 vs ds S1 l1 r1 e1 rv p1 => by
    split at p1
    · cases rv with | cons r2 t =>
      cases t with | cons r3 t =>
      cases t
      exact ⟨_, _, rfl, p1 W1 H1 _ (.rf W1) r1 ((e1.set i r2).set j r3)⟩
    · exact p1.elim
/-! ### list(range(a, b)) -/
def rngL (as : List D) (S : Store) : Res D := match as with
  | [.int a, .int b] => if 0 ≤ a ∧ a ≤ 16777216 ∧ 0 ≤ b ∧ b ≤ 16777216 then .ok (.lst ((List.range (b - a).toNat).map fun i => .int (a + (i : Nat)))) S else .stk
  | _ => .stk
theorem reps_rng {K : PySem.W.Frag} {cl : Str → Option Addr} {W : Wd} (a : Int) : ∀ l : List Nat, Reps K cl W (l.map fun i => V.int (a + (i : Nat))) (l.map fun i => D.int (a + (i : Nat)))
  | [] => .nil
  | _ :: l => .cons (.int _) (reps_rng a l)
theorem t_listRg2 {X : Cx} {cl : Str → Option Addr} {E : WX} {a b : Expr} {m1 m2 : M D} {p p2 pos pos2 : Pos} (hm : X.mg "list" = none) (hm2 : X.mg "range" = none) (ha : PE X a (T X.K cl E m1)) (hb : PE X b (T X.K cl E m2)) (hc : X.calm = true := by rfl) (hg : Gl X "list" := by rfl) (hg2 : Gl X "range" := by rfl)
    (na : starEach [a, b] X.env = (false, eval a X.env) :: starEach [b] X.env := by rfl) (nb : starEach [b] X.env = (false, eval b X.env) :: starEach [] X.env := by rfl) (hp : (backTo pos2 (starEach [b] X.env)).any (·.1) = false := by rfl)
    (nc : starEach [.Call (.Name "range" p2) [a, b] [] pos2] X.env = (false, eval (.Call (.Name "range" p2) [a, b] [] pos2) X.env) :: starEach [] X.env := by rfl) :
    PE X (.Call (.Name "list" p) [.Call (.Name "range" p2) [a, b] [] pos2] [] pos) (T X.K cl E (mFn rngL (mCons m1 (mCons m2 mNil)))) :=
  pe_imp (pe_listRg hc hg hm (prg_2 hg2 hm2 ha hb na nb hp) nc) fun σ H Q ⟨W, ρ, S, hr, en, q⟩ => by
    have q : Post X.K cl (Rep X.K cl) W ((m1 ρ S).bind fun x S1 => (m2 ρ S1).bind fun y S2 => rngL [x, y] S2) Q (fun c d H' => E c d σ H') := by
      revert q
      unfold mFn mCons mNil
      cases m1 ρ S with
      | ok x S1 =>
        dsimp only [Res.bind]
        cases m2 ρ S1 <;> exact fun z => z
      | _ => exact fun z => z
    exact step hr en q fun W1 H1 x dx S1 l1 r1 e1 rx p1 => step r1 e1 p1 fun W2 H2 y dy S2 l2 r2 e2 ry p2 => by
      unfold rngL at p2
      split at p2
      · rename_i i j hij
        cases hij
        cases rx
        cases ry
        split at p2
        · rename_i hz
          refine ⟨_, _, rfl, rfl, RgOk.of_le hz.1 hz.2.2.2 hz.2.1 hz.2.2.1, ?_⟩
          exact newL r2 (reps_rng _ _) p2
        · exact p2.elim
      · exact p2.elim
/-! ### dicts -/
def dcOf (S : Store) (d : D) : Option (List (Key × D)) := match d with
  | .dct kvs => some kvs
  | .ref n => (match S[n]? with
    | some (.dct kvs) => some kvs
    | some (.ldc kvs) => some kvs
    | _ => none)
  | _ => none
def keyO : D → Option Key
  | .int i => some (.inl i)
  | .str s => some (.inr s)
  | _ => none
def valK (kvs : List (Key × D)) (k : Key) : Option D := (kvs.find? fun kv => decide (kv.1 = k)).map (·.2)
def putKD (kvs : List (Key × D)) (k : Key) (v : D) : List (Key × D) := if (kvs.any fun kv => decide (kv.1 = k)) = true then kvs.map (fun kv => if kv.1 = k then (kv.1, v) else kv) else kvs ++ [(k, v)]
section
variable {K : PySem.W.Frag} {cl : Str → Option Addr} {W : Wd} {H : Hp} {S : Store}
theorem key_rep {x : V} {d : D} {k : Key} (h : Rep K cl W x d) (e : keyO d = some k) : x = kV k := by
  cases h <;> first | (cases e; rfl) | cases e
theorem dc_of {v : V} {d : D} {kvs : List (Key × D)} (r : R K cl W H S) (h : Rep K cl W v d) (e : dcOf S d = some kvs) : ∃ a vs, v = .ref a ∧ Rd H a (.dK vs) ∧ RepK K cl W vs kvs := by
  cases h with
  | dct g t =>
    cases e
    exact ⟨_, _, rfl, .inr ⟨_, r.sub _ _ g⟩, t⟩
  | @ref n hn =>
    unfold dcOf at e
    dsimp only at e
    cases q : S[n]? with
    | none => rw [q] at e; cases e
    | some mo =>
      rw [q] at e
      cases mo with
      | dct ys =>
        cases e
        obtain ⟨_, vs, h1, h2⟩ := r.live n _ q (by intro z; cases z)
        exact ⟨_, _, rfl, .inl h1, h2⟩
      | ldc ys =>
        cases e
        obtain ⟨_, o, vs, h1, h2⟩ := r.live n _ q (by intro z; cases z)
        exact ⟨_, _, rfl, .inr ⟨o, h1⟩, h2⟩
      | _ => cases e
  | _ => cases e
theorem RepK.val : ∀ {vs : List (Key × V)} {ds : List (Key × D)} (k : Key), RepK K cl W vs ds → (∃ v d, valV vs k = some v ∧ valK ds k = some d ∧ Rep K cl W v d) ∨ (valV vs k = none ∧ valK ds k = none)
  | _, _, k, .nil => .inr ⟨rfl, rfl⟩
  | _, _, k, .cons (k := j) (v := v) (d := d) h t => by
    by_cases e : j = k
    · subst e
      exact .inl ⟨v, d, by simp [valV], by simp [valK], h⟩
    · have e1 := RepK.val k t
      have e2 : ∀ {α : Type} (x : α) (r : List (Key × α)), ((j, x) :: r).find? (fun kv => decide (kv.1 = k)) = r.find? (fun kv => decide (kv.1 = k)) := fun x r => by simp [List.find?_cons, e]
      unfold valV valK at e1 ⊢
      rw [e2, e2]
      exact e1
theorem RepK.any : ∀ {vs : List (Key × V)} {ds : List (Key × D)} (k : Key), RepK K cl W vs ds → (vs.any fun kv => decide (kv.1 = k)) = (ds.any fun kv => decide (kv.1 = k))
  | _, _, k, .nil => rfl
  | _, _, k, .cons h t => by rw [List.any_cons, List.any_cons, RepK.any k t]
theorem RepK.repl {y : V} {d : D} (hy : Rep K cl W y d) : ∀ {vs : List (Key × V)} {ds : List (Key × D)} (k : Key), RepK K cl W vs ds → RepK K cl W (vs.map fun kv => if kv.1 = k then (kv.1, y) else kv) (ds.map fun kv => if kv.1 = k then (kv.1, d) else kv)
  | _, _, k, .nil => .nil
  | _, _, k, .cons (k := j) h t => by
    rw [List.map_cons, List.map_cons]
    by_cases e : j = k
    · rw [if_pos e, if_pos e]
      exact .cons hy (RepK.repl hy k t)
    · rw [if_neg e, if_neg e]
      exact .cons h (RepK.repl hy k t)
theorem RepK.snoc {y : V} {d : D} {k : Key} (hy : Rep K cl W y d) : ∀ {vs : List (Key × V)} {ds : List (Key × D)}, RepK K cl W vs ds → RepK K cl W (vs ++ [(k, y)]) (ds ++ [(k, d)])
  | _, _, .nil => .cons hy .nil
  | _, _, .cons h t => .cons h (RepK.snoc hy t)
theorem RepK.put {y : V} {d : D} {vs : List (Key × V)} {ds : List (Key × D)} (k : Key) (hy : Rep K cl W y d) (t : RepK K cl W vs ds) : RepK K cl W (putK vs k y) (putKD ds k d) := by
  unfold putK putKD
  rw [t.any k]
  by_cases e : (ds.any fun kv => decide (kv.1 = k)) = true
  · rw [if_pos e, if_pos e]
    exact t.repl hy k
  · rw [if_neg e, if_neg e]
    exact t.snoc hy
theorem RepK.len : ∀ {vs : List (Key × V)} {ds : List (Key × D)}, RepK K cl W vs ds → vs.length = ds.length
  | _, _, .nil => rfl
  | _, _, .cons _ t => by simp [t.len]
end
/-- in, not in: dicts too -/
def inDK (a b : D) (S : Store) : Option Bool := match dcOf S b, keyO a with
  | some kvs, some k => some (valK kvs k).isSome
  | _, _ => none
def inA (a b : D) (S : Store) : Res D := match dcOf S b with
  | some _ => ofB (inDK a b S) S
  | none => inD a b S
def notInA (a b : D) (S : Store) : Res D := match dcOf S b with
  | some _ => ofB ((inDK a b S).map not) S
  | none => notInD a b S
def rInDK : R2 := fun x y H Q => ∃ a o, y = .ref a ∧ DGet H a x o ∧ Q (.bl o.isSome) H
def rNotInDK : R2 := fun x y H Q => ∃ a o, y = .ref a ∧ DGet H a x o ∧ Q (.bl (!o.isSome)) H
theorem op_inD2 {X : Cx} {k : Nat} (hr : Room k X.A) : OpR X (compareOp .In) (fun x y H Q => rInA X.K x y H Q ∨ rInDK x y H Q) := opr_or op_inA fun pins s σ H x y v u Q I rx ry ⟨a, o, ey, g, q⟩ => by
  subst ey
  obtain rfl : u = Value.ref a := ry
  exact d_in (by have := hr.un; omega) I g rx fun s' I' => ⟨.bl o.isSome, _, I', rfl, q⟩
theorem op_notInD2 {X : Cx} {k : Nat} (hr : Room k X.A) : OpR X (compareOp .NotIn) (fun x y H Q => rNotInA X.K x y H Q ∨ rNotInDK x y H Q) := opr_or op_notInA fun pins s σ H x y v u Q I rx ry ⟨a, o, ey, g, q⟩ => by
  subst ey
  obtain rfl : u = Value.ref a := ry
  exact d_notIn (by have := hr.un; omega) I g rx fun s' I' => ⟨.bl (!o.isSome), _, I', rfl, q⟩
theorem dget_of {K : PySem.W.Frag} {cl : Str → Option Addr} {W : Wd} {H : Hp} {a : Addr} {vs : List (Key × V)} {kvs : List (Key × D)} {k : Key} (h : Rd H a (.dK vs)) (t : RepK K cl W vs kvs) :
    ∃ o, DGet H a (kV k) o ∧ o.isSome = (valK kvs k).isSome ∧ ∀ d, valK kvs k = some d → ∃ v, o = some v ∧ Rep K cl W v d := by
  refine ⟨valV vs k, .inl ⟨vs, k, h, rfl, rfl⟩, ?_⟩
  rcases t.val k with ⟨v, d, h1, h2, h3⟩ | ⟨h1, h2⟩
  · exact ⟨by rw [h1, h2]; rfl, fun d' e => by rw [h2] at e; cases e; exact ⟨v, h1, h3⟩⟩
  · exact ⟨by rw [h1, h2]; rfl, fun d' e => by rw [h2] at e; cases e⟩
theorem inA_s {K : PySem.W.Frag} {cl : Str → Option Addr} : OpS K cl (fun x y H Q => rInA K x y H Q ∨ rInDK x y H Q) inA := by
  intro W H S x y a b Q E r rx ry p
  unfold inA at p
  split at p
  · rename_i kvs e
    unfold inDK at p
    rw [e] at p
    cases ek : keyO a with
    | none => rw [ek] at p; exact p.elim
    | some k =>
      rw [ek] at p
      obtain ⟨l, vs, rfl, h, t⟩ := dc_of r ry e
      obtain rfl := key_rep rx ek
      obtain ⟨o, g, e1, _⟩ := dget_of (k := k) h t
      exact .inr ⟨l, o, rfl, g, by rw [e1]; exact p.now r (.bl _)⟩
  · exact .inl (in_s W H S x y a b Q E r rx ry p)
theorem notInA_s {K : PySem.W.Frag} {cl : Str → Option Addr} : OpS K cl (fun x y H Q => rNotInA K x y H Q ∨ rNotInDK x y H Q) notInA := by
  intro W H S x y a b Q E r rx ry p
  unfold notInA at p
  split at p
  · rename_i kvs e
    unfold inDK at p
    rw [e] at p
    cases ek : keyO a with
    | none => rw [ek] at p; exact p.elim
    | some k =>
      rw [ek] at p
      obtain ⟨l, vs, rfl, h, t⟩ := dc_of r ry e
      obtain rfl := key_rep rx ek
      obtain ⟨o, g, e1, _⟩ := dget_of (k := k) h t
      exact .inr ⟨l, o, rfl, g, by rw [e1]; exact p.now r (.bl _)⟩
  · exact .inl (notIn_s W H S x y a b Q E r rx ry p)
end G
namespace G
open PySem L2
/-! ### what the top has made of classes, as tests -/
def clsB (K : PySem.W.Frag) (C : Addr) : Bool := PySem.W.plainGet K C Str.empty && (PySem.W.hasDictIn K C && (PySem.W.plainOver K C && decide (PySem.W.findIn K (.ref C) "__setattr__" = some (some (.builtin "object.__setattr__")))))
theorem clsB_ok {K : PySem.W.Frag} {C : Addr} (h : clsB K C = true) : Cls K C := by
  obtain ⟨h1, h⟩ := Bool.and_eq_true_iff.mp h
  obtain ⟨h2, h⟩ := Bool.and_eq_true_iff.mp h
  obtain ⟨h3, h⟩ := Bool.and_eq_true_iff.mp h
  exact ⟨h1, h2, h3, of_decide_eq_true h⟩
def oexB (K : PySem.W.Frag) (C : Addr) : Bool := decide (PySem.W.findIn K (.ref C) "__setattr__" = some (some (.builtin "object.__setattr__"))) && (decide (PySem.W.subIn K (.ref C) (.type "BaseException") = some true) && (decide (PySem.W.typeIn K (.ref C) = some (.type "type")) && PySem.W.keepIn K (.ref C)))
theorem oexB_ok {K : PySem.W.Frag} {C : Addr} (c : ∃ nm q N bs bm sn sub ab col dd k0 k1 k2 k3 k5, K.lookup C = some (excClassObj nm q C N bs bm true sn sub ab col dd k0 k1 k2 k3 k5 "ValueError.__new__") ∧ PySem.HandSPX.refsVE bm = true) (h : oexB K C = true) : OexC K C := by
  obtain ⟨h1, h⟩ := Bool.and_eq_true_iff.mp h
  obtain ⟨h2, h⟩ := Bool.and_eq_true_iff.mp h
  obtain ⟨h3, h⟩ := Bool.and_eq_true_iff.mp h
  exact ⟨c, of_decide_eq_true h1, of_decide_eq_true h2, of_decide_eq_true h3, h⟩
def excB (K : PySem.W.Frag) (D : Addr) : Bool := decide (PySem.W.findIn K (.ref D) "__getattribute__" = some (some (.builtin "BaseException.__getattribute__"))) && (decide (PySem.W.findIn K (.ref D) "__getattr__" = some none) && (decide (PySem.W.subIn K (.ref D) (.type "BaseException") = some true) && (PySem.W.hasDictIn K D &&
  (decide (PySem.W.findIn K (.ref D) "__class__" = some (some (.builtin "object.__class__"))) && (decide (PySem.W.specialIn K (.builtin "object.__class__") "__get__" = some (some (.builtin "getset_descriptor.__get__"))) && (decide (PySem.W.takesIn K (.builtin "object.__class__") = some true) && decide (PySem.W.mroIn K D (.type "object") = some true)))))))
theorem excB_ok {K : PySem.W.Frag} {C : Addr} (h : excB K C = true) : ExcC K C := by
  obtain ⟨h1, h⟩ := Bool.and_eq_true_iff.mp h
  obtain ⟨h2, h⟩ := Bool.and_eq_true_iff.mp h
  obtain ⟨h3, h⟩ := Bool.and_eq_true_iff.mp h
  obtain ⟨h4, h⟩ := Bool.and_eq_true_iff.mp h
  obtain ⟨h5, h⟩ := Bool.and_eq_true_iff.mp h
  obtain ⟨h6, h⟩ := Bool.and_eq_true_iff.mp h
  obtain ⟨h7, h⟩ := Bool.and_eq_true_iff.mp h
  exact ⟨of_decide_eq_true h1, of_decide_eq_true h2, of_decide_eq_true h3, h4, of_decide_eq_true h5, of_decide_eq_true h6, of_decide_eq_true h7, of_decide_eq_true h⟩
section
variable {K : PySem.W.Frag} {mg : Str → Option Value} {cl : Str → Option Addr} {c x : Str} {C C2 : Addr} {b : Bool} {tb : List (Str × Bool)} {cs : List Str} {f : Str}
theorem xat_nil : XAttr K cl f [] := fun _ h => nomatch h
theorem xat_cons (hc : cl c = some C) (h1 : XfC K C) (h2 : PySem.W.findIn K (.ref C) f = some none) (h : XAttr K cl f cs) (hr : rsvN c = false := by decide) : XAttr K cl f (c :: cs) := fun c' hm => by
  rcases List.mem_cons.mp hm with rfl | hm
  · exact ⟨hr, fun C' hC' => by rw [hc] at hC'; cases hC'; exact ⟨h1, h2⟩⟩
  · exact h c' hm
theorem xis_nil : XIs K cl (.ref C2) [] := fun _ _ h => by cases h
theorem xis_cons (hc : cl c = some C) (h1 : ExcC K C) (h2 : PySem.W.kitOne K (.ref C) (.ref C2) = some b) (h : XIs K cl (.ref C2) tb) (hr : rsvN c = false := by decide) : XIs K cl (.ref C2) ((c, b) :: tb) := fun c' b' e => by
  rw [List.lookup_cons] at e
  cases q : c' == c with
  | true =>
    rw [q] at e
    cases e
    rw [eq_of_beq q]
    exact ⟨hr, fun C' hC' => by rw [hc] at hC'; cases hC'; exact ⟨h1, h2⟩⟩
  | false =>
    rw [q] at e
    exact h c' b' e
def TryX (K : PySem.W.Frag) (cl : Str → Option Addr) (C2 : Addr) (tb : List (Str × Bool)) : Prop := ∀ c b, tb.lookup c = some b → ∀ C, cl c = some C → PySem.W.exmOne K (.ref C) (.ref C2) = some b
theorem try_nil : TryX K cl C2 [] := fun _ _ h => by cases h
theorem try_cons (hc : cl c = some C) (h2 : PySem.W.exmOne K (.ref C) (.ref C2) = some b) (h : TryX K cl C2 tb) : TryX K cl C2 ((c, b) :: tb) := fun c' b' e => by
  rw [List.lookup_cons] at e
  cases q : c' == c with
  | true =>
    rw [q] at e
    cases e
    rw [eq_of_beq q]
    exact fun C' hC' => by rw [hc] at hC'; cases hC'; exact h2
  | false =>
    rw [q] at e
    exact h c' b' e
end
end G
namespace G
open PySem L2
/-! ### running: written texts -/
theorem str_inj {a b : String} (h : Str.ofString a = Str.ofString b) : a = b := by
  rw [Str.ofString_eq_toList, Str.ofString_eq_toList] at h
  have h1 : (a.toList.map Char.toNat) = (b.toList.map Char.toNat) := by
    have := congrArg (fun s : Str => s.cps.toList) h
    simpa using this
  have inj : ∀ {l r : List Char}, l.map Char.toNat = r.map Char.toNat → l = r := by
    intro l
    induction l with
    | nil => intro r e; cases r with | nil => rfl | cons _ _ => simp at e
    | cons c l ih =>
      intro r e
      cases r with
      | nil => simp at e
      | cons d r =>
        simp only [List.map_cons, List.cons.injEq] at e
        have e0 : c.val = d.val := UInt32.toNat_inj.mp e.1
        have e1 : c = d := Char.ext e0
        rw [e1, ih e.2]
  exact String.toList_inj.mp (inj h1)
@[simp] theorem str_lit {a b : String} : (Str.ofString a = Str.ofString b) = (a = b) := propext ⟨str_inj, fun h => h ▸ rfl⟩
@[simp] theorem str_beq {a b : String} : (Str.ofString a == Str.ofString b) = decide (a = b) := by
  by_cases h : a = b
  · subst h; simp
  · have : Str.ofString a ≠ Str.ofString b := fun e => h (str_inj e)
    simp [h, beq_eq_false_iff_ne.mpr this]
@[simp] theorem lk_cons {α : Type} {f m : Str} {x : α} {fs : List (Str × α)} : List.lookup f ((m, x) :: fs) = if f = m then some x else List.lookup f fs := by
  rw [List.lookup_cons]
  by_cases h : f = m
  · subst h; simp
  · simp [h, beq_eq_false_iff_ne.mpr h]
theorem szn (n : Nat) (h : Nat.ble n 16777216 = true) : (n ≤ sizeLine) = True := eq_true (by rw [sizeLine_eq]; exact Nat.le_of_ble_eq_true h)
@[simp] theorem sz1 : (1 ≤ sizeLine) = True := szn 1 rfl
@[simp] theorem sz2 : (2 ≤ sizeLine) = True := szn 2 rfl
@[simp] theorem sz3 : (3 ≤ sizeLine) = True := szn 3 rfl
@[simp] theorem sz4 : (4 ≤ sizeLine) = True := szn 4 rfl
@[simp] theorem sz5 : (5 ≤ sizeLine) = True := szn 5 rfl
@[simp] theorem sz6 : (6 ≤ sizeLine) = True := szn 6 rfl
@[simp] theorem sz7 : (7 ≤ sizeLine) = True := szn 7 rfl
@[simp] theorem sz8 : (8 ≤ sizeLine) = True := szn 8 rfl
@[simp] theorem sz9 : (9 ≤ sizeLine) = True := szn 9 rfl
@[simp] theorem sz10 : (10 ≤ sizeLine) = True := szn 10 rfl
@[simp] theorem sz11 : (11 ≤ sizeLine) = True := szn 11 rfl
@[simp] theorem sz12 : (12 ≤ sizeLine) = True := szn 12 rfl
@[simp] theorem sz13 : (13 ≤ sizeLine) = True := szn 13 rfl
@[simp] theorem sz14 : (14 ≤ sizeLine) = True := szn 14 rfl
@[simp] theorem sz16 : (16 ≤ sizeLine) = True := szn 16 rfl
@[simp] theorem sz17 : (17 ≤ sizeLine) = True := szn 17 rfl
@[simp] theorem sz21 : (21 ≤ sizeLine) = True := szn 21 rfl
/-! ### running: instances -/
section
variable {ρ : Sl} {S : Store} {d x y v : D} {ds es : List D} {n k l : Nat} {c f m : Str} {cs : List Str} {fs : List (Str × D)} {tb : MT} {i j : Int}
def rF (cs : List Str) (f : Str) (o : Option MO) (S : Store) : Res D := match o with
  | some (.ins c fs) => if c ∈ cs then ofO (fs.lookup f) S else .stk
  | _ => .stk
@[simp] theorem rF_some : rF cs f (some (.ins c fs)) S = if c ∈ cs then ofO (fs.lookup f) S else .stk := nrfl rfl
@[simp] theorem fld_ref : fldD cs f (.ref n) S = rF cs f (sg S n) S := by
  unfold fldD insO rF sg
  dsimp only
  cases S[n]? with
  | none => rfl
  | some mo => cases mo <;> rfl
def kM2 (n : Nat) (g : List D → Store → Res D) (x : D) (ys : List D) (S : Store) : Res D := ar n g (x :: ys) S
@[simp] theorem e_meth4 {g : List D → Store → Res D} : kM2 n g x ds S = ar n g (x :: ds) S := nrfl rfl
def rM3 (ρ : Sl) (n : Nat) (a : M (List D)) (x : D) (S : Store) (o : Option D) (g : Option (List D → Store → Res D)) : Res D := match o, g with
  | none, some g => (a ρ S).bind (kM2 n g x)
  | _, _ => .stk
@[simp] theorem e_meth3 {a : M (List D)} {g : List D → Store → Res D} : rM3 ρ n a x S none (some g) = (a ρ S).bind (kM2 n g x) := nrfl rfl
def rM (ρ : Sl) (tb : MT) (m : Str) (n : Nat) (a : M (List D)) (x : D) (S : Store) (o : Option MO) : Res D := match o with
  | some (.ins c fs) => rM3 ρ n a x S (fs.lookup m) (tb.lookup c)
  | _ => .stk
@[simp] theorem rM_some {a : M (List D)} : rM ρ tb m n a x S (some (.ins c fs)) = rM3 ρ n a x S (fs.lookup m) (tb.lookup c) := nrfl rfl
def kMeth (ρ : Sl) (tb : MT) (m : Str) (n : Nat) (a : M (List D)) (x : D) (S : Store) : Res D := match insO S x with
  | some (c, fs) => rM3 ρ n a x S (fs.lookup m) (tb.lookup c)
  | none => .stk
@[simp] theorem e_meth {o : M D} {a : M (List D)} : mMeth tb m n o a ρ S = (o ρ S).bind (kMeth ρ tb m n a) := nrfl rfl
@[simp] theorem e_meth2 {a : M (List D)} : kMeth ρ tb m n a (.ref k) S = rM ρ tb m n a (.ref k) S (sg S k) := by
  unfold kMeth insO rM sg
  dsimp only
  cases S[k]? with
  | none => rfl
  | some mo => cases mo <;> rfl
def kMake2 (l : Nat) (d : D) (S : Store) : Res D := match d with
  | .non => .ok (.ref l) S
  | _ => .stk
@[simp] theorem e_make3 : kMake2 l .non S = .ok (.ref l) S := nrfl rfl
def kMake (c : Str) (n : Nat) (g : List D → Store → Res D) (ys : List D) (S : Store) : Res D := (ar n g (.ref S.length :: ys) (S ++ [.ins c []])).bind (kMake2 S.length)
@[simp] theorem e_make {g : List D → Store → Res D} {a : M (List D)} : mMake c n g a ρ S = (a ρ S).bind (kMake c n g) := nrfl rfl
@[simp] theorem e_make2 {g : List D → Store → Res D} : kMake c n g ds S = (ar n g (.ref S.length :: ds) (S ++ [.ins c []])).bind (kMake2 S.length) := nrfl rfl
def rSF (cs : List Str) (f : Str) (v : D) (n : Nat) (o : Option MO) (S : Store) : Option Store := match o with
  | some (.ins c fs) => if c ∈ cs ∧ fs.length < 1000 then some (sp S n (.ins c (putFD f v fs))) else none
  | _ => none
@[simp] theorem rSF_some : rSF cs f v n (some (.ins c fs)) S = if c ∈ cs ∧ fs.length < 1000 then some (sp S n (.ins c (putFD f v fs))) else none := nrfl rfl
@[simp] theorem set_ref : setFD cs f v (.ref n) S = rSF cs f v n (sg S n) S := by
  unfold setFD rSF sg sp
  try dsimp only
  all_goals (rcases S[n]? with _ | mo)
  all_goals first | rfl | (cases mo <;> rfl)
def kSF2 (ρ : Sl) (cs : List Str) (f : Str) (v x : D) (S : Store) : Out := qO (setFD cs f v x S) ρ
def kSF (ρ : Sl) (cs : List Str) (f : Str) (o : M D) (v : D) (S : Store) : Out := sB (o ρ S) ρ (kSF2 ρ cs f v)
@[simp] theorem x_setF {o e : M D} : sSetF cs f o e ρ S = sB (e ρ S) ρ (kSF ρ cs f o) := by
  unfold sSetF
  rfl
@[simp] theorem x_setF2 {o : M D} : kSF ρ cs f o v S = sB (o ρ S) ρ (kSF2 ρ cs f v) := nrfl rfl
@[simp] theorem x_setF3 : kSF2 ρ cs f v x S = qO (setFD cs f v x S) ρ := nrfl rfl
@[simp] theorem putF_nil : putFD f v [] = [(f, v)] := nrfl rfl
@[simp] theorem putF_cons : putFD f v ((m, x) :: fs) = if m = f then (m, v) :: fs else (m, x) :: putFD f v fs := nrfl rfl
def qB (o : Option Store) (f : Store → Out) : Out := match o with
  | some S => f S
  | none => .stk
@[simp] theorem qB_some {f : Store → Out} : qB (some S) f = f S := nrfl rfl
def kF2c (ρ : Sl) (cs : List Str) (g : Str) (y : D) (z : D) (S : Store) : Out := qO (setFD cs g y z S) ρ
def kF2b (ρ : Sl) (cs : List Str) (f g : Str) (o : M D) (x y z : D) (S : Store) : Out := qB (setFD cs f x z S) fun S3 => sB (o ρ S3) ρ (kF2c ρ cs g y)
def kF2 (ρ : Sl) (cs : List Str) (f g : Str) (o : M D) (v : D) (S : Store) : Out := match v with
  | .tup [x, y] => sB (o ρ S) ρ (kF2b ρ cs f g o x y)
  | _ => .stk
@[simp] theorem x_f2 {g : Str} {o e : M D} : sSetF2 cs f g o e ρ S = sB (e ρ S) ρ (kF2 ρ cs f g o) := by
  unfold sSetF2
  congr 1
@[simp] theorem x_f2b {g : Str} {o : M D} : kF2 ρ cs f g o (.tup [x, y]) S = sB (o ρ S) ρ (kF2b ρ cs f g o x y) := nrfl rfl
@[simp] theorem x_f2c {g : Str} {o : M D} {z : D} : kF2b ρ cs f g o x y z S = qB (setFD cs f x z S) fun S3 => sB (o ρ S3) ρ (kF2c ρ cs g y) := nrfl rfl
@[simp] theorem x_f2d {g : Str} {z : D} : kF2c ρ cs g y z S = qO (setFD cs g y z S) ρ := nrfl rfl
def kPar (ρ : Sl) (n k : Nat) (ds : List D) (S : Store) : Out := match ds with
  | [v, w] => .nx ((ρ.set n (some v)).set k (some w)) S
  | _ => .stk
@[simp] theorem x_par {a : M (List D)} : sPar n k a ρ S = sB (a ρ S) ρ (kPar ρ n k) := nrfl rfl
@[simp] theorem x_par2 : kPar ρ n k [x, y] S = .nx ((ρ.set n (some x)).set k (some y)) S := nrfl rfl
/-! errors -/
@[simp] theorem x_raise0 : sRaise0 c ρ S = .exc ⟨c, []⟩ ρ S := nrfl rfl
def kRaise (ρ : Sl) (c : Str) (n k : Nat) (r : List (Str × Nat)) (ds : List D) (S : Store) : Out := if ds.length + 1 = n ∧ ds.length ≤ 1000 then .exc ⟨c, errFD (startD k (.non :: ds)) [] r⟩ ρ S else .stk
@[simp] theorem x_raise {r : List (Str × Nat)} {a : M (List D)} : sRaise c n k r a ρ S = sB (a ρ S) ρ (kRaise ρ c n k r) := nrfl rfl
@[simp] theorem x_raise2 {r : List (Str × Nat)} : kRaise ρ c n k r ds S = if ds.length + 1 = n ∧ ds.length ≤ 1000 then .exc ⟨c, errFD (startD k (.non :: ds)) [] r⟩ ρ S else .stk := nrfl rfl
@[simp] theorem err_nil {acc : List (Str × D)} : errFD ρ acc [] = acc := nrfl rfl
@[simp] theorem err_cons {acc : List (Str × D)} {r : List (Str × Nat)} : errFD ρ acc ((f, n) :: r) = errFD ρ ((f, ((ρ[n]?.bind id).getD .non)) :: acc) r := nrfl rfl
noncomputable def kTry3 (n k : Nat) (ρ : Sl) (S : Store) (r : Res D) : Out := open Classical in match r with
  | .ok d S2 => if xf d = true ∧ S2 = S then .nx ((ρ.set k (some d)).set n none) S else .stk
  | _ => .stk
@[simp] theorem x_try3 {S2 : Store} : kTry3 n k ρ S (.ok d S2) = open Classical in if xf d = true ∧ S2 = S then .nx ((ρ.set k (some d)).set n none) S else .stk := nrfl rfl
noncomputable def kTry2 (n k : Nat) (m : M D) (e : Exc) (ρ : Sl) (S : Store) (b : Option Bool) : Out := match b with
  | some true => kTry3 n k ρ S (m (ρ.set n (some (.exv e.cls e.fs))) S)
  | some false => .exc e ρ S
  | none => .stk
@[simp] theorem x_try2 {m : M D} {e : Exc} : kTry2 n k m e ρ S (some true) = kTry3 n k ρ S (m (ρ.set n (some (.exv e.cls e.fs))) S) := nrfl rfl
@[simp] theorem x_try2f {m : M D} {e : Exc} : kTry2 n k m e ρ S (some false) = .exc e ρ S := nrfl rfl
noncomputable def kTry (tb : List (Str × Bool)) (n k : Nat) (m : M D) (o : Out) : Out := match o with
  | .exc e ρ S => kTry2 n k m e ρ S (tb.lookup e.cls)
  | o => o
@[simp] theorem x_tryE {tb : List (Str × Bool)} {m : M D} {e : Exc} : kTry tb n k m (.exc e ρ S) = kTry2 n k m e ρ S (tb.lookup e.cls) := nrfl rfl
@[simp] theorem x_tryN {tb : List (Str × Bool)} {m : M D} : kTry tb n k m (.nx ρ S) = .nx ρ S := nrfl rfl
@[simp] theorem x_tryR {tb : List (Str × Bool)} {m : M D} : kTry tb n k m (.rt d S) = .rt d S := nrfl rfl
@[simp] theorem x_try {tb : List (Str × Bool)} {m : M D} {b : MS} : sTryA tb n k m b ρ S = kTry tb n k m (b ρ S) := by
  unfold sTryA kTry
  cases b ρ S with
  | exc e ρ1 S1 =>
    dsimp only
    unfold kTry2
    cases tb.lookup e.cls with
    | none => rfl
    | some b => cases b <;> rfl
  | _ => rfl
@[simp] theorem v_xf {fs : List (Str × D)} : xfD cs f (.exv c fs) S = if c ∈ cs then ofO (fs.lookup f) S else .stk := nrfl rfl
def rIsE (o : Option Bool) (S : Store) : Res D := match o with
  | some b => .ok (.bl b) S
  | none => .stk
@[simp] theorem rIsE_some {b : Bool} : rIsE (some b) S = .ok (.bl b) S := nrfl rfl
@[simp] theorem v_isE {tb : List (Str × Bool)} : isE tb (.exv c []) S = rIsE (tb.lookup c) S := by
  unfold isE rIsE
  rfl
/-! the store -/
@[simp] theorem sg_new {mo : MO} : sg (S ++ [mo]) S.length = some mo := by
  unfold sg
  simp
@[simp] theorem sp_new {mo m' : MO} : sp (S ++ [mo]) S.length m' = S ++ [m'] := by
  unfold sp
  simp
@[simp] theorem sg_a0 {a : MO} {l : Store} : sg (S ++ a :: l) S.length = some a := by unfold sg; simp
@[simp] theorem sg_a1 {a b : MO} {l : Store} : sg (S ++ a :: b :: l) (S.length + 1) = some b := by unfold sg; simp
@[simp] theorem sg_a2 {a b c : MO} {l : Store} : sg (S ++ a :: b :: c :: l) (S.length + 2) = some c := by unfold sg; simp
@[simp] theorem sg_a3 {a b c e : MO} {l : Store} : sg (S ++ a :: b :: c :: e :: l) (S.length + 3) = some e := by unfold sg; simp
@[simp] theorem sp_a0 {a m : MO} {l : Store} : sp (S ++ a :: l) S.length m = S ++ m :: l := by unfold sp; simp
@[simp] theorem sp_a1 {a b m : MO} {l : Store} : sp (S ++ a :: b :: l) (S.length + 1) m = S ++ a :: m :: l := by unfold sp; simp
@[simp] theorem sp_a2 {a b c m : MO} {l : Store} : sp (S ++ a :: b :: c :: l) (S.length + 2) m = S ++ a :: b :: m :: l := by unfold sp; simp
theorem sg_app {l : Store} (h : n < S.length) : sg (S ++ l) n = sg S n := by unfold sg; rw [List.getElem?_append_left h]
theorem sp_app {l : Store} {m' : MO} (h : n < S.length) : sp (S ++ l) n m' = sp S n m' ++ l := by unfold sp; rw [List.set_append_left _ _ h]
theorem sg_old {mo : MO} (h : n < S.length) : sg (S ++ [mo]) n = sg S n := by
  unfold sg
  rw [List.getElem?_append_left h]
theorem sp_old {mo m' : MO} (h : n < S.length) : sp (S ++ [mo]) n m' = sp S n m' ++ [mo] := by
  unfold sp
  rw [List.set_append_left _ _ h]
def rLen (o : Option MO) : Option Nat := match o with
  | some (.lst xs) => some xs.length
  | _ => none
@[simp] theorem rLen_some : rLen (some (.lst ds)) = some ds.length := nrfl rfl
@[simp] theorem l_refS : lenO S (.ref n) = rLen (sg S n) := by
  show (match lsOf S (.ref n) with | some ds => some ds.length | none => none) = _
  unfold lsOf rLen sg
  dsimp only
  cases S[n]? with
  | none => rfl
  | some mo => cases mo <;> rfl
def rLs (o : Option MO) : Option (List D) := match o with
  | some (.lst xs) => some xs
  | _ => none
@[simp] theorem rLs_some : rLs (some (.lst ds)) = some ds := nrfl rfl
@[simp] theorem ls_refS : lsOf S (.ref n) = rLs (sg S n) := by
  unfold lsOf rLs sg
  try dsimp only
  all_goals (rcases S[n]? with _ | mo)
  all_goals first | rfl | (cases mo <;> rfl)
@[simp] theorem sq_refS : sqOf S (.ref n) = rLs (sg S n) := ls_refS
@[simp] theorem v_listS : listD [x] S = ofO ((sqOf S x).map D.lst) S := nrfl rfl
def rLL (o : Option (List D)) (S : Store) : Res D := match o with
  | some xs => .ok (.ref S.length) (S ++ [.lst xs])
  | none => .stk
@[simp] theorem rLL_some : rLL (some ds) S = .ok (.ref S.length) (S ++ [.lst ds]) := nrfl rfl
@[simp] theorem v_listLS : listL [x] S = rLL (sqOf S x) S := by
  unfold listL rLL
  rfl
@[simp] theorem v_mulLv : mulLv (.lst ds) (.int j) S = if 0 ≤ j ∧ smR j = true ∧ ds.length * j.toNat ≤ sizeLine then .ok (.ref S.length) (S ++ [.lst (List.replicate j.toNat ds).flatten]) else .stk := nrfl rfl
@[simp] theorem v_rngL : rngL [.int i, .int j] S = if 0 ≤ i ∧ i ≤ 16777216 ∧ 0 ≤ j ∧ j ≤ 16777216 then .ok (.lst ((List.range (j - i).toNat).map fun k => .int (i + (k : Nat)))) S else .stk := nrfl rfl
def kdO (o : Option MO) : Option Kd := match o with
  | some (.lst _) => some .lst
  | some (.dct _) => some .dct
  | _ => none
@[simp] theorem kdO_lst : kdO (some (.lst ds)) = some .lst := nrfl rfl
@[simp] theorem k_refS : kd S (.ref n) = kdO (sg S n) := by
  unfold kd kdO sg
  rfl
@[simp] theorem k_dct' {kvs : List (Key × D)} : kd S (.dct kvs) = some .dct := nrfl rfl
def trO (o : Option MO) (S : Store) : Res Bool := match o with
  | some (.lst xs) => .ok (!xs.isEmpty) S
  | some (.dct xs) => .ok (!xs.isEmpty) S
  | _ => .stk
@[simp] theorem trO_lst : trO (some (.lst ds)) S = .ok (!ds.isEmpty) S := nrfl rfl
@[simp] theorem t_refS : truD (.ref n) S = trO (sg S n) S := by
  unfold truD trO sg
  rfl
@[simp] theorem dc_dct {kvs : List (Key × D)} : dcOf S (.dct kvs) = some kvs := nrfl rfl
@[simp] theorem key_int : keyO (.int i) = some (.inl i) := nrfl rfl
@[simp] theorem key_str {a : Str} : keyO (.str a) = some (.inr a) := nrfl rfl
end
/-! ### comprehensions that choose; loops over what was walked -/
theorem comp_filter {α : Type} {all : List D} {p : Pt} {t : M Bool} {e : M D} {ρ : Sl} {S : Store} (g f : α → D) (q : α → Bool) : ∀ (xs : List α) (k : Nat),
    (∀ d ∈ xs, ∃ ρ1, p (g d) ρ = some ρ1 ∧ t ρ1 S = .ok (q d) S ∧ (q d = true → e ρ1 S = .ok (f d) S)) → k + xs.length ≤ sizeLine →
    compL ⟨all, none⟩ p t e ρ (xs.map g) k S = .ok ((xs.filter q).map f) S := by
  intro xs
  induction xs with
  | nil => intro k _ _; exact comp_nil
  | cons d xs ih =>
    intro k h hk
    obtain ⟨ρ1, hp, ht, he⟩ := h d (by simp)
    rw [List.length_cons] at hk
    rw [List.map_cons, comp_cons hp, ht]
    cases hq : q d with
    | true =>
      have e2 := ih (k + 1) (fun d hd => h d (by simp [hd])) (by omega)
      have hk' : k < sizeLine := by omega
      simp [he hq, hk', e2, hq]
    | false =>
      have e2 := ih k (fun d hd => h d (by simp [hd])) (by omega)
      simp [e2, hq]
theorem comp_N {xs ds : List D} {i n : Nat} {d : D} {t : M Bool} {e : M D} {ρ : Sl} {S : Store} : compL ⟨xs, none⟩ (ptN i) t e ρ (d :: ds) n S = (t (ρ.set i (some d)) S).nox.bind (kCp ρ ⟨xs, none⟩ (ptN i) t e ds n (ρ.set i (some d))) := comp_cons rfl
theorem for_N {xs ds : List D} {i : Nat} {d : D} {b : MS} {ρ : Sl} {S : Store} : forL ⟨xs, none⟩ (ptN i) b (d :: ds) ρ S = fB (b (ρ.set i (some d)) S) (forL ⟨xs, none⟩ (ptN i) b ds) := for_cons rfl
@[simp] theorem sl0 : (0 < sizeLine) = True := eq_true (by decide)
@[simp] theorem sl1 : (1 < sizeLine) = True := eq_true (by decide)
@[simp] theorem sl2 : (2 < sizeLine) = True := eq_true (by decide)
@[simp] theorem sl3 : (3 < sizeLine) = True := eq_true (by decide)
@[simp] theorem sl4 : (4 < sizeLine) = True := eq_true (by decide)
/-- new objects at the end -/
def Ext (S S' : Store) : Prop := ∃ T, S' = S ++ T
theorem Ext.rf (S : Store) : Ext S S := ⟨[], by simp⟩
theorem Ext.tr {A B C : Store} (x : Ext A B) (y : Ext B C) : Ext A C := by
  obtain ⟨T, rfl⟩ := x
  obtain ⟨U, rfl⟩ := y
  exact ⟨T ++ U, by simp⟩
theorem Ext.one {S : Store} {m : MO} : Ext S (S ++ [m]) := ⟨[m], rfl⟩
theorem Ext.get {S S' : Store} {n : Nat} {m : MO} (h : Ext S S') (e : sg S n = some m) : sg S' n = some m := by
  obtain ⟨T, rfl⟩ := h
  unfold sg at e ⊢
  rw [List.getElem?_append_left (List.getElem?_eq_some_iff.mp e).1]
  exact e
end G
namespace G
open PySem L2
/-- a loop over f 0, f 1, .. -/
theorem for_rng {all : List D} {p : Pt} {b : MS} (n : Nat) (f : Nat → D) (I : Nat → Sl → Store → Prop) (h : ∀ i, i < n → ∀ ρ S, I i ρ S → ∃ ρ1 ρ2 S2, p (f i) ρ = some ρ1 ∧ (b ρ1 S = .nx ρ2 S2 ∨ b ρ1 S = .ct ρ2 S2) ∧ I (i + 1) ρ2 S2) {ρ : Sl} {S : Store} (h0 : I 0 ρ S) :
    ∃ ρ' S', forL ⟨all, none⟩ p b ((List.range n).map f) ρ S = .nx ρ' S' ∧ I n ρ' S' := by
  have go : ∀ m j ρ S, j + m = n → I j ρ S → ∃ ρ' S', forL ⟨all, none⟩ p b ((List.range' j m).map f) ρ S = .nx ρ' S' ∧ I n ρ' S' := by
    intro m
    induction m with
    | zero =>
      intro j ρ S e q
      have : j = n := by omega
      subst this
      exact ⟨ρ, S, for_nil, q⟩
    | succ m ih =>
      intro j ρ S e q
      obtain ⟨ρ1, ρ2, S2, hp, hb, q2⟩ := h j (by omega) ρ S q
      obtain ⟨ρ3, S3, e3, q3⟩ := ih (j + 1) ρ2 S2 (by omega) q2
      refine ⟨ρ3, S3, ?_, q3⟩
      rw [List.range'_succ, List.map_cons, for_cons hp]
      rcases hb with hb | hb <;> rw [hb]
      · rw [fB_nx, e3]
      · rw [fB_ct, e3]
  have := go n 0 ρ S (by omega) h0
  rw [List.range_eq_range']
  exact this
theorem range_getD (l : List D) : (List.range l.length).map (fun i => l.getD i .non) = l := by
  apply List.ext_getElem?
  intro i
  by_cases hi : i < l.length
  · rw [List.getElem?_map, List.getElem?_range hi, List.getElem?_eq_getElem hi, Option.map_some, List.getD_eq_getElem?_getD, List.getElem?_eq_getElem hi]
    rfl
  · rw [List.getElem?_eq_none (by simp; omega), List.getElem?_eq_none (by omega)]
theorem getD_at {l : List D} {i : Nat} (hi : i < l.length) : l[i]? = some (l.getD i .non) := by
  rw [List.getD_eq_getElem?_getD, List.getElem?_eq_getElem hi]
  rfl
/-- the items of a made list -/
theorem rep_at {α : Type} {n i : Nat} {x : α} (h : i < n) : (List.replicate n x)[i]? = some x := by
  rw [List.getElem?_replicate, if_pos h]
end G
namespace G
open PySem L2
/-! ### a, b = a list -/
def ptL (p : List D → Sl → Option Sl) : Pt := fun d ρ => match d with
  | .lst ds => p ds ρ
  | _ => none
theorem g_lstP {X : Cx} {cl : Str → Option Addr} {es : List Expr} {pos : Pos} {k n : Nat} {a : List Nat} {ps : List D → Sl → Option Sl} (hc : X.calm = true) (h : PGs X es (Tps X.K cl a ps)) (hl : ∀ ds ρ ρ', ps ds ρ = some ρ' → ds.length = n)
    (hn : (assignEach es X.env).length = n := by rfl) (hst : (assignEach es X.env).findIdx? (·.1) = none := by rfl) : PG X (.Tuple es k pos) (Tp X.K cl a (ptL ps)) :=
  ⟨fun pins s σ H v u Q I r ⟨W, ρ, S, d, ρ', hr, he, rv, ep, q⟩ => (pg_lst hc h hn hst).run pins s σ H v u Q I r (by
    cases rv with
    | lst h1 t => exact ⟨_, _, rfl, SqL.of (hr.sub _ _ h1), by rw [t.len]; exact hl _ _ _ ep, W, ρ, S, _, ρ', hr, he, t, ep, q⟩
    | _ => cases ep)⟩
/-! ### live dicts -/
def dctL (S : Store) : Res D := .ok (.ref S.length) (S ++ [.dct []])
def mDctL : M D := fun _ S => dctL S
theorem t_dictL {X : Cx} {cl : Str → Option Addr} {E : WX} {pos : Pos} : PE X (.Dict [] [] pos) (T X.K cl E mDctL) :=
  pe_imp pe_dnewK fun σ H Q ⟨W, ρ, S, hr, he, q⟩ p hp => q (W.lv p) _ _ (Le.lv W p) (hr.new hp ⟨[], upd_same, .nil⟩) (rep_lv hr)
def putA (o i v : D) (S : Store) : Option Store := match o with
  | .ref n => (match S[n]? with
    | some (.dct kvs) => (match keyO i with
      | some k => if kvs.length < sizeLine then some (S.set n (.dct (putKD kvs k v))) else none
      | none => none)
    | _ => putD o i v S)
  | _ => none
def sPutA (o i e : M D) : MS := fun ρ S => sB (e ρ S) ρ fun v S1 => sB (o ρ S1) ρ fun x S2 => sB (i ρ S2) ρ fun y S3 => match putA x y v S3 with
  | some S4 => .nx ρ S4
  | none => .stk
theorem set_both {X : Cx} {k : Nat} (hr : Room k X.A) : PSet X (fun o i v H Q => rSetL o i v H Q ∨ rSetD o i v H Q) := fun pins s σ H o i v ov iv u Q I ro ri rv h =>
  h.elim (set_list pins s σ H o i v ov iv u Q I ro ri rv) (set_dict (by have := hr.un; omega) pins s σ H o i v ov iv u Q I ro ri rv)
section
variable {X : Cx} {cl : Str → Option Addr} {E : WX} {e : Expr} {m1 m2 m3 : M D} {pos : Pos}
theorem s_putA {k : Nat} {o i : Expr} {tpos : Pos} (rm : Room k X.A) (ho : PE X o (T X.K cl E m1)) (hi : PE X i (T X.K cl E m2)) (he : PE X e (T X.K cl E m3))
    (hs : swapsWithSole [.Subscript o i tpos] e pos.line X.env = pure false := by rfl) (hw : swappedStores [.Subscript o i tpos] e X.env = pure none := by rfl)
    (ha : ∀ v, assign (.Subscript o i tpos) X.env v = (do
      let a ← holding [v] (eval o X.env)
      let b ← holding [v, a] (eval i X.env)
      standAt tpos
      holding [v, a, b] (setItem a b v)
      release [v, a, b] []) := by intro _; rfl) : PS X (.Assign [.Subscript o i tpos] e pos) (Ts X.K cl E (sPutA m1 m2 m3)) :=
  ps_imp (ps_asg he (pg_sub ho hi (set_both rm) ha) hs hw) fun A σ H ⟨W, ρ, S, hr, he, p⟩ => stepS hr he p fun W1 H1 v dv S1 l1 r1 e1 rv p1 =>
    stepS r1 e1 p1 fun W2 H2 x dx S2 l2 r2 e2 rx p2 => stepS r2 e2 p2 fun W3 H3 y dy S3 l3 r3 e3 ry p3 => by
      cases q : putA dx dy dv S3 with
      | none => simp only [q] at p3; exact p3.elim
      | some S4 =>
        simp only [q] at p3
        unfold putA at q
        split at q
        · rename_i n
          cases (rx.up l3) with | ref hn =>
          have rv' := rv.up (l2.tr l3)
          split at q
          · rename_i kvs e4
            split at q
            · rename_i kk ek
              split at q
              · rename_i hz
                cases q
                obtain ⟨_, vs, h1, h2⟩ := r3.live n _ e4 (by intro z; cases z)
                obtain rfl := key_rep ry ek
                refine .inr ⟨_, _, rfl, .inl ⟨vs, kk, h1, rfl, by rw [h2.len]; exact hz, rfl⟩, ?_⟩
                exact p3 W3 _ σ (.rf W3) (r3.put e4 (by intro z; cases z) ⟨_, upd_same, h2.put kk rv'⟩) e3
              · cases q
            · cases q
          · unfold putD at q
            split at q
            · rename_i n' k' eq1
              cases eq1
              cases ry
              split at q
              · rename_i xs e4
                split at q
                · rename_i j ej
                  cases q
                  obtain ⟨_, vs, h1, h2⟩ := r3.live _ _ e4 (by intro z; cases z)
                  refine .inl ⟨_, _, _, j, rfl, rfl, h1, by rw [h2.len]; exact ej, ?_⟩
                  exact p3 W3 _ σ (.rf W3) (r3.put e4 (by intro z; cases z) ⟨_, upd_same, Reps.set rv' j h2⟩) e3
                · cases q
              · cases q
            · cases q
        · cases q
end
/-! d.get(k, x) -/
def getA (x y z : D) (S : Store) : Res D := match dcOf S x, keyO y with
  | some kvs, some k => .ok ((valK kvs k).getD z) S
  | _, _ => .stk
def mGet2 (o a b : M D) : M D := fun ρ S => (o ρ S).bind fun x S1 => match dcOf S1 x with
  | some _ => (a ρ S1).bind fun y S2 => (b ρ S2).bind fun z S3 => getA x y z S3
  | none => .stk
section
variable {X : Cx} {cl : Str → Option Addr} {E : WX} {o e f : Expr} {m m1 m2 : M D} {apos cpos : Pos}
theorem t_get2 {k : Nat} (rm : Room k X.A) (ho : PE X o (T X.K cl E m)) (he : PE X e (T X.K cl E m1)) (hf : PE X f (T X.K cl E m2)) (h1 : attributeBase o "get" X.env (eval o X.env) = eval o X.env := by rfl)
    (h2 : ((backTo cpos (starEach [e, f] X.env)).all (fun x => !x.1) && (backToKw cpos (keywordEach [] X.env)).all (fun x => x.1.isSome) && decide (([e, f] : List Expr).length + ([] : List Keyword).length + (if ([] : List Keyword).isEmpty then 0 else 1) < 30)) = true := by rfl)
    (h3 : (apos.endLine == cpos.line) = true := by rfl) (h4 : backTo cpos (starEach [e, f] X.env) = [(false, eval e X.env), (false, eval f X.env)] := by rfl) :
    PE X (.Call (.Attribute o "get" apos) [e, f] [] cpos) (T X.K cl E (mGet2 m m1 m2)) :=
  pe_imp (pe_dget2 (by have := rm.un; omega) ho he hf ⟨h1, h2, h3, h4⟩) fun σ H Q ⟨W, ρ, S, hr, en, q⟩ => step hr en q fun W1 H1 x dx S1 l1 r1 e1 rx p1 => by
    split at p1
    · rename_i kvs ek
      obtain ⟨a, vs, rfl, ha, t⟩ := dc_of r1 rx ek
      refine ⟨a, rfl, .inl ⟨vs, ha⟩, step r1 e1 p1 fun W2 H2 y dy S2 l2 r2 e2 ry p2 => step r2 e2 p2 fun W3 H3 z dz S3 l3 r3 e3 rz p3 => ?_⟩
      unfold getA at p3
      split at p3
      · rename_i kvs2 kk ek2 ey
        obtain ⟨a2, vs2, ea, ha2, t2⟩ := dc_of r3 (rx.up (l2.tr l3)) ek2
        cases ea
        obtain rfl := key_rep ry ey
        refine ⟨valV vs2 kk, .inl ⟨vs2, kk, ha2, rfl, rfl⟩, ?_⟩
        rcases t2.val kk with ⟨v, d, q1, q2, q3⟩ | ⟨q1, q2⟩
        · rw [q1]
          rw [q2] at p3
          exact p3.now r3 q3
        · rw [q1]
          rw [q2] at p3
          exact p3.now r3 rz
      · exact p3.elim
    · exact p1.elim
/-! d[k], lists and tuples too -/
def ixA (x y : D) (S : Store) : Res D := match dcOf S x with
  | some kvs => (match keyO y with
    | some k => ofO (valK kvs k) S
    | none => .stk)
  | none => ixD x y S
theorem t_ixA {k : Nat} (rm : Room k X.A) (ha : PE X o (T X.K cl E m1)) (hb : PE X e (T X.K cl E m2)) (hp : PlainIx e := by exact fun _ _ => rfl) (hs : NoSl e := by exact fun _ _ => rfl) : PE X (.Subscript o e apos) (T X.K cl E (mOp ixA m1 m2)) :=
  pe_imp (pe_either (pe_ix ix_seq ha hb hp) (pe_dget (by have := rm.un; omega) ha hb hs)) fun σ H Q ⟨W, ρ, S, hr, he, q⟩ => by
    cases e1 : m1 ρ S with
    | stk => unfold mOp at q; rw [e1] at q; exact q.elim
    | exc x S1 =>
      refine .inl ⟨W, ρ, S, hr, he, ?_⟩
      unfold mOp at q
      rw [e1] at q ⊢
      exact q
    | ok x S1 =>
      cases e2 : m2 ρ S1 with
      | stk => unfold mOp at q; rw [e1] at q; dsimp only [Res.bind] at q; rw [e2] at q; exact q.elim
      | exc z S2 =>
        refine .inl ⟨W, ρ, S, hr, he, ?_⟩
        unfold mOp at q
        rw [e1] at q ⊢
        dsimp only [Res.bind] at q
        exact fun W1 H1 v l1 r1 rv => ⟨W1, ρ, S1, r1, he.up l1, by rw [e2] at q ⊢; exact Post.up l1 q⟩
      | ok y S2 =>
        cases e3 : dcOf S2 x with
        | none =>
          refine .inl (step (f := fun x S1 => (m2 ρ S1).bind fun y S2 => ixD x y S2) hr he ?_ fun W1 H1 v d S3 l1 r1 en rv p1 => step r1 en p1 fun W2 H2 u d2 S4 l2 r2 en2 ru p2 => ix_s _ _ _ _ _ _ _ _ _ r2 (rv.up l2) ru p2)
          unfold mOp at q
          rw [e1] at q ⊢
          dsimp only [Res.bind] at q ⊢
          rw [e2] at q ⊢
          dsimp only at q ⊢
          unfold ixA at q
          rw [e3] at q
          exact q
        | some kvs =>
          refine .inr ⟨W, ρ, S, hr, he, ?_⟩
          rw [e1]
          intro W1 H1 v l1 r1 rv
          refine ⟨W1, ρ, S1, r1, he.up l1, ?_⟩
          rw [e2]
          intro W2 H2 u l2 r2 ru
          unfold mOp at q
          rw [e1] at q
          dsimp only [Res.bind] at q
          rw [e2] at q
          dsimp only at q
          unfold ixA at q
          rw [e3] at q
          dsimp only at q
          cases ek : keyO y with
          | none => rw [ek] at q; exact q.elim
          | some kk =>
            rw [ek] at q
            dsimp only at q
            obtain ⟨a, vs, rfl, h, t⟩ := dc_of r2 (rv.up l2) e3
            obtain rfl := key_rep ru ek
            rcases t.val kk with ⟨v', d', q1, q2, q3⟩ | ⟨q1, q2⟩
            · rw [q2] at q
              exact ⟨a, v', rfl, .inl ⟨vs, kk, h, rfl, q1.symm⟩, q W2 H2 v' (l1.tr l2) r2 q3⟩
            · rw [q2] at q
              exact q.elim
end
end G
namespace G
open PySem L2
def keyD : Key → D
  | .inl i => .int i
  | .inr x => .str x
theorem keyD_rep {K : PySem.W.Frag} {cl : Str → Option Addr} {W : Wd} (k : Key) : Rep K cl W (kV k) (keyD k) := by
  cases k with
  | inl i => exact .int i
  | inr x => exact .str x
theorem RepK.at {K : PySem.W.Frag} {cl : Str → Option Addr} {W : Wd} : ∀ {vs : List (Key × V)} {ds : List (Key × D)} {i : Nat} {k : Key} {v : V}, RepK K cl W vs ds → vs[i]? = some (k, v) → ∃ d, ds[i]? = some (k, d) ∧ Rep K cl W v d
  | _, _, _, _, _, .nil, e => by simp at e
  | _, _, 0, _, _, .cons h t, e => by simp at e; obtain ⟨rfl, rfl⟩ := e; exact ⟨_, rfl, h⟩
  | _, _, i + 1, k, v, .cons _ t, e => by
    obtain ⟨d, h1, h2⟩ := RepK.at (i := i) t (by simpa using e)
    exact ⟨d, by simpa using h1, h2⟩
/-! ### for k in d, d locked for good -/
def itK (d : D) (S : Store) : Res Itb := match d with
  | .dct kvs => .ok ⟨kvs.map fun kv => keyD kv.1, none⟩ S
  | _ => .stk
def mItK (m : M D) : M Itb := fun ρ S => (m ρ S).bind fun d S1 => itK d S1
section
variable {X : Cx} {cl : Str → Option Addr} {E : WX} {tg e o : Expr} {m : M D} {apos cpos pos p : Pos}
theorem i_dict (h : PE X e (T X.K cl E m)) : PI X tg e (TIt X.K cl E (mItK m)) :=
  pi_imp (pi_keys h) fun σ H Q ⟨W, ρ, S, hr, he, q⟩ => step hr he q fun W1 H1 v d S1 l1 r1 e1 rv p1 => by
    unfold itK at p1
    split at p1
    · rename_i ds
      cases rv with | @dct a ob vs _ g t =>
      refine ⟨a, ob, rfl, .inl ⟨vs, r1.sub _ _ g, p1 W1 H1 _ (.rf W1) r1 ?_⟩⟩
      intro W2 H2 S2 l2 r2 _
      have hh := r2.sub _ _ (l2.g _ _ g)
      have t2 := t.ups l2
      have lv : vs.length = ds.length := t.len
      refine ⟨fun i x ex => ?_, hh, by show _ ≤ _; rw [List.length_map]; exact Nat.le_of_eq lv⟩
      have hi : i < vs.length := by
        have := (List.getElem?_eq_some_iff.mp ex).1
        rw [List.length_map] at this
        omega
      refine ⟨⟨hh, hi⟩, fun y H' ⟨eH, k, v, ekv, ey⟩ => ⟨W2, .rf W2, eH ▸ r2, ?_⟩⟩
      obtain ⟨dd, g1, g2⟩ := t2.at ekv
      have ex : (ds.map fun kv => keyD kv.1)[i]? = some x := ex
      rw [List.getElem?_map, g1] at ex
      cases ex
      rw [ey]
      exact keyD_rep k
    · exact p1.elim
/-! ### list(d), d locked -/
theorem cr_listF (hc : X.calm = true) : CallR X (.type "list") (fun xs H Q => ∃ a od kvs, xs = [.ref a] ∧ H a = some (.frz od (.dK kvs)) ∧ ∀ q, H q = none → Q (.ref q) (upd H q (.lst (kvs.map fun kv => kV kv.1)))) := by
  intro pins s σ H xs us Q I rr ⟨a, od, kvs, ex, ha, q⟩
  subst ex
  obtain ⟨u, eu, ru⟩ := vals1 rr
  subst eu
  obtain rfl : u = Value.ref a := ru
  obtain ⟨zz, lw, vs, kv, dd⟩ := dk_rd I.hok (.inr ⟨od, ha⟩)
  obtain ⟨ep, atd⟩ := dd.dictAt
  have len : kvs.length = vs.length := Paired.length kv
  refine PySem.W.kdl_call (PySem.W.kdl_dict (knd := mixKind X.prog X.w) (kvs := vs) (ep := ep) lw) (I.ok.hd hc) atd (len ▸ zz) fun h1 t1 acc c1 kp new its => ?_
  have okk : ObjOk X.prog X.w (upd H s.heap.objs.size (.lst (kvs.map fun kv => kV kv.1))) h1 s.heap.objs.size (.lst (kvs.map fun kv => kV kv.1)) := by
    refine ⟨by rw [List.length_map]; exact zz, acc.toList, c1, vals_of_at ?_ fun j x w g1 g2 => ?_, by rw [Array.toArray_toList]; exact new⟩
    · rw [List.length_map, len, ← its.1]
      simp
    · obtain ⟨k, y, hk, is⟩ := its.2 j w (by rw [← Array.getElem?_toList]; exact g2)
      have f1 : (kvs.map (·.1))[j]? = some k := by rw [KV.keys kv, List.getElem?_map, hk]; rfl
      have f2 : (kvs.map fun kv => kV kv.1)[j]? = some (kV k) := by
        rw [show (kvs.map fun kv => kV kv.1) = (kvs.map (·.1)).map kV from (by rw [List.map_map]; rfl), List.getElem?_map, f1]
        rfl
      rw [f2] at g1
      cases g1
      exact keyIs_rel is
  exact ⟨.ref s.heap.objs.size, _, I.laid kp (Nat.le_refl _) okk, rfl, q _ (I.hok.fresh (Nat.le_refl _))⟩
def listK (as : List D) (S : Store) : Res D := match as with
  | [.dct kvs] => .ok (.lst (kvs.map fun kv => keyD kv.1)) S
  | _ => .stk
theorem reps_keys {K : PySem.W.Frag} {W : Wd} : ∀ {vs : List (Key × V)} {ds : List (Key × D)}, RepK K cl W vs ds → Reps K cl W (vs.map fun kv => kV kv.1) (ds.map fun kv => keyD kv.1)
  | _, _, .nil => .nil
  | _, _, .cons (k := k) _ t => .cons (keyD_rep k) (reps_keys t)
theorem listK_s {K : PySem.W.Frag} : FnS K cl (fun xs H Q => ∃ a od kvs, xs = [.ref a] ∧ H a = some (.frz od (.dK kvs)) ∧ ∀ q, H q = none → Q (.ref q) (upd H q (.lst (kvs.map fun kv => kV kv.1)))) listK := by
  intro W H S x a Q E r rx p
  unfold listK at p
  split at p
  · cases rx with | cons rx rn =>
    cases rn
    cases rx with | dct g t =>
    exact ⟨_, _, _, rfl, r.sub _ _ g, newL r (reps_keys t) p⟩
  · exact p.elim
/-! ### sorted(list of ints) -/
def intsO : List D → Option (List Int)
  | [] => some []
  | .int i :: ds => (intsO ds).map (i :: ·)
  | _ :: _ => none
theorem ints_of {K : PySem.W.Frag} {W : Wd} : ∀ {vs : List V} {ds : List D} {ns : List Int}, Reps K cl W vs ds → intsO ds = some ns → vs = ns.map V.int
  | _, _, _, .nil, e => by cases e; rfl
  | _, _, _, .cons (d := d) (ds := ds) h t, e => by
    cases h with
    | int i =>
      unfold intsO at e
      cases e1 : intsO ds with
      | none => rw [e1] at e; cases e
      | some l =>
        rw [e1] at e
        cases e
        rw [ints_of t e1]
        rfl
    | _ => cases e
noncomputable def srt (ns : List Int) : List Int := ns.mergeSort (fun a b => decide (a ≤ b))
theorem srt_eq {l ns : List Int} (h1 : l.Perm ns) (h2 : l.Pairwise (· ≤ ·)) : l = srt ns := by
  have p1 : (srt ns).Perm ns := List.mergeSort_perm _ _
  have p2 : (srt ns).Pairwise (· ≤ ·) := by
    have := List.pairwise_mergeSort (le := fun a b : Int => decide (a ≤ b)) (fun a b c h1 h2 => by simp at h1 h2 ⊢; omega) (fun a b => by simp; omega) ns
    exact this.imp (by simp)
  exact List.Perm.eq_of_pairwise (fun x y _ _ h1 h2 => Int.le_antisymm h1 h2) h2 p2 (h1.trans p1.symm)
theorem srt_perm (ns : List Int) : (srt ns).Perm ns := List.mergeSort_perm _ _
noncomputable def sortedD (as : List D) (S : Store) : Res D := match as with
  | [x] => (match (lsOf S x).bind intsO with
    | some ns => .ok (.lst ((srt ns).map D.int)) S
    | none => .stk)
  | _ => .stk
theorem reps_ints {K : PySem.W.Frag} {W : Wd} : ∀ l : List Int, Reps K cl W (l.map V.int) (l.map D.int)
  | [] => .nil
  | i :: l => .cons (.int i) (reps_ints l)
theorem sorted_s {K : PySem.W.Frag} : FnS K cl (rSortedI K) sortedD := by
  intro W H S x a Q E r rx p
  unfold sortedD at p
  split at p
  · rename_i d
    cases rx with | cons rx rn =>
    cases rn
    split at p
    · rename_i ns en
      cases e1 : lsOf S d with
      | none => rw [e1] at en; cases en
      | some ds =>
        rw [e1] at en
        obtain ⟨l, vs, rfl, h, t⟩ := ls_of r rx e1
        have ev := ints_of t (show intsO ds = some ns from en)
        subst ev
        refine ⟨l, ns, rfl, SqL.of h, fun ns' q hp hs hq => ?_⟩
        rw [srt_eq hp hs]
        exact newL r (reps_ints _) p q hq
    · exact p.elim
  · exact p.elim
/-! ### d.copy(), the copy locked for good -/
theorem pe_copyK {te : TE} (he : PE X o te) (hb : attributeBase o "copy" X.env (eval o X.env) = eval o X.env := by rfl) (hl : (apos.endLine == cpos.line) = true := by rfl) :
    PE X (.Call (.Attribute o "copy" apos) [] [] cpos) (fun σ H Q => te σ H fun x H1 => ∃ a kvs, x = .ref a ∧ Rd H1 a (.dK kvs) ∧ ∀ q, H1 q = none → Q (.ref q) (upd H1 q (.dK kvs))) := by
  refine ⟨fun pins s σ H Q I hw => ?_⟩
  refine wpAny_Call_method (T := "dict") (id := "dict.copy") hb rfl hl F.plainAttrs_dict F.slot_dict_copy F.type_dict_copy (thn (he.run pins s σ H _ I hw) fun u s1 ⟨x, H1, I1, rx, a, kvs, ex, ha, q⟩ => ?_)
  subst ex
  obtain rfl : u = Value.ref a := rx
  obtain ⟨ty, nd, lw⟩ := isD_at I1 (.inl ⟨kvs, ha⟩)
  obtain ⟨zz, _, vs, kv, dd⟩ := dk_rd I1.hok ha
  refine ⟨ty, nd, ?_⟩
  show wpAny _ _ (callWith cpos (.builtin "dict.copy") [.ref a] [] []) _ X.xe s1
  refine method_meetsIn F.slot_dict_copy F.entry_dict_copy rfl (PySem.evalArgs_none ⟨rfl, ty, F.args_dict_copy_1 _, _, meets_dict_copy (mixKind X.prog X.w) a lw, vs, dd, by rw [← KV.length kv]; exact zz, fun h1 n1 _ kp => ?_⟩)
  have nm : (s1.heap.objs.size == sysModules) = false := beq_eq_false_iff_ne.mpr (Nat.ne_of_gt I1.big)
  exact ⟨.ref s1.heap.objs.size, _, I1.laid (t' := s1.toks) kp (Nat.le_refl _) (show ObjOk X.prog X.w _ _ _ (.dK kvs) from ⟨zz, nm, vs, kv, n1⟩), rfl, q _ (I1.hok.fresh (Nat.le_refl _))⟩
def copyF (d : D) (S : Store) : Res D := match dcOf S d with
  | some kvs => .ok (.dct kvs) S
  | none => .stk
theorem t_copyF (he : PE X o (T X.K cl E m)) (hb : attributeBase o "copy" X.env (eval o X.env) = eval o X.env := by rfl) (hl : (apos.endLine == cpos.line) = true := by rfl) :
    PE X (.Call (.Attribute o "copy" apos) [] [] cpos) (T X.K cl E (mUn copyF m)) :=
  pe_imp (pe_frzD (pe_copyK he hb hl)) fun σ H Q ⟨W, ρ, S, hr, en, q⟩ => step hr en q fun W1 H1 v d S1 l1 r1 e1 rv p1 => by
    unfold copyF at p1
    split at p1
    · rename_i kvs ek
      obtain ⟨a, vs, rfl, ha, t⟩ := dc_of r1 rv ek
      refine ⟨a, vs, rfl, ha, fun q hq => ⟨q, .dK vs, rfl, upd_same, True.intro, fun od => ?_⟩⟩
      rw [upd_twice]
      obtain ⟨r2, l2⟩ := r1.fz (o := .frz od (.dK vs)) hq
      exact p1 _ _ _ l2 r2 (.dct upd_same (t.up l2))
    · exact p1.elim
/-! ### d == {} -/
def rEqD0 : R2 := fun x y H Q => ∃ a b ks, x = .ref a ∧ y = .ref b ∧ Rd H a (.dK ks) ∧ Rd H b (.dK []) ∧ Q (.bl ks.isEmpty) H
theorem op_eqD0 {k : Nat} (rm : Room k X.A) : OpR X (compareOp .Eq) rEqD0 := by
  intro pins s σ H x y v u Q I rx ry ⟨a, b, ks, ex, ey, ha, hb, q⟩
  subst ex
  subst ey
  obtain rfl : v = Value.ref a := rx
  obtain rfl : u = Value.ref b := ry
  obtain ⟨_, la, va, ka, da⟩ := dk_rd I.hok ha
  obtain ⟨_, lb, vb, kb, db⟩ := dk_rd I.hok hb
  have l1 : ks.length = va.length := KV.length ka
  have l2 : 0 = vb.length := KV.length kb
  refine PySem.W.keq_eq (knd := mixKind X.prog X.w) (r := true) la lb da db (by have := rm.un; omega) (fun hl => ?_) (fin_bl I q ?_)
  · have : va = [] := List.eq_nil_of_length_eq_zero (by omega)
    rw [this]
    exact .nil
  · rw [← l1, ← l2]
    cases ks <;> simp
def eqD0 (x y : D) (S : Store) : Res D := match dcOf S x, dcOf S y with
  | some ks, some [] => .ok (.bl ks.isEmpty) S
  | _, _ => .stk
theorem eqD0_s {K : PySem.W.Frag} : OpS K cl rEqD0 eqD0 := by
  intro W H S x y a b Q E r rx ry p
  unfold eqD0 at p
  split at p
  · rename_i ks e1 e2
    obtain ⟨l, vs, rfl, h, t⟩ := dc_of r rx e1
    obtain ⟨l', vs', rfl, h', t'⟩ := dc_of r ry e2
    cases t'
    refine ⟨l, l', vs, rfl, rfl, h, h', ?_⟩
    have : vs.isEmpty = ks.isEmpty := by cases t <;> rfl
    rw [this]
    exact p.now r (.bl _)
  · exact p.elim
end
/-! ### running -/
section
variable {ρ : Sl} {S : Store} {d x y z v : D} {ds : List D} {n : Nat} {i : Int}
@[simp] theorem p_l {p : List D → Sl → Option Sl} : ptL p (.lst ds) ρ = p ds ρ := nrfl rfl
@[simp] theorem e_dctL : mDctL ρ S = .ok (.ref S.length) (S ++ [.dct []]) := nrfl rfl
def kPA3 (ρ : Sl) (v x y : D) (S : Store) : Out := qO (putA x y v S) ρ
def kPA2 (ρ : Sl) (i : M D) (v x : D) (S : Store) : Out := sB (i ρ S) ρ (kPA3 ρ v x)
def kPA (ρ : Sl) (o i : M D) (v : D) (S : Store) : Out := sB (o ρ S) ρ (kPA2 ρ i v)
@[simp] theorem x_pa {o i e : M D} : sPutA o i e ρ S = sB (e ρ S) ρ (kPA ρ o i) := by
  unfold sPutA
  rfl
@[simp] theorem x_pa2 {o i : M D} : kPA ρ o i v S = sB (o ρ S) ρ (kPA2 ρ i v) := nrfl rfl
@[simp] theorem x_pa3 {i : M D} : kPA2 ρ i v x S = sB (i ρ S) ρ (kPA3 ρ v x) := nrfl rfl
@[simp] theorem x_pa4 : kPA3 ρ v x y S = qO (putA x y v S) ρ := nrfl rfl
theorem putA_dct {kvs : List (Key × D)} {k : Key} (h : sg S n = some (.dct kvs)) (hk : keyO y = some k) (hz : kvs.length < sizeLine) : putA (.ref n) y v S = some (sp S n (.dct (putKD kvs k v))) := by
  unfold putA
  dsimp only
  rw [show S[n]? = some (.dct kvs) from h]
  dsimp only
  rw [hk]
  exact if_pos hz
theorem putA_lst (h : sg S n = some (.lst ds)) : putA (.ref n) y v S = putD (.ref n) y v S := by
  unfold putA
  dsimp only
  rw [show S[n]? = some (.lst ds) from h]
def kG3 (x y z : D) (S : Store) : Res D := getA x y z S
def kG2 (ρ : Sl) (b : M D) (x y : D) (S : Store) : Res D := (b ρ S).bind (kG3 x y)
def kG1 (ρ : Sl) (a b : M D) (x : D) (S : Store) (o : Option (List (Key × D))) : Res D := match o with
  | some _ => (a ρ S).bind (kG2 ρ b x)
  | none => .stk
def kG (ρ : Sl) (a b : M D) (x : D) (S : Store) : Res D := kG1 ρ a b x S (dcOf S x)
@[simp] theorem e_get {o a b : M D} : mGet2 o a b ρ S = (o ρ S).bind (kG ρ a b) := by
  unfold mGet2
  congr 1
@[simp] theorem e_get2 {a b : M D} : kG ρ a b x S = kG1 ρ a b x S (dcOf S x) := nrfl rfl
@[simp] theorem e_get3 {a b : M D} {kvs : List (Key × D)} : kG1 ρ a b x S (some kvs) = (a ρ S).bind (kG2 ρ b x) := nrfl rfl
@[simp] theorem e_get4 {b : M D} : kG2 ρ b x y S = (b ρ S).bind (kG3 x y) := nrfl rfl
theorem get_ok {kvs : List (Key × D)} {k : Key} (h : dcOf S x = some kvs) (hk : keyO y = some k) : kG3 x y z S = .ok ((valK kvs k).getD z) S := by
  unfold kG3 getA
  rw [h, hk]
theorem dc_ref {kvs : List (Key × D)} (h : sg S n = some (.dct kvs)) : dcOf S (.ref n) = some kvs := by
  unfold dcOf
  dsimp only
  rw [show S[n]? = some (.dct kvs) from h]
theorem ixA_dct {kvs : List (Key × D)} {k : Key} (h : dcOf S x = some kvs) (hk : keyO y = some k) : ixA x y S = ofO (valK kvs k) S := by
  unfold ixA
  rw [h, hk]
@[simp] theorem e_itK {m : M D} : mItK m ρ S = (m ρ S).bind itK := nrfl rfl
@[simp] theorem itK_dct {kvs : List (Key × D)} : itK (.dct kvs) S = .ok ⟨kvs.map fun kv => keyD kv.1, none⟩ S := nrfl rfl
@[simp] theorem listK_dct {kvs : List (Key × D)} : listK [.dct kvs] S = .ok (.lst (kvs.map fun kv => keyD kv.1)) S := nrfl rfl
theorem copy_ok {kvs : List (Key × D)} (h : dcOf S x = some kvs) : copyF x S = .ok (.dct kvs) S := by
  unfold copyF
  rw [h]
@[simp] theorem kdO_dct {kvs : List (Key × D)} : kdO (some (.dct kvs)) = some .dct := nrfl rfl
end
end G
namespace G
open PySem L2
theorem bt_sorted : bootBuiltins "sorted" = some (.builtin "sorted") := by decide +kernel
/-! ### frames: what stays of a store -/
structure Fr (A : List Nat) (S S' : Store) : Prop where
  le : S.length ≤ S'.length
  eq : ∀ i, i < S.length → i ∉ A → sg S' i = sg S i
section
variable {A B : List Nat} {S S1 S2 : Store} {n : Nat} {m : MO}
theorem Fr.rf (A : List Nat) (S : Store) : Fr A S S := ⟨Nat.le_refl _, fun _ _ _ => rfl⟩
theorem Fr.tr (x : Fr A S S1) (y : Fr A S1 S2) : Fr A S S2 := ⟨Nat.le_trans x.le y.le, fun i hi hA => (y.eq i (Nat.lt_of_lt_of_le hi x.le) hA).trans (x.eq i hi hA)⟩
theorem Fr.mono (x : Fr A S S1) (h : ∀ i ∈ A, i < S.length → i ∈ B) : Fr B S S1 := ⟨x.le, fun i hi hB => x.eq i hi fun hA => hB (h i hA hi)⟩
theorem Fr.sub (x : Fr A S S1) (h : ∀ i ∈ A, i ∈ B) : Fr B S S1 := x.mono fun i hi _ => h i hi
theorem Fr.get (x : Fr A S S1) (h : sg S n = some m) (hn : n ∉ A) : sg S1 n = some m := (x.eq n (sg_lt h) hn).trans h
theorem Fr.put (h : n ∈ A) : Fr A S (sp S n m) := ⟨Nat.le_of_eq sp_len.symm, fun i hi hA => sg_ne fun e => hA (e ▸ h)⟩
theorem Fr.ext (h : Ext S S1) : Fr A S S1 := by
  obtain ⟨T, rfl⟩ := h
  exact ⟨by simp, fun i hi _ => sg_app hi⟩
theorem Fr.app {T : Store} : Fr A S (S ++ T) := ⟨by simp, fun i hi _ => sg_app hi⟩
end
theorem Ext.app {S T : Store} : Ext S (S ++ T) := ⟨T, rfl⟩
theorem Ext.le {S T : Store} (h : Ext S T) : S.length ≤ T.length := by
  obtain ⟨U, rfl⟩ := h
  simp
/-! ### loops and comprehensions, in general -/
def Stp0 (I : Sl → Store → Prop) (Z : Out → Prop) (o : Out) : Prop := match o with
  | .nx ρ S => I ρ S
  | .ct ρ S => I ρ S
  | .bk ρ S => Z (.nx ρ S)
  | .rt d S => Z (.rt d S)
  | .exc x ρ S => Z (.exc x ρ S)
  | .stk => False
structure Stp (I : Sl → Store → Prop) (Z : Out → Prop) (o : Out) : Prop where
  out : Stp0 I Z o
section
variable {I : Sl → Store → Prop} {Z : Out → Prop} {ρ : Sl} {S : Store} {d : D} {x : Exc}
@[simp] theorem stp_nx : Stp I Z (.nx ρ S) = I ρ S := propext ⟨fun h => h.out, fun h => ⟨h⟩⟩
@[simp] theorem stp_ct : Stp I Z (.ct ρ S) = I ρ S := propext ⟨fun h => h.out, fun h => ⟨h⟩⟩
@[simp] theorem stp_bk : Stp I Z (.bk ρ S) = Z (.nx ρ S) := propext ⟨fun h => h.out, fun h => ⟨h⟩⟩
@[simp] theorem stp_rt : Stp I Z (.rt d S) = Z (.rt d S) := propext ⟨fun h => h.out, fun h => ⟨h⟩⟩
@[simp] theorem stp_exc : Stp I Z (.exc x ρ S) = Z (.exc x ρ S) := propext ⟨fun h => h.out, fun h => ⟨h⟩⟩
end
section
variable {it : Itb} {p : Pt} {b : MS}
theorem for_genA (I : Nat → Sl → Store → Prop) (Z : Out → Prop) : ∀ (ds : List D) (k : Nat) (ρ : Sl) (S : Store),
    (∀ j d, ds[j]? = some d → ∀ ρ S, I (k + j) ρ S → Grd it S ∧ ∃ ρ1, p d ρ = some ρ1 ∧ Stp (I (k + j + 1)) Z (b ρ1 S)) →
    (∀ ρ S, I (k + ds.length) ρ S → Grd it S ∧ Z (.nx ρ S)) → I k ρ S → Z (forL it p b ds ρ S) := by
  intro ds
  induction ds with
  | nil =>
    intro k ρ S _ h0 hI
    obtain ⟨hg, hz⟩ := h0 ρ S hI
    rw [for_nilG hg]
    exact hz
  | cons d ds ih =>
    intro k ρ S h h0 hI
    obtain ⟨hg, ρ1, hp, hb⟩ := h 0 d rfl ρ S hI
    have go : ∀ ρ2 S2, I (k + 1) ρ2 S2 → Z (forL it p b ds ρ2 S2) := fun ρ2 S2 hI2 => ih (k + 1) ρ2 S2 (fun j d hj ρ S hI => by
        have := h (j + 1) d hj ρ S (by rw [show k + (j + 1) = k + 1 + j by omega]; exact hI)
        rw [show k + (j + 1) = k + 1 + j by omega] at this
        exact this) (fun ρ S hI => h0 ρ S (by rw [List.length_cons, show k + (ds.length + 1) = k + 1 + ds.length by omega]; exact hI)) hI2
    rw [for_consG hg hp]
    cases e : b ρ1 S with
    | nx ρ2 S2 => rw [e] at hb; rw [fB_nx]; exact go _ _ hb.out
    | ct ρ2 S2 => rw [e] at hb; rw [fB_ct]; exact go _ _ hb.out
    | bk ρ2 S2 => rw [e] at hb; rw [fB_bk]; exact hb.out
    | rt x S2 => rw [e] at hb; rw [fB_rt]; exact hb.out
    | exc x ρ2 S2 => rw [e] at hb; rw [fB_exc]; exact hb.out
    | stk => rw [e] at hb; exact hb.out.elim
theorem for_gen (I : Nat → Sl → Store → Prop) (Z : Out → Prop) {ds : List D} {ρ : Sl} {S : Store}
    (h : ∀ j d, ds[j]? = some d → ∀ ρ S, I j ρ S → Grd it S ∧ ∃ ρ1, p d ρ = some ρ1 ∧ Stp (I (j + 1)) Z (b ρ1 S))
    (h0 : ∀ ρ S, I ds.length ρ S → Grd it S ∧ Z (.nx ρ S)) (hI : I 0 ρ S) : Z (forL it p b ds ρ S) :=
  for_genA I Z ds 0 ρ S (fun j d hj ρ S hI => by rw [Nat.zero_add] at hI ⊢; exact h j d hj ρ S hI) (fun ρ S hI => by rw [Nat.zero_add] at hI; exact h0 ρ S hI) hI
/-- a loop that goes through -/
theorem for_thru (I : Nat → Sl → Store → Prop) (ds : List D) {ρ : Sl} {S : Store}
    (h : ∀ j d, ds[j]? = some d → ∀ ρ S, I j ρ S → Grd it S ∧ ∃ ρ1, p d ρ = some ρ1 ∧ Stp (I (j + 1)) (fun _ => False) (b ρ1 S))
    (h0 : ∀ ρ S, I ds.length ρ S → Grd it S) (hI : I 0 ρ S) : ∃ ρ' S', forL it p b ds ρ S = .nx ρ' S' ∧ I ds.length ρ' S' := by
  refine for_gen (it := it) (p := p) (b := b) I (fun o => ∃ ρ' S', o = .nx ρ' S' ∧ I ds.length ρ' S') (fun j d hj ρ S hI => ?_) (fun ρ S hI => ⟨h0 ρ S hI, ρ, S, rfl, hI⟩) hI
  obtain ⟨hg, ρ1, hp, hb⟩ := h j d hj ρ S hI
  refine ⟨hg, ρ1, hp, ?_⟩
  refine ⟨?_⟩
  have hb := hb.out
  cases e : b ρ1 S <;> rw [e] at hb <;> first | exact hb | exact hb.elim
theorem comp_nilG {t : M Bool} {e : M D} {ρ : Sl} {n : Nat} {S : Store} (hg : Grd it S) : compL it p t e ρ [] n S = .ok [] S := by
  unfold compL
  rw [if_pos hg]
theorem comp_consG {t : M Bool} {e : M D} {ρ ρ1 : Sl} {n : Nat} {S : Store} {d : D} {ds : List D} (hg : Grd it S) (h : p d ρ = some ρ1) : compL it p t e ρ (d :: ds) n S = (t ρ1 S).nox.bind (kCp ρ it p t e ds n ρ1) := by
  rw [compL.eq_2, if_pos hg, h]
  rfl
/-- a comprehension, with the state -/
theorem comp_gen {t : M Bool} {e : M D} {ρ : Sl} (I : Nat → List D → Store → Prop) : ∀ (ds : List D) (k n : Nat) (acc : List D) (S : Store),
    (∀ j d, ds[j]? = some d → ∀ ys S, I (k + j) ys S → Grd it S ∧ ∃ ρ1, p d ρ = some ρ1 ∧ ∃ q S1, t ρ1 S = .ok q S1 ∧ ((q = false ∧ I (k + j + 1) ys S1) ∨ (q = true ∧ ∃ y S2, e ρ1 S1 = .ok y S2 ∧ I (k + j + 1) (ys ++ [y]) S2))) →
    (∀ ys S, I (k + ds.length) ys S → Grd it S) → n + ds.length ≤ sizeLine → I k acc S → ∃ ys S', compL it p t e ρ ds n S = .ok ys S' ∧ I (k + ds.length) (acc ++ ys) S' := by
  intro ds
  induction ds with
  | nil =>
    intro k n acc S _ h0 _ hI
    exact ⟨[], S, comp_nilG (h0 acc S hI), by rw [List.append_nil]; exact hI⟩
  | cons d ds ih =>
    intro k n acc S h h0 hn hI
    rw [List.length_cons] at hn
    obtain ⟨hg, ρ1, hp, q, S1, ht, hq⟩ := h 0 d rfl acc S hI
    have h' : ∀ j d, ds[j]? = some d → ∀ ys S, I (k + 1 + j) ys S → Grd it S ∧ ∃ ρ1, p d ρ = some ρ1 ∧ ∃ q S1, t ρ1 S = .ok q S1 ∧ ((q = false ∧ I (k + 1 + j + 1) ys S1) ∨ (q = true ∧ ∃ y S2, e ρ1 S1 = .ok y S2 ∧ I (k + 1 + j + 1) (ys ++ [y]) S2)) := fun j d hj ys S hI => by
      have := h (j + 1) d hj ys S (by rw [show k + (j + 1) = k + 1 + j by omega]; exact hI)
      rw [show k + (j + 1) = k + 1 + j by omega] at this
      exact this
    have h0' : ∀ ys S, I (k + 1 + ds.length) ys S → Grd it S := fun ys S hI => h0 ys S (by rw [List.length_cons, show k + (ds.length + 1) = k + 1 + ds.length by omega]; exact hI)
    have el : k + (d :: ds).length = k + 1 + ds.length := by rw [List.length_cons]; omega
    rw [comp_consG hg hp, ht, el]
    rcases hq with ⟨rfl, hI2⟩ | ⟨rfl, y, S2, he, hI2⟩
    · obtain ⟨ys, S3, e3, I3⟩ := ih (k + 1) n acc S1 h' h0' (by omega) hI2
      exact ⟨ys, S3, by simp [e3], I3⟩
    · obtain ⟨ys, S3, e3, I3⟩ := ih (k + 1) (n + 1) (acc ++ [y]) S2 h' h0' (by omega) hI2
      have hn' : n < sizeLine := by omega
      exact ⟨y :: ys, S3, by simp [he, hn', e3], by rw [List.append_assoc] at I3; exact I3⟩
/-- a comprehension that changes nothing -/
theorem comp_pure {α : Type} {t : M Bool} {e : M D} {ρ : Sl} {S : Store} (hg : Grd it S) (g f : α → D) (q : α → Bool) : ∀ (xs : List α) (k : Nat),
    (∀ d ∈ xs, ∃ ρ1, p (g d) ρ = some ρ1 ∧ t ρ1 S = .ok (q d) S ∧ (q d = true → e ρ1 S = .ok (f d) S)) → k + xs.length ≤ sizeLine →
    compL it p t e ρ (xs.map g) k S = .ok ((xs.filter q).map f) S := by
  intro xs
  induction xs with
  | nil => intro k _ _; exact comp_nilG hg
  | cons d xs ih =>
    intro k h hk
    obtain ⟨ρ1, hp, ht, he⟩ := h d (by simp)
    rw [List.length_cons] at hk
    rw [List.map_cons, comp_consG hg hp, ht]
    cases hq : q d with
    | true =>
      have e2 := ih (k + 1) (fun d hd => h d (by simp [hd])) (by omega)
      have hk' : k < sizeLine := by omega
      simp [he hq, hk', e2, hq]
    | false =>
      have e2 := ih k (fun d hd => h d (by simp [hd])) (by omega)
      simp [e2, hq]
end
theorem grd_none {xs : List D} {S : Store} : Grd ⟨xs, none⟩ S := trivial
theorem grd_some {xs : List D} {n : Nat} {S : Store} (h : sg S n = some (.lst xs)) : Grd ⟨xs, some n⟩ S := h
theorem ixN_nat {n i : Nat} (h : i < n) : ixN n (i : Int) = some i := by
  unfold ixN
  rw [if_pos (by omega), if_pos (by omega)]
  simp
section
variable {S l : Store} {a b c e f g m : MO}
@[simp] theorem sp_a3 : sp (S ++ a :: b :: c :: e :: l) (S.length + 3) m = S ++ a :: b :: c :: m :: l := by unfold sp; simp
@[simp] theorem sp_a4 : sp (S ++ a :: b :: c :: e :: f :: l) (S.length + 4) m = S ++ a :: b :: c :: e :: m :: l := by unfold sp; simp
@[simp] theorem sg_a4 : sg (S ++ a :: b :: c :: e :: f :: l) (S.length + 4) = some f := by unfold sg; simp
@[simp] theorem sg_a5 : sg (S ++ a :: b :: c :: e :: f :: g :: l) (S.length + 5) = some g := by unfold sg; simp
end
end G
namespace G
open PySem L2
/-! ### it answers, and so -/
inductive Ok {α : Type} : Res α → (α → Store → Prop) → Prop
  | mk {a : α} {S : Store} {P : α → Store → Prop} : P a S → Ok (.ok a S) P
section
variable {α β : Type} {r x : Res α} {P Q : α → Store → Prop}
@[simp] theorem ok_ok {a : α} {S : Store} : Ok (.ok a S) P = P a S := propext ⟨fun h => by cases h with | mk h => exact h, .mk⟩
theorem Ok.ex (h : Ok r P) : ∃ a S, r = .ok a S ∧ P a S := by
  cases h with
  | mk h => exact ⟨_, _, rfl, h⟩
theorem Ok.of {a : α} {S : Store} (e : r = .ok a S) (h : P a S) : Ok r P := by
  rw [e]
  exact .mk h
theorem Ok.g (hx : r = x) (h : Ok r P) : ∃ a S, x = .ok a S ∧ P a S := by
  rw [← hx]
  exact h.ex
theorem Ok.imp (h : Ok r P) (k : ∀ a S, P a S → Q a S) : Ok r Q := by
  obtain ⟨a, S, rfl, hq⟩ := h.ex
  exact .mk (k a S hq)
end
section
variable {it : Itb} {p : Pt} {b : MS} {e : M D} {t : M Bool} {ρ : Sl} {S : Store}
/-- a comprehension of draws -/
theorem compE (I : Store → Prop) (Q : D → Prop) {ds : List D} {k : Nat} (hg : ∀ S, I S → Grd it S) (h : ∀ d ∈ ds, ∃ ρ1, p d ρ = some ρ1 ∧ ∀ S, I S → Ok (e ρ1 S) fun y S' => I S' ∧ Q y) (hI : I S) (hk : k + ds.length ≤ sizeLine) :
    Ok (compL it p mYes e ρ ds k S) fun ys S' => ys.length = ds.length ∧ (∀ y ∈ ys, Q y) ∧ I S' := by
  obtain ⟨ys, S', e1, h1, h2, h3⟩ := comp_gen (it := it) (p := p) (t := mYes) (e := e) (ρ := ρ) (fun j ys S => ys.length = j ∧ (∀ y ∈ ys, Q y) ∧ I S) ds 0 k [] S (fun j d hj ys S ⟨q1, q2, q3⟩ => by
    obtain ⟨ρ1, hp, he⟩ := h d (List.mem_of_getElem? hj)
    obtain ⟨y, S2, e2, i2, qy⟩ := (he S q3).ex
    refine ⟨hg S q3, ρ1, hp, true, S, rfl, .inr ⟨rfl, y, S2, e2, by rw [List.length_append, q1]; rfl, fun z hz => ?_, i2⟩⟩
    rcases List.mem_append.mp hz with hz | hz
    · exact q2 z hz
    · simp at hz; subst hz; exact qy) (fun ys S ⟨q1, q2, q3⟩ => hg S q3) hk ⟨rfl, fun y h => (nomatch h), hI⟩
  rw [List.nil_append, Nat.zero_add] at h1
  rw [List.nil_append] at h2
  exact Ok.of e1 ⟨h1, h2, h3⟩
/-- a comprehension by places -/
theorem compI (I : Nat → List D → Store → Prop) {ds : List D} {k : Nat} (hg : ∀ j ys S, I j ys S → Grd it S)
    (h : ∀ j d, ds[j]? = some d → ∃ ρ1, p d ρ = some ρ1 ∧ ∀ ys S, I j ys S → Ok (e ρ1 S) fun y S' => I (j + 1) (ys ++ [y]) S') (hI : I 0 [] S) (hk : k + ds.length ≤ sizeLine) :
    Ok (compL it p mYes e ρ ds k S) fun ys S' => I ds.length ys S' := by
  obtain ⟨ys, S', e1, h1⟩ := comp_gen (it := it) (p := p) (t := mYes) (e := e) (ρ := ρ) I ds 0 k [] S (fun j d hj ys S hI => by
    rw [Nat.zero_add] at hI ⊢
    obtain ⟨ρ1, hp, he⟩ := h j d hj
    obtain ⟨y, S2, e2, i2⟩ := (he ys S hI).ex
    exact ⟨hg _ _ _ hI, ρ1, hp, true, S, rfl, .inr ⟨rfl, y, S2, e2, i2⟩⟩) (fun ys S hI => hg _ _ _ hI) hk hI
  rw [List.nil_append, Nat.zero_add] at h1
  exact Ok.of e1 h1
/-- a comprehension that changes nothing -/
theorem compP {α : Type} (g f : α → D) (q : α → Bool) {xs : List α} {k : Nat} (hg : Grd it S)
    (h : ∀ d ∈ xs, ∃ ρ1, p (g d) ρ = some ρ1 ∧ t ρ1 S = .ok (q d) S ∧ (q d = true → e ρ1 S = .ok (f d) S)) (hk : k + xs.length ≤ sizeLine) :
    Ok (compL it p t e ρ (xs.map g) k S) fun ys S' => ys = (xs.filter q).map f ∧ S' = S := Ok.of (comp_pure hg g f q xs k h hk) ⟨rfl, rfl⟩
theorem compM {α : Type} (g f : α → D) {xs : List α} {k : Nat} (hg : Grd it S) (h : ∀ d ∈ xs, ∃ ρ1, p (g d) ρ = some ρ1 ∧ e ρ1 S = .ok (f d) S) (hk : k + xs.length ≤ sizeLine) :
    Ok (compL it p mYes e ρ (xs.map g) k S) fun ys S' => ys = xs.map f ∧ S' = S := by
  refine (compP (t := mYes) g f (fun _ => true) hg (fun d hd => ?_) hk).imp fun ys S' h => ⟨by rw [h.1, List.filter_eq_self.mpr (fun _ _ => rfl)], h.2⟩
  obtain ⟨ρ1, h1, h2⟩ := h d hd
  exact ⟨ρ1, h1, rfl, fun _ => h2⟩
/-- loops -/
inductive OkN : Out → (Sl → Store → Prop) → Prop
  | mk {ρ : Sl} {S : Store} {P : Sl → Store → Prop} : P ρ S → OkN (.nx ρ S) P
theorem OkN.ex {o : Out} {P : Sl → Store → Prop} (h : OkN o P) : ∃ ρ S, o = .nx ρ S ∧ P ρ S := by
  cases h with
  | mk h => exact ⟨_, _, rfl, h⟩
theorem OkN.g {o x : Out} {P : Sl → Store → Prop} (hx : o = x) (h : OkN o P) : ∃ ρ S, x = .nx ρ S ∧ P ρ S := by
  rw [← hx]
  exact h.ex
@[simp] theorem okn_nx {P : Sl → Store → Prop} : OkN (.nx ρ S) P = P ρ S := propext ⟨fun h => by cases h with | mk h => exact h, .mk⟩
theorem forI (I : Nat → Sl → Store → Prop) {ds : List D} (hg : ∀ j ρ S, I j ρ S → Grd it S)
    (h : ∀ j d, ds[j]? = some d → ∀ ρ S, I j ρ S → ∃ ρ1, p d ρ = some ρ1 ∧ Stp (I (j + 1)) (fun _ => False) (b ρ1 S)) (hI : I 0 ρ S) : OkN (forL it p b ds ρ S) (I ds.length) := by
  obtain ⟨ρ', S', e1, h1⟩ := for_thru (it := it) (p := p) (b := b) I ds (fun j d hj ρ S hI => ⟨hg _ _ _ hI, h j d hj ρ S hI⟩) (fun ρ S hI => hg _ _ _ hI) hI
  rw [e1]
  exact .mk h1
end
/-! ### the places of a list -/
theorem sg_at {S T : Store} {k : Nat} : sg (S ++ T) (S.length + k) = T[k]? := by
  unfold sg
  rw [List.getElem?_append_right (by omega)]
  congr 1
  omega
theorem sp_at {S T : Store} {k : Nat} {m : MO} : sp (S ++ T) (S.length + k) m = S ++ sp T k m := by
  unfold sp
  rw [List.set_append_right _ _ (by omega)]
  congr 2
  omega
end G
namespace G
open PySem PySem.Spec PyProof.Rows L2
/-! ### several clauses, with names and without -/
abbrev Sut := Addr → Value → Option Addr → TS
/-- the ends of a suite that bears a name -/
def offN (o : Option Nat) (D : Ends) : Ends := match o with
  | none => D
  | some i => { nx := fun z y => D.nx (z.set i none) y, rt := D.rt, bk := fun z y => D.bk (z.set i none) y, ct := fun z y => D.ct (z.set i none) y }
def onN (o : Option Nat) (a : Addr) (σ : L2.St) : L2.St := match o with
  | none => σ
  | some i => σ.set i (some (.ref a))
def wMix (K : PySem.W.Frag) (Wo : WX) (D : Ends) : List (Value × Option Nat × Sut) → WX
  | [] => Wo
  | (c, o, t) :: r => fun k d σ H => ∃ b, PySem.W.exmOne K k c = some b ∧ (b = true → ∀ a, H a = none → t a k d (offN o D) (onN o a σ) H) ∧ (b = false → wMix K Wo D r k d σ H)
inductive Mix (X : Cx) : List ExceptHandler → List (Value × Option Nat × Sut) → Prop
  | nil : Mix X [] []
  | bare {x : Str} {c : Value} {t : Sut} {s0 : Stmt} {su : List Stmt} {p p' : Pos} {hs : List ExceptHandler} {l : List (Value × Option Nat × Sut)} (hc : Names X x c)
      (hu : ∀ (a : Addr) (oe : Obj) (k : Value) (d : Option Addr) (pn : List (Addr × Obj)), Zc k d oe → (∃ v, oe.data = .fields v) → PSs (X.suite a ((a, oe) :: pn)) (s0 :: su) (t a k d)) (r : Mix X hs l) :
      Mix X (.ExceptHandler (some (.Name x p)) none (s0 :: su) p' :: hs) ((c, none, t) :: l)
  | name {x n : Str} {c : Value} {i : Nat} {t : Sut} {s0 : Stmt} {su : List Stmt} {p p' : Pos} {hs : List ExceptHandler} {l : List (Value × Option Nat × Sut)} (hc : Names X x c) (hi : X.N[i]? = some n) (hk : X.env.kindOf n = some .local)
      (hu : ∀ (a : Addr) (oe : Obj) (k : Value) (d : Option Addr) (pn : List (Addr × Obj)), Zc k d oe → (∃ v, oe.data = .fields v) → PSs (X.suite a ((a, oe) :: pn)) (s0 :: su) (t a k d)) (r : Mix X hs l) :
      Mix X (.ExceptHandler (some (.Name x p)) (some n) (s0 :: su) p' :: hs) ((c, some i, t) :: l)
section
variable {X : Cx} {body : List Stmt} {h0 : ExceptHandler} {hds : List ExceptHandler} {l : List (Value × Option Nat × Sut)} {pos : Pos} {tb : WX → TS} {Wo : WX}
theorem ps_try_mix (hst : X.stack = X.env :: X.outer) (hfr : X.env.frame = some X.env.locals) (hN : X.N.Nodup) (tk : Takes X Wo)
    (hb : ∀ (W : WX) (pn : List (Addr × Obj)) (xe : Value → Shared → Prop), Takes (X.tr pn xe) W → PassesOwn (model X.prog X.w) X.A X.env xe → PSs (X.tr pn xe) body (tb W))
    (hh : Mix X (h0 :: hds) l) : PS X (.Try body (h0 :: hds) [] [] pos) (fun D σ H => tb (wMix X.K Wo D l) D σ H) := by
  refine ⟨fun pins s σ H D I h => wpAny_Try_except (wpAny_mono ((hb (wMix X.K Wo D l) (X.pn ++ pins) (fun e y => wpAny (model X.prog X.w) X.A (noteFrame e X.env) (fun _ y2 => wpAny (model X.prog X.w) X.A (setFlight e none) (fun _ y3 =>
    wpAny (model X.prog X.w) X.A (handleBy e X.env (h0 :: hds)) (SP X pins D) X.xe y3) X.xe y2) X.xe y) (fun u z xx => ?_) PassesOwn.looking).run [] s σ H D (I.toTry _) h) (fun f y hsp => ?_) (fun e y he => he))⟩
  · have okk := I.ok
    have hfs : X.A.frames = some (X.env :: X.outer) := by rw [okk.frames, hst]
    obtain ⟨a, B, sI, pins', σ1, H1, k, d, rfl, J0, nb, up, sky, na, os, ag, w⟩ := xx
    have J1 : Inv X pins σ1 H1 sI := J0.ofTry okk
    have sk : Sky B (X.env :: X.outer) a (Zc k d) X.env.locals z.heap := by rw [← hst]; exact sky
    refine Sky.land Zc.steady hfs hfr sk fun g1 fl1 up1 => ?_
    have J2 : Inv X pins σ1 H1 { z with heap := g1 } := J1.landed nb fl1.1 (up.trans up1) os ag
    obtain ⟨oe1, v1, he1, hz1, hd1⟩ := fl1.there
    have nfr : a ∉ frs (X.env :: X.outer) := fun hm => by obtain ⟨_, o2, e2, hnf⟩ := fl1.2.2.1.mem hm; rw [he1] at e2; cases e2; exact hnf _ hd1
    have n1 : a ≠ X.env.locals := fun q => nfr (List.mem_filterMap.mpr ⟨X.env, List.mem_cons_self, by rw [hfr, q]⟩)
    have n2 : a ∉ X.fs := fun hm => by obtain ⟨e, he, q⟩ := List.mem_filterMap.mp hm; exact nfr (List.mem_filterMap.mpr ⟨e, List.mem_cons_of_mem _ he, q⟩)
    have U1 := J2.suite he1 hd1 na n1 n2
    have test : ∀ {x : Str} {c : Value} {np : Pos} {Q : Value → Shared → Prop} {E : Value → Shared → Prop}, Names X x c → Q c { z with heap := g1 } → wpAny (model X.prog X.w) (X.A.mark (some (.ref a))) (eval (.Name x np) X.env) Q E { z with heap := g1 } := fun {x c np Q E} hc q => by
      obtain ⟨hg, hdb, hm | ⟨hm, hv, hnn⟩⟩ := hc
      · exact ld_glob (X := X.suite a ((a, oe1) :: (X.pn ++ pins))) U1 hg hm q hdb
      · exact ld_blt (X := X.suite a ((a, oe1) :: (X.pn ++ pins))) U1 hg hm hv q hnn hdb
    have LT : PySem.W.Looks (model X.prog X.w) g1 (typeOf (.ref a)) k := fun A Q E s kk q => wpAny_typeOf_ref (kk _ _ he1) (by rw [hz1.1]; exact q)
    have go : ∀ {hs : List ExceptHandler} {l' : List (Value × Option Nat × Sut)}, Mix X hs l' → wMix X.K Wo D l' k d σ1 H1 → wpAny (model X.prog X.w) X.A (handleBy (.ref a) X.env hs) (SP X pins D) X.xe { z with heap := g1 } := by
      intro hs l' hk
      induction hk with
      | nil =>
        intro w
        refine wpAny_handleBy_nil ?_
        obtain ⟨k1, k2, k3, oe, vs, T, oT, ts', he, hz, hd, h1, hr⟩ := id fl1
        unfold PySem.passOn
        refine wpAny_bind (wpAny_field he hd h1 ?_)
        rw [if_neg (show ¬ ((Value.ref T == Value.none) = true) by simp)]
        have fin : wpAny (model X.prog X.w) X.A (setFlight (.ref a) X.env.frame) (fun _ y => wpAny (model X.prog X.w) X.A (throw (.ref a) : Sem Flow) (SP X pins D) X.xe y) X.xe { z with heap := g1 } := by
          rw [hfr]
          exact HandSPX.setFlight_upZ fl1 fun g4 hh4 up4 => wpAny_throw (tk _ _ ⟨a, B, sI, pins, σ1, H1, k, d, rfl, J1, nb, (up.trans up1).trans up4, .inr (.inr (by rw [hst]; exact hh4)), na, os, ag, w⟩)
        first | exact wpAny_bind (wpAny_pure (wpAny_bind fin)) | exact wpAny_bind fin
      | @bare x c t s0 su p p' hs2 l2 hc hu r ih =>
        rintro ⟨b, hb1, hyes, hno⟩
        refine wpAny_handleBy_cons (codeAny_handlers_test ?_) (by intro q; cases q)
        refine test hc ((PySem.W.exm_one (M := model X.prog X.w) J2.kIn LT hb1).here ?_)
        cases b with
        | false => exact ih (hno rfl)
        | true =>
          refine codeAny_handlers_suite (HandSPX.lands_againZ fl1 fun g4 fl4 up4 => ?_)
          obtain ⟨oe4, v4, he4, hz4, hd4⟩ := fl4.there
          have J4 : Inv X pins σ1 H1 { z with heap := g4 } := J1.landed nb fl4.1 ((up.trans up1).trans up4) os ag
          have U4 := J4.suite he4 hd4 na n1 n2
          refine wpAny_mono ((hu a oe4 k d (X.pn ++ pins) hz4 ⟨_, hd4⟩).run [] _ _ H1 _ U4 (hyes rfl a na)) (fun f y hsp => ?_) (fun _ _ q => False.elim q)
          cases f with
          | ret u => obtain ⟨v6, σ6, H6, S6, r6, q6⟩ := hsp; exact ⟨_, _, _, S6.unsuite okk, r6, q6⟩
          | _ => obtain ⟨σ6, H6, S6, q6⟩ := hsp; exact ⟨_, _, S6.unsuite okk, q6⟩
      | @name x n c i t s0 su p p' hs2 l2 hc hi hk hu r ih =>
        rintro ⟨b, hb1, hyes, hno⟩
        refine wpAny_handleBy_cons (codeAny_handlers_test ?_) (by intro q; cases q)
        refine test hc ((PySem.W.exm_one (M := model X.prog X.w) J2.kIn LT hb1).here ?_)
        cases b with
        | false => exact ih (hno rfl)
        | true =>
          refine codeAny_handlers_suite_as (HandSPX.lands_againZ fl1 fun g4 fl4 up4 => ?_)
          obtain ⟨oe4, v4, he4, hz4, hd4⟩ := fl4.there
          have J4 : Inv X pins σ1 H1 { z with heap := g4 } := J1.landed nb fl4.1 ((up.trans up1).trans up4) os ag
          have U4 := J4.suite he4 hd4 na n1 n2
          refine store_ok (X := X.suite a ((a, oe4) :: (X.pn ++ pins))) (v := .ref a) U4 hN hi (.inl hk) rfl (fun y5 U5 => ?_) (.inr hk)
          refine wpAny_mono ((hu a oe4 k d (X.pn ++ pins) hz4 ⟨_, hd4⟩).run [] y5 _ H1 _ U5 (hyes rfl a na)) (fun f y hsp => ?_) (fun _ _ q => False.elim q)
          have fin : ∀ {σ6 : L2.St} {H6 : Hp} {Q : Shared → Prop}, Inv (X.suite a ((a, oe4) :: (X.pn ++ pins))) [] σ6 H6 y → (∀ y7, Inv X pins (σ6.set i none) H6 y7 → Q y7) →
              wpAny (model X.prog X.w) X.A (do bindName X.env n .none; unbindBehindTheSuite X.env n p') (fun _ y7 => Q y7) X.xe y := fun {σ6 H6 Q} S6 hq => gone_ok (S6.unsuite okk) hN hi hk hq
          cases f with
          | ret u => obtain ⟨v6, σ6, H6, S6, r6, q6⟩ := hsp; exact fin S6 fun y7 J7 => ⟨_, _, _, J7, r6, q6⟩
          | _ => obtain ⟨σ6, H6, S6, q6⟩ := hsp; exact fin S6 fun y7 J7 => ⟨_, _, J7, q6⟩
    exact go hh w
  · have okk := I.ok
    cases f with
    | next => obtain ⟨σ1, H1, J1, q⟩ := hsp; exact wpAny_execs_nil ⟨σ1, H1, J1.ofTry okk, q⟩
    | ret u => obtain ⟨v, σ1, H1, J1, r, q⟩ := hsp; exact ⟨v, σ1, H1, J1.ofTry okk, r, q⟩
    | _ => obtain ⟨σ1, H1, J1, q⟩ := hsp; exact ⟨σ1, H1, J1.ofTry okk, q⟩
end
/-! ### clauses that set a name -/
structure Hd where
  tb : List (Str × Bool)
  i : Option Nat
  j : Nat
  m : M D
def offD (o : Option Nat) (ρ : Sl) : Sl := match o with
  | none => ρ
  | some i => ρ.set i none
def onD (o : Option Nat) (d : D) (ρ : Sl) : Sl := match o with
  | none => ρ
  | some i => ρ.set i (some d)
noncomputable def hdl : List Hd → Exc → MS
  | [], x, ρ, S => .exc x ρ S
  | h :: hs, x, ρ, S => open Classical in match h.tb.lookup x.cls with
    | some true => (match h.m (onD h.i (.exv x.cls x.fs) ρ) S with
      | .ok d S2 => if xf d = true ∧ S2 = S ∧ h.i ≠ some h.j then .nx (offD h.i (ρ.set h.j (some d))) S else .stk
      | _ => .stk)
    | some false => hdl hs x ρ S
    | none => .stk
noncomputable def sTryM (hs : List Hd) (mb : MS) : MS := fun ρ S => match mb ρ S with
  | .exc x ρ1 S1 => hdl hs x ρ1 S1
  | o => o
section
variable {X : Cx} {cl : Str → Option Addr} {E : WX} {body : List Stmt} {pos : Pos} {mb : MS}
def TryC (K : PySem.W.Frag) (cl : Str → Option Addr) (c : Value) (tb : List (Str × Bool)) : Prop := ∀ s b, tb.lookup s = some b → ∀ C, cl s = some C → PySem.W.exmOne K (.ref C) c = some b
inductive HdsM (X : Cx) (cl : Str → Option Addr) : List ExceptHandler → List (Value × Hd) → Prop
  | nil : HdsM X cl [] []
  | bare {x : Str} {c : Value} {tb : List (Str × Bool)} {j : Nat} {m : M D} {t : Str} {tp ap p p' : Pos} {e : Expr} {hs : List ExceptHandler} {l : List (Value × Hd)} (hc : Names X x c) (ht : TryC X.K cl c tb)
      (hu : ∀ (a : Addr) (oe : Obj) (C : Addr) (d : Option Addr) (pn : List (Addr × Obj)), Zc (.ref C) d oe → (∃ v, oe.data = .fields v) → PSs (X.suite a ((a, oe) :: pn)) [.Assign [.Name t tp] e ap] (Ts X.K (clX cl a C d) (fun _ _ _ _ => False) (sSet j m))) (r : HdsM X cl hs l) :
      HdsM X cl (.ExceptHandler (some (.Name x p)) none [.Assign [.Name t tp] e ap] p' :: hs) ((c, ⟨tb, none, j, m⟩) :: l)
  | name {x n : Str} {c : Value} {tb : List (Str × Bool)} {i j : Nat} {m : M D} {t : Str} {tp ap p p' : Pos} {e : Expr} {hs : List ExceptHandler} {l : List (Value × Hd)} (hc : Names X x c) (ht : TryC X.K cl c tb) (hi : X.N[i]? = some n) (hk : X.env.kindOf n = some .local)
      (hu : ∀ (a : Addr) (oe : Obj) (C : Addr) (d : Option Addr) (pn : List (Addr × Obj)), Zc (.ref C) d oe → (∃ v, oe.data = .fields v) → PSs (X.suite a ((a, oe) :: pn)) [.Assign [.Name t tp] e ap] (Ts X.K (clX cl a C d) (fun _ _ _ _ => False) (sSet j m))) (r : HdsM X cl hs l) :
      HdsM X cl (.ExceptHandler (some (.Name x p)) (some n) [.Assign [.Name t tp] e ap] p' :: hs) ((c, ⟨tb, some i, j, m⟩) :: l)
def sutOf (K : PySem.W.Frag) (cl : Str → Option Addr) (h : Hd) : Sut := tsX fun a C d => Ts K (clX cl a C d) (fun _ _ _ _ => False) (sSet h.j h.m)
def mixOf (K : PySem.W.Frag) (cl : Str → Option Addr) (l : List (Value × Hd)) : List (Value × Option Nat × Sut) := l.map fun h => (h.1, h.2.i, sutOf K cl h.2)
theorem HdsM.mix {hs : List ExceptHandler} {l : List (Value × Hd)} (h : HdsM X cl hs l) : Mix X hs (mixOf X.K cl l) := by
  induction h with
  | nil => exact .nil
  | bare hc ht hu r ih => exact .bare hc (tsX_of hu) ih
  | name hc ht hi hk hu r ih => exact .name hc hi hk (tsX_of hu) ih
theorem HdsM.tab {hs : List ExceptHandler} {l : List (Value × Hd)} (h : HdsM X cl hs l) : ∀ q ∈ l, TryC X.K cl q.1 q.2.tb := by
  induction h with
  | nil => exact fun _ h => nomatch h
  | bare hc ht hu r ih =>
    intro q hq
    rcases List.mem_cons.mp hq with rfl | hq
    · exact ht
    · exact ih q hq
  | name hc ht hi hk hu r ih =>
    intro q hq
    rcases List.mem_cons.mp hq with rfl | hq
    · exact ht
    · exact ih q hq
theorem set_get {α : Type} {l : List (Option α)} {i k : Nat} {o : Option α} {z : α} (h : (l.set i o)[k]? = some (some z)) : (i = k ∧ o = some z ∧ i < l.length) ∨ (i ≠ k ∧ l[k]? = some (some z)) := by
  by_cases e : i = k
  · subst e
    by_cases hl : i < l.length
    · rw [List.getElem?_set_self hl] at h
      exact .inl ⟨rfl, Option.some.inj h, hl⟩
    · rw [List.getElem?_eq_none (by simpa using hl)] at h
      cases h
  · rw [List.getElem?_set_ne e] at h
    exact .inr ⟨e, h⟩
/-- one clause that takes it -/
theorem hd_takes {K : PySem.W.Frag} {W : Wd} {H : Hp} {S : Store} {σ : L2.St} {ρ : Sl} {A : Ends} {h : Hd} {y : Exc} {a C : Addr} {dd : Option Addr} (q : Rsv cl) (r : R K cl W H S) (en : Envs K cl W σ ρ) (xr : XRep K cl W (.ref C) dd y)
    (p : PostS K cl W (open Classical in match h.m (onD h.i (.exv y.cls y.fs) ρ) S with
      | .ok d S2 => if xf d = true ∧ S2 = S ∧ h.i ≠ some h.j then .nx (offD h.i (ρ.set h.j (some d))) S else .stk
      | _ => .stk) A E) : sutOf K cl h a (.ref C) dd (offN h.i A) (onN h.i a σ) H := by
  have rX := r.toX (a := a) (C := C) (d := dd) q
  have eX := en.toX (a := a) (C := C) (d := dd) q
  have xX : Rep K (clX cl a C dd) W (.ref a) (.exv y.cls y.fs) := xr.exv q
  show Ts K (clX cl a C dd) (fun _ _ _ _ => False) (sSet h.j h.m) (offN h.i A) (onN h.i a σ) H
  have eo : Envs K (clX cl a C dd) W (onN h.i a σ) (onD h.i (.exv y.cls y.fs) ρ) := by
    cases h.i with
    | none => exact eX.1
    | some i => exact eX.1.set i xX
  refine ⟨W, onD h.i (.exv y.cls y.fs) ρ, S, rX.1, eo, ?_⟩
  unfold sSet
  cases em : h.m (onD h.i (.exv y.cls y.fs) ρ) S with
  | stk => rw [em] at p; exact p.elim
  | exc z S2 => rw [em] at p; exact p.elim
  | ok d S2 =>
    rw [em] at p
    dsimp only at p
    split at p
    · rename_i hg
      obtain ⟨hx, rfl, hij⟩ := hg
      intro W2 H2 σ2 l2 r2 e2
      cases eh : h.i with
      | none =>
        rw [eh] at p e2
        refine p W2 H2 _ l2 (r2.ofX rX.2) ⟨e2.len, fun k z hz => ?_⟩
        obtain ⟨v, hv, rv⟩ := e2.at' k z hz
        refine ⟨v, hv, rv.ofX ?_⟩
        rcases set_get hz with ⟨_, e, _⟩ | ⟨_, e⟩
        · rw [← Option.some.inj e]; exact hx
        · exact eX.2 k z e
      | some i =>
        rw [eh] at p e2 hij
        have hne : i ≠ h.j := fun e => hij (by rw [e])
        refine p W2 H2 _ l2 (r2.ofX rX.2) ⟨by simpa [offD, onD] using e2.len, fun k z hz => ?_⟩
        rcases set_get hz with ⟨_, e, _⟩ | ⟨hk, e⟩
        · cases e
        · have hz2 : ((ρ.set i (some (.exv y.cls y.fs))).set h.j (some d))[k]? = some (some z) := by
            rcases set_get e with ⟨rfl, e', hl⟩ | ⟨hj, e'⟩
            · rw [List.getElem?_set_self (by simpa using hl), e']
            · rw [List.getElem?_set_ne hj, List.getElem?_set_ne hk]
              exact e'
          obtain ⟨v, hv, rv⟩ := e2.at' k z hz2
          refine ⟨v, by rw [List.getElem?_set_ne hk]; exact hv, rv.ofX ?_⟩
          rcases set_get e with ⟨_, e', _⟩ | ⟨_, e'⟩
          · rw [← Option.some.inj e']; exact hx
          · exact eX.2 k z e'
    · exact p.elim
theorem hdl_ok {W : Wd} {H : Hp} {S : Store} {σ : L2.St} {ρ : Sl} {A : Ends} {y : Exc} {C : Addr} {dd : Option Addr} (q : Rsv cl) (r : R X.K cl W H S) (en : Envs X.K cl W σ ρ) (xr : XRep X.K cl W (.ref C) dd y) (hC : cl y.cls = some C) :
    ∀ {l : List (Value × Hd)}, (∀ q ∈ l, TryC X.K cl q.1 q.2.tb) → PostS X.K cl W (hdl (l.map (·.2)) y ρ S) A E → wMix X.K E A (mixOf X.K cl l) (.ref C) dd σ H
  | [], _, p => p W H σ (.ref C) dd (.rf W) r en xr
  | (c, h) :: l, ht, p => by
    rw [List.map_cons] at p
    unfold hdl at p
    cases el : h.tb.lookup y.cls with
    | none => rw [el] at p; exact p.elim
    | some b =>
      rw [el] at p
      refine ⟨b, ht (c, h) (by simp) _ _ el C hC, fun hb a ha => ?_, fun hb => ?_⟩
      · subst hb
        exact hd_takes q r en xr p
      · subst hb
        exact hdl_ok q r en xr hC (fun z hz => ht z (by simp [hz])) p
theorem s_tryM {h0 : ExceptHandler} {hds : List ExceptHandler} {l : List (Value × Hd)} (q : Rsv cl) (hs : X.stack = X.env :: X.outer) (hf : X.env.frame = some X.env.locals) (hN : X.N.Nodup) (tk : Takes X E)
    (hb : ∀ (W : WX) (pn : List (Addr × Obj)) (xe : Value → Shared → Prop), Takes (X.tr pn xe) W → PassesOwn (model X.prog X.w) X.A X.env xe → PSs (X.tr pn xe) body (Ts X.K cl W mb)) (hh : HdsM X cl (h0 :: hds) l) :
    PS X (.Try body (h0 :: hds) [] [] pos) (Ts X.K cl E (sTryM (l.map (·.2)) mb)) :=
  ps_imp (ps_try_mix hs hf hN tk hb hh.mix) fun A σ H ⟨W, ρ, S, hr, he, p⟩ => ⟨W, ρ, S, hr, he, by
    unfold sTryM at p
    cases eb : mb ρ S with
    | exc y ρ1 S1 =>
      rw [eb] at p
      intro W1 H1 σ1 cls dd l1 r1 e1 xr
      obtain ⟨C, h1, rfl, h3⟩ := id xr
      exact hdl_ok q r1 e1 xr h1 hh.tab (PostS.up l1 p)
    | _ => rw [eb] at p; exact p⟩
end
end G
namespace G
open PySem L2
/-! ### isinstance of a handled error, with fields or without -/
def isX (tb : List (Str × Bool)) (d : D) (S : Store) : Res D := match d with
  | .exv c _ => (match tb.lookup c with
    | some b => .ok (.bl b) S
    | none => .stk)
  | _ => .stk
def rIsF (K : PySem.W.Frag) (C a dd : Addr) : List V → Hp → VK → Prop := fun xs H Q => ∃ (c : V) (cv : Value) (b : Bool) (fs : List (Str × V)), xs = [.ref a, c] ∧ (∀ u, RelV c u → u = cv) ∧ PySem.W.kitOne K (.ref C) cv = some b ∧ H dd = some (.xd fs) ∧ Q (.bl b) H
theorem call_isF {X : Cx} {a C dd : Addr} {oe : Obj} {pn : List (Addr × Obj)} (T : ExcC X.K C) (hz : Zc (.ref C) (some dd) oe) (hf : ∃ v, oe.data = .fields v) : CallR (X.suite a ((a, oe) :: pn)) (.builtin "isinstance") (rIsF X.K C a dd) := by
  intro pins s σ H xs us Q I r h
  obtain ⟨c, cv, b, fs, rfl, hcv, e, hd, q⟩ := h
  cases r with
  | cons rx rr =>
    cases rr with
    | cons rt rr =>
      cases rr
      cases rx
      obtain rfl := hcv _ rt
      obtain ⟨ha, _⟩ := I.pin (a, oe) (List.mem_append.mpr (.inl List.mem_cons_self))
      obtain ⟨v, hv⟩ := hf
      obtain ⟨mA, hns, hr⟩ := (show ObjOk X.prog X.w H s.heap dd (.xd fs) from I.hok dd _ hd)
      obtain ⟨od, ho, hl⟩ := lookIn_ns hns
      have J : PySem.W.InstAt s.heap a oe C (some od) := ⟨ha, hz.1, by unfold PySem.W.notCls; rw [hv] <;> rfl, by rw [hz.2]; exact ho⟩
      have hc : (PySem.W.clsIn X.K C).isSome = true := by
        obtain ⟨cd, h1, _⟩ := PySem.W.any_some T.hd
        rw [h1]
        rfl
      exact PySem.W.kia_one (PySem.W.kitx_exc hc T.hg T.hk T.hs T.ha T.hn T.ht T.hm) I.kIn J e (fun z => nomatch z) fun tk => ⟨.bl b, H, I.kept (t' := tk) fun _ _ z => z, rfl, q⟩
section
variable {X : Cx} {cl : Str → Option Addr} {E : WX} {a C0 : Addr} {oe : Obj} {d : Option Addr} {pn : List (Addr × Obj)} {n x2 : Str} {tb : List (Str × Bool)} {p p1 p2 pos : Pos}
theorem t_isXN (i : Nat) (ht : XIsN X.K X.mg cl x2 tb) (hz : Zc (.ref C0) d oe) (hf : ∃ vs, oe.data = .fields vs) (hm : X.mg "isinstance" = none) (hN : X.N[i]? = some n := by rfl) (hv : Vis X.env.scope n := by first | exact Or.inl rfl | exact Or.inr (Or.inl rfl) | exact Or.inr (Or.inr rfl))
    (hd : (n == ("__debug__" : Str)) = false := by decide) (hcd : (n == ("__classdict__" : Str)) = false := by decide) (hg : Gl X "isinstance" := by rfl) (hg2 : Gl X x2 := by rfl) (hd2 : (x2 == ("__debug__" : Str)) = false := by decide)
    (hs : starEach [.Name x2 p2] X.env = (false, eval (.Name x2 p2) X.env) :: starEach [] X.env := by rfl)
    (he : starEach [.Name n p1, .Name x2 p2] X.env = (false, eval (.Name n p1) X.env) :: starEach [.Name x2 p2] X.env := by rfl) (hpl : (backTo pos (starEach [.Name x2 p2] X.env)).any (·.1) = false := by rfl) :
    PE (X.suite a ((a, oe) :: pn)) (.Call (.Name "isinstance" p) [.Name n p1, .Name x2 p2] [] pos) (T X.K (clX cl a C0 d) E (mUn (isX tb) (mVar i))) := by
  obtain ⟨C2, hm2, ht⟩ := ht
  refine ⟨fun pins s σ H Q I ⟨W, ρ, S, hr, hen, q⟩ => ?_⟩
  unfold mUn mVar at q
  split at q
  · rename_i x e
    obtain ⟨v, h1, h2⟩ := hen.at' i x e
    dsimp only [Res.bind] at q
    unfold isX at q
    split at q
    · rename_i c fs
      split at q
      · rename_i b el
        obtain ⟨n1, n2⟩ := ht c b el
        have args := pa_cons (pe_var (X := X.suite a ((a, oe) :: pn)) (pos := p1) hN hv hd hcd) (pa_cons (pe_glob (X := X.suite a ((a, oe) :: pn)) (pos := p2) (v := .ref C2) hg2 hm2 rfl hd2) pa_nil hs) he
        cases h2 with
        | exv1 g1 g2 g3 g4 g5 g7 g6 =>
          rw [clX_a] at g1
          rw [clX_c] at g2
          rw [clX_d] at g3
          cases g1
          cases g2
          subst g3
          obtain ⟨T1, T2⟩ := n2 _ (clX_to n1 g4)
          refine (pe_callB (X := X.suite a ((a, oe) :: pn)) (call_isF T1 hz hf) hg hm bt_isinstance args (by decide) (by decide) he hpl).run pins s σ H Q I ?_
          exact ⟨_, h1, .ref C2, .ref C2, b, _, rfl, fun u r => r, T2, hr.sub _ _ g5, q.now hr (.bl b)⟩
        | exv0 g1 g2 g3 g4 =>
          rw [clX_a] at g1
          rw [clX_c] at g2
          rw [clX_d] at g3
          cases g1
          cases g2
          subst g3
          obtain ⟨T1, T2⟩ := n2 _ (clX_to n1 g4)
          refine (pe_callB (X := X.suite a ((a, oe) :: pn)) (call_isE T1 hz hf) hg hm bt_isinstance args (by decide) (by decide) he hpl).run pins s σ H Q I ?_
          exact ⟨_, h1, .ref C2, .ref C2, b, rfl, fun u r => r, T2, q.now hr (.bl b)⟩
      · exact q.elim
    · exact q.elim
  · exact q.elim
end
/-! ### clauses by name -/
theorem hm_nil {X : Cx} {cl : Str → Option Addr} : ∃ cs, HdsM X cl [] cs ∧ cs.map (·.2) = [] := ⟨[], .nil, rfl⟩
section
variable {X : Cx} {cl : Str → Option Addr} {E : WX} {x n : Str} {tb : List (Str × Bool)} {i j : Nat} {m : M D} {t : Str} {tp ap p p' pos : Pos} {e : Expr} {hs : List ExceptHandler} {l : List Hd} {body : List Stmt} {h0 : ExceptHandler} {mb : MS}
theorem hm_bare (ht : TryT X.K X.mg cl x tb) (hu : ∀ (a : Addr) (oe : Obj) (C : Addr) (d : Option Addr) (pn : List (Addr × Obj)), Zc (.ref C) d oe → (∃ v, oe.data = .fields v) → PSs (X.suite a ((a, oe) :: pn)) [.Assign [.Name t tp] e ap] (Ts X.K (clX cl a C d) (fun _ _ _ _ => False) (sSet j m)))
    (r : ∃ cs, HdsM X cl hs cs ∧ cs.map (·.2) = l) (hg : Gl X x := by rfl) (hdb : (x == ("__debug__" : Str)) = false := by decide) : ∃ cs, HdsM X cl (.ExceptHandler (some (.Name x p)) none [.Assign [.Name t tp] e ap] p' :: hs) cs ∧ cs.map (·.2) = ⟨tb, none, j, m⟩ :: l := by
  obtain ⟨C, h1, h2⟩ := ht
  obtain ⟨cs, r1, r2⟩ := r
  exact ⟨(.ref C, ⟨tb, none, j, m⟩) :: cs, .bare ⟨hg, hdb, .inl h1⟩ h2 hu r1, by rw [List.map_cons, r2]⟩
theorem hm_name (i : Nat) (ht : TryT X.K X.mg cl x tb) (hu : ∀ (a : Addr) (oe : Obj) (C : Addr) (d : Option Addr) (pn : List (Addr × Obj)), Zc (.ref C) d oe → (∃ v, oe.data = .fields v) → PSs (X.suite a ((a, oe) :: pn)) [.Assign [.Name t tp] e ap] (Ts X.K (clX cl a C d) (fun _ _ _ _ => False) (sSet j m)))
    (r : ∃ cs, HdsM X cl hs cs ∧ cs.map (·.2) = l) (hi : X.N[i]? = some n := by rfl) (hk : X.env.kindOf n = some .local := by rfl) (hg : Gl X x := by rfl) (hdb : (x == ("__debug__" : Str)) = false := by decide) :
    ∃ cs, HdsM X cl (.ExceptHandler (some (.Name x p)) (some n) [.Assign [.Name t tp] e ap] p' :: hs) cs ∧ cs.map (·.2) = ⟨tb, some i, j, m⟩ :: l := by
  obtain ⟨C, h1, h2⟩ := ht
  obtain ⟨cs, r1, r2⟩ := r
  exact ⟨(.ref C, ⟨tb, some i, j, m⟩) :: cs, .name ⟨hg, hdb, .inl h1⟩ h2 hi hk hu r1, by rw [List.map_cons, r2]⟩
theorem s_tryMN (q : Rsv cl) (hN : X.N.Nodup) (tk : Takes X E) (hb : ∀ (W : WX) (pn : List (Addr × Obj)) (xe : Value → Shared → Prop), Takes (X.tr pn xe) W → PassesOwn (model X.prog X.w) X.A X.env xe → PSs (X.tr pn xe) body (Ts X.K cl W mb))
    (hh : ∃ cs, HdsM X cl (h0 :: hs) cs ∧ cs.map (·.2) = l) (hst : X.stack = X.env :: X.outer := by rfl) (hf : X.env.frame = some X.env.locals := by rfl) : PS X (.Try body (h0 :: hs) [] [] pos) (Ts X.K cl E (sTryM l mb)) := by
  obtain ⟨cs, r1, rfl⟩ := hh
  exact s_tryM q hst hf hN tk hb r1
end
/-! ### running -/
section
variable {ρ : Sl} {S : Store} {d : D} {c : Str} {fs : List (Str × D)} {tb : List (Str × Bool)} {x : Exc} {h : Hd} {hs : List Hd} {o : Option Nat} {i j : Nat} {m : M D}
@[simp] theorem v_isX : isX tb (.exv c fs) S = rIsE (tb.lookup c) S := by
  unfold isX rIsE
  rfl
noncomputable def kTM3 (o : Option Nat) (j : Nat) (ρ : Sl) (S : Store) (r : Res D) : Out := open Classical in match r with
  | .ok d S2 => if xf d = true ∧ S2 = S ∧ o ≠ some j then .nx (offD o (ρ.set j (some d))) S else .stk
  | _ => .stk
@[simp] theorem x_TM3 {S2 : Store} : kTM3 o j ρ S (.ok d S2) = open Classical in if xf d = true ∧ S2 = S ∧ o ≠ some j then .nx (offD o (ρ.set j (some d))) S else .stk := nrfl rfl
noncomputable def kTM2 (h : Hd) (hs : List Hd) (x : Exc) (ρ : Sl) (S : Store) (b : Option Bool) : Out := match b with
  | some true => kTM3 h.i h.j ρ S (h.m (onD h.i (.exv x.cls x.fs) ρ) S)
  | some false => hdl hs x ρ S
  | none => .stk
@[simp] theorem x_TM2 : kTM2 h hs x ρ S (some true) = kTM3 h.i h.j ρ S (h.m (onD h.i (.exv x.cls x.fs) ρ) S) := nrfl rfl
@[simp] theorem x_TM2f : kTM2 h hs x ρ S (some false) = hdl hs x ρ S := nrfl rfl
@[simp] theorem x_hdl0 : hdl [] x ρ S = .exc x ρ S := nrfl rfl
@[simp] theorem x_hdl : hdl (h :: hs) x ρ S = kTM2 h hs x ρ S (h.tb.lookup x.cls) := by
  rw [hdl]
  unfold kTM2
  cases h.tb.lookup x.cls with
  | none => rfl
  | some b => cases b <;> rfl
noncomputable def kTM (hs : List Hd) (o : Out) : Out := match o with
  | .exc x ρ S => hdl hs x ρ S
  | o => o
@[simp] theorem x_TM {mb : MS} : sTryM hs mb ρ S = kTM hs (mb ρ S) := nrfl rfl
@[simp] theorem x_TMe : kTM hs (.exc x ρ S) = hdl hs x ρ S := nrfl rfl
@[simp] theorem x_TMn : kTM hs (.nx ρ S) = .nx ρ S := nrfl rfl
@[simp] theorem x_TMr : kTM hs (.rt d S) = .rt d S := nrfl rfl
@[simp] theorem x_TMb : kTM hs (.bk ρ S) = .bk ρ S := nrfl rfl
@[simp] theorem x_TMc : kTM hs (.ct ρ S) = .ct ρ S := nrfl rfl
@[simp] theorem offD_n : offD none ρ = ρ := nrfl rfl
@[simp] theorem offD_s : offD (some i) ρ = ρ.set i none := nrfl rfl
@[simp] theorem onD_n : onD none d ρ = ρ := nrfl rfl
@[simp] theorem onD_s : onD (some i) d ρ = ρ.set i (some d) := nrfl rfl
end
/-! an answer or an error -/
inductive OkX {α : Type} : Res α → (α → Store → Prop) → (Exc → Store → Prop) → Prop
  | ok {a : α} {S : Store} {P : α → Store → Prop} {Q : Exc → Store → Prop} : P a S → OkX (.ok a S) P Q
  | exc {x : Exc} {S : Store} {P : α → Store → Prop} {Q : Exc → Store → Prop} : Q x S → OkX (.exc x S) P Q
theorem OkX.ex {α : Type} {r : Res α} {P : α → Store → Prop} {Q : Exc → Store → Prop} (h : OkX r P Q) : (∃ a S, r = .ok a S ∧ P a S) ∨ ∃ x S, r = .exc x S ∧ Q x S := by
  cases h with
  | ok h => exact .inl ⟨_, _, rfl, h⟩
  | exc h => exact .inr ⟨_, _, rfl, h⟩
theorem OkX.g {α : Type} {r x : Res α} {P : α → Store → Prop} {Q : Exc → Store → Prop} (hx : r = x) (h : OkX r P Q) : (∃ a S, x = .ok a S ∧ P a S) ∨ ∃ y S, x = .exc y S ∧ Q y S := by
  rw [← hx]
  exact h.ex
@[simp] theorem okx_ok {α : Type} {a : α} {S : Store} {P : α → Store → Prop} {Q : Exc → Store → Prop} : OkX (.ok a S) P Q = P a S := propext ⟨fun h => by cases h with | ok h => exact h, .ok⟩
@[simp] theorem okx_exc {α : Type} {x : Exc} {S : Store} {P : α → Store → Prop} {Q : Exc → Store → Prop} : OkX (.exc x S) P Q = Q x S := propext ⟨fun h => by cases h with | exc h => exact h, .exc⟩
end G
namespace G
open PySem L2
/-! ### {k: v, ..} -/
def evP : List (M D × M D) → Sl → Store → Res (List (Key × D))
  | [], _, S => .ok [] S
  | (a, b) :: r, ρ, S => (a ρ S).nox.bind fun x S1 => (b ρ S1).nox.bind fun y S2 => match keyO x with
    | some k => (evP r ρ S2).bind fun l S3 => .ok ((k, y) :: l) S3
    | none => .stk
def mrgD (l : List (Key × D)) : List (Key × D) := l.foldl (fun acc kv => putKD acc kv.1 kv.2) []
theorem RepK.mrg {K : PySem.W.Frag} {cl : Str → Option Addr} {W : Wd} : ∀ {vs : List (Key × V)} {ds : List (Key × D)} {a : List (Key × V)} {b : List (Key × D)}, RepK K cl W vs ds → RepK K cl W a b → RepK K cl W (mergeK a vs) (ds.foldl (fun acc kv => putKD acc kv.1 kv.2) b)
  | _, _, _, _, .nil, h => h
  | _, _, _, b, .cons (k := k) (v := v) (d := d) (vs := vs) (ds := ds) hv t, h => by
    show RepK K cl W (mergeK (putK _ k v) vs) (ds.foldl (fun acc kv => putKD acc kv.1 kv.2) (putKD b k d))
    exact RepK.mrg t (h.put k hv)
section
variable {K : PySem.W.Frag} {cl : Str → Option Addr} {W : Wd} {H : Hp} {S : Store} {σ : L2.St} {ρ : Sl} {p : Addr}
theorem hid_out {W1 : Wd} {o : HO} (h : W1.P = upd W.P p o) : (W1.out W.P).hid p o = W1 := by
  obtain ⟨g, P, i, n⟩ := W1
  dsimp only at h
  subst h
  rfl
theorem le_out {W1 : Wd} {o : HO} (l : Le (W.hid p o) W1) : Le W (W1.out W.P) := ⟨l.g, l.i, l.n, rfl⟩
theorem pairs_rd : ∀ (ms : List (M D × M D)) {W : Wd} {H : Hp} {S : Store} {Q : List (V × V) → Hp → Prop}, R K cl (W.hid p (.dK [])) H S → Envs K cl W σ ρ →
    (match evP ms ρ S with
      | .ok l S' => ∀ W2 H2 vs, Le W W2 → R K cl (W2.hid p (.dK [])) H2 S' → RepK K cl W2 vs l → Q (vs.map fun kv => (kV kv.1, kv.2)) H2
      | _ => False) → tPairs (ms.map fun m => (T K cl F0 m.1, T K cl F0 m.2)) σ H Q
  | [], W, H, S, Q, r, en, q => q W H [] (.rf W) r .nil
  | (a, b) :: ms, W, H, S, Q, r, en, q => by
    unfold evP at q
    show T K cl F0 a σ H _
    refine ⟨W.hid p (.dK []), ρ, S, r, en.ups Ls.hid, ?_⟩
    cases ea : a ρ S with
    | exc x S1 => rw [ea] at q; exact q.elim
    | stk => rw [ea] at q; exact q.elim
    | ok x S1 =>
      rw [ea] at q
      intro W1 H1 v l1 r1 rv
      show T K cl F0 b σ H1 _
      have en1 : Envs K cl W1 σ ρ := (en.ups Ls.hid).up l1
      refine ⟨W1, ρ, S1, r1, en1, ?_⟩
      dsimp only [Res.nox, Res.bind] at q
      cases eb : b ρ S1 with
      | exc y S2 => rw [eb] at q; exact q.elim
      | stk => rw [eb] at q; exact q.elim
      | ok y S2 =>
        rw [eb] at q
        dsimp only at q
        intro W2 H2 u l2 r2 ru
        cases ek : keyO x with
        | none => rw [ek] at q; exact q.elim
        | some k =>
          rw [ek] at q
          dsimp only at q
          have lw := l1.tr l2
          have eW := hid_out (W := W) (p := p) (o := .dK []) (W1 := W2) lw.p
          have rv' := key_rep (rv.up l2) ek
          subst rv'
          rw [← eW] at r2
          refine pairs_rd ms (W := W2.out W.P) r2 ((en.up (le_out lw))) ?_
          cases ee : evP ms ρ S2 with
          | exc y S3 => rw [ee] at q; exact q.elim
          | stk => rw [ee] at q; exact q.elim
          | ok l S3 =>
            rw [ee] at q
            intro W3 H3 vs l3 r3 t3
            have ru' : Rep K cl W3 u y := (ru.ups (Ls.out (P := W.P))).up l3
            exact q W3 H3 ((k, u) :: vs) ((le_out lw).tr l3) r3 (.cons ru' t3)
end
def mDisp (ms : List (M D × M D)) (mk : List (Key × D) → Store → Res D) : M D := fun ρ S => (evP ms ρ S).bind fun l S1 => if l.length ≤ 15 then mk (mrgD l) S1 else .stk
def dfz (l : List (Key × D)) (S : Store) : Res D := .ok (.dct l) S
def dlv (l : List (Key × D)) (S : Store) : Res D := .ok (.ref S.length) (S ++ [.dct l])
section
variable {X : Cx} {cl : Str → Option Addr} {E : WX} {keys : List (Option Expr)} {values : List Expr} {pos : Pos} {ms : List (M D × M D)}
theorem disp_rd {K : PySem.W.Frag} {mk : List (Key × D) → Store → Res D} {σ : L2.St} {H : Hp} {Q Q' : VK} (h : T K cl E (mDisp ms mk) σ H Q)
    (hk : ∀ (W : Wd) (H : Hp) (S : Store) (a : Addr) (vs : List (Key × V)) (ds : List (Key × D)) (E : XK), R K cl W H S → H a = some (.dK vs) → W.G a = none → (∀ (i : Nat) (m : MO), S[i]? = some m → m ≠ .dead → W.ι i ≠ a) → W.P a = none → RepK K cl W vs ds → Post K cl (Rep K cl) W (mk ds S) Q E → Q' (.ref a) H) :
    tDisp (ms.map fun m => (T K cl F0 m.1, T K cl F0 m.2)) σ H Q' := by
  obtain ⟨W, ρ, S, hr, he, q⟩ := h
  intro p hp
  have np : W.P p = none := by
    cases e : W.P p with
    | none => rfl
    | some u => rw [(hr.priv p u e).1] at hp; cases hp
  refine pairs_rd ms (hr.hide hp) he ?_
  unfold mDisp at q
  cases ee : evP ms ρ S with
  | stk => rw [ee] at q; exact q.elim
  | exc y S3 => exact absurd ee (evP_no ms)
  | ok l S1 =>
    rw [ee] at q
    intro W2 H2 vs l2 r2 t2
    dsimp only [Res.bind] at q
    split at q
    · rename_i h15
      have np2 : W2.P p = none := by rw [l2.p]; exact np
      obtain ⟨_, h1, _, _⟩ := r2.unhide np2
      refine ⟨h1, vs, rfl, by rw [t2.len]; exact h15, ?_⟩
      obtain ⟨r3, h3, h4, h5⟩ := (r2.turn (o' := .dK (mergeK [] vs))).unhide np2
      exact hk W2 _ S1 p _ _ _ r3 h3 h4 h5 np2 (RepK.mrg t2 .nil) (Post.up l2 q)
    · exact q.elim
where
  evP_no {ρ : Sl} {y : Exc} {S3 : Store} : ∀ (ms : List (M D × M D)) {S : Store}, evP ms ρ S ≠ .exc y S3
    | [], S => fun h => by cases h
    | (a, b) :: ms, S => fun h => by
      unfold evP at h
      cases ea : a ρ S with
      | exc x S1 => rw [ea] at h; cases h
      | stk => rw [ea] at h; cases h
      | ok x S1 =>
        rw [ea] at h
        dsimp only [Res.nox, Res.bind] at h
        cases eb : b ρ S1 with
        | exc x S1 => rw [eb] at h; cases h
        | stk => rw [eb] at h; cases h
        | ok y S2 =>
          rw [eb] at h
          dsimp only at h
          cases ek : keyO x with
          | none => rw [ek] at h; cases h
          | some k =>
            rw [ek] at h
            dsimp only at h
            cases ee : evP ms ρ S2 with
            | stk => rw [ee] at h; cases h
            | exc z S4 => rw [ee] at h; cases h; exact evP_no ms ee
            | ok l S4 => rw [ee] at h; cases h
theorem t_dispF (h : PPs X pos keys values (ms.map fun m => (T X.K cl F0 m.1, T X.K cl F0 m.2))) (hall : keys.all (·.isSome) = true := by rfl) (hl : keys.length = values.length := by rfl) (h0 : keys ≠ [] := by exact fun h => nomatch h) (h15 : keys.length ≤ 15 := by decide) :
    PE X (.Dict keys values pos) (T X.K cl E (mDisp ms dfz)) :=
  pe_imp (pe_frzD (pe_disp h hall hl h0 h15)) fun σ H Q q => disp_rd q fun W H S a vs ds E' r ha hg nl np t p => ⟨a, .dK vs, rfl, ha, True.intro, fun od => by
    obtain ⟨r1, r2⟩ := lockAt r ha hg nl np (od := od)
    exact p _ _ _ r2 r1 (.dct upd_same (t.up r2))⟩
where
  lockAt {K : PySem.W.Frag} {W : Wd} {H : Hp} {S : Store} {a : Addr} {vs : List (Key × V)} {od : Obj} (r : R K cl W H S) (ha : H a = some (.dK vs)) (hg : W.G a = none) (nl : ∀ (i : Nat) (m : MO), S[i]? = some m → m ≠ .dead → W.ι i ≠ a) (np : W.P a = none) :
      R K cl (W.fz a (.frz od (.dK vs))) (upd H a (.frz od (.dK vs))) S ∧ Le W (W.fz a (.frz od (.dK vs))) := by
    have l := Le.fz (o := .frz od (.dK vs)) hg
    have r0 : R K cl W (upd H a (.frz od (.dK vs))) S := by
      refine ⟨r.n, fun b o hb => ?_, fun i m hm nd => ?_, r.inj, fun b o hb => ?_⟩
      · rw [upd_ne (ne_of_none hb hg)]
        exact r.sub b o hb
      · obtain ⟨g1, g2⟩ := r.live i m hm nd
        exact ⟨g1, g2.at (upd_ne (nl i m hm nd))⟩
      · obtain ⟨g1, g2, g3⟩ := r.priv b o hb
        exact ⟨by rw [upd_ne (ne_of_none hb np)]; exact g1, g2, g3⟩
    exact ⟨r0.fzAt upd_same hg nl np, l⟩
theorem t_dispL (h : PPs X pos keys values (ms.map fun m => (T X.K cl F0 m.1, T X.K cl F0 m.2))) (hall : keys.all (·.isSome) = true := by rfl) (hl : keys.length = values.length := by rfl) (h0 : keys ≠ [] := by exact fun h => nomatch h) (h15 : keys.length ≤ 15 := by decide) :
    PE X (.Dict keys values pos) (T X.K cl E (mDisp ms dlv)) :=
  pe_imp (pe_disp h hall hl h0 h15) fun σ H Q q => disp_rd q fun W H S a vs ds E' r ha hg nl np t p => p (W.lv a) H _ (Le.lv W a) (r.lvAt ha hg nl np ⟨vs, ha, t⟩) (rep_lv r)
theorem dp_nil : PPs X pos [] [] (([] : List (M D × M D)).map fun m => (T X.K cl F0 m.1, T X.K cl F0 m.2)) := pps_nil
theorem dp_cons {k v : Expr} {ks : List (Option Expr)} {vs : List Expr} {a b : M D} (hk : PE X k (T X.K cl F0 a)) (hv : PE X v (T X.K cl F0 b)) (h : PPs X pos ks vs (ms.map fun m => (T X.K cl F0 m.1, T X.K cl F0 m.2))) :
    PPs X pos (some k :: ks) (v :: vs) (((a, b) :: ms).map fun m => (T X.K cl F0 m.1, T X.K cl F0 m.2)) := pps_cons hk hv h
end
/-! running -/
section
variable {ρ : Sl} {S : Store} {a b : M D} {ms : List (M D × M D)} {x y : D} {k : Key} {l : List (Key × D)} {mk : List (Key × D) → Store → Res D}
def kE4 (k : Key) (y : D) (l : List (Key × D)) (S : Store) : Res (List (Key × D)) := .ok ((k, y) :: l) S
@[simp] theorem e_kE4 : kE4 k y l S = .ok ((k, y) :: l) S := nrfl rfl
def kE3 (ρ : Sl) (ms : List (M D × M D)) (y : D) (S : Store) (o : Option Key) : Res (List (Key × D)) := match o with
  | some k => (evP ms ρ S).bind (kE4 k y)
  | none => .stk
@[simp] theorem e_kE3 : kE3 ρ ms y S (some k) = (evP ms ρ S).bind (kE4 k y) := nrfl rfl
def kE2 (ρ : Sl) (ms : List (M D × M D)) (x y : D) (S : Store) : Res (List (Key × D)) := kE3 ρ ms y S (keyO x)
@[simp] theorem e_kE2 : kE2 ρ ms x y S = kE3 ρ ms y S (keyO x) := nrfl rfl
def kE1 (ρ : Sl) (b : M D) (ms : List (M D × M D)) (x : D) (S : Store) : Res (List (Key × D)) := (b ρ S).nox.bind (kE2 ρ ms x)
@[simp] theorem e_kE1 : kE1 ρ b ms x S = (b ρ S).nox.bind (kE2 ρ ms x) := nrfl rfl
@[simp] theorem e_evP0 : evP [] ρ S = .ok [] S := nrfl rfl
@[simp] theorem e_evP : evP ((a, b) :: ms) ρ S = (a ρ S).nox.bind (kE1 ρ b ms) := by
  rw [evP]
  congr 1
def kE0 (mk : List (Key × D) → Store → Res D) (l : List (Key × D)) (S : Store) : Res D := if l.length ≤ 15 then mk (mrgD l) S else .stk
@[simp] theorem e_disp : mDisp ms mk ρ S = (evP ms ρ S).bind (kE0 mk) := nrfl rfl
@[simp] theorem e_kE0 : kE0 mk l S = if l.length ≤ 15 then mk (mrgD l) S else .stk := nrfl rfl
@[simp] theorem e_dfz : dfz l S = .ok (.dct l) S := nrfl rfl
@[simp] theorem e_dlv : dlv l S = .ok (.ref S.length) (S ++ [.dct l]) := nrfl rfl
end
end G
namespace G
open PySem L2
/-! ### list(d.keys()) -/
section
variable {X : Cx} {cl : Str → Option Addr} {E : WX} {e : Expr} {m : M D} {apos cpos p pos : Pos}
theorem pe_keysV {td : TE} (he : PE X e td) (hb : attributeBase e "keys" X.env (eval e X.env) = eval e X.env := by rfl) (hl : (apos.endLine == cpos.line) = true := by rfl) :
    PE X (.Call (.Attribute e "keys" apos) [] [] cpos) (fun σ H Q => td σ H fun x H1 => ∃ a kvs, x = .ref a ∧ Rd H1 a (.dK kvs) ∧ ∀ v, H1 v = none → Q (.ref v) (upd H1 v (viewO "dict_keys" v a))) := by
  refine ⟨fun pins s σ H Q I h => ?_⟩
  refine wpAny_Call_method (T := "dict") (id := "dict.keys") hb rfl hl F.plainAttrs_dict F.slot_dict_keys F.type_dict_keys (thn (he.run pins s σ H _ I h) fun u s1 ⟨x, H1, I1, rx, a, kvs, ex, ha, q⟩ => ?_)
  subst ex
  obtain rfl : u = Value.ref a := rx
  obtain ⟨ty, nd, lw⟩ := isD_at I1 (.inl ⟨kvs, ha⟩)
  obtain ⟨zz, _, vs, kv, dd⟩ := dk_rd I1.hok ha
  refine ⟨ty, nd, ?_⟩
  show wpAny _ _ (callWith cpos (.builtin "dict.keys") [.ref a] [] []) _ X.xe s1
  refine method_meetsIn F.slot_dict_keys F.entry_dict_keys rfl (PySem.evalArgs_none ⟨rfl, ty, F.args_dict_keys_1 _, _, PySem.W.kdl_meets_keys (mixKind X.prog X.w) a lw, ⟨vs, dd⟩, ?_⟩)
  have I2 := I1.laid (a := s1.heap.objs.size) (o := viewO "dict_keys" s1.heap.objs.size a) (h' := s1.heap.push (DSub.viewOb "dict_keys" a)) (t' := s1.toks) (fun _ _ q => Heap.get?_push_of_some _ q) (Nat.le_refl _) (viewO_ok (Heap.get?_push_size _ rfl))
  exact ⟨.ref s1.heap.objs.size, _, I2, rfl, q _ (I1.hok.fresh (Nat.le_refl _))⟩
def rListV : List V → Hp → VK → Prop := fun xs H Q => ∃ v a kvs, xs = [.ref v] ∧ H v = some (viewO "dict_keys" v a) ∧ Rd H a (.dK kvs) ∧ ∀ q, H q = none → Q (.ref q) (upd H q (.lst (kvs.map fun kv => kV kv.1)))
theorem cr_listV (hc : X.calm = true) : CallR X (.type "list") rListV := by
  intro pins s σ H xs us Q I rr ⟨v, a, kvs, ex, hv, ha, q⟩
  subst ex
  obtain ⟨u, eu, ru⟩ := vals1 rr
  subst eu
  obtain rfl : u = Value.ref v := ru
  obtain ⟨zz, lw, vs, kv, dd⟩ := dk_rd I.hok ha
  obtain ⟨ep, atd⟩ := dd.dictAt
  have len : kvs.length = vs.length := Paired.length kv
  have gv : s.heap.get? v = some (DSub.viewOb "dict_keys" a) := (show ObjOk X.prog X.w H s.heap v (viewO "dict_keys" v a) from I.hok v _ hv).1
  refine PySem.W.kdl_call (PySem.W.kdl_keys (knd := mixKind X.prog X.w) (r := v) (d := a) (kvs := vs) (ep := ep)) (I.ok.hd hc) ⟨⟨_, gv, rfl, rfl⟩, atd⟩ (len ▸ zz) fun h1 t1 acc c1 kp new its => ?_
  have okk : ObjOk X.prog X.w (upd H s.heap.objs.size (.lst (kvs.map fun kv => kV kv.1))) h1 s.heap.objs.size (.lst (kvs.map fun kv => kV kv.1)) := by
    refine ⟨by rw [List.length_map]; exact zz, acc.toList, c1, vals_of_at ?_ fun j x w g1 g2 => ?_, by rw [Array.toArray_toList]; exact new⟩
    · rw [List.length_map, len, ← its.1]
      simp
    · obtain ⟨k, y, hk, is⟩ := its.2 j w (by rw [← Array.getElem?_toList]; exact g2)
      have f1 : (kvs.map (·.1))[j]? = some k := by rw [KV.keys kv, List.getElem?_map, hk]; rfl
      have f2 : (kvs.map fun kv => kV kv.1)[j]? = some (kV k) := by
        rw [show (kvs.map fun kv => kV kv.1) = (kvs.map (·.1)).map kV from (by rw [List.map_map]; rfl), List.getElem?_map, f1]
        rfl
      rw [f2] at g1
      cases g1
      exact keyIs_rel is
  exact ⟨.ref s.heap.objs.size, _, I.laid kp (Nat.le_refl _) okk, rfl, q _ (I.hok.fresh (Nat.le_refl _))⟩
def keysL (d : D) (S : Store) : Res D := match dcOf S d with
  | some kvs => .ok (.lst (kvs.map fun kv => keyD kv.1)) S
  | none => .stk
theorem t_keysL (hm : X.mg "list" = none) (he : PE X e (T X.K cl E m)) (hc : X.calm = true := by rfl) (hg : Gl X "list" := by rfl) (hb : attributeBase e "keys" X.env (eval e X.env) = eval e X.env := by rfl) (hl : (apos.endLine == cpos.line) = true := by rfl)
    (hs : starEach [.Call (.Attribute e "keys" apos) [] [] cpos] X.env = (false, eval (.Call (.Attribute e "keys" apos) [] [] cpos) X.env) :: starEach [] X.env := by rfl) :
    PE X (.Call (.Name "list" p) [.Call (.Attribute e "keys" apos) [] [] cpos] [] pos) (T X.K cl E (mUn keysL m)) :=
  pe_imp (pe_callTy (cr_listV hc) hg hm bt_list (pa_cons (pe_keysV he hb hl) pa_nil hs) (by decide) (by decide) hs) fun σ H Q ⟨W, ρ, S, hr, en, q⟩ => step hr en q fun W1 H1 v d S1 l1 r1 e1 rv p1 => by
    unfold keysL at p1
    split at p1
    · rename_i kvs ek
      obtain ⟨a, vs, rfl, ha, t⟩ := dc_of r1 rv ek
      refine ⟨a, vs, rfl, ha, fun v hv => ⟨v, a, vs, rfl, upd_same, ?_, fun q' hq => ?_⟩⟩
      · have na : a ≠ v := fun z => by
          subst z
          rcases ha with h | ⟨o, h⟩ <;> rw [hv] at h <;> cases h
        rcases ha with h | ⟨o, h⟩
        · exact .inl (by rw [upd_ne na]; exact h)
        · exact .inr ⟨o, by rw [upd_ne na]; exact h⟩
      · have r2 := r1.junk (o := viewO "dict_keys" v a) hv
        exact newL r2 (reps_keys t) p1 q' hq
    · exact p1.elim
/-! ### len, dicts too -/
def lenA (as : List D) (S : Store) : Res D := match as with
  | [x] => (match dcOf S x with
    | some kvs => .ok (.int kvs.length) S
    | none => lenD [x] S)
  | _ => .stk
theorem cr_lenA : CallR X (.builtin "len") (fun xs H Q => (∃ x n, xs = [x] ∧ LenV X.K x H n ∧ Q (.int n) H) ∨ ∃ a kvs, xs = [.ref a] ∧ Rd H a (.dK kvs) ∧ Q (.int kvs.length) H) := by
  refine cr_or call_len fun pins s σ H xs us Q I rr ⟨a, kvs, ex, ha, q⟩ => ?_
  subst ex
  obtain ⟨u, eu, ru⟩ := vals1 rr
  subst eu
  obtain rfl : u = Value.ref a := ru
  exact d_len I ha fun t s' I' => ⟨.int kvs.length, H, I', ⟨t, rfl⟩, q⟩
theorem lenA_s {K : PySem.W.Frag} : FnS K cl (fun xs H Q => (∃ x n, xs = [x] ∧ LenV K x H n ∧ Q (.int n) H) ∨ ∃ a kvs, xs = [.ref a] ∧ Rd H a (.dK kvs) ∧ Q (.int kvs.length) H) lenA := by
  intro W H S x a Q E r rx p
  unfold lenA at p
  split at p
  · rename_i d
    split at p
    · rename_i kvs ek
      cases rx with | cons rx rn =>
      cases rn
      obtain ⟨a, vs, rfl, ha, t⟩ := dc_of r rx ek
      refine .inr ⟨a, vs, rfl, ha, ?_⟩
      rw [t.len]
      exact p.now r (.int _)
    · exact .inl (len_s W H S x _ Q E r rx p)
  · exact p.elim
end
/-! ### running -/
section
variable {S : Store} {n : Nat} {x y z v : D} {ds : List D} {ns : List Int} {a : Str} {i : Int} {kvs : List (Key × D)} {k : Key} {b : Bool}
def rDc (o : Option MO) : Option (List (Key × D)) := match o with
  | some (.dct kvs) => some kvs
  | some (.ldc kvs) => some kvs
  | _ => none
@[simp] theorem rDc_d : rDc (some (.dct kvs)) = some kvs := nrfl rfl
@[simp] theorem rDc_l : rDc (some (.lst ds)) = none := nrfl rfl
@[simp] theorem rDc_n : rDc none = none := nrfl rfl
@[simp] theorem dc_refS : dcOf S (.ref n) = rDc (sg S n) := by
  unfold dcOf rDc sg
  rfl
@[simp] theorem dc_tup : dcOf S (.tup ds) = none := nrfl rfl
@[simp] theorem dc_lst : dcOf S (.lst ds) = none := nrfl rfl
@[simp] theorem dc_scr : dcOf S (.scr ns) = none := nrfl rfl
@[simp] theorem dc_str : dcOf S (.str a) = none := nrfl rfl
@[simp] theorem dc_int : dcOf S (.int i) = none := nrfl rfl
@[simp] theorem dc_bl : dcOf S (.bl b) = none := nrfl rfl
@[simp] theorem dc_non : dcOf S .non = none := nrfl rfl
def rIxA (o : Option (List (Key × D))) (x y : D) (S : Store) : Res D := match o with
  | some kvs => (match keyO y with
    | some k => ofO (valK kvs k) S
    | none => .stk)
  | none => ixD x y S
@[simp] theorem v_ixA : ixA x y S = rIxA (dcOf S x) x y S := by
  unfold ixA rIxA
  rfl
@[simp] theorem rIxA_none : rIxA none x y S = ixD x y S := nrfl rfl
@[simp] theorem rIxA_int : rIxA (some kvs) x (.int i) S = ofO (valK kvs (.inl i)) S := nrfl rfl
@[simp] theorem rIxA_str : rIxA (some kvs) x (.str a) S = ofO (valK kvs (.inr a)) S := nrfl rfl
def rLenA (o : Option (List (Key × D))) (x : D) (S : Store) : Res D := match o with
  | some kvs => .ok (.int kvs.length) S
  | none => lenD [x] S
@[simp] theorem v_lenA : lenA [x] S = rLenA (dcOf S x) x S := by
  unfold lenA rLenA
  rfl
@[simp] theorem rLenA_none : rLenA none x S = lenD [x] S := nrfl rfl
@[simp] theorem rLenA_some : rLenA (some kvs) x S = .ok (.int kvs.length) S := nrfl rfl
def rKeysL (o : Option (List (Key × D))) (S : Store) : Res D := match o with
  | some kvs => .ok (.lst (kvs.map fun kv => keyD kv.1)) S
  | none => .stk
@[simp] theorem v_keysL : keysL x S = rKeysL (dcOf S x) S := by
  unfold keysL rKeysL
  rfl
@[simp] theorem rKeysL_some : rKeysL (some kvs) S = .ok (.lst (kvs.map fun kv => keyD kv.1)) S := nrfl rfl
def rInA2 (o : Option (List (Key × D))) (x y : D) (S : Store) : Res D := match o with
  | some kvs => (match keyO x with
    | some k => .ok (.bl (valK kvs k).isSome) S
    | none => .stk)
  | none => inD x y S
@[simp] theorem v_inA : inA x y S = rInA2 (dcOf S y) x y S := by
  unfold inA rInA2 inDK
  cases e : dcOf S y with
  | none => rfl
  | some kvs =>
    dsimp only
    cases keyO x <;> rfl
@[simp] theorem rInA2_none : rInA2 none x y S = inD x y S := nrfl rfl
theorem rInA2_some (h : keyO x = some k) : rInA2 (some kvs) x y S = .ok (.bl (valK kvs k).isSome) S := by
  unfold rInA2
  rw [h]
theorem rIxA_key (h : keyO y = some k) : rIxA (some kvs) x y S = ofO (valK kvs k) S := by
  unfold rIxA
  rw [h]
@[simp] theorem key_keyD : keyO (keyD k) = some k := by cases k <;> rfl
end
end G
namespace G
open PySem L2
/-! ### pop, extend, remove, insert -/
section
variable {K : PySem.W.Frag} {cl : Str → Option Addr} {W : Wd}
theorem Reps.dropLast : ∀ {v : List V} {d : List D}, Reps K cl W v d → Reps K cl W v.dropLast d.dropLast
  | _, _, .nil => .nil
  | _, _, .cons h .nil => .nil
  | _, _, .cons h (.cons h2 t) => .cons h (Reps.dropLast (.cons h2 t))
def popD (x : D) (ys : List D) (S : Store) : Res D := match x, ys with
  | .ref n, [] => (match S[n]? with
    | some (.lst xs) => (match xs[xs.length - 1]? with
      | some y => .ok y (S.set n (.lst xs.dropLast))
      | none => .stk)
    | _ => .stk)
  | _, _ => .stk
theorem pop_s : G.MtS K cl rPop popD := by
  intro W H S x a y b Q E r rx ry p
  unfold popD at p
  split at p
  · rename_i n
    cases rx with | ref hn =>
    cases ry
    split at p
    · rename_i xs e1
      obtain ⟨_, vs, h1, h2⟩ := r.live n _ e1 (by intro z; cases z)
      split at p
      · rename_i y ey
        obtain ⟨v, hv, rv⟩ := h2.at ey
        exact ⟨_, vs, v, rfl, rfl, h1, by rw [h2.len]; exact hv, p W _ _ (.rf W) (r.put e1 (by intro z; cases z) ⟨_, upd_same, h2.dropLast⟩) rv⟩
      · exact p.elim
    · exact p.elim
  · exact p.elim
def extD (x : D) (ys : List D) (S : Store) : Res D := match x, ys with
  | .ref n, [y] => (match S[n]?, lsOf S y with
    | some (.lst xs), some zs => if xs.length + zs.length ≤ sizeLine then .ok .non (S.set n (.lst (xs ++ zs))) else .stk
    | _, _ => .stk)
  | _, _ => .stk
theorem ext_s : G.MtS K cl rExtend extD := by
  intro W H S x a y b Q E r rx ry p
  unfold extD at p
  split at p
  · rename_i n d
    cases rx with | ref hn =>
    cases ry with | cons ry rn =>
    cases rn
    split at p
    · rename_i xs zs e1 e2
      obtain ⟨_, vs, h1, h2⟩ := r.live n _ e1 (by intro z; cases z)
      obtain ⟨l, us, rfl, h3, h4⟩ := ls_of r ry e2
      split at p
      · rename_i hz
        exact ⟨_, l, vs, us, rfl, rfl, h1, h3, by rw [h2.len, h4.len]; exact hz, p W _ _ (.rf W) (r.put e1 (by intro z; cases z) ⟨_, upd_same, h2.app h4⟩) .non⟩
      · exact p.elim
    · exact p.elim
  · exact p.elim
def remD (x : D) (ys : List D) (S : Store) : Res D := match x, ys with
  | .ref n, [.int k] => (match S[n]? with
    | some (.lst xs) => (match intsO xs with
      | some ns => if k ∈ ns then .ok .non (S.set n (.lst ((ns.erase k).map D.int))) else .stk
      | none => .stk)
    | _ => .stk)
  | _, _ => .stk
theorem rem_s : G.MtS K cl rRemI remD := by
  intro W H S x a y b Q E r rx ry p
  unfold remD at p
  split at p
  · rename_i n k
    cases rx with | ref hn =>
    cases ry with | cons ry rn =>
    cases rn
    cases ry
    split at p
    · rename_i xs e1
      obtain ⟨_, vs, h1, h2⟩ := r.live n _ e1 (by intro z; cases z)
      split at p
      · rename_i ns en
        have ev := ints_of h2 en
        subst ev
        split at p
        · rename_i hk
          obtain ⟨j, j1, j2, j3, j4⟩ := first_at hk
          exact ⟨_, ns, k, j, rfl, rfl, h1, j2, j3, by rw [j4]; exact p W _ _ (.rf W) (r.put e1 (by intro z; cases z) ⟨_, upd_same, reps_ints _⟩) .non⟩
        · exact p.elim
      · exact p.elim
    · exact p.elim
  · exact p.elim
def insD (x : D) (ys : List D) (S : Store) : Res D := match x, ys with
  | .ref n, [.int i, y] => (match S[n]? with
    | some (.lst xs) => if xs.length < sizeLine ∧ 0 ≤ i ∧ smR i = true then .ok .non (S.set n (.lst (xs.take i.toNat ++ [y] ++ xs.drop i.toNat))) else .stk
    | _ => .stk)
  | _, _ => .stk
theorem ins_s : G.MtS K cl (fun x vs H Q => ∃ (l : Addr) (xs : List V) (i : Int) (y : V), x = .ref l ∧ vs = [.int i, y] ∧ H l = some (.lst xs) ∧ xs.length < sizeLine ∧ 0 ≤ i ∧ i < 2 ^ 63 ∧ Q .non (upd H l (.lst (xs.take i.toNat ++ [y] ++ xs.drop i.toNat)))) insD := by
  intro W H S x a y b Q E r rx ry p
  unfold insD at p
  split at p
  · rename_i n i d
    cases rx with | ref hn =>
    cases ry with | cons ry rn =>
    cases ry
    cases rn with | cons rd rn =>
    cases rn
    split at p
    · rename_i xs e1
      obtain ⟨_, vs, h1, h2⟩ := r.live n _ e1 (by intro z; cases z)
      split at p
      · rename_i hz
        exact ⟨_, vs, i, _, rfl, rfl, h1, by rw [h2.len]; exact hz.1, hz.2.1, by have := (smR_of hz.2.2).2; omega, p W _ _ (.rf W) (r.put e1 (by intro z; cases z) ⟨_, upd_same, ((h2.take _).app (.cons rd .nil)).app (h2.drop _)⟩) .non⟩
      · exact p.elim
    · exact p.elim
  · exact p.elim
end
/-! running -/
section
variable {S : Store} {n : Nat} {x y : D} {ds es : List D} {i : Int} {ns : List Int}
def rPopO (o : Option MO) (n : Nat) (S : Store) : Res D := match o with
  | some (.lst xs) => (match xs[xs.length - 1]? with
    | some y => .ok y (sp S n (.lst xs.dropLast))
    | none => .stk)
  | _ => .stk
@[simp] theorem pop_ref : popD (.ref n) [] S = rPopO (sg S n) n S := by
  unfold popD rPopO sg sp
  rfl
theorem rPop_some (h : ds[ds.length - 1]? = some y) : rPopO (some (.lst ds)) n S = .ok y (sp S n (.lst ds.dropLast)) := by
  unfold rPopO
  simp only [h]
def rExtO (o : Option MO) (p : Option (List D)) (n : Nat) (S : Store) : Res D := match o, p with
  | some (.lst xs), some zs => if xs.length + zs.length ≤ sizeLine then .ok .non (sp S n (.lst (xs ++ zs))) else .stk
  | _, _ => .stk
@[simp] theorem ext_ref : extD (.ref n) [y] S = rExtO (sg S n) (lsOf S y) n S := by
  unfold extD rExtO sg sp
  rfl
@[simp] theorem rExt_some : rExtO (some (.lst ds)) (some es) n S = if ds.length + es.length ≤ sizeLine then .ok .non (sp S n (.lst (ds ++ es))) else .stk := nrfl rfl
def rRemO (o : Option MO) (n : Nat) (k : Int) (S : Store) : Res D := match o with
  | some (.lst xs) => (match intsO xs with
    | some ns => if k ∈ ns then .ok .non (sp S n (.lst ((ns.erase k).map D.int))) else .stk
    | none => .stk)
  | _ => .stk
@[simp] theorem rem_ref : remD (.ref n) [.int i] S = rRemO (sg S n) n i S := by
  unfold remD rRemO sg sp
  rfl
theorem rRem_some (h : i ∈ ns) : rRemO (some (.lst (ns.map D.int))) n i S = .ok .non (sp S n (.lst ((ns.erase i).map D.int))) := by
  have e : ∀ l : List Int, intsO (l.map D.int) = some l := fun l => by
    induction l with
    | nil => rfl
    | cons a l ih =>
      show (intsO (l.map D.int)).map _ = _
      rw [ih]
      rfl
  unfold rRemO
  simp only [e, if_pos h]
def rInsO (o : Option MO) (n : Nat) (i : Int) (y : D) (S : Store) : Res D := match o with
  | some (.lst xs) => if xs.length < sizeLine ∧ 0 ≤ i ∧ smR i = true then .ok .non (sp S n (.lst (xs.take i.toNat ++ [y] ++ xs.drop i.toNat))) else .stk
  | _ => .stk
@[simp] theorem ins_ref : insD (.ref n) [.int i, y] S = rInsO (sg S n) n i y S := by
  unfold insD rInsO sg sp
  rfl
@[simp] theorem rIns_some : rInsO (some (.lst ds)) n i y S = if ds.length < sizeLine ∧ 0 ≤ i ∧ smR i = true then .ok .non (sp S n (.lst (ds.take i.toNat ++ [y] ++ ds.drop i.toNat))) else .stk := nrfl rfl
end
end G
namespace G
open PySem L2
/-! ### x == [], x != [] -/
def rEqL0 (K : PySem.W.Frag) : R2 := fun x y H Q => ∃ a b xs, x = .ref a ∧ y = .ref b ∧ SqL K H a xs ∧ SqL K H b [] ∧ Q (.bl xs.isEmpty) H
def rNeL0 (K : PySem.W.Frag) : R2 := fun x y H Q => ∃ a b xs, x = .ref a ∧ y = .ref b ∧ SqL K H a xs ∧ SqL K H b [] ∧ Q (.bl (!xs.isEmpty)) H
section
variable {X : Cx} {cl : Str → Option Addr} {E : WX}
theorem op_eqL0 {k : Nat} (hr : Room k X.A) : OpR X (compareOp .Eq) (rEqL0 X.K) := by
  intro pins s σ H x y v u Q I rx ry ⟨a, b, xs, ex, ey, ha, hb, q⟩
  subst ex
  subst ey
  obtain rfl : v = Value.ref a := rx
  obtain rfl : u = Value.ref b := ry
  obtain ⟨us, r1, h1, _⟩ := inv_K (k := false) I ha
  obtain ⟨ws, r2, h2, _⟩ := inv_K (k := false) I hb
  cases r2
  have hu : X.A.units < cLine := by have := hr.un; omega
  cases xs with
  | nil =>
    cases r1
    exact SeqAt.RcAt.lists (e := fun _ => true) h1 h2 rfl hu (fun j h1 => absurd h1 (by simp)) X.prog X.w _ _ ⟨.bl _, H, I, rfl, q⟩
  | cons x xs =>
    cases r1
    exact SeqAt.RcAt.lists_lengths h1 h2 (by simp) hu X.prog X.w _ _ ⟨.bl _, H, I, rfl, q⟩
theorem op_neL0 {k : Nat} (hr : Room k X.A) : OpR X (compareOp .NotEq) (rNeL0 X.K) := by
  intro pins s σ H x y v u Q I rx ry ⟨a, b, xs, ex, ey, ha, hb, q⟩
  subst ex
  subst ey
  obtain rfl : v = Value.ref a := rx
  obtain rfl : u = Value.ref b := ry
  obtain ⟨us, r1, h1, _⟩ := inv_K (k := false) I ha
  obtain ⟨ws, r2, h2, _⟩ := inv_K (k := false) I hb
  cases r2
  have hu : X.A.units < cLine := by have := hr.un; omega
  cases xs with
  | nil =>
    cases r1
    exact SeqAt.RcNeAt.lists (e := fun _ => true) h1 h2 rfl hu (fun j h1 => absurd h1 (by simp)) X.prog X.w _ _ ⟨.bl _, H, I, rfl, q⟩
  | cons x xs =>
    cases r1
    exact SeqAt.RcNeAt.lists_lengths h1 h2 (by simp) hu X.prog X.w _ _ ⟨.bl _, H, I, rfl, q⟩
def eqL0 (x y : D) (S : Store) : Res D := match lsOf S x, lsOf S y with
  | some xs, some [] => .ok (.bl xs.isEmpty) S
  | _, _ => .stk
def neL0 (x y : D) (S : Store) : Res D := match lsOf S x, lsOf S y with
  | some xs, some [] => .ok (.bl (!xs.isEmpty)) S
  | _, _ => .stk
theorem eqL0_s {K : PySem.W.Frag} : OpS K cl (rEqL0 K) eqL0 := by
  intro W H S x y a b Q E r rx ry p
  unfold eqL0 at p
  split at p
  · rename_i xs e1 e2
    obtain ⟨l, vs, rfl, h, t⟩ := ls_of r rx e1
    obtain ⟨l', vs', rfl, h', t'⟩ := ls_of r ry e2
    cases t'
    refine ⟨l, l', vs, rfl, rfl, SqL.of h, SqL.of h', ?_⟩
    rw [show vs.isEmpty = xs.isEmpty by cases t <;> rfl]
    exact p.now r (.bl _)
  · exact p.elim
theorem neL0_s {K : PySem.W.Frag} : OpS K cl (rNeL0 K) neL0 := by
  intro W H S x y a b Q E r rx ry p
  unfold neL0 at p
  split at p
  · rename_i xs e1 e2
    obtain ⟨l, vs, rfl, h, t⟩ := ls_of r rx e1
    obtain ⟨l', vs', rfl, h', t'⟩ := ls_of r ry e2
    cases t'
    refine ⟨l, l', vs, rfl, rfl, SqL.of h, SqL.of h', ?_⟩
    rw [show vs.isEmpty = xs.isEmpty by cases t <;> rfl]
    exact p.now r (.bl _)
  · exact p.elim
/-! ### d.get(k) -/
def getA1 (x y : D) (S : Store) : Res D := match dcOf S x, keyO y with
  | some kvs, some k => .ok ((valK kvs k).getD .non) S
  | _, _ => .stk
def mGet1 (o a : M D) : M D := fun ρ S => (o ρ S).bind fun x S1 => match dcOf S1 x with
  | some _ => (a ρ S1).bind fun y S2 => getA1 x y S2
  | none => .stk
theorem t_get1 {o e : Expr} {m m1 : M D} {apos cpos : Pos} {k : Nat} (rm : Room k X.A) (ho : PE X o (T X.K cl E m)) (he : PE X e (T X.K cl E m1)) (h1 : attributeBase o "get" X.env (eval o X.env) = eval o X.env := by rfl)
    (h2 : ((backTo cpos (starEach [e] X.env)).all (fun x => !x.1) && (backToKw cpos (keywordEach [] X.env)).all (fun x => x.1.isSome) && decide (([e] : List Expr).length + ([] : List Keyword).length + (if ([] : List Keyword).isEmpty then 0 else 1) < 30)) = true := by rfl)
    (h3 : (apos.endLine == cpos.line) = true := by rfl) (h4 : backTo cpos (starEach [e] X.env) = [(false, eval e X.env)] := by rfl) :
    PE X (.Call (.Attribute o "get" apos) [e] [] cpos) (T X.K cl E (mGet1 m m1)) :=
  pe_imp (pe_dget1 (by have := rm.un; omega) ho he ⟨h1, h2, h3, h4⟩) fun σ H Q ⟨W, ρ, S, hr, en, q⟩ => step hr en q fun W1 H1 x dx S1 l1 r1 e1 rx p1 => by
    split at p1
    · rename_i kvs ek
      obtain ⟨a, vs, rfl, ha, t⟩ := dc_of r1 rx ek
      refine ⟨a, rfl, .inl ⟨vs, ha⟩, step r1 e1 p1 fun W2 H2 y dy S2 l2 r2 e2 ry p2 => ?_⟩
      unfold getA1 at p2
      split at p2
      · rename_i kvs2 kk ek2 ey
        obtain ⟨a2, vs2, ea, ha2, t2⟩ := dc_of r2 (rx.up l2) ek2
        cases ea
        obtain rfl := key_rep ry ey
        refine ⟨valV vs2 kk, .inl ⟨vs2, kk, ha2, rfl, rfl⟩, ?_⟩
        rcases t2.val kk with ⟨v, d, q1, q2, q3⟩ | ⟨q1, q2⟩
        · rw [q1]
          rw [q2] at p2
          exact p2.now r2 q3
        · rw [q1]
          rw [q2] at p2
          exact p2.now r2 .non
      · exact p2.elim
    · exact p1.elim
end
/-! running -/
section
variable {ρ : Sl} {S : Store} {x y : D} {ds : List D} {kvs : List (Key × D)} {k : Key} {b : MS} {c : M Bool}
def rE0 (o p : Option (List D)) (S : Store) : Res D := match o, p with
  | some xs, some [] => .ok (.bl xs.isEmpty) S
  | _, _ => .stk
def rN0 (o p : Option (List D)) (S : Store) : Res D := match o, p with
  | some xs, some [] => .ok (.bl (!xs.isEmpty)) S
  | _, _ => .stk
@[simp] theorem v_eqL0 : eqL0 x y S = rE0 (lsOf S x) (lsOf S y) S := by
  unfold eqL0 rE0
  rfl
@[simp] theorem v_neL0 : neL0 x y S = rN0 (lsOf S x) (lsOf S y) S := by
  unfold neL0 rN0
  rfl
@[simp] theorem rE0_some : rE0 (some ds) (some []) S = .ok (.bl ds.isEmpty) S := nrfl rfl
@[simp] theorem rN0_some : rN0 (some ds) (some []) S = .ok (.bl (!ds.isEmpty)) S := nrfl rfl
@[simp] theorem ls_lst : lsOf S (.lst ds) = some ds := nrfl rfl
def kG1b (x : D) (y : D) (S : Store) : Res D := getA1 x y S
def kG1a (ρ : Sl) (a : M D) (x : D) (S : Store) (o : Option (List (Key × D))) : Res D := match o with
  | some _ => (a ρ S).bind (kG1b x)
  | none => .stk
def kG1' (ρ : Sl) (a : M D) (x : D) (S : Store) : Res D := kG1a ρ a x S (dcOf S x)
@[simp] theorem e_get1 {o a : M D} : mGet1 o a ρ S = (o ρ S).bind (kG1' ρ a) := by
  unfold mGet1
  congr 1
@[simp] theorem e_get1a {a : M D} : kG1' ρ a x S = kG1a ρ a x S (dcOf S x) := nrfl rfl
@[simp] theorem e_get1b {a : M D} : kG1a ρ a x S (some kvs) = (a ρ S).bind (kG1b x) := nrfl rfl
def rG1 (o : Option (List (Key × D))) (p : Option Key) (S : Store) : Res D := match o, p with
  | some kvs, some k => .ok ((valK kvs k).getD .non) S
  | _, _ => .stk
@[simp] theorem e_get1c : kG1b x y S = rG1 (dcOf S x) (keyO y) S := by
  unfold kG1b getA1 rG1
  rfl
@[simp] theorem rG1_some : rG1 (some kvs) (some k) S = .ok ((valK kvs k).getD .non) S := nrfl rfl
/-- not in -/
def rNotInA2 (o : Option (List (Key × D))) (x y : D) (S : Store) : Res D := match o with
  | some kvs => (match keyO x with
    | some k => .ok (.bl (!(valK kvs k).isSome)) S
    | none => .stk)
  | none => notInD x y S
@[simp] theorem v_notInA : notInA x y S = rNotInA2 (dcOf S y) x y S := by
  unfold notInA rNotInA2 inDK
  cases e : dcOf S y with
  | none => rfl
  | some kvs =>
    dsimp only
    cases keyO x <;> rfl
@[simp] theorem rNotInA2_none : rNotInA2 none x y S = notInD x y S := nrfl rfl
@[simp] theorem rNotInA2_int {i : Int} : rNotInA2 (some kvs) (.int i) y S = .ok (.bl (!(valK kvs (.inl i)).isSome)) S := nrfl rfl
/-- a while loop with a measure -/
theorem whI (I : Nat → Sl → Store → Prop) (h : ∀ m ρ S, I m ρ S → ∃ k, c ρ S = .ok k S ∧ (k = true → Stp (fun ρ' S' => ∃ m', m' < m ∧ I m' ρ' S') (fun _ => False) (b ρ S))) :
    ∀ (n m : Nat) (ρ : Sl) (S : Store), m < n → I m ρ S → OkN (whileF c b n ρ S) fun ρ' S' => (∃ m', I m' ρ' S') ∧ c ρ' S' = .ok false S' := by
  intro n
  induction n with
  | zero => intro m ρ S hm; omega
  | succ n ih =>
    intro m ρ S hm hI
    obtain ⟨k, hc, hk⟩ := h m ρ S hI
    rw [x_wh, hc]
    cases k with
    | false =>
      simp
      exact ⟨⟨m, hI⟩, hc⟩
    | true =>
      have hb := (hk rfl).out
      simp
      cases e : b ρ S with
      | nx ρ2 S2 =>
        rw [e] at hb
        obtain ⟨m', h1, h2⟩ := hb
        rw [fB_nx]
        exact ih m' ρ2 S2 (by omega) h2
      | ct ρ2 S2 =>
        rw [e] at hb
        obtain ⟨m', h1, h2⟩ := hb
        rw [fB_ct]
        exact ih m' ρ2 S2 (by omega) h2
      | bk ρ2 S2 => rw [e] at hb; exact hb.elim
      | rt d S2 => rw [e] at hb; exact hb.elim
      | exc x ρ2 S2 => rw [e] at hb; exact hb.elim
      | stk => rw [e] at hb; exact hb.elim
end
end G
namespace G
open PySem L2
/-! ### pop at a place -/
section
variable {K : PySem.W.Frag} {cl : Str → Option Addr} {W : Wd}
theorem Reps.eraseIdx : ∀ {v : List V} {d : List D} (k : Nat), Reps K cl W v d → Reps K cl W (v.eraseIdx k) (d.eraseIdx k)
  | _, _, _, .nil => .nil
  | _, _, 0, .cons h t => t
  | _, _, k + 1, .cons h t => .cons h (Reps.eraseIdx k t)
def popAtD (x : D) (ys : List D) (S : Store) : Res D := match x, ys with
  | .ref n, [.int i] => (match S[n]? with
    | some (.lst xs) => (match xs[i.toNat]? with
      | some y => if 0 ≤ i ∧ smR i = true then .ok y (S.set n (.lst (xs.eraseIdx i.toNat))) else .stk
      | none => .stk)
    | _ => .stk)
  | _, _ => .stk
theorem popAt_s : G.MtS K cl rPopAt popAtD := by
  intro W H S x a y b Q E r rx ry p
  unfold popAtD at p
  split at p
  · rename_i n i
    cases rx with | ref hn =>
    cases ry with | cons ry rn =>
    cases ry
    cases rn
    split at p
    · rename_i xs e1
      obtain ⟨_, vs, h1, h2⟩ := r.live n _ e1 (by intro z; cases z)
      split at p
      · rename_i y ey
        split at p
        · rename_i hz
          obtain ⟨v, hv, rv⟩ := h2.at ey
          have li := (List.getElem?_eq_some_iff.mp hv).1
          have sm := (smR_of hz.2).2
          refine ⟨_, vs, i, i.toNat, v, rfl, rfl, h1, by have := hz.1; omega, by omega, ?_, hv, p W _ _ (.rf W) (r.put e1 (by intro z; cases z) ⟨_, upd_same, h2.eraseIdx _⟩) rv⟩
          unfold seqIndex?
          have h0 : ¬ i < 0 := by have := hz.1; omega
          have h3 : i < (vs.length : Int) := by have := hz.1; omega
          simp [h0, hz.1, h3]
        · exact p.elim
      · exact p.elim
    · exact p.elim
  · exact p.elim
end
section
variable {S : Store} {n : Nat} {x y : D} {ds es : List D} {i : Int} {ns : List Int}
def rPopA2 (o : Option D) (xs : List D) (i : Int) (n : Nat) (S : Store) : Res D := match o with
  | some y => if 0 ≤ i ∧ smR i = true then .ok y (sp S n (.lst (xs.eraseIdx i.toNat))) else .stk
  | none => .stk
def rPopA (o : Option MO) (i : Int) (n : Nat) (S : Store) : Res D := match o with
  | some (.lst xs) => rPopA2 xs[i.toNat]? xs i n S
  | _ => .stk
@[simp] theorem popAt_ref : popAtD (.ref n) [.int i] S = rPopA (sg S n) i n S := by
  unfold popAtD rPopA rPopA2 sg sp
  rfl
theorem rPopA_some {k : Nat} (h : ds[k]? = some y) (hk : smR (k : Int) = true) : rPopA (some (.lst ds)) (k : Int) n S = .ok y (sp S n (.lst (ds.eraseIdx k))) := by
  unfold rPopA rPopA2
  simp [h, hk]
end
end G
namespace G
open PySem L2
/-! ### d.copy(), the copy live -/
section
variable {X : Cx} {cl : Str → Option Addr} {E : WX} {o : Expr} {m : M D} {apos cpos : Pos}
def copyLv (d : D) (S : Store) : Res D := match dcOf S d with
  | some kvs => .ok (.ref S.length) (S ++ [.dct kvs])
  | none => .stk
theorem t_copyL (he : PE X o (T X.K cl E m)) (hb : attributeBase o "copy" X.env (eval o X.env) = eval o X.env := by rfl) (hl : (apos.endLine == cpos.line) = true := by rfl) :
    PE X (.Call (.Attribute o "copy" apos) [] [] cpos) (T X.K cl E (mUn copyLv m)) :=
  pe_imp (pe_copyK he hb hl) fun σ H Q ⟨W, ρ, S, hr, en, q⟩ => step hr en q fun W1 H1 v d S1 l1 r1 e1 rv p1 => by
    unfold copyLv at p1
    split at p1
    · rename_i kvs ek
      obtain ⟨a, vs, rfl, ha, t⟩ := dc_of r1 rv ek
      exact ⟨a, vs, rfl, ha, fun q hq => p1 (W1.lv q) _ _ (Le.lv W1 q) (r1.new hq ⟨vs, upd_same, t⟩) (rep_lv r1)⟩
    · exact p1.elim
end
section
variable {S : Store} {x : D} {kvs : List (Key × D)}
theorem copyL_ok (h : dcOf S x = some kvs) : copyLv x S = .ok (.ref S.length) (S ++ [.dct kvs]) := by
  unfold copyLv
  rw [h]
end
/-! ### a live list or dict is frozen -/
section
variable {K : PySem.W.Frag} {cl : Str → Option Addr} {W : Wd} {H : Hp} {S : Store}
theorem R.kilF {i : Nat} {m : MO} {o : HO} (r : R K cl W H S) (h : S[i]? = some m) (nd : m ≠ .dead) : R K cl (W.fz (W.ι i) o) (upd H (W.ι i) o) (S.set i .dead) ∧ Le W (W.fz (W.ι i) o) := by
  obtain ⟨h1, h2⟩ := r.live i m h nd
  have hq : W.P (W.ι i) = none := by
    cases e : W.P (W.ι i) with
    | none => rfl
    | some u => exact absurd rfl ((r.priv _ u e).2.2 i m h nd)
  have r1 : R K cl W (upd H (W.ι i) o) (S.set i .dead) := r.put h nd trivial
  refine ⟨r1.fzAt upd_same h1 (fun j mo e n' q => ?_) hq, Le.fz h1⟩
  by_cases hj : i = j
  · subst hj
    rw [List.getElem?_set_self (List.getElem?_eq_some_iff.mp h).1] at e
    cases e
    exact n' rfl
  · rw [List.getElem?_set_ne hj] at e
    exact hj (r.inj i j m mo h e nd n' q.symm)
end
def frzR (d : D) (S : Store) : Res D := match d with
  | .ref n => (match S[n]? with
    | some (.dct kvs) => .ok (.dct kvs) (S.set n .dead)
    | _ => .stk)
  | _ => .stk
section
variable {X : Cx} {cl : Str → Option Addr} {E : WX} {o : Expr} {m : M D} {apos cpos : Pos}
theorem t_frzR (he : PE X o (T X.K cl E m)) : PE X o (T X.K cl E (mUn frzR m)) :=
  pe_imp (pe_frzD he) fun σ H Q ⟨W, ρ, S, hr, en, q⟩ => step hr en q fun W1 H1 v d S1 l1 r1 e1 rv p1 => by
    unfold frzR at p1
    split at p1
    · rename_i n
      split at p1
      · rename_i kvs ek
        cases rv with | ref hn =>
        obtain ⟨g0, vs, ha, t⟩ := r1.live n _ ek (by intro z; cases z)
        refine ⟨_, .dK vs, rfl, ha, True.intro, fun od => ?_⟩
        obtain ⟨r2, l2⟩ := r1.kilF (o := .frz od (.dK vs)) ek (by intro z; cases z)
        exact p1 _ _ _ l2 r2 (.dct upd_same (t.up l2))
      · exact p1.elim
    · exact p1.elim
end
section
variable {S : Store} {n : Nat} {kvs : List (Key × D)}
theorem frzR_ok (h : sg S n = some (.dct kvs)) : frzR (.ref n) S = .ok (.dct kvs) (sp S n .dead) := by
  unfold frzR
  dsimp only
  rw [show S[n]? = some (.dct kvs) from h]
  rfl
end
end G
namespace G
open PySem L2
/-! ### an answer that is a new list or a new instance is frozen, what else was made is forgotten -/
def topI (n : Nat) (d : D) (S : Store) : D × Store := match d with
  | .ref m => if n ≤ m then (match S[m]? with
    | some (.lst xs) => (.lst xs, S.set m .dead)
    | some (.ins c fs) => (.ins c fs, S.set m .dead)
    | _ => (.ref m, S)) else (.ref m, S)
  | d => (d, S)
def clI (n : Nat) (r : Res D) : Res D := match r with
  | .ok d S => if belD n (topI n d S).1 = true ∧ ((topI n d S).2.take n).all (belM n) = true then .ok (topI n d S).1 ((topI n d S).2.take n) else .stk
  | .exc x S => if belF n x.fs = true ∧ (S.take n).all (belM n) = true then .exc x (S.take n) else .stk
  | .stk => .stk
def mCln (m : M D) : M D := fun ρ S => clI S.length (m ρ S)
def clnI (g : List D → Store → Res D) (ds : List D) (S : Store) : Res D := clI S.length (g ds S)
section
variable {K : PySem.W.Frag} {cl : Str → Option Addr} {W W' : Wd} {H : Hp} {S : Store} {n : Nat}
theorem R.freezeI {m : Nat} {c : Str} {fs : List (Str × D)} (r : R K cl W H S) (e : S[m]? = some (.ins c fs)) : ∃ W', Le W W' ∧ R K cl W' H (S.set m .dead) ∧ Rep K cl W' (.ref (W.ι m)) (.ins c fs) := by
  have nd : MO.ins c fs ≠ .dead := by intro z; cases z
  obtain ⟨g0, C, dx, vs, hc, h1, t⟩ := r.live m _ e nd
  refine ⟨W.fz (W.ι m) (.ins C dx vs), Le.fz g0, (r.kill m).fzAt h1 g0 (fun i mo h ndi q => ?_) ?_, .ins upd_same hc (t.up (Le.fz g0))⟩
  · obtain ⟨h', hne⟩ := set_live h ndi
    exact hne (r.inj i m mo _ h' e ndi nd q)
  · cases q : W.P (W.ι m) with
    | none => rfl
    | some o => exact absurd rfl ((r.priv _ _ q).2.2 m _ e nd)
theorem topI_ok {d : D} {v : V} (r : R K cl W H S) (rv : Rep K cl W v d) : ∃ W', Le W W' ∧ R K cl W' H (topI n d S).2 ∧ Rep K cl W' v (topI n d S).1 := by
  unfold topI
  split
  · rename_i m
    split
    · split
      · rename_i xs e
        cases rv
        exact r.freeze e
      · rename_i c fs e
        cases rv
        exact r.freezeI e
      · exact ⟨W, .rf W, r, rv⟩
    · exact ⟨W, .rf W, r, rv⟩
  · exact ⟨W, .rf W, r, rv⟩
theorem topI_len {d : D} : (topI n d S).2.length = S.length := by
  unfold topI
  split
  · split
    · split
      · simp
      · simp
      · rfl
    · rfl
  · rfl
theorem clI_post {r0 : Res D} {Q : VK} {E : XK} (r : R K cl W H S) (p : Post K cl (Rep K cl) W (clI S.length r0) Q E) : Post K cl (Rep K cl) W r0 Q E := by
  have en := r.n
  cases r0 with
  | stk => exact p
  | ok d S1 =>
    unfold clI at p
    dsimp only at p
    split at p
    · rename_i hz
      intro W1 H1 v l1 r1 rv
      obtain ⟨W2, l2, r2, rv2⟩ := topI_ok (n := S.length) r1 rv
      have hl : S.length ≤ (topI S.length d S1).2.length := by
        rw [topI_len, ← r1.n, ← en]
        exact l1.n
      exact p (W2.cut S.length) H1 v (by rw [← en]; exact (l1.tr l2).cut) (r2.cut hl hz.2) (rv2.cut hz.1)
    · exact p.elim
  | exc x S1 =>
    unfold clI at p
    dsimp only at p
    split at p
    · rename_i hz
      intro W1 H1 c dd l1 r1 rx
      have hl : S.length ≤ S1.length := by
        rw [← r1.n, ← en]
        exact l1.n
      refine p (W1.cut S.length) H1 c dd (by rw [← en]; exact l1.cut) (r1.cut hl hz.2) ?_
      obtain ⟨C, q1, q2, q3⟩ := rx
      refine ⟨C, q1, q2, ?_⟩
      rcases q3 with q3 | ⟨a, vs, q3, q4, qn, q5⟩
      · exact .inl q3
      · exact .inr ⟨a, vs, q3, q4, qn, q5.cut hz.1⟩
    · exact p.elim
end
theorem spOf_clnI {K : PySem.W.Frag} {cl : Str → Option Addr} {n : Nat} {g : List D → Store → Res D} {vs : List V} {H : Hp} {Q : VK} {E : XK} (h : spOf K cl n (clnI g) vs H Q E) : spOf K cl n g vs H Q E := by
  obtain ⟨W, S, ds, r, t, p⟩ := h
  refine ⟨W, S, ds, r, t, ?_⟩
  unfold ar at p ⊢
  split at p
  · rename_i e
    rw [if_pos e]
    exact clI_post r p
  · exact p.elim
theorem fn_clnI {P : Program} {w : World} {K : PySem.W.Frag} {mg : Str → Option Value} {base : Heap} {cl : Str → Option Addr} {k n : Nat} {f : Addr} {fd : FuncData} {ps : List Str} {g : List D → Store → Res D} (F : FnOk P w K mg base (L2.CX P w) k f fd ps (spOf K cl n g)) :
    FnOk P w K mg base (L2.CX P w) k f fd ps (spOf K cl n (clnI g)) := F.imp fun _ _ _ _ h => spOf_clnI h
section
variable {X : Cx} {cl : Str → Option Addr} {E : WX} {e : Expr} {m : M D}
theorem t_cln (h : PE X e (T X.K cl E m)) : PE X e (T X.K cl E (mCln m)) :=
  pe_imp h fun σ H Q ⟨W, ρ, S, hr, en, q⟩ => ⟨W, ρ, S, hr, en, clI_post hr q⟩
end
/-! ### own operators -/
section
variable {X : Cx} {k : Nat} {f C : Addr} {fd : FuncData} {ps : List Str} {pr : Sp} {E : WX} {op : Operator} {uop : UnaryOp} {pos : Pos} {a b : Expr} {ta tb : TE}
theorem notNI {Q : VK} {pins : List (Addr × Obj)} {σ : St} {v : Value} {s : Shared} (h : EP X pins σ Q v s) : PySem.W.CmpBack (EP X pins σ Q) v s := by
  have h0 := h
  obtain ⟨x, H', I, r, q⟩ := h
  cases x <;> first | (obtain rfl := r; exact h0) | (obtain ⟨t, rfl⟩ := r; exact h0)
theorem pe_binX (ha : PE X a ta) (hb : PE X b tb) (hC : PySem.W.selfFirst X.K C = true) (hM : Meth X.K C (PySem.dunder op.info.2) f) (Fk : FnOk X.prog X.w X.K X.mg X.base (L2.CX X.prog X.w) k f fd ps pr) (rm : Room k X.A) (bd : Binds X.K fd ps []) (tk : Takes X E) :
    PE X (.BinOp a op b pos) (fun σ H Q => ta σ H fun x H1 => tb σ H1 fun y H2 => ∃ i dx fs j dy gs, x = .ref i ∧ y = .ref j ∧ H2 i = some (.ins C dx fs) ∧ H2 j = some (.ins C dy gs) ∧ pr [x, y] H2 Q (fun c d H' => E c d σ H')) := by
  refine ⟨fun pins s σ H Q I h => ?_⟩
  refine wpAny_BinOp (binT ha hb I h fun v u s2 x y H2 I2 rx ry ⟨i, dx, fs, j, dy, gs, ex, ey, hi, hj, q⟩ => ?_)
  subst ex
  subst ey
  obtain rfl : v = Value.ref i := rx
  obtain rfl : u = Value.ref j := ry
  obtain ⟨mA, J, _⟩ := ins_get I2.hok hi
  obtain ⟨mB, J', _⟩ := ins_get I2.hok hj
  obtain ⟨od, J, _⟩ := J.look
  obtain ⟨od', J', _⟩ := J'.look
  obtain ⟨m, hF⟩ := I2.fr
  refine PySem.W.binop_K hF I2.ok.mod.kin J J'.type hC hM.at_ hM.fn ?_
  refine wpAny_mono (run_fnSD (E := fun σ c d H' => E c d σ H') (dvs := []) (us := [.ref i, .ref j]) (vs := [.ref i, .ref j]) Fk rm bd .nil (passAt tk σ) I2 (.cons rfl (.cons rfl .nil)) q) (fun r s' hr => notNI hr) fun _ _ z => z
end
section
variable {X : Cx} {cl : Str → Option Addr} {E : WX} {k n : Nat} {op : Operator} {pos : Pos} {a b : Expr} {ma mb : M D} {c m : Str} {g : List D → Store → Res D}
/-- a op b of two instances of the class c -/
def mBin (c : Str) (g : List D → Store → Res D) (ma mb : M D) : M D := fun ρ S => (ma ρ S).bind fun x S1 => (mb ρ S1).bind fun y S2 => match insO S2 x, insO S2 y with
  | some (c1, _), some (c2, _) => if c1 = c ∧ c2 = c then ar 2 g [x, y] S2 else .stk
  | _, _ => .stk
theorem t_bin (G : MFn X.prog X.w X.K X.mg X.base cl c (PySem.dunder op.info.2) k 2 g) (hC : ∀ C, cl c = some C → PySem.W.selfFirst X.K C = true) (rm : Room k X.A) (tk : Takes X E) (ha : PE X a (T X.K cl E ma)) (hb : PE X b (T X.K cl E mb)) :
    PE X (.BinOp a op b pos) (T X.K cl E (mBin c g ma mb)) := by
  obtain ⟨C, f, fd, ps, c1, c2, c3, c4, c5⟩ := G
  refine pe_imp (pe_binX ha hb (hC C c1) c3 c4 rm c5 tk) fun σ H Q ⟨W, ρ, S, hr, en, q⟩ => ?_
  unfold mBin at q
  refine step hr en q fun W1 H1 x dx S1 l1 r1 e1 rx p1 => step r1 e1 p1 fun W2 H2 y dy S2 l2 r2 e2 ry p2 => ?_
  split at p2
  · rename_i d1 f1 d2 f2 h1 h2
    split at p2
    · rename_i hc
      obtain ⟨rfl, rfl⟩ := hc
      obtain ⟨i, C1, di, vi, rfl, hc1, hi, _⟩ := ins_of r2 (rx.up l2) h1
      obtain ⟨j, C2, dj, vj, rfl, hc2, hj, _⟩ := ins_of r2 ry h2
      rw [c1] at hc1 hc2
      cases hc1
      cases hc2
      exact ⟨i, di, vi, j, dj, vj, rfl, rfl, hi, hj, W2, S2, [dx, dy], r2, .cons (rx.up l2) (.cons ry .nil), p2⟩
    · exact p2.elim
  · exact p2.elim
end
section
variable {X : Cx} {k : Nat} {f C : Addr} {fd : FuncData} {ps : List Str} {pr : Sp} {E : WX} {pos : Pos} {a : Expr} {ta : TE}
theorem pe_invX (ha : PE X a ta) (hM : Meth X.K C "__invert__" f) (Fk : FnOk X.prog X.w X.K X.mg X.base (L2.CX X.prog X.w) k f fd ps pr) (rm : Room k X.A) (bd : Binds X.K fd ps []) (tk : Takes X E) :
    PE X (.UnaryOp .Invert a pos) (fun σ H Q => ta σ H fun x H1 => ∃ i dx fs, x = .ref i ∧ H1 i = some (.ins C dx fs) ∧ pr [x] H1 Q (fun c d H' => E c d σ H')) := by
  refine ⟨fun pins s σ H Q I h => ?_⟩
  refine PyProof.Rows.UnaryOp_ (thn (ha.run pins s σ H _ I h) fun v s1 ⟨x, H1, I1, r1, i, dx, fs, ex, hi, q⟩ => ?_)
  subst ex
  obtain rfl : v = Value.ref i := r1
  obtain ⟨mA, J, _⟩ := ins_get I1.hok hi
  obtain ⟨od, J, _⟩ := J.look
  obtain ⟨m, hF⟩ := I1.fr
  unfold unaryOp
  refine wpAny_holding ?_
  dsimp only
  rw [if_neg (by decide)]
  refine wpAny_bind (PySem.W.special_fn (args := []) (I1.ok.mod.kin.keeps hF.keep) J hM.at_ (beq_iff_eq.mp hM.fn) ?_)
  refine wpAny_mono (run_fnSD (E := fun σ c d H' => E c d σ H') (dvs := []) (us := [.ref i]) (vs := [.ref i]) Fk rm bd .nil (passAt tk σ) I1 (.cons rfl .nil) q) (fun r s' hr => wpAny_pure hr) fun _ _ z => z
end
section
variable {X : Cx} {cl : Str → Option Addr} {E : WX} {k n : Nat} {pos : Pos} {a : Expr} {ma : M D} {c m : Str} {g : List D → Store → Res D}
def mInv (c : Str) (g : List D → Store → Res D) (ma : M D) : M D := fun ρ S => (ma ρ S).bind fun x S1 => match insO S1 x with
  | some (c1, _) => if c1 = c then ar 1 g [x] S1 else .stk
  | none => .stk
theorem t_inv (G : MFn X.prog X.w X.K X.mg X.base cl c "__invert__" k 1 g) (rm : Room k X.A) (tk : Takes X E) (ha : PE X a (T X.K cl E ma)) :
    PE X (.UnaryOp .Invert a pos) (T X.K cl E (mInv c g ma)) := by
  obtain ⟨C, f, fd, ps, c1, c2, c3, c4, c5⟩ := G
  refine pe_imp (pe_invX ha c3 c4 rm c5 tk) fun σ H Q ⟨W, ρ, S, hr, en, q⟩ => ?_
  unfold mInv at q
  refine step hr en q fun W1 H1 x dx S1 l1 r1 e1 rx p1 => ?_
  split at p1
  · rename_i d1 f1 h1
    split at p1
    · rename_i hc
      subst hc
      obtain ⟨i, C1, di, vi, rfl, hc1, hi, _⟩ := ins_of r1 rx h1
      rw [c1] at hc1
      cases hc1
      exact ⟨i, di, vi, rfl, hi, W1, S1, [dx], r1, .cons rx .nil, p1⟩
    · exact p1.elim
  · exact p1.elim
end
end G
namespace G
open PySem L2
/-! ### comprehensions of two clauses -/
open Classical in
noncomputable def compL2 (it : Itb) (p : Pt) (t : M Bool) (mi1 : M Itb) (p1 : Pt) (t1 : M Bool) (e : M D) (vs1 : List Nat) (ρ : Sl) : List D → Nat → Store → Res (List D)
  | [], _, S => if Grd it S then .ok [] S else .stk
  | d :: ds, n, S => if Grd it S then (match p d ρ with
    | some ρ1 => (t ρ1 S).nox.bind fun k S1 => if k = true then (mi1 ρ1 S1).nox.bind fun it1 S2 => (compL it1 p1 t1 e (wipeD ρ1 vs1) it1.xs n S2).bind fun ys S3 => (compL2 it p t mi1 p1 t1 e vs1 ρ ds (n + ys.length) S3).bind fun xs S4 => .ok (ys ++ xs) S4
        else compL2 it p t mi1 p1 t1 e vs1 ρ ds n S1
    | none => .stk) else .stk
noncomputable def mComp2 (m : M Itb) (p : Pt) (t : M Bool) (mi1 : M Itb) (p1 : Pt) (t1 : M Bool) (e : M D) (vs vs1 : List Nat) (mk : List D → Store → Res D) : M D := fun ρ S => (m ρ S).bind fun it S1 => (compL2 it p t mi1 p1 t1 e vs1 (wipeD ρ vs) it.xs 0 S1).bind fun xs S2 => mk xs S2
theorem wipe_off {σ σ' : St} {a vs : List Nat} (off : Off a (L2.wipe σ vs) σ') (ha : ∀ i ∈ a, i ∈ vs) : L2.wipe σ' vs = L2.wipe σ vs := by
  have hw : L2.wipe σ' vs = L2.wipe (L2.wipe σ vs) vs := wipe_ext off.1 fun j hj => off.2 j fun z => hj (ha j z)
  have hw2 : L2.wipe (L2.wipe σ vs) vs = L2.wipe σ vs := wipe_ext (wipe_length σ vs).symm fun j hj => by
    have : ∀ (vs : List Nat), j ∉ vs → (L2.wipe σ vs)[j]? = σ[j]? := by
      intro vs
      induction vs with
      | nil => intro _; rfl
      | cons v vs ih =>
        intro hj
        unfold L2.wipe
        rw [List.getElem?_set_ne (fun z => hj (by simp [z])), ih fun z => hj (by simp [z])]
    exact this vs hj
  exact hw.trans hw2
section
variable {X : Cx} {cl : Str → Option Addr} {E : WX} {elt tg iter tg1 iter1 : Expr} {ifs ifs1 : List Expr} {scope : Scope} {own : List (Str × Nat)} {pos : Pos} {mi mi1 : M Itb} {a a1 : List Nat} {p p1 : Pt} {mt mt1 : M Bool} {me : M D} {mk : List D → Store → Res D}
theorem lc2_read {K : PySem.W.Frag} {σ : St} {H : Hp} {Q : VK} {vs vs1 : List Nat} (hk : MkS K cl mk) (ha : ∀ i ∈ a, i ∈ vs) (ha1 : ∀ i ∈ a1, i ∈ vs1) (h : T K cl E (mComp2 mi p mt mi1 p1 mt1 me vs vs1 mk) σ H Q) :
    tLc2 (TIt K cl E mi) (Tp K cl a p) (TB K cl F0 mt) (TIt K cl F0 mi1) (Tp K cl a1 p1) (TB K cl F0 mt1) (T K cl F0 me) vs vs1 σ H Q := by
  obtain ⟨W, ρ, S, hr, he, q⟩ := h
  refine step hr he q fun W1 H1 J it S1 l1 r1 e1 hJ p1' => ?_
  intro Dl hD
  have np : W1.P Dl = none := by
    cases e : W1.P Dl with
    | none => rfl
    | some u => rw [(r1.priv Dl u e).1] at hD; cases hD
  refine ⟨fun i m H' => m = it.xs.length - i ∧ i ≤ it.xs.length ∧ ∃ W' S' acc dacc, Le W1 W' ∧ R K cl (W'.hid Dl (.lst acc)) H' S' ∧ Reps K cl W' acc dacc ∧
      Post K cl (Rep K cl) W' ((compL2 it p mt mi1 p1 mt1 me vs1 (wipeD ρ vs) (it.xs.drop i) dacc.length S').bind fun xs S2 => mk (dacc ++ xs) S2) Q (fun c d H' => E c d σ H'),
    ⟨_, rfl, Nat.zero_le _, W1, S1, [], [], .rf W1, r1.hide hD, .nil, p1'⟩, ?_⟩
  rintro i m H2 ⟨rfl, hi, W2, S2, acc, dacc, l2, r2, t2, p2⟩
  by_cases hlt : i < it.xs.length
  · have ed : it.xs.drop i = it.xs[i] :: it.xs.drop (i + 1) := List.drop_eq_getElem_cons hlt
    have ei : it.xs[i]? = some it.xs[i] := List.getElem?_eq_getElem hlt
    generalize hd : it.xs[i] = d at ed ei
    rw [ed] at p2
    unfold compL2 at p2
    by_cases hG : Grd it S2
    · rw [if_pos hG] at p2
      obtain ⟨g1, _⟩ := hJ (W2.hid Dl (.lst acc)) H2 S2 (l2.s.tr Ls.hid) r2 hG
      obtain ⟨go, yld⟩ := g1 i d ei
      refine .inr ⟨go, fun H' => ∃ W' S' acc dacc, Le W1 W' ∧ R K cl (W'.hid Dl (.lst acc)) H' S' ∧ Reps K cl W' acc dacc ∧
          Post K cl (Rep K cl) W' ((compL2 it p mt mi1 p1 mt1 me vs1 (wipeD ρ vs) (it.xs.drop (i + 1)) dacc.length S').bind fun xs S2 => mk (dacc ++ xs) S2) Q (fun c d H' => E c d σ H'), fun H' n => ⟨it.xs.length - (i + 1), by omega, rfl, hlt, n⟩, fun x H3 y => ?_⟩
      obtain ⟨W3, l3, r3, rx⟩ := yld x H3 y
      have back : ∀ (W2 : Wd) (acc : List V), Le W1 W2 → ∀ W4 : Wd, Le (W2.hid Dl (.lst acc)) W4 → W4 = (W4.out W1.P).hid Dl (.lst acc) ∧ Le W2 (W4.out W1.P) := fun W2 acc l2 W4 l4 => by
        have eP : W4.P = upd W1.P Dl (.lst acc) := by rw [l4.p]; show upd W2.P Dl _ = _; rw [l2.p]
        refine ⟨?_, ⟨l4.g, l4.i, l4.n, l2.p.symm⟩⟩
        cases W4
        simp only [Wd.out, Wd.hid] at eP ⊢
        rw [eP]
      cases e4 : p d (wipeD ρ vs) with
      | none => simp only [e4] at p2; exact p2.elim
      | some ρ3 =>
        simp only [e4] at p2
        have ev : Envs K cl W3 (L2.wipe σ vs) (wipeD ρ vs) := ((e1.up l2).wipe vs).ups (Ls.hid.tr l3.s)
        refine ⟨W3, wipeD ρ vs, S2, d, ρ3, r3, ev, rx, e4, fun σ3 e3 off => ⟨wipe_off off ha, W3, ρ3, S2, r3, e3, ?_⟩⟩
        cases e5 : mt ρ3 S2 with
        | stk => rw [e5] at p2; exact p2.elim
        | exc z S5 => rw [e5] at p2; exact p2.elim
        | ok k S5 =>
          rw [e5] at p2
          intro W5 H5 b l5 r5 eb
          obtain rfl : b = k := eb
          cases b with
          | false =>
            obtain ⟨eq5, le5⟩ := back W2 acc l2 W5 (l3.tr l5)
            rw [eq5] at r5
            exact ⟨W5.out W1.P, S5, acc, dacc, l2.tr le5, r5, t2.up le5, Post.up le5 p2⟩
          | true =>
            refine ⟨W5, ρ3, S5, r5, e3.up l5, ?_⟩
            cases e6 : mi1 ρ3 S5 with
            | stk => simp only [nox_ok, bind_ok, if_true, e6] at p2; exact p2.elim
            | exc z S6 => simp only [nox_ok, bind_ok, if_true, e6] at p2; exact p2.elim
            | ok it1 S6 =>
              simp only [nox_ok, bind_ok, if_true, e6] at p2
              intro W6 H6 J1 l6 r6 hJ1
              obtain ⟨eq6, le6⟩ := back W2 acc l2 W6 ((l3.tr l5).tr l6)
              have r6' := r6
              rw [eq6] at r6'
              -- the inner loop
              have inner : ∀ (W' : Wd) (S' : Store) (dacc : List D) (j : Nat), Post K cl (Rep K cl) W' (((compL it1 p1 mt1 me (wipeD ρ3 vs1) (it1.xs.drop j) dacc.length S').bind fun ys S3 => (compL2 it p mt mi1 p1 mt1 me vs1 (wipeD ρ vs) (it.xs.drop (i + 1)) (dacc.length + ys.length) S3).bind fun xs S4 => .ok (ys ++ xs) S4).bind fun xs S2 => mk (dacc ++ xs) S2) Q (fun c d H' => E c d σ H') → True := fun _ _ _ _ _ => trivial
              refine ⟨fun j k H' => k = it1.xs.length - j ∧ j ≤ it1.xs.length ∧ ∃ W' S' acc dacc, Le (W6.out W1.P) W' ∧ R K cl (W'.hid Dl (.lst acc)) H' S' ∧ Reps K cl W' acc dacc ∧
                  Post K cl (Rep K cl) W' (((compL it1 p1 mt1 me (wipeD ρ3 vs1) (it1.xs.drop j) dacc.length S').bind fun ys S3 => (compL2 it p mt mi1 p1 mt1 me vs1 (wipeD ρ vs) (it.xs.drop (i + 1)) (dacc.length + ys.length) S3).bind fun xs S4 => .ok (ys ++ xs) S4).bind fun xs S2 => mk (dacc ++ xs) S2) Q (fun c d H' => E c d σ H'),
                ⟨_, rfl, Nat.zero_le _, W6.out W1.P, S6, acc, dacc, .rf _, r6', t2.up le6, Post.up le6 p2⟩, ?_⟩
              clear inner
              rintro j kk H7 ⟨rfl, hj, W7, S7, acc7, dacc7, l7, r7, t7, p7⟩
              have l17 : Le W1 W7 := (l2.tr le6).tr l7
              have s67 : Ls W6 (W7.hid Dl (.lst acc7)) := (Ls.out.tr l7.s).tr Ls.hid
              by_cases hlt1 : j < it1.xs.length
              · have ed1 : it1.xs.drop j = it1.xs[j] :: it1.xs.drop (j + 1) := List.drop_eq_getElem_cons hlt1
                have ei1 : it1.xs[j]? = some it1.xs[j] := List.getElem?_eq_getElem hlt1
                generalize hd1 : it1.xs[j] = d1 at ed1 ei1
                rw [ed1] at p7
                unfold compL at p7
                by_cases hG1 : Grd it1 S7
                · rw [if_pos hG1] at p7
                  obtain ⟨g1', _⟩ := hJ1 (W7.hid Dl (.lst acc7)) H7 S7 s67 r7 hG1
                  obtain ⟨go1, yld1⟩ := g1' j d1 ei1
                  refine .inr ⟨go1, fun H' => ∃ W' S' acc dacc, Le (W6.out W1.P) W' ∧ R K cl (W'.hid Dl (.lst acc)) H' S' ∧ Reps K cl W' acc dacc ∧
                      Post K cl (Rep K cl) W' (((compL it1 p1 mt1 me (wipeD ρ3 vs1) (it1.xs.drop (j + 1)) dacc.length S').bind fun ys S3 => (compL2 it p mt mi1 p1 mt1 me vs1 (wipeD ρ vs) (it.xs.drop (i + 1)) (dacc.length + ys.length) S3).bind fun xs S4 => .ok (ys ++ xs) S4).bind fun xs S2 => mk (dacc ++ xs) S2) Q (fun c d H' => E c d σ H'), fun H' n => ⟨it1.xs.length - (j + 1), by omega, rfl, hlt1, n⟩, fun x1 H8 y1 => ?_⟩
                  obtain ⟨W8, l8, r8, rx8⟩ := yld1 x1 H8 y1
                  cases e9 : p1 d1 (wipeD ρ3 vs1) with
                  | none => simp only [e9] at p7; exact p7.elim
                  | some ρ9 =>
                    simp only [e9] at p7
                    have ev9 : Envs K cl W8 (L2.wipe σ3 vs1) (wipeD ρ3 vs1) := (((e3.up l5).up l6).wipe vs1).ups (s67.tr l8.s)
                    refine ⟨W8, wipeD ρ3 vs1, S7, d1, ρ9, r8, ev9, rx8, e9, fun σ9 en9 off9 => ⟨wipe_off off9 ha1, W8, ρ9, S7, r8, en9, ?_⟩⟩
                    cases e10 : mt1 ρ9 S7 with
                    | stk => rw [e10] at p7; exact p7.elim
                    | exc z S5 => rw [e10] at p7; exact p7.elim
                    | ok k1 S10 =>
                      rw [e10] at p7
                      intro W10 H10 b l10 r10 eb
                      obtain rfl : b = k1 := eb
                      cases b with
                      | false =>
                        obtain ⟨eq10, le10⟩ := back W7 acc7 l17 W10 (l8.tr l10)
                        rw [eq10] at r10
                        exact ⟨W10.out W1.P, S10, acc7, dacc7, l7.tr le10, r10, t7.up le10, Post.up le10 p7⟩
                      | true =>
                        refine ⟨W10, ρ9, S10, r10, en9.up l10, ?_⟩
                        cases e11 : me ρ9 S10 with
                        | stk => simp only [nox_ok, bind_ok, if_true, e11] at p7; exact p7.elim
                        | exc z S6 => simp only [nox_ok, bind_ok, if_true, e11] at p7; exact p7.elim
                        | ok dy S11 =>
                          simp only [nox_ok, bind_ok, if_true, e11] at p7
                          intro W11 H11 y11 l11 r11 ry
                          obtain ⟨eq11, le11⟩ := back W7 acc7 l17 W11 ((l8.tr l10).tr l11)
                          have r12 := r11
                          rw [eq11] at r12
                          by_cases hz : dacc7.length < sizeLine
                          · rw [if_pos hz] at p7
                            refine ⟨acc7, (r12.priv Dl _ upd_same).1, by rw [t7.len]; exact hz, W11.out W1.P, S11, acc7 ++ [y11], dacc7 ++ [dy], l7.tr le11, r12.turn, (t7.up le11).app (.cons (ry.ups Ls.out) .nil), ?_⟩
                            have p3 := Post.up le11 p7
                            revert p3
                            rw [List.length_append]
                            show _ → Post K cl (Rep K cl) _ (((compL it1 p1 mt1 me (wipeD ρ3 vs1) (it1.xs.drop (j + 1)) (dacc7.length + 1) S11).bind _).bind _) _ _
                            cases compL it1 p1 mt1 me (wipeD ρ3 vs1) (it1.xs.drop (j + 1)) (dacc7.length + 1) S11 with
                            | stk => exact fun z => z
                            | exc z S7 => exact fun z => z
                            | ok ys S12 =>
                              simp only [bind_ok, List.length_cons]
                              rw [show dacc7.length + (ys.length + 1) = dacc7.length + [dy].length + ys.length by simp; omega]
                              cases compL2 it p mt mi1 p1 mt1 me vs1 (wipeD ρ vs) (it.xs.drop (i + 1)) (dacc7.length + [dy].length + ys.length) S12 with
                              | stk => exact fun z => z
                              | exc z S7 => exact fun z => z
                              | ok xs S13 =>
                                simp only [bind_ok]
                                intro z
                                rw [List.append_assoc]
                                exact z
                          · rw [if_neg hz] at p7
                            exact p7.elim
                · rw [if_neg hG1] at p7
                  exact p7.elim
              · have ej : j = it1.xs.length := by omega
                subst ej
                rw [List.drop_length] at p7
                unfold compL at p7
                by_cases hG1 : Grd it1 S7
                · rw [if_pos hG1] at p7
                  obtain ⟨_, g2'⟩ := hJ1 (W7.hid Dl (.lst acc7)) H7 S7 s67 r7 hG1
                  refine .inl ⟨g2', W7, S7, acc7, dacc7, l17, r7, t7, ?_⟩
                  revert p7
                  simp only [bind_ok, List.length_nil, Nat.add_zero, List.nil_append]
                  cases compL2 it p mt mi1 p1 mt1 me vs1 (wipeD ρ vs) (it.xs.drop (i + 1)) dacc7.length S7 with
                  | stk => exact fun z => z
                  | exc z S7 => exact fun z => z
                  | ok xs S13 => exact fun z => z
                · rw [if_neg hG1] at p7
                  exact p7.elim
    · rw [if_neg hG] at p2
      exact p2.elim
  · have ei : i = it.xs.length := by omega
    subst ei
    rw [List.drop_length] at p2
    unfold compL2 at p2
    by_cases hG : Grd it S2
    · rw [if_pos hG] at p2
      obtain ⟨g1, g2⟩ := hJ (W2.hid Dl (.lst acc)) H2 S2 (l2.s.tr Ls.hid) r2 hG
      have np2 : W2.P Dl = none := by rw [l2.p]; exact np
      obtain ⟨r3, h3, h4, h5⟩ := r2.unhide np2
      have p3 : Post K cl (Rep K cl) W2 (mk (dacc ++ []) S2) Q (fun c d H' => E c d σ H') := p2
      rw [List.append_nil] at p3
      exact .inl ⟨g2, hk W2 H2 S2 Dl acc dacc Q _ r3 h3 h4 h5 np2 t2 p3⟩
    · rw [if_neg hG] at p2
      exact p2.elim
theorem t_lc2 (own : List (Str × Nat)) (vs1 : List Nat) (hk : MkS X.K cl mk) (hc : X.calm = true) (hN : X.N.Nodup) (hi : PI X tg iter (TIt X.K cl E mi)) (ok : BlkOk X.N X.env.scope scope own)
    (hg : ∀ (s : Shared) (H : Hp) (C : Addr) (ce : List (Str × Addr)) (fp : List Addr), PG (X.blk s H scope (compEnvC scope ce C X.env) fp) tg (Tp X.K cl a p))
    (ht : ∀ (s : Shared) (H : Hp) (C : Addr) (ce : List (Str × Addr)) (fp : List Addr), PTs (X.blk s H scope (compEnvC scope ce C X.env) fp) ifs (TB X.K cl F0 mt))
    (hi1 : ∀ (s : Shared) (H : Hp) (C : Addr) (ce : List (Str × Addr)) (fp : List Addr), PI (X.blk s H scope (compEnvC scope ce C X.env) fp) tg1 iter1 (TIt X.K cl F0 mi1))
    (hg1 : ∀ (s : Shared) (H : Hp) (C : Addr) (ce : List (Str × Addr)) (fp : List Addr), PG (X.blk s H scope (compEnvC scope ce C X.env) fp) tg1 (Tp X.K cl a1 p1))
    (ht1 : ∀ (s : Shared) (H : Hp) (C : Addr) (ce : List (Str × Addr)) (fp : List Addr), PTs (X.blk s H scope (compEnvC scope ce C X.env) fp) ifs1 (TB X.K cl F0 mt1))
    (he : ∀ (s : Shared) (H : Hp) (C : Addr) (ce : List (Str × Addr)) (fp : List Addr), PE (X.blk s H scope (compEnvC scope ce C X.env) fp) elt (T X.K cl F0 me))
    (ha : ∀ i ∈ a, i ∈ own.map (·.2) := by decide) (ha1 : ∀ i ∈ a1, i ∈ vs1 := by decide) (hv : ∀ i ∈ vs1, i ∈ own.map (·.2) := by decide) (hs : ∀ x, foldedSetIterable iter X.env x = pure x := by intro _; rfl) (hs1 : ∀ env x, foldedSetIterable iter1 env x = pure x := by intro _ _; rfl) :
    PE X (.ListComp elt [⟨tg, iter, ifs, 0⟩, ⟨tg1, iter1, ifs1, 0⟩] scope pos) (T X.K cl E (mComp2 mi p mt mi1 p1 mt1 me (own.map (·.2)) vs1 mk)) :=
  pe_imp (pe_lc2 hc hN hi ok hv hg ht hi1 hg1 ht1 he hs hs1) fun σ H Q h => lc2_read hk ha ha1 h
end
end G
namespace G
open PySem L2
/-! ### isinstance of own classes -/
def insB (K : PySem.W.Frag) (C : Addr) : Bool := decide (PySem.W.findIn K (.ref C) "__class__" = some (some (.builtin "object.__class__"))) && (decide (PySem.W.specialIn K (.builtin "object.__class__") "__get__" = some (some (.builtin "getset_descriptor.__get__"))) && (decide (PySem.W.takesIn K (.builtin "object.__class__") = some true) && decide (PySem.W.mroIn K C (.type "object") = some true)))
def kinds : List Kd := [.non, .bl, .int, .str, .tup, .lst, .dct]
def noneB (K : PySem.W.Frag) (C : Addr) : Bool := kinds.all fun k => decide (PySem.W.kitOne K (.type k.ty) (.ref C) = some false)
/-- the class c as isinstance takes it: which classes' objects are such -/
def IsC (K : PySem.W.Frag) (mg : Str → Option Value) (cl : Str → Option Addr) (c : Str) (tab : List (Str × Bool)) : Prop :=
  ∃ C, mg c = some (.ref C) ∧ noneB K C = true ∧ ∀ c' b, tab.lookup c' = some b → ∀ C', cl c' = some C' → Cls K C' ∧ insB K C' = true ∧ PySem.W.kitOne K (.ref C') (.ref C) = some b
def isCD (tab : List (Str × Bool)) (d : D) (S : Store) : Res D := match insO S d with
  | some (c, _) => (match tab.lookup c with
    | some b => .ok (.bl b) S
    | none => .stk)
  | none => (match kd S d with
    | some _ => .ok (.bl false) S
    | none => .stk)
theorem noneB_ok {K : PySem.W.Frag} {C : Addr} (h : noneB K C = true) (k : Kd) : PySem.W.kitOne K (.type k.ty) (.ref C) = some false := by
  unfold noneB at h
  rw [List.all_eq_true] at h
  have := h k (by cases k <;> simp [kinds])
  exact of_decide_eq_true this
section
variable {X : Cx} {cl : Str → Option Addr} {E : WX} {a b : Expr} {m : M D} {p p2 pos : Pos} {x : Str} {tab : List (Str × Bool)}
theorem t_isC (hk : IsC X.K X.mg cl x tab) (hm : X.mg "isinstance" = none) (ha : PE X a (T X.K cl E m)) (hg : Gl X "isinstance" := by rfl) (hg2 : Gl X x := by rfl) (hdb : (x == ("__debug__" : Str)) = false := by decide)
    (hs : starEach [.Name x p2] X.env = (false, eval (.Name x p2) X.env) :: starEach [] X.env := by rfl)
    (he : starEach [a, .Name x p2] X.env = (false, eval a X.env) :: starEach [.Name x p2] X.env := by rfl) (hpl : (backTo pos (starEach [.Name x p2] X.env)).any (·.1) = false := by rfl) :
    PE X (.Call (.Name "isinstance" p) [a, .Name x p2] [] pos) (T X.K cl E (mUn (isCD tab) m)) := by
  obtain ⟨C, hC, hn, ht⟩ := hk
  refine pe_imp (pe_callB call_isi hg hm bt_isinstance (pa_cons ha (pa_cons (pe_glob (v := .ref C) hg2 hC rfl hdb) pa_nil hs) he) (by decide) (by decide) he hpl) fun σ H Q ⟨W, ρ, S, hr, en, q⟩ =>
    step hr en q fun W1 H1 v d S1 l1 r1 e1 rv p1 => ?_
  unfold isCD at p1
  split at p1
  · rename_i c fs ei
    split at p1
    · rename_i b eb
      obtain ⟨i, C', dx, vs, rfl, hc, hi, _⟩ := ins_of r1 rv ei
      obtain ⟨q1, q2, q3⟩ := ht c b eb C' hc
      unfold insB at q2
      simp only [Bool.and_eq_true, decide_eq_true_eq] at q2
      exact ⟨.ref i, .ref C, _, _, b, rfl, .own C, .base (.ins hi q1 q2.1 q2.2.1 q2.2.2.1 q2.2.2.2), q3, p1.now r1 (.bl _)⟩
    · exact p1.elim
  · split at p1
    · rename_i k ek
      exact ⟨v, .ref C, _, _, false, rfl, .own C, kd_of r1 rv ek, noneB_ok hn k, p1.now r1 (.bl _)⟩
    · exact p1.elim
end
theorem isc_nil {K : PySem.W.Frag} {cl : Str → Option Addr} {C : Addr} : ∀ c' b, ([] : List (Str × Bool)).lookup c' = some b → ∀ C', cl c' = some C' → Cls K C' ∧ insB K C' = true ∧ PySem.W.kitOne K (.ref C') (.ref C) = some b := fun _ _ h => nomatch h
theorem isc_cons {K : PySem.W.Frag} {cl : Str → Option Addr} {C D : Addr} {c : Str} {v : Bool} {tab : List (Str × Bool)} (hc : cl c = some D) (h1 : Cls K D) (h2 : insB K D = true) (h3 : PySem.W.kitOne K (.ref D) (.ref C) = some v)
    (t : ∀ c' b, tab.lookup c' = some b → ∀ C', cl c' = some C' → Cls K C' ∧ insB K C' = true ∧ PySem.W.kitOne K (.ref C') (.ref C) = some b) :
    ∀ c' b, ((c, v) :: tab).lookup c' = some b → ∀ C', cl c' = some C' → Cls K C' ∧ insB K C' = true ∧ PySem.W.kitOne K (.ref C') (.ref C) = some b := fun c' b h C' hC' => by
  rw [List.lookup_cons] at h
  cases q : c' == c with
  | true =>
    rw [q] at h
    cases h
    rw [beq_iff_eq] at q
    subst q
    rw [hc] at hC'
    cases hC'
    exact ⟨h1, h2, h3⟩
  | false =>
    rw [q] at h
    exact t c' b h C' hC'
/-! ### max, min of a list of ints -/
def mxI : List Int → Option Int
  | [] => none
  | n :: ns => some (ns.foldl (fun a b => if a < b then b else a) n)
def mnI : List Int → Option Int
  | [] => none
  | n :: ns => some (ns.foldl (fun a b => if b < a then b else a) n)
theorem mx_fold : ∀ (ns : List Int) (n : Int), (ns.foldl (fun a b => if a < b then b else a) n) ∈ n :: ns ∧ n ≤ (ns.foldl (fun a b => if a < b then b else a) n) ∧ ∀ y ∈ ns, y ≤ (ns.foldl (fun a b => if a < b then b else a) n)
  | [], n => ⟨by simp, Int.le_refl _, fun y hy => (nomatch hy)⟩
  | m :: ns, n => by
    obtain ⟨h1, h2, h3⟩ := mx_fold ns (if n < m then m else n)
    rw [List.foldl_cons]
    generalize ns.foldl (fun a b => if a < b then b else a) (if n < m then m else n) = r at h1 h2 h3
    refine ⟨?_, ?_, fun y hy => ?_⟩
    · rcases List.mem_cons.mp h1 with h1 | h1
      · rw [h1]
        split <;> simp
      · simp [h1]
    · split at h2 <;> omega
    · rcases List.mem_cons.mp hy with rfl | hy
      · split at h2 <;> omega
      · exact h3 y hy
theorem mn_fold : ∀ (ns : List Int) (n : Int), (ns.foldl (fun a b => if b < a then b else a) n) ∈ n :: ns ∧ (ns.foldl (fun a b => if b < a then b else a) n) ≤ n ∧ ∀ y ∈ ns, (ns.foldl (fun a b => if b < a then b else a) n) ≤ y
  | [], n => ⟨by simp, Int.le_refl _, fun y hy => (nomatch hy)⟩
  | m :: ns, n => by
    obtain ⟨h1, h2, h3⟩ := mn_fold ns (if m < n then m else n)
    rw [List.foldl_cons]
    generalize ns.foldl (fun a b => if b < a then b else a) (if m < n then m else n) = r at h1 h2 h3
    refine ⟨?_, ?_, fun y hy => ?_⟩
    · rcases List.mem_cons.mp h1 with h1 | h1
      · rw [h1]
        split <;> simp
      · simp [h1]
    · split at h2 <;> omega
    · rcases List.mem_cons.mp hy with rfl | hy
      · split at h2 <;> omega
      · exact h3 y hy
def exD (f : List Int → Option Int) (as : List D) (S : Store) : Res D := match as with
  | [x] => (match ((lsOf S x).bind intsO).bind f with
    | some n => .ok (.int n) S
    | none => .stk)
  | _ => .stk
section
variable {K : PySem.W.Frag} {cl : Str → Option Addr}
theorem max_s : FnS K cl (rMax K) (exD mxI) := by
  intro W H S x a Q E r rx p
  unfold exD at p
  split at p
  · rename_i d
    cases rx with | cons rx rn =>
    cases rn
    split at p
    · rename_i m en
      cases e1 : lsOf S d with
      | none => rw [e1] at en; cases en
      | some ds =>
        rw [e1] at en
        cases e2 : intsO ds with
        | none => simp only [Option.bind_some, e2] at en; cases en
        | some ns =>
          simp only [Option.bind_some, e2] at en
          obtain ⟨l, vs, rfl, h, t⟩ := ls_of r rx e1
          have ev := ints_of t e2
          subst ev
          cases ns with
          | nil => cases en
          | cons n ns =>
            cases en
            obtain ⟨h1, h2, h3⟩ := mx_fold ns n
            refine ⟨l, n :: ns, rfl, SqL.of h, by simp, fun m hm hy => ?_⟩
            have e : m = ns.foldl (fun a b => if a < b then b else a) n := by
              have g1 := hy _ h1
              have g2 : m ≤ ns.foldl (fun a b => if a < b then b else a) n := by
                rcases List.mem_cons.mp hm with rfl | hm
                · exact h2
                · exact h3 m hm
              omega
            rw [e]
            exact p.now r (.int _)
    · exact p.elim
  · exact p.elim
theorem min_s : FnS K cl (rMin K) (exD mnI) := by
  intro W H S x a Q E r rx p
  unfold exD at p
  split at p
  · rename_i d
    cases rx with | cons rx rn =>
    cases rn
    split at p
    · rename_i m en
      cases e1 : lsOf S d with
      | none => rw [e1] at en; cases en
      | some ds =>
        rw [e1] at en
        cases e2 : intsO ds with
        | none => simp only [Option.bind_some, e2] at en; cases en
        | some ns =>
          simp only [Option.bind_some, e2] at en
          obtain ⟨l, vs, rfl, h, t⟩ := ls_of r rx e1
          have ev := ints_of t e2
          subst ev
          cases ns with
          | nil => cases en
          | cons n ns =>
            cases en
            obtain ⟨h1, h2, h3⟩ := mn_fold ns n
            refine ⟨l, n :: ns, rfl, SqL.of h, by simp, fun m hm hy => ?_⟩
            have e : m = ns.foldl (fun a b => if b < a then b else a) n := by
              have g1 := hy _ h1
              have g2 : ns.foldl (fun a b => if b < a then b else a) n ≤ m := by
                rcases List.mem_cons.mp hm with rfl | hm
                · exact h2
                · exact h3 m hm
              omega
            rw [e]
            exact p.now r (.int _)
    · exact p.elim
  · exact p.elim
end
theorem bt_max : bootBuiltins "max" = some (.builtin "max") := by decide +kernel
theorem bt_min : bootBuiltins "min" = some (.builtin "min") := by decide +kernel
/-! ### dict(pairs) -/
def pairsO : List D → Option (List (Key × D))
  | [] => some []
  | .tup [k, v] :: r => (match keyO k, pairsO r with
    | some q, some l => some ((q, v) :: l)
    | _, _ => none)
  | _ => none
def dctP (mk : List (Key × D) → Store → Res D) (as : List D) (S : Store) : Res D := match as with
  | [x] => (match (lsOf S x).bind pairsO with
    | some l => mk (mrgD l) S
    | none => .stk)
  | _ => .stk
end G
namespace G
open PySem L2
/-! ### dict(pairs) -/
section
variable {K : PySem.W.Frag} {cl : Str → Option Addr} {W : Wd} {H : Hp} {S : Store}
theorem keyV_rep {v : V} {d : D} {k : Key} (h : Rep K cl W v d) (e : keyO d = some k) : v = kV k := by
  cases h with
  | int i => cases e; rfl
  | str s => cases e; rfl
  | _ => cases e
theorem pairs_rep (r : R K cl W H S) : ∀ {vs : List V} {ds : List D} {l : List (Key × D)}, Reps K cl W vs ds → pairsO ds = some l → ∃ ps kvs, vs = ps.map V.ref ∧ Paired (fun p kv => SqT K H p [kV kv.1, kv.2]) ps kvs ∧ RepK K cl W kvs l
  | _, _, l, .nil, e => by
    cases e
    exact ⟨[], [], rfl, .nil, .nil⟩
  | _, _, l, .cons (v := v) (d := d) (ds := ds) h t, e => by
    cases h with
    | @tup a xs ys hs rs =>
      cases rs with
      | nil => cases e
      | cons hk rs =>
        cases rs with
        | nil => cases e
        | cons hv rs =>
          cases rs with
          | cons _ _ => cases e
          | nil =>
            unfold pairsO at e
            split at e
            · rename_i q l' ek el
              cases e
              obtain ⟨ps, kvs, e1, e2, e3⟩ := pairs_rep r t el
              have := keyV_rep hk ek
              subst this
              refine ⟨a :: ps, (q, _) :: kvs, by rw [e1]; rfl, .cons ?_ e2, .cons hv e3⟩
              exact sqT_up r.sub hs
            · cases e
    | _ => cases e
theorem dctP_s : FnS K cl (fun xs H Q => ∃ (a : Addr) (ps : List Addr) (kvs : List (Key × V)), xs = [.ref a] ∧ SqL K H a (ps.map V.ref) ∧ Paired (fun p kv => SqT K H p [kV kv.1, kv.2]) ps kvs ∧
    ∀ p, H p = none → Q (.ref p) (upd H p (.dK (mergeK [] kvs)))) (dctP dlv) := by
  intro W H S x a Q E r rx p
  unfold dctP at p
  split at p
  · rename_i d
    cases rx with | cons rx rn =>
    cases rn
    split at p
    · rename_i l en
      cases e1 : lsOf S d with
      | none => rw [e1] at en; cases en
      | some ds =>
        rw [e1] at en
        obtain ⟨b, vs, rfl, h, t⟩ := ls_of r rx e1
        obtain ⟨ps, kvs, rfl, h2, h3⟩ := pairs_rep r t (show pairsO ds = some l from en)
        refine ⟨b, ps, kvs, rfl, SqL.of h, h2, fun q hq => ?_⟩
        exact p (W.lv q) _ _ (Le.lv W q) (r.new hq ⟨_, upd_same, RepK.mrg h3 .nil⟩) (rep_lv r)
    · exact p.elim
  · exact p.elim
end
theorem bt_dict' : bootBuiltins "dict" = some (.type "dict") := by decide +kernel
/-! ### dict comprehensions -/
open Classical in
noncomputable def dcL (it : Itb) (p : Pt) (t : M Bool) (ek ev : M D) (ρ : Sl) : List D → List (Key × D) → Store → Res (List (Key × D))
  | [], acc, S => if Grd it S then .ok acc S else .stk
  | d :: ds, acc, S => if Grd it S then (match p d ρ with
    | some ρ1 => (t ρ1 S).nox.bind fun b S1 => if b = true then (ek ρ1 S1).nox.bind fun x S2 => (ev ρ1 S2).nox.bind fun y S3 => (match keyO x with
        | some k => if acc.length < sizeLine then dcL it p t ek ev ρ ds (putKD acc k y) S3 else .stk
        | none => .stk)
        else dcL it p t ek ev ρ ds acc S1
    | none => .stk) else .stk
noncomputable def mDComp (m : M Itb) (p : Pt) (t : M Bool) (ek ev : M D) (vs : List Nat) (mk : List (Key × D) → Store → Res D) : M D := fun ρ S => (m ρ S).bind fun it S1 => (dcL it p t ek ev (wipeD ρ vs) it.xs [] S1).bind fun xs S2 => mk xs S2
section
variable {X : Cx} {cl : Str → Option Addr} {E : WX} {kx vx tg iter : Expr} {ifs : List Expr} {scope : Scope} {own : List (Str × Nat)} {pos : Pos} {mi : M Itb} {a : List Nat} {p : Pt} {mt : M Bool} {mk mv : M D} {fin : List (Key × D) → Store → Res D}
theorem dc_read {K : PySem.W.Frag} {σ : St} {H : Hp} {Q Q' : VK} {vs : List Nat} (ha : ∀ i ∈ a, i ∈ vs) (h : T K cl E (mDComp mi p mt mk mv vs fin) σ H Q)
    (hk : ∀ (W : Wd) (H : Hp) (S : Store) (a : Addr) (vs : List (Key × V)) (ds : List (Key × D)) (E : XK), R K cl W H S → H a = some (.dK vs) → W.G a = none → (∀ (i : Nat) (m : MO), S[i]? = some m → m ≠ .dead → W.ι i ≠ a) → W.P a = none → RepK K cl W vs ds → Post K cl (Rep K cl) W (fin ds S) Q E → Q' (.ref a) H) :
    tDc (TIt K cl E mi) (Tp K cl a p) (TB K cl F0 mt) (T K cl F0 mk) (T K cl F0 mv) vs σ H Q' := by
  obtain ⟨W, ρ, S, hr, he, q⟩ := h
  refine step hr he q fun W1 H1 J it S1 l1 r1 e1 hJ p1 => ?_
  intro Dl hD
  have np : W1.P Dl = none := by
    cases e : W1.P Dl with
    | none => rfl
    | some u => rw [(r1.priv Dl u e).1] at hD; cases hD
  refine ⟨fun i m H' => m = it.xs.length - i ∧ i ≤ it.xs.length ∧ ∃ W' S' acc dacc, Le W1 W' ∧ R K cl (W'.hid Dl (.dK acc)) H' S' ∧ RepK K cl W' acc dacc ∧
      Post K cl (Rep K cl) W' ((dcL it p mt mk mv (wipeD ρ vs) (it.xs.drop i) dacc S').bind fun xs S2 => fin xs S2) Q (fun c d H' => E c d σ H'),
    ⟨_, rfl, Nat.zero_le _, W1, S1, [], [], .rf W1, r1.hide hD, .nil, p1⟩, ?_⟩
  rintro i m H2 ⟨rfl, hi, W2, S2, acc, dacc, l2, r2, t2, p2⟩
  by_cases hlt : i < it.xs.length
  · have ed : it.xs.drop i = it.xs[i] :: it.xs.drop (i + 1) := List.drop_eq_getElem_cons hlt
    have ei : it.xs[i]? = some it.xs[i] := List.getElem?_eq_getElem hlt
    generalize hd : it.xs[i] = d at ed ei
    rw [ed] at p2
    unfold dcL at p2
    by_cases hG : Grd it S2
    · rw [if_pos hG] at p2
      obtain ⟨g1, _⟩ := hJ (W2.hid Dl (.dK acc)) H2 S2 (l2.s.tr Ls.hid) r2 hG
      obtain ⟨go, yld⟩ := g1 i d ei
      refine .inr ⟨go, fun H' => ∃ W' S' acc dacc, Le W1 W' ∧ R K cl (W'.hid Dl (.dK acc)) H' S' ∧ RepK K cl W' acc dacc ∧
          Post K cl (Rep K cl) W' ((dcL it p mt mk mv (wipeD ρ vs) (it.xs.drop (i + 1)) dacc S').bind fun xs S2 => fin xs S2) Q (fun c d H' => E c d σ H'), fun H' n => ⟨it.xs.length - (i + 1), by omega, rfl, hlt, n⟩, fun x H3 y => ?_⟩
      obtain ⟨W3, l3, r3, rx⟩ := yld x H3 y
      have back : ∀ W4 : Wd, Le (W2.hid Dl (.dK acc)) W4 → W4 = (W4.out W1.P).hid Dl (.dK acc) ∧ Le W2 (W4.out W1.P) := fun W4 l4 => by
        have eP : W4.P = upd W1.P Dl (.dK acc) := by rw [l4.p]; show upd W2.P Dl _ = _; rw [l2.p]
        refine ⟨?_, ⟨l4.g, l4.i, l4.n, l2.p.symm⟩⟩
        cases W4
        simp only [Wd.out, Wd.hid] at eP ⊢
        rw [eP]
      cases e4 : p d (wipeD ρ vs) with
      | none => simp only [e4] at p2; exact p2.elim
      | some ρ3 =>
        simp only [e4] at p2
        have ev : Envs K cl W3 (L2.wipe σ vs) (wipeD ρ vs) := ((e1.up l2).wipe vs).ups (Ls.hid.tr l3.s)
        refine ⟨W3, wipeD ρ vs, S2, d, ρ3, r3, ev, rx, e4, fun σ3 e3 off => ⟨wipe_off off ha, W3, ρ3, S2, r3, e3, ?_⟩⟩
        cases e5 : mt ρ3 S2 with
        | stk => rw [e5] at p2; exact p2.elim
        | exc z S5 => rw [e5] at p2; exact p2.elim
        | ok k S5 =>
          rw [e5] at p2
          intro W5 H5 b l5 r5 eb
          obtain rfl : b = k := eb
          cases b with
          | false =>
            obtain ⟨eq5, le5⟩ := back W5 (l3.tr l5)
            rw [eq5] at r5
            exact ⟨W5.out W1.P, S5, acc, dacc, l2.tr le5, r5, t2.up le5, Post.up le5 p2⟩
          | true =>
            refine ⟨W5, ρ3, S5, r5, e3.up l5, ?_⟩
            cases e6 : mk ρ3 S5 with
            | stk => simp only [nox_ok, bind_ok, if_true, e6] at p2; exact p2.elim
            | exc z S6 => simp only [nox_ok, bind_ok, if_true, e6] at p2; exact p2.elim
            | ok dx S6 =>
              simp only [nox_ok, bind_ok, if_true, e6] at p2
              intro W6 H6 x6 l6 r6 rx6
              refine ⟨W6, ρ3, S6, r6, (e3.up l5).up l6, ?_⟩
              cases e7 : mv ρ3 S6 with
              | stk => rw [e7] at p2; exact p2.elim
              | exc z S6 => rw [e7] at p2; exact p2.elim
              | ok dy S7 =>
                rw [e7] at p2
                simp only [nox_ok, bind_ok] at p2
                intro W7 H7 y7 l7 r7 ry7
                obtain ⟨eq7, le7⟩ := back W7 (((l3.tr l5).tr l6).tr l7)
                have r8 := r7
                rw [eq7] at r8
                cases ek : keyO dx with
                | none => rw [ek] at p2; exact p2.elim
                | some kk =>
                  rw [ek] at p2
                  dsimp only at p2
                  by_cases hz : dacc.length < sizeLine
                  · rw [if_pos hz] at p2
                    have := keyV_rep rx6 ek
                    subst this
                    exact ⟨acc, kk, rfl, (r8.priv Dl _ upd_same).1, by rw [t2.len]; exact hz, W7.out W1.P, S7, putK acc kk y7, putKD dacc kk dy, l2.tr le7, r8.turn, RepK.put kk (ry7.ups Ls.out) (t2.up le7), Post.up le7 p2⟩
                  · rw [if_neg hz] at p2
                    exact p2.elim
    · rw [if_neg hG] at p2
      exact p2.elim
  · have ei : i = it.xs.length := by omega
    subst ei
    rw [List.drop_length] at p2
    unfold dcL at p2
    by_cases hG : Grd it S2
    · rw [if_pos hG] at p2
      obtain ⟨g1, g2⟩ := hJ (W2.hid Dl (.dK acc)) H2 S2 (l2.s.tr Ls.hid) r2 hG
      have np2 : W2.P Dl = none := by rw [l2.p]; exact np
      obtain ⟨r3, h3, h4, h5⟩ := r2.unhide np2
      exact .inl ⟨g2, hk W2 H2 S2 Dl acc dacc _ r3 h3 h4 h5 np2 t2 p2⟩
    · rw [if_neg hG] at p2
      exact p2.elim
theorem t_dcF (own : List (Str × Nat)) (hc : X.calm = true) (hN : X.N.Nodup) (hi : PI X tg iter (TIt X.K cl E mi)) (ok : BlkOk X.N X.env.scope scope own)
    (hg : ∀ (s : Shared) (H : Hp) (C : Addr) (ce : List (Str × Addr)) (fp : List Addr), PG (X.blk s H scope (compEnvC scope ce C X.env) fp) tg (Tp X.K cl a p))
    (ht : ∀ (s : Shared) (H : Hp) (C : Addr) (ce : List (Str × Addr)) (fp : List Addr), PTs (X.blk s H scope (compEnvC scope ce C X.env) fp) ifs (TB X.K cl F0 mt))
    (hkx : ∀ (s : Shared) (H : Hp) (C : Addr) (ce : List (Str × Addr)) (fp : List Addr), PE (X.blk s H scope (compEnvC scope ce C X.env) fp) kx (T X.K cl F0 mk))
    (hvx : ∀ (s : Shared) (H : Hp) (C : Addr) (ce : List (Str × Addr)) (fp : List Addr), PE (X.blk s H scope (compEnvC scope ce C X.env) fp) vx (T X.K cl F0 mv))
    (ha : ∀ i ∈ a, i ∈ own.map (·.2) := by decide) (hs : ∀ x, foldedSetIterable iter X.env x = pure x := by intro _; rfl) :
    PE X (.DictComp kx vx [⟨tg, iter, ifs, 0⟩] scope pos) (T X.K cl E (mDComp mi p mt mk mv (own.map (·.2)) dfz)) :=
  pe_imp (pe_frzD (pe_dc hc hN hi ok hg ht hkx hvx hs)) fun σ H Q q => dc_read ha q fun W H S a vs ds E' r ha hg nl np t p => ⟨a, .dK vs, rfl, ha, True.intro, fun od => by
    obtain ⟨r1, r2⟩ := t_dispF.lockAt r ha hg nl np (od := od)
    exact p _ _ _ r2 r1 (.dct upd_same (t.up r2))⟩
theorem t_dcL (own : List (Str × Nat)) (hc : X.calm = true) (hN : X.N.Nodup) (hi : PI X tg iter (TIt X.K cl E mi)) (ok : BlkOk X.N X.env.scope scope own)
    (hg : ∀ (s : Shared) (H : Hp) (C : Addr) (ce : List (Str × Addr)) (fp : List Addr), PG (X.blk s H scope (compEnvC scope ce C X.env) fp) tg (Tp X.K cl a p))
    (ht : ∀ (s : Shared) (H : Hp) (C : Addr) (ce : List (Str × Addr)) (fp : List Addr), PTs (X.blk s H scope (compEnvC scope ce C X.env) fp) ifs (TB X.K cl F0 mt))
    (hkx : ∀ (s : Shared) (H : Hp) (C : Addr) (ce : List (Str × Addr)) (fp : List Addr), PE (X.blk s H scope (compEnvC scope ce C X.env) fp) kx (T X.K cl F0 mk))
    (hvx : ∀ (s : Shared) (H : Hp) (C : Addr) (ce : List (Str × Addr)) (fp : List Addr), PE (X.blk s H scope (compEnvC scope ce C X.env) fp) vx (T X.K cl F0 mv))
    (ha : ∀ i ∈ a, i ∈ own.map (·.2) := by decide) (hs : ∀ x, foldedSetIterable iter X.env x = pure x := by intro _; rfl) :
    PE X (.DictComp kx vx [⟨tg, iter, ifs, 0⟩] scope pos) (T X.K cl E (mDComp mi p mt mk mv (own.map (·.2)) dlv)) :=
  pe_imp (pe_dc hc hN hi ok hg ht hkx hvx hs) fun σ H Q q => dc_read ha q fun W H S a vs ds E' r ha hg nl np t p => p (W.lv a) H _ (Le.lv W a) (r.lvAt ha hg nl np ⟨vs, ha, t⟩) (rep_lv r)
end
end G
namespace G
open PySem L2
/-! ### a keyword-only parameter with a default -/
def FnK (P : Program) (w : World) (K : PySem.W.Frag) (mg : Str → Option Value) (base : Heap) (cl : Str → Option Addr) (x : Str) (k n : Nat) (kw : Str) (d : D) (g : List D → Store → Res D) : Prop :=
  ∃ f fd ps, FnOk P w K mg base (L2.CX P w) k f fd ps (spOf K cl (n + 1) g) ∧ mg x = some (.ref f) ∧ PySem.W.keepIn K (.ref f) = true ∧ KBn K fd ps n [kw] (fun us ws => us ++ ws) (fun vs zs => vs ++ zs) ∧ ∃ v ds, Vals [v] ds ∧ Binds K fd ps ds ∧ ∀ W, Rep K cl W v d
def mFnK (n : Nat) (g : List D → Store → Res D) (ms : M (List D)) (mk : M D) : M D := fun ρ S => (ms ρ S).bind fun ys S1 => (mk ρ S1).bind fun z S2 => if ys.length = n then ar (n + 1) g (ys ++ [z]) S2 else .stk
def mFnD (n : Nat) (d : D) (g : List D → Store → Res D) (ms : M (List D)) : M D := fun ρ S => (ms ρ S).bind fun ys S1 => ar (n + 1) g (ys ++ [d]) S1
section
variable {X : Cx} {k n : Nat} {f : Addr} {fd : FuncData} {ps ks : List Str} {sp : Sp} {E : St → XK} {x : Str} {p pos : Pos} {e : Expr} {es : List Expr} {kws : List Keyword} {t tk : TA} {g : List Value → List Value → List Value} {gV : List V → List V → List V} {CX : CXT}
theorem run_fnNS {pins : List (Addr × Obj)} {σ : St} {H : Hp} {s : Shared} {Q : VK} {us ws : List Value} {vs zs : List V} (F : FnOk X.prog X.w X.K X.mg X.base CX k f fd ps sp) (hr : Room k X.A) (hb : KBn X.K fd ps n ks g gV) (hx : PassesAt CX X σ (E σ))
    (I : Inv X pins σ H s) (r : Vals vs us) (rz : Vals zs ws) (l1 : vs.length = n) (l2 : zs.length = ks.length) (h : sp (gV vs zs) H Q (E σ)) : wpAny (model X.prog X.w) X.A (call (.ref f) us (ks.zip ws)) (EP X pins σ Q) X.xe s := by
  have r2 := hb.rel r rz
  refine wpAny_call (codeAny_mono (F.run X.A X.stack s H ⟨us, ks.zip ws⟩ (g us ws) (gV vs zs) Q (E σ) hr I.env0 (hb.to s us ws I.kIn (r.length.symm.trans l1) (rz.length.symm.trans l2)) r2 h) fun r s' hq => ?_)
  cases r with
  | error e => exact hx pins H s e s' I hq
  | ok fl =>
    cases fl with
    | ret u => exact I.after hq
    | next => exact False.elim hq
    | brk => exact False.elim hq
    | cont => exact False.elim hq
theorem pe_callNS (F : FnOk X.prog X.w X.K X.mg X.base CX k f fd ps sp) (hr : Room k X.A) (hg : Gl X x) (hm : X.mg x = some (.ref f)) (hk : PySem.W.keepIn X.K (.ref f) = true) (hb : KBn X.K fd ps n ks g gV) (hx : ∀ σ, PassesAt CX X σ (E σ))
    (ha : PA X (e :: es) t) (hkw : PK X kws tk) (hall : (backToKw pos (keywordEach kws X.env)).all (·.1.isSome) = true := by rfl) (hks : (backToKw pos (keywordEach kws X.env)).filterMap (·.1) = ks := by rfl)
    (hdb : (x == ("__debug__" : Str)) = false := by decide) (he : starEach (e :: es) X.env = (false, eval e X.env) :: starEach es X.env := by rfl)
    (hpl : ((backTo pos (starEach (e :: es) X.env)).any (·.1) || (backToKw pos (keywordEach kws X.env)).any (·.1.isNone)) = false := by rfl) :
    PE X (.Call (.Name x p) (e :: es) kws pos) (fun σ H Q => t σ H fun vs H1 => tk σ H1 fun zs H2 => vs.length = n ∧ zs.length = ks.length ∧ sp (gV vs zs) H2 Q (E σ)) := by
  refine ⟨fun pins s σ H Q I h => ?_⟩
  refine wpAny_Call_Name_kw (ld_glob I hg hm ?_ hdb)
  refine PySem.W.callWith_KW (h₀ := X.base) I.ok.mod.kin hk hall (thn (ha.run pos pins s σ H _ I h) fun us s1 ⟨vs, H1, I1, r, q⟩ => ?_) hpl he
  refine thn (hkw.run pos pins s1 σ H1 _ I1 q) fun ws s2 ⟨zs, H2, I2, rz, l1, l2, q2⟩ => ⟨I2.kIn, ?_⟩
  rw [hks]
  exact run_fnNS F hr hb (hx σ) I2 r rz l1 l2 q2
end
section
variable {X : Cx} {cl : Str → Option Addr} {E : WX} {k n : Nat} {x kw : Str} {p pos kpos : Pos} {e ke : Expr} {es : List Expr} {ms : M (List D)} {mk : M D} {g : List D → Store → Res D} {d : D}
theorem t_callK (F : FnK X.prog X.w X.K X.mg X.base cl x k n kw d g) (rm : Room k X.A) (tk : Takes X E) (ha : PA X (e :: es) (TL X.K cl E ms)) (hk : PE X ke (T X.K cl E mk)) (hg : Gl X x := by rfl)
    (hall : (backToKw pos (keywordEach [⟨some kw, ke, kpos⟩] X.env)).all (·.1.isSome) = true := by rfl) (hks : (backToKw pos (keywordEach [⟨some kw, ke, kpos⟩] X.env)).filterMap (·.1) = [kw] := by rfl)
    (hdb : (x == ("__debug__" : Str)) = false := by decide) (he : starEach (e :: es) X.env = (false, eval e X.env) :: starEach es X.env := by rfl)
    (hpl : ((backTo pos (starEach (e :: es) X.env)).any (·.1) || (backToKw pos (keywordEach [⟨some kw, ke, kpos⟩] X.env)).any (·.1.isNone)) = false := by rfl) :
    PE X (.Call (.Name x p) (e :: es) [⟨some kw, ke, kpos⟩] pos) (T X.K cl E (mFnK n g ms mk)) := by
  obtain ⟨f, fd, ps, h1, h2, h3, h4, _⟩ := F
  refine pe_imp (pe_callNS (E := fun σ c d H' => E c d σ H') h1 rm hg h2 h3 h4 (fun σ => passAt tk σ) ha (pk_cons hk pk_nil) hall hks hdb he hpl) fun σ H Q ⟨W, ρ, S, hr, en, q⟩ => ?_
  unfold mFnK at q
  refine step hr en q fun W1 H1 vs ds S1 l1 r1 e1 rs p1 => ?_
  refine step r1 e1 p1 fun W2 H2 z dz S2 l2 r2 e2 rz p2 => ?_
  split at p2
  · rename_i hl
    refine ⟨by rw [rs.len]; exact hl, rfl, ⟨W2, S2, ds ++ [dz], r2, (rs.up l2).app (.cons rz .nil), p2⟩⟩
  · exact p2.elim
theorem t_callKd (F : FnK X.prog X.w X.K X.mg X.base cl x k n kw d g) (rm : Room k X.A) (tk : Takes X E) (ha : PA X (e :: es) (TL X.K cl E ms)) (hg : Gl X x := by rfl) (hdb : (x == ("__debug__" : Str)) = false := by decide)
    (he : starEach (e :: es) X.env = (false, eval e X.env) :: starEach es X.env := by rfl) (hpl : (backTo pos (starEach es X.env)).any (·.1) = false := by rfl) :
    PE X (.Call (.Name x p) (e :: es) [] pos) (T X.K cl E (mFnD n d g ms)) := by
  obtain ⟨f, fd, ps, h1, h2, h3, _, v, ds, h4, h5, h6⟩ := F
  refine pe_imp (pe_callSD (E := fun σ c d H' => E c d σ H') h1 rm hg h2 h3 h5 h4 (fun σ => passAt tk σ) ha hdb he hpl) fun σ H Q ⟨W, ρ, S, hr, en, q⟩ => ?_
  unfold mFnD at q
  exact step hr en q fun W1 H1 vs ds S1 l1 r1 e1 rs p1 => ⟨W1, S1, ds ++ [d], r1, rs.app (.cons (h6 W1) .nil), p1⟩
end
/-! ### {k1: f1, k2: f2, k3: f3}[i]() -/
def tabG (z : Str) : List (Str × (List D → Store → Res D)) → Store → Res D
  | [], _ => .stk
  | (k, g) :: r, S => if k = z then ar 0 g [] S else tabG z r S
def mTab (tab : List (Str × (List D → Store → Res D))) (mi : M D) : M D := fun ρ S => (mi ρ S).bind fun x S1 => match x with
  | .str z => tabG z tab S1
  | _ => .stk
section
variable {X : Cx} {cl : Str → Option Addr} {E : WX} {k : Nat} {x1 x2 x3 k1 k2 k3 : Str} {pos spos dpos p1 p2 p3 q1 q2 q3 : Pos} {n1 n2 n3 : Nat} {i : Expr} {mi : M D} {g1 g2 g3 : List D → Store → Res D}
theorem t_tab3 (F1 : Fn X.prog X.w X.K X.mg X.base cl x1 k 0 g1) (F2 : Fn X.prog X.w X.K X.mg X.base cl x2 k 0 g2) (F3 : Fn X.prog X.w X.K X.mg X.base cl x3 k 0 g3) (rm : Room k X.A) (tk : Takes X E) (hi : PE X i (T X.K cl E mi))
    (hs : NoSl i := by exact fun _ _ => rfl) (hg1 : Gl X x1 := by rfl) (hg2 : Gl X x2 := by rfl) (hg3 : Gl X x3 := by rfl) (d1 : (x1 == ("__debug__" : Str)) = false := by decide) (d2 : (x2 == ("__debug__" : Str)) = false := by decide) (d3 : (x3 == ("__debug__" : Str)) = false := by decide)
    (h12 : k1 ≠ k2 := by decide) (h13 : k1 ≠ k3 := by decide) (h23 : k2 ≠ k3 := by decide) :
    PE X (.Call (.Subscript (.Dict [some (.Constant (.str k1) n1 p1), some (.Constant (.str k2) n2 p2), some (.Constant (.str k3) n3 p3)] [.Name x1 q1, .Name x2 q2, .Name x3 q3] dpos) i spos) [] [] pos) (T X.K cl E (mTab [(k1, g1), (k2, g2), (k3, g3)] mi)) := by
  obtain ⟨f1, fd1, ps1, a1, b1, c1, e1⟩ := F1.ex
  obtain ⟨f2, fd2, ps2, a2, b2, c2, e2⟩ := F2.ex
  obtain ⟨f3, fd3, ps3, a3, b3, c3, e3⟩ := F3.ex
  have hu : X.A.units + 1 < cLine := by have := rm.un; omega
  have hD := pe_dget (pos := spos) hu (pe_disp (pos := dpos) (pps_cons (pe_str (x := k1) (j := n1) (pos := p1)) (pe_glob (v := .ref f1) (pos := q1) hg1 b1 rfl d1) (pps_cons (pe_str (x := k2) (j := n2) (pos := p2)) (pe_glob (v := .ref f2) (pos := q2) hg2 b2 rfl d2) (pps_cons (pe_str (x := k3) (j := n3) (pos := p3)) (pe_glob (v := .ref f3) (pos := q3) hg3 b3 rfl d3) pps_nil))) rfl rfl (fun h => nomatch h) (show 3 ≤ 15 by decide)) hi hs
  refine ⟨fun pins s σ H Q I ⟨W, ρ, S, hr, en, q⟩ => ?_⟩
  show wpAny _ _ (eval (.Subscript _ i spos) X.env >>= fun v => callWith pos v [] (backTo pos (starEach [] X.env)) (backToKw pos (keywordEach [] X.env))) _ _ _
  refine wpAny_bind (thn (hD.run pins s σ H (fun v H' => (v = .ref f1 ∧ spOf X.K cl 0 g1 [] H' Q (fun c d H' => E c d σ H')) ∨ (v = .ref f2 ∧ spOf X.K cl 0 g2 [] H' Q (fun c d H' => E c d σ H')) ∨ (v = .ref f3 ∧ spOf X.K cl 0 g3 [] H' Q (fun c d H' => E c d σ H'))) I ?_) fun u s1 ⟨v, H1, I1, rv, q1⟩ => ?_)
  · intro p hp
    have np : W.P p = none := by
      cases e : W.P p with
      | none => rfl
      | some u => rw [(hr.priv p u e).1] at hp; cases hp
    refine ⟨upd_same, [(.inr k1, .ref f1), (.inr k2, .ref f2), (.inr k3, .ref f3)], rfl, show 3 ≤ 15 by decide, ?_⟩
    rw [upd_twice]
    have em : mergeK [] [((.inr k1 : Key), V.ref f1), (.inr k2, .ref f2), (.inr k3, .ref f3)] = [(.inr k1, .ref f1), (.inr k2, .ref f2), (.inr k3, .ref f3)] := by
      simp [mergeK, putK, h12, h13, h23]
    rw [em]
    have r1 := hr.hide (o := .dK [(.inr k1, .ref f1), (.inr k2, .ref f2), (.inr k3, .ref f3)]) hp
    refine ⟨W.hid p _, ρ, S, r1, en.ups Ls.hid, ?_⟩
    unfold mTab at q
    cases ei : mi ρ S with
    | stk => rw [ei] at q; exact q.elim
    | exc y S1 =>
      rw [ei] at q
      intro W1 H1 c dd l1 r1 rx
      have eP : W1.P = upd W.P p _ := l1.p
      have le : Le W (W1.out W.P) := ⟨l1.g, l1.i, l1.n, rfl⟩
      have eW : W1 = (W1.out W.P).hid p (.dK [(.inr k1, .ref f1), (.inr k2, .ref f2), (.inr k3, .ref f3)]) := by
        cases W1
        simp only [Wd.out, Wd.hid] at eP ⊢
        rw [eP]
      have r2 := r1
      rw [eW] at r2
      obtain ⟨r3, _⟩ := r2.unhide np
      refine q (W1.out W.P) H1 c dd le r3 ?_
      obtain ⟨C, z1, z2, z3⟩ := rx
      refine ⟨C, z1, z2, ?_⟩
      rcases z3 with z3 | ⟨a, vs, z3, z4, zn, z5⟩
      · exact .inl z3
      · exact .inr ⟨a, vs, z3, z4, zn, z5.ups Ls.out⟩
    | ok x S1 =>
      rw [ei] at q
      intro W1 H1 v l1 r1 rv
      have eP : W1.P = upd W.P p _ := l1.p
      have le : Le W (W1.out W.P) := ⟨l1.g, l1.i, l1.n, rfl⟩
      have eW : W1 = (W1.out W.P).hid p (.dK [(.inr k1, .ref f1), (.inr k2, .ref f2), (.inr k3, .ref f3)]) := by
        cases W1
        simp only [Wd.out, Wd.hid] at eP ⊢
        rw [eP]
      have r2 := r1
      rw [eW] at r2
      obtain ⟨r3, hD3, _⟩ := r2.unhide np
      dsimp only [Res.bind] at q
      split at q
      · rename_i z
        cases rv
        unfold tabG at q
        split at q
        · rename_i ez
          subst ez
          exact ⟨p, .ref f1, rfl, .inl ⟨_, .inr k1, .inl hD3, rfl, by simp [valV]⟩, .inl ⟨rfl, W1.out W.P, S1, [], r3, .nil, Post.up le q⟩⟩
        · rename_i n1
          unfold tabG at q
          split at q
          · rename_i ez
            subst ez
            exact ⟨p, .ref f2, rfl, .inl ⟨_, .inr k2, .inl hD3, rfl, by simp [valV, List.find?_cons, h12]⟩, .inr (.inl ⟨rfl, W1.out W.P, S1, [], r3, .nil, Post.up le q⟩)⟩
          · rename_i n2
            unfold tabG at q
            split at q
            · rename_i ez
              subst ez
              exact ⟨p, .ref f3, rfl, .inl ⟨_, .inr k3, .inl hD3, rfl, by simp [valV, List.find?_cons, h13, h23]⟩, .inr (.inr ⟨rfl, W1.out W.P, S1, [], r3, .nil, Post.up le q⟩)⟩
            · exact q.elim
      · exact q.elim
  · rcases q1 with ⟨rfl, hsp⟩ | ⟨rfl, hsp⟩ | ⟨rfl, hsp⟩
    · obtain rfl : u = Value.ref f1 := rv
      refine PySem.W.callWith_K0 I1.kIn c1 ?_
      exact run_fnS (us := []) (vs := []) a1 rm e1 (passAt tk σ) I1 .nil hsp
    · obtain rfl : u = Value.ref f2 := rv
      refine PySem.W.callWith_K0 I1.kIn c2 ?_
      exact run_fnS (us := []) (vs := []) a2 rm e2 (passAt tk σ) I1 .nil hsp
    · obtain rfl : u = Value.ref f3 := rv
      refine PySem.W.callWith_K0 I1.kIn c3 ?_
      exact run_fnS (us := []) (vs := []) a3 rm e3 (passAt tk σ) I1 .nil hsp
end
end G
namespace G
open PySem L2
section
variable {X : Cx} {cl : Str → Option Addr} {E : WX} {k n : Nat} {op : Operator} {pos : Pos} {a b : Expr} {ma mb : M D} {c m : Str} {g : List D → Store → Res D}
theorem t_bin' (Gm : MFn X.prog X.w X.K X.mg X.base cl c m k 2 g) (hC : ∀ C, cl c = some C → PySem.W.selfFirst X.K C = true) (rm : Room k X.A) (tk : Takes X E) (ha : PE X a (T X.K cl E ma)) (hb : PE X b (T X.K cl E mb)) (hm : PySem.dunder op.info.2 = m := by rfl) :
    PE X (.BinOp a op b pos) (T X.K cl E (mBin c g ma mb)) := by
  subst hm
  exact t_bin Gm hC rm tk ha hb
end
/-! keyword-only parameters: the def's facts -/
section
variable {P : Program} {w : World} {K : PySem.W.Frag} {mg : Str → Option Value} {base : Heap} {cl : Str → Option Addr} {x qual kw : Str} {st : Stmt} {f : Addr} {fd : FuncData} {ps : List Str} {k n : Nat} {v : V} {d : D} {g : List D → Store → Res D}
theorem funD_fun {kws : List (Str × V)} (F : FunD K x qual (defArgs st) (defBody st) (defScope st) [] kws f fd) : Fun K x qual st f fd := by
  obtain ⟨⟨oc, od, dV, kV, doc, pm, an, cdv, ct, osl, e1, e2, e3, e4, e5⟩, kp⟩ := F
  rcases e4 with ⟨_, rfl⟩ | ⟨h, _⟩
  · exact ⟨⟨oc, od, kV, doc, pm, an, cdv, ct, osl, e1, e2, e3⟩, kp⟩
  · exact absurd rfl h
theorem fnK_mk (F : FunD K x qual (defArgs st) (defBody st) (defScope st) [] [(kw, v)] f fd) (ok : FnOk P w K mg base (L2.CX P w) k f fd ps (spOf K cl (n + 1) g)) (hm : mg x = some (.ref f)) (hn : n + 1 = ps.length) (hd : ∀ W, Rep K cl W v d)
    (h1 : ∀ (kV doc pm : Value) (an : Option Addr) (cdv ct : Value) (us ws : List Value), us.length = n → ws.length = 1 → bindArgs (PySem.W.fnOf x qual (defArgs st) (defBody st) (defScope st) .none kV doc pm an cdv ct) ⟨us, [kw].zip ws⟩ = pure (ps.zip (us ++ ws)))
    (h2 : ∀ (D : Addr) (doc pm : Value) (an : Option Addr) (cdv ct : Value) (us ks : List Value), us.length = n → ks.length = 1 →
      KwChain D ([kw].zip ks) (bindArgs (PySem.W.fnOf x qual (defArgs st) (defBody st) (defScope st) .none (.ref D) doc pm an cdv ct) ⟨us, []⟩) (ps.zip (us ++ ks))) :
    FnK P w K mg base cl x k n kw d g := by
  obtain ⟨ds, q1, q2⟩ := F.binds0 n (by simp) (by simpa using hn) h2
  refine ⟨f, fd, ps, ok, hm, F.kp, ⟨fun s us ws X l1 l2 => ?_, fun r1 r2 => r1.append r2⟩, v, ds, q1, q2, hd⟩
  obtain ⟨⟨oc, od, dV, kV, doc, pm, an, cdv, ct, osl, rfl, e2, e3, e4, e5⟩, kp⟩ := F
  rcases e4 with ⟨_, rfl⟩ | ⟨h, _⟩
  · exact .of_eq (h1 kV doc pm an cdv ct us ws l1 l2)
  · exact absurd rfl h
theorem funD_mk {oc : Value} {od an : Option Addr} {D : Addr} {doc pm cdv ct u : Value} {osl : Array (Option Value)} (lk : K.lookup f = some ⟨oc, od, .func (PySem.W.fnOf x qual (defArgs st) (defBody st) (defScope st) .none (.ref D) doc pm an cdv ct), osl⟩) (hc : PySem.W.codeIn K cdv qual = true) (kp : PySem.W.keepIn K (.ref f) = true)
    (hk : PySem.W.nsIn K D kw = some (some u)) (hv : RelV v u) : FunD K x qual (defArgs st) (defBody st) (defScope st) [] [(kw, v)] f (PySem.W.fnOf x qual (defArgs st) (defBody st) (defScope st) .none (.ref D) doc pm an cdv ct) :=
  ⟨⟨oc, od, .none, .ref D, doc, pm, an, cdv, ct, osl, rfl, lk, hc, .inl ⟨rfl, rfl⟩, .inr ⟨D, rfl, fun q hq => by rw [List.mem_singleton.mp hq]; exact ⟨u, hk, hv⟩⟩⟩, kp⟩
end
/-! ### max(a, b) -/
def max2D (as : List D) (S : Store) : Res D := match as with
  | [.int i, .int j] => .ok (.int (if j > i then j else i)) S
  | _ => .stk
theorem max2_s {K : PySem.W.Frag} {cl : Str → Option Addr} : FnS K cl (fun xs H Q => ∃ i j, xs = [.int i, .int j] ∧ Q (.int (if j > i then j else i)) H) max2D := by
  intro W H S x a Q E r rx p
  unfold max2D at p
  split at p
  · cases rx with | cons h1 rx =>
    cases rx with | cons h2 rx =>
    cases rx
    cases h1
    cases h2
    exact ⟨_, _, rfl, p.now r (.int _)⟩
  · exact p.elim
end G
namespace G
open PySem L2
/-! ### a live list or instance is frozen -/
def frzI (d : D) (S : Store) : Res D := match d with
  | .ref n => (match S[n]? with
    | some (.ins c fs) => .ok (.ins c fs) (S.set n .dead)
    | some (.lst xs) => .ok (.lst xs) (S.set n .dead)
    | _ => .stk)
  | _ => .stk
section
variable {X : Cx} {cl : Str → Option Addr} {E : WX} {o : Expr} {m : M D}
theorem t_frzI (he : PE X o (T X.K cl E m)) : PE X o (T X.K cl E (mUn frzI m)) :=
  pe_imp he fun σ H Q ⟨W, ρ, S, hr, en, q⟩ => step hr en q fun W1 H1 v d S1 l1 r1 e1 rv p1 => by
    unfold frzI at p1
    split at p1
    · rename_i n
      split at p1
      · rename_i c fs ek
        cases rv with | ref hn =>
        obtain ⟨W2, l2, r2, rv2⟩ := r1.freezeI ek
        exact p1 W2 _ _ l2 r2 rv2
      · rename_i xs ek
        cases rv with | ref hn =>
        obtain ⟨W2, l2, r2, rv2⟩ := r1.freeze ek
        exact p1 W2 _ _ l2 r2 rv2
      · exact p1.elim
    · exact p1.elim
end
/-! ### running -/
section
variable {ρ : Sl} {S : Store} {n k : Nat} {c m : Str} {fs : List (Str × D)} {ds xs : List D} {x y d : D} {tb : MT} {cs : List Str} {f : Str}
def rFrz (o : Option MO) (n : Nat) (S : Store) : Res D := match o with
  | some (.ins c fs) => .ok (.ins c fs) (sp S n .dead)
  | some (.lst xs) => .ok (.lst xs) (sp S n .dead)
  | _ => .stk
@[simp] theorem frzI_ref : frzI (.ref n) S = rFrz (sg S n) n S := nrfl rfl
@[simp] theorem rFrz_ins : rFrz (some (.ins c fs)) n S = .ok (.ins c fs) (sp S n .dead) := nrfl rfl
@[simp] theorem rFrz_lst : rFrz (some (.lst xs)) n S = .ok (.lst xs) (sp S n .dead) := nrfl rfl
@[simp] theorem e_methI {a : M (List D)} : kMeth ρ tb m n a (.ins c fs) S = rM3 ρ n a (.ins c fs) S (fs.lookup m) (tb.lookup c) := nrfl rfl
@[simp] theorem fldD_ins : fldD cs f (.ins c fs) S = if c ∈ cs then ofO (fs.lookup f) S else .stk := nrfl rfl
def kB2 (c : Str) (g : List D → Store → Res D) (x y : D) (S : Store) (o1 o2 : Option (Str × List (Str × D))) : Res D := match o1, o2 with
  | some (c1, _), some (c2, _) => if c1 = c ∧ c2 = c then ar 2 g [x, y] S else .stk
  | _, _ => .stk
def kB1 (c : Str) (g : List D → Store → Res D) (x y : D) (S : Store) : Res D := kB2 c g x y S (insO S x) (insO S y)
def kB0 (ρ : Sl) (c : Str) (g : List D → Store → Res D) (mb : M D) (x : D) (S : Store) : Res D := (mb ρ S).bind (kB1 c g x)
@[simp] theorem e_bin {g : List D → Store → Res D} {ma mb : M D} : mBin c g ma mb ρ S = (ma ρ S).bind (kB0 ρ c g mb) := nrfl rfl
@[simp] theorem e_bin0 {g : List D → Store → Res D} {mb : M D} : kB0 ρ c g mb x S = (mb ρ S).bind (kB1 c g x) := nrfl rfl
@[simp] theorem e_bin1 {g : List D → Store → Res D} {f1 f2 : List (Str × D)} : kB1 c g (.ins c f1) (.ins c f2) S = ar 2 g [.ins c f1, .ins c f2] S := by
  unfold kB1 kB2 insO
  dsimp only
  rw [if_pos ⟨rfl, rfl⟩]
def kV1 (c : Str) (g : List D → Store → Res D) (x : D) (S : Store) (o1 : Option (Str × List (Str × D))) : Res D := match o1 with
  | some (c1, _) => if c1 = c then ar 1 g [x] S else .stk
  | none => .stk
def kV0 (c : Str) (g : List D → Store → Res D) (x : D) (S : Store) : Res D := kV1 c g x S (insO S x)
@[simp] theorem e_inv {g : List D → Store → Res D} {ma : M D} : mInv c g ma ρ S = (ma ρ S).bind (kV0 c g) := nrfl rfl
@[simp] theorem e_inv1 {g : List D → Store → Res D} {f1 : List (Str × D)} : kV0 c g (.ins c f1) S = ar 1 g [.ins c f1] S := by
  unfold kV0 kV1 insO
  dsimp only
  rw [if_pos rfl]
@[simp] theorem isC_ins {tab : List (Str × Bool)} : isCD tab (.ins c fs) S = ofO ((tab.lookup c).map D.bl) S := by
  unfold isCD insO
  dsimp only
  cases tab.lookup c <;> rfl
theorem isC_kd {tab : List (Str × Bool)} {q : Kd} (h : kd S d = some q) : isCD tab d S = .ok (.bl false) S := by
  have hi : insO S d = none := by
    unfold kd at h
    unfold insO
    split at h <;> first | rfl | cases h | skip
    rename_i n
    dsimp only
    cases e : S[n]? with
    | none => rfl
    | some mo =>
      rw [e] at h
      cases mo <;> first | rfl | (exfalso; cases h; done)
  unfold isCD
  rw [hi, h]
def kK1 (n : Nat) (g : List D → Store → Res D) (ys : List D) (z : D) (S : Store) : Res D := if ys.length = n then ar (n + 1) g (ys ++ [z]) S else .stk
def kK0 (ρ : Sl) (n : Nat) (g : List D → Store → Res D) (mk : M D) (ys : List D) (S : Store) : Res D := (mk ρ S).bind (kK1 n g ys)
@[simp] theorem e_fnK {g : List D → Store → Res D} {ms : M (List D)} {mk : M D} : mFnK n g ms mk ρ S = (ms ρ S).bind (kK0 ρ n g mk) := nrfl rfl
@[simp] theorem e_fnK0 {g : List D → Store → Res D} {mk : M D} : kK0 ρ n g mk ds S = (mk ρ S).bind (kK1 n g ds) := nrfl rfl
@[simp] theorem e_fnK1 {g : List D → Store → Res D} : kK1 n g ds x S = if ds.length = n then ar (n + 1) g (ds ++ [x]) S else .stk := nrfl rfl
def kD0 (n : Nat) (d : D) (g : List D → Store → Res D) (ys : List D) (S : Store) : Res D := ar (n + 1) g (ys ++ [d]) S
@[simp] theorem e_fnD {g : List D → Store → Res D} {ms : M (List D)} : mFnD n d g ms ρ S = (ms ρ S).bind (kD0 n d g) := nrfl rfl
@[simp] theorem e_fnD0 {g : List D → Store → Res D} : kD0 n d g ds S = ar (n + 1) g (ds ++ [d]) S := nrfl rfl
def kT0 (tab : List (Str × (List D → Store → Res D))) (x : D) (S : Store) : Res D := match x with
  | .str z => tabG z tab S
  | _ => .stk
@[simp] theorem e_tab {tab : List (Str × (List D → Store → Res D))} {mi : M D} : mTab tab mi ρ S = (mi ρ S).bind (kT0 tab) := nrfl rfl
@[simp] theorem e_tab0 {tab : List (Str × (List D → Store → Res D))} {z : Str} : kT0 tab (.str z) S = tabG z tab S := nrfl rfl
@[simp] theorem e_tabG {z k : Str} {g : List D → Store → Res D} {r : List (Str × (List D → Store → Res D))} : tabG z ((k, g) :: r) S = if k = z then ar 0 g [] S else tabG z r S := nrfl rfl
noncomputable def kC2 (ρ : Sl) (p : Pt) (t : M Bool) (mi1 : M Itb) (p1 : Pt) (t1 : M Bool) (e : M D) (vs vs1 : List Nat) (mk : List D → Store → Res D) (it : Itb) (S : Store) : Res D := (compL2 it p t mi1 p1 t1 e vs1 (wipeD ρ vs) it.xs 0 S).bind mk
@[simp] theorem e_cmp2 {m : M Itb} {p : Pt} {t : M Bool} {mi1 : M Itb} {p1 : Pt} {t1 : M Bool} {e : M D} {vs vs1 : List Nat} {mk : List D → Store → Res D} : mComp2 m p t mi1 p1 t1 e vs vs1 mk ρ S = (m ρ S).bind (kC2 ρ p t mi1 p1 t1 e vs vs1 mk) := nrfl rfl
@[simp] theorem e_cmp2' {p : Pt} {t : M Bool} {mi1 : M Itb} {p1 : Pt} {t1 : M Bool} {e : M D} {vs vs1 : List Nat} {mk : List D → Store → Res D} {it : Itb} : kC2 ρ p t mi1 p1 t1 e vs vs1 mk it S = (compL2 it p t mi1 p1 t1 e vs1 (wipeD ρ vs) it.xs 0 S).bind mk := nrfl rfl
noncomputable def kDC (ρ : Sl) (p : Pt) (t : M Bool) (ek ev : M D) (vs : List Nat) (mk : List (Key × D) → Store → Res D) (it : Itb) (S : Store) : Res D := (dcL it p t ek ev (wipeD ρ vs) it.xs [] S).bind mk
@[simp] theorem e_dc {m : M Itb} {p : Pt} {t : M Bool} {ek ev : M D} {vs : List Nat} {mk : List (Key × D) → Store → Res D} : mDComp m p t ek ev vs mk ρ S = (m ρ S).bind (kDC ρ p t ek ev vs mk) := nrfl rfl
@[simp] theorem e_dc' {p : Pt} {t : M Bool} {ek ev : M D} {vs : List Nat} {mk : List (Key × D) → Store → Res D} {it : Itb} : kDC ρ p t ek ev vs mk it S = (dcL it p t ek ev (wipeD ρ vs) it.xs [] S).bind mk := nrfl rfl
end
end G
namespace PySem
set_option maxHeartbeats 1000000 in
theorem meets_enumerate_new1 {v : Value} {o : Obj} {H : Heap → Prop} (B : Begins v o H) :
    Meets (Builtin.«enumerate.__new__» ⟨[.type "enumerate", v], []⟩) (fun _ R s => H s.heap ∧
      R (.ok (.ret (.ref (s.heap.push o).objs.size))) { s with heap := (s.heap.push o).push { cls := .type "enumerate", data := .fields #[.none, .bool false, .ref s.heap.objs.size, rawInt 0, .none, .none] } }) :=
  .of_wp fun prog w A R s h => by
    obtain ⟨hp, g, d, tk, os⟩ := s; obtain ⟨h1, h⟩ := h
    have hsub := sub_enumerate
    have q1 : ∀ {A' : Around} {E : Value → Shared → Prop} {Q : Value → Shared → Prop}, Q (.ref hp.objs.size) ⟨hp.push o, g, d, tk, os⟩ → wpAny (model prog w) A' (pyIter v) Q E ⟨hp, g, d, tk, os⟩ :=
      fun q => B.iter prog w _ _ ⟨hp, g, d, tk, os⟩ _ h1 q
    wp_walk using q1
    refine wpAny_stack_any fun st => wpAny_pure ?_
    split
    · rename_i c _ _ _ _ _
      cases (c == Value.type "enumerate")
      · wp_walk using q1
        exact ⟨_, rfl, h⟩
      · wp_walk using q1
        exact ⟨_, rfl, h⟩
    · wp_walk using q1
      exact ⟨_, rfl, h⟩
section
variable {prog : Program} {w : World} {A : Around} {E : Value → Shared → Prop} {s : Shared}
theorem enum_begins1 {v : Value} {o : Obj} {H : Heap → Prop} {Q : Value → Shared → Prop} (B : Begins v o H) (h1 : H s.heap)
    (h : ∀ h', IsEnum h' (s.heap.objs.size + 1) s.heap.objs.size 0 .none → h'.get? s.heap.objs.size = some o → h'.objs.size = s.heap.objs.size + 2 →
      (∀ b o, s.heap.get? b = some o → h'.get? b = some o) → Q (.ref (s.heap.objs.size + 1)) { s with heap := h' }) :
    wpAny (model prog w) A (call (.type "enumerate") [v]) Q E s := by
  refine callType_new F.called_enumerate (by decide) (F.typeCall_enumerate_1 _) (F.newCall_enumerate_1 _) (fun obj => F.args_object_init_2 obj _) F.entry_enumerate_new
    (meets_enumerate_new1 B) ⟨h1, ?_⟩
  have hz : (s.heap.push o).objs.size = s.heap.objs.size + 1 := Heap.size_push ..
  show _ ∧ _
  rw [hz]
  have he : IsEnum ((s.heap.push o).push { cls := .type "enumerate", data := .fields #[.none, .bool false, .ref s.heap.objs.size, rawInt 0, .none, .none] }) (s.heap.objs.size + 1) s.heap.objs.size 0 .none := by
    have := Heap.get?_push_size (s.heap.push o) (o := { cls := .type "enumerate", data := .fields #[.none, .bool false, .ref s.heap.objs.size, rawInt 0, .none, .none] }) rfl
    rw [hz] at this; exact this
  refine ⟨⟨_, he, rfl⟩, h _ he (Heap.get?_push_of_some _ (Heap.get?_push_size _ B.free)) (by rw [Heap.size_push, hz]) fun b o x => Heap.get?_push_of_some _ (Heap.get?_push_of_some _ x)⟩
end
end PySem
namespace G
open PySem L2
/-! ### enumerate of lists and tuples -/
def tnE (k : Bool) (e it a : Addr) (i : Nat) (h : Heap) : Prop := (∃ old, IsEnum h e it (0 + (i : Int)) old) ∧ ItK k h it a i
theorem turn_enumK {P : Program} {w : World} {K : PySem.W.Frag} {elts : List Expr} {kk : Nat} {tpos : Pos} {k : Bool} {N : Nat} {a : Addr} {xs : List V} (ha : a < N) :
    Turn P w K (.Tuple elts kk tpos) (Jt xs.length (fun i => [.int i, xs[i]?.getD .non]) fun H => SqK k K H a xs) [N + 1, N] (N + 1) (tnE k (N + 1) N a) := by
  refine turn_of (by simp) (fun i h st q hq => ?_) (fun i h h' st kp => ?_) (fun i => by show 2 ≤ sizeLine; decide) (fun X pins σ H s hP hw hK hcm J sd fr => ?_) (fun A i s Q E st q => let ⟨⟨_, he⟩, _⟩ := st; wpAny_pyIter_enum he q)
  · obtain ⟨⟨old, hz⟩, h1⟩ := st
    simp only [List.mem_cons, List.not_mem_nil, or_false] at hq
    rcases hq with rfl | rfl
    · exact ⟨_, hz, fun v z => nomatch z⟩
    · exact itK_obj h1
  · obtain ⟨⟨old, hz⟩, h1⟩ := st
    exact ⟨⟨old, kp _ (by simp) _ hz⟩, itK_at h1 (kp _ (by simp))⟩
  · subst hP hw hK
    obtain ⟨u1, v1, q1, _⟩ := inv_K J sd
    have hh := J.ok.hd hcm
    have W := GoesN.enumFrom (prog := X.prog) (w := X.w) (A := X.A) (elts := elts) (x1 := kk) (pos := tpos) 0 (drawsK k (A := X.A.in1) hh N a (Nat.ne_of_lt ha) u1.toArray) (N + 1) (Nat.succ_ne_self _) (fun h => by
      simp only [List.mem_cons, List.not_mem_nil, or_false] at h
      rcases h with h | h
      · exact Nat.succ_ne_self _ h
      · exact absurd h (Nat.ne_of_gt (Nat.lt_succ_of_lt ha))) (by simp)
    have en : u1.toArray.size = xs.length := by simp [v1.length]
    rw [en] at W
    refine ⟨_, _, _, _, W, ?_, fun i st => ?_, fun i h' st => ?_, fun i h v h' hi hY => ?_⟩
    · intro q hq
      simpa using hq
    · obtain ⟨hz, h1⟩ := st
      exact ⟨hz, h1, q1⟩
    · obtain ⟨hz, h1⟩ := st
      exact ⟨hz, h1.1⟩
    · obtain ⟨t, tk, x, rfl, hn, hx, ht⟩ := hY
      have g1 : xs[i]? = some (xs[i]?.getD .non) := by rw [List.getElem?_eq_getElem (by omega : i < xs.length)]; rfl
      exact ⟨t, [.int (0 + (i : Int)) tk, x], rfl, hn, .cons ⟨tk, by rw [Int.zero_add]⟩ (.cons (vals_at v1 g1 hx) .nil), ht⟩
def iEn (K : PySem.W.Frag) (ta : TA) : TI := fun σ H R => ta σ H fun vs H1 => ∃ k a xs, vs = [.ref a] ∧ SqK k K H1 a xs ∧ R (Jt xs.length (fun i => [.int i, xs[i]?.getD .non]) fun H => SqK k K H a xs) H1
theorem pi_en {X : Cx} {e : Expr} {ta : TA} {p pos tpos : Pos} {elts : List Expr} {kk : Nat} (hg : Gl X "enumerate") (hm : X.mg "enumerate" = none) (ha : PA X [e] ta) (hs : starEach [e] X.env = [(false, eval e X.env)]) :
    PI X (.Tuple elts kk tpos) (.Call (.Name "enumerate" p) [e] [] pos) (iEn X.K ta) := by
  refine ⟨fun pins s σ H Q J h => ?_⟩
  refine PyProof.Rows.Call_ (ld_blt J hg hm PyProof.Rows.boot_enumerate (PyProof.Rows.callWith_type1 (thn (ha.run pos pins s σ H _ J h) fun us s1 ⟨vs, H1, J1, r1, q1⟩ => ?_) hs rfl))
  obtain ⟨k, a, xs, rfl, w1, q⟩ := q1
  cases r1 with | cons r r' =>
  cases r'; cases r
  obtain ⟨u1, v1, p1, t1⟩ := inv_K J1 w1
  refine enum_begins1 (beginsK k a u1.toArray) p1 fun h' hz o1 hsz hk => wpAny_pyIter_enum hz ?_
  have J2 : Inv X pins σ H1 { s1 with heap := h' } := J1.kept (t' := s1.toks) hk
  refine ⟨s1.heap.objs.size + 1, _, _, _, H1, rfl, J2, turn_enumK (N := s1.heap.objs.size) t1, ⟨⟨_, hz⟩, itK_new o1⟩, fp_ok J1 (fun q hq => ?_), q⟩
  simp only [List.mem_cons, List.not_mem_nil, or_false] at hq
  rcases hq with e | e <;> rw [e] <;> first | exact Nat.le_add_right _ _ | exact Nat.le_refl _
def enu1 (as : List D) (S : Store) : Res Itb := match as with
  | [a] => (match frzOf a with
    | some x => .ok ⟨(List.range x.length).map fun i : Nat => .tup [.int (i : Nat), x[i]?.getD .non], none⟩ S
    | none => .stk)
  | _ => .stk
section
variable {X : Cx} {cl : Str → Option Addr} {E : WX} {e : Expr} {ms : M (List D)} {p pos tpos : Pos} {elts : List Expr} {kk : Nat}
theorem i_enum (hm : X.mg "enumerate" = none) (ha : PA X [e] (TL X.K cl E ms)) (hg : Gl X "enumerate" := by rfl) (hs : starEach [e] X.env = [(false, eval e X.env)] := by rfl) :
    PI X (.Tuple elts kk tpos) (.Call (.Name "enumerate" p) [e] [] pos) (TIt X.K cl E (mRng enu1 ms)) :=
  pi_imp (pi_en hg hm ha hs) fun σ H Q ⟨W, ρ, S, hr, he, q⟩ => step hr he q fun W1 H1 x dx S1 l1 r1 e1 rx p1 => by
    unfold enu1 at p1
    split at p1
    · cases rx with | cons ra rn =>
      cases rn
      split at p1
      · rename_i x ea
        obtain ⟨k1, a, xs, rfl, s1, t1⟩ := frz_of ra ea
        refine ⟨k1, a, xs, rfl, sqK_up r1.sub s1, p1.now r1 ?_⟩
        rw [t1.len]
        exact its_row (fun W H S l r => sqK_up r.sub (sqK_up l.g s1)) fun i hi => .cons (.int _) (.cons (row_rep t1 (by omega)) .nil)
      · exact p1.elim
    · exact p1.elim
end
@[simp] theorem enu_lst {ds : List D} {S : Store} : enu1 [.lst ds] S = .ok ⟨(List.range ds.length).map fun i : Nat => .tup [.int (i : Nat), ds[i]?.getD .non], none⟩ S := nrfl rfl
@[simp] theorem enu_tup {ds : List D} {S : Store} : enu1 [.tup ds] S = .ok ⟨(List.range ds.length).map fun i : Nat => .tup [.int (i : Nat), ds[i]?.getD .non], none⟩ S := nrfl rfl
/-! ### isinstance(x, (A, B)) -/
def IsK2 (T1 T2 : String) (f : Kd → Bool) : Prop := ∀ k : Kd, ∃ b1 b2, kitB k.ty T1 = some b1 ∧ kitB k.ty T2 = some b2 ∧ f k = (b1 || b2)
theorem is_list_tuple : IsK2 "list" "tuple" k_list_tuple := fun k => ⟨k_list k, k_tuple k, is_list k, is_tuple k, by cases k <;> rfl⟩
section
variable {X : Cx} {cl : Str → Option Addr} {E : WX} {a : Expr} {m : M D} {p p1 p2 tp pos : Pos} {x1 x2 : Str} {T1 T2 : String} {f : Kd → Bool} {kk : Nat}
theorem t_isi2 (hk : IsK2 T1 T2 f) (hm : X.mg "isinstance" = none) (hm1 : X.mg x1 = none) (hv1 : bootBuiltins x1 = some (.type T1)) (hm2 : X.mg x2 = none) (hv2 : bootBuiltins x2 = some (.type T2)) (ha : PE X a (T X.K cl E m)) (hg : Gl X "isinstance" := by rfl) (hg1 : Gl X x1 := by rfl) (hg2 : Gl X x2 := by rfl)
    (hn1 : x1 ≠ "__name__" := by decide) (hn2 : x2 ≠ "__name__" := by decide) (hd1 : (x1 == ("__debug__" : Str)) = false := by decide) (hd2 : (x2 == ("__debug__" : Str)) = false := by decide)
    (hs2 : starEach [.Name x2 p2] X.env = (false, eval (.Name x2 p2) X.env) :: starEach [] X.env := by rfl) (hs1 : starEach [.Name x1 p1, .Name x2 p2] X.env = (false, eval (.Name x1 p1) X.env) :: starEach [.Name x2 p2] X.env := by rfl)
    (hs : starEach [.Tuple [.Name x1 p1, .Name x2 p2] kk tp] X.env = (false, eval (.Tuple [.Name x1 p1, .Name x2 p2] kk tp) X.env) :: starEach [] X.env := by rfl)
    (he : starEach [a, .Tuple [.Name x1 p1, .Name x2 p2] kk tp] X.env = (false, eval a X.env) :: starEach [.Tuple [.Name x1 p1, .Name x2 p2] kk tp] X.env := by rfl) (hpl : (backTo pos (starEach [.Tuple [.Name x1 p1, .Name x2 p2] kk tp] X.env)).any (·.1) = false := by rfl) :
    PE X (.Call (.Name "isinstance" p) [a, .Tuple [.Name x1 p1, .Name x2 p2] kk tp] [] pos) (T X.K cl E (mUn (isiD f) m)) :=
  pe_imp (pe_callB call_isiT hg hm bt_isinstance (pa_cons ha (pa_cons (pe_tup (pa_cons (pe_bltn (v := .ty T1) hg1 hm1 hv1 rfl hn1 hd1) (pa_cons (pe_bltn (v := .ty T2) hg2 hm2 hv2 rfl hn2 hd2) pa_nil hs2) hs1)) pa_nil hs) he) (by decide) (by decide) he hpl) fun σ H Q ⟨W, ρ, S, hr, en, q⟩ =>
    step hr en q fun W1 H1 v d S1 l1 r1 e1 rv p1 => by
      unfold isiD at p1
      cases e2 : kd S1 d with
      | none => rw [e2] at p1; exact p1.elim
      | some k =>
        rw [e2] at p1
        obtain ⟨b1, b2, q1, q2, q3⟩ := hk k
        refine ⟨show 2 ≤ sizeLine by decide, fun z hz => ⟨v, z, [.ty T1, .ty T2], .type k.ty, [.type T1, .type T2], f k, rfl, upd_same, .cons (.ty _) (.cons (.ty _) .nil), kd_of (r1.junk hz) rv e2, ?_, p1.now (r1.junk hz) (.bl _)⟩⟩
        refine kitAny_cons (kit_ty q1) (fun h => kitAny_cons (kit_ty q2) (r := f k) (fun h2 => ?_) fun h2 => ?_) fun h => ?_
        · rw [q3, h, h2]
          rfl
        · rw [q3, h2, Bool.or_true]
        · rw [q3, h, Bool.true_or]
end
end G
namespace G
open PySem L2
/-! ### a, b = a tuple or a list -/
def ptA (p : List D → Sl → Option Sl) : Pt := fun d ρ => match d with
  | .tup ds => p ds ρ
  | .lst ds => p ds ρ
  | _ => none
theorem g_any {X : Cx} {cl : Str → Option Addr} {es : List Expr} {pos : Pos} {k n : Nat} {a : List Nat} {ps : List D → Sl → Option Sl} (hc : X.calm = true) (h : PGs X es (Tps X.K cl a ps)) (hl : ∀ ds ρ ρ', ps ds ρ = some ρ' → ds.length = n)
    (hn : (assignEach es X.env).length = n := by rfl) (hst : (assignEach es X.env).findIdx? (·.1) = none := by rfl) : PG X (.Tuple es k pos) (Tp X.K cl a (ptA ps)) :=
  ⟨fun pins s σ H v u Q I r ⟨W, ρ, S, d, ρ', hr, he, rv, ep, q⟩ => by
    cases rv with
    | tup h1 t => exact (pg_tup hc h hn hst).run pins s σ H _ u Q I r ⟨_, _, rfl, sqT_up hr.sub h1, by rw [t.len]; exact hl _ _ _ ep, W, ρ, S, _, ρ', hr, he, t, ep, q⟩
    | lst h1 t => exact (pg_lst hc h hn hst).run pins s σ H _ u Q I r ⟨_, _, rfl, SqL.of (hr.sub _ _ h1), by rw [t.len]; exact hl _ _ _ ep, W, ρ, S, _, ρ', hr, he, t, ep, q⟩
    | _ => cases ep⟩
@[simp] theorem p_aT {p : List D → Sl → Option Sl} {ds : List D} {ρ : Sl} : ptA p (.tup ds) ρ = p ds ρ := nrfl rfl
@[simp] theorem p_aL {p : List D → Sl → Option Sl} {ds : List D} {ρ : Sl} : ptA p (.lst ds) ρ = p ds ρ := nrfl rfl
/-! ### pure comprehensions of two clauses, of dicts -/
theorem comp2_pure {α : Type} {it : Itb} {p : Pt} {t : M Bool} {mi1 : M Itb} {p1 : Pt} {t1 : M Bool} {e : M D} {vs1 : List Nat} {ρ : Sl} {S : Store} (hg : Grd it S) (g : α → D) (f : α → List D) : ∀ (xs : List α) (k : Nat),
    (∀ x ∈ xs, ∃ ρ1 it1, p (g x) ρ = some ρ1 ∧ t ρ1 S = .ok true S ∧ mi1 ρ1 S = .ok it1 S ∧ ∀ k, k + (f x).length ≤ sizeLine → compL it1 p1 t1 e (wipeD ρ1 vs1) it1.xs k S = .ok (f x) S) → k + (xs.map f).flatten.length ≤ sizeLine →
    compL2 it p t mi1 p1 t1 e vs1 ρ (xs.map g) k S = .ok (xs.map f).flatten S
  | [], k, _, _ => by
    rw [List.map_nil]
    unfold compL2
    rw [if_pos hg]
    rfl
  | x :: xs, k, h, hz => by
    obtain ⟨ρ1, it1, e1, e2, e3, e4⟩ := h x List.mem_cons_self
    rw [List.map_cons, List.flatten_cons, List.length_append] at hz
    have ih := comp2_pure hg g f xs (k + (f x).length) (fun y hy => h y (List.mem_cons_of_mem _ hy)) (by omega)
    rw [List.map_cons, List.map_cons, List.flatten_cons]
    unfold compL2
    rw [if_pos hg]
    simp only [e1, e2, e3, nox_ok, bind_ok, if_true]
    rw [e4 k (by omega)]
    simp only [bind_ok]
    rw [ih]
    rfl
theorem dc_pure {α : Type} {it : Itb} {p : Pt} {t : M Bool} {ek ev : M D} {ρ : Sl} {S : Store} (hg : Grd it S) (g : α → D) (kf : α → Key) (vf : α → D) : ∀ (xs : List α) (acc : List (Key × D)),
    (∀ x ∈ xs, ∃ ρ1 kd, p (g x) ρ = some ρ1 ∧ t ρ1 S = .ok true S ∧ ek ρ1 S = .ok kd S ∧ keyO kd = some (kf x) ∧ ev ρ1 S = .ok (vf x) S) → acc.length + xs.length < sizeLine →
    dcL it p t ek ev ρ (xs.map g) acc S = .ok (xs.foldl (fun a x => putKD a (kf x) (vf x)) acc) S
  | [], acc, _, _ => by
    rw [List.map_nil]
    unfold dcL
    rw [if_pos hg]
    rfl
  | x :: xs, acc, h, hz => by
    obtain ⟨ρ1, kd, e1, e2, e3, e4, e5⟩ := h x List.mem_cons_self
    rw [List.length_cons] at hz
    have lp : (putKD acc (kf x) (vf x)).length ≤ acc.length + 1 := by
      unfold putKD
      split <;> simp
    have ih := dc_pure hg g kf vf xs (putKD acc (kf x) (vf x)) (fun y hy => h y (List.mem_cons_of_mem _ hy)) (by omega)
    rw [List.map_cons, List.foldl_cons]
    unfold dcL
    rw [if_pos hg]
    simp only [e1, e2, e3, e5, nox_ok, bind_ok, if_true, e4]
    rw [if_pos (by omega)]
    exact ih
end G
namespace G
open PySem L2
/-! ### the loops of == and != over lists and tuples, each turn told by e -/
section
open PySem.SeqAt
open AutoSeq1 (wpAny_loadPart')
open MeetsSeq MeetsSeq2 MeetsSeq3 SeqRoads2
variable {prog : Program} {w : World} {A : Around} {R : Result → Shared → Prop}
def ListB (prog : Program) (w : World) (A : Around) (E : Value → Shared → Prop) (l b : Addr) (N : Nat) (e : Nat → Bool) (I : Shared → Prop) : Prop :=
  ∀ s, I s → ∃ (items items2 : Array Value) (n n2 : Nat), s.heap.get? l = some { cls := .type "list", data := .seq items n } ∧ s.heap.get? b = some { cls := .type "list", data := .seq items2 n2 } ∧ items.size = N ∧ items2.size = N ∧
    ∀ (i : Nat) (h1 : i < items.size) (h2 : i < items2.size), (∀ j, j < i → e j = true) → wpAny (model prog w) A.in1 (eqBool items[i] items2[i]) (fun r s' => r = e i ∧ I s') E s
theorem drop_cons_range {N i : Nat} (h : i < N) : (List.range N).drop i = i :: (List.range N).drop (i + 1) := by simp [List.drop_eq_getElem_cons, h]
theorem eq_loopB (l b : Addr) (N : Nat) (e : Nat → Bool) (I : Shared → Prop) (hl : ListB prog w A (fun e s' => R (.error e) s') l b N e I) (k : Nat) :
    ∀ i : Nat, N - i = k → i ≤ N → (∀ j, j < i → e j = true) → (∀ s, I s → R (.ok (.ret (.bool (((List.range N).drop i).all e)))) s) → ∀ s, I s →
      wpAny (model prog w) A.in1 (Builtin.«list.__eq__.loop» ⟨[.ref l, .ref b, rawInt i, rawInt 2], []⟩) (GQ.FinOf prog w A R) (fun e s' => R (.error e) s') s := by
  induction k with
  | zero =>
    intro i hk hi hp0 fin s h
    obtain ⟨items, items2, n, n2, hl1, hb1, hs1, hs2, _⟩ := hl _ h
    have hR := fin s h
    have hd : (List.range N).drop i = [] := by simp; omega
    rw [hd] at hR
    obtain ⟨hp, g, d, tk, os⟩ := s
    wp_walk using wpAny_loadPart' hl1, wpAny_loadPart' hb1
    have hi1 : items[((i : Nat) : Int).toNat]? = none := by simp; omega
    have hi2 : items2[((i : Nat) : Int).toNat]? = none := by simp; omega
    rw [hi1, hi2]
    wp_walk using wpAny_loadPart' hl1, wpAny_loadPart' hb1
    show R (.ok (.ret (.bool (items.size == items2.size)))) _
    rw [hs1, hs2]
    simpa using hR
  | succ k ih =>
    intro i hk hi hp0 fin s h
    obtain ⟨items, items2, n, n2, hl1, hb1, hs1, hs2, turn⟩ := hl _ h
    have hlt : i < items.size := by omega
    have hlt2 : i < items2.size := by omega
    have ht := turn i hlt hlt2 hp0
    obtain ⟨hp, g, d, tk, os⟩ := s
    wp_walk using wpAny_loadPart' hl1, wpAny_loadPart' hb1
    have hi1 : items[((i : Nat) : Int).toNat]? = some items[i] := by simp [hlt]
    have hi2 : items2[((i : Nat) : Int).toNat]? = some items2[i] := by simp [hlt2]
    have hc : ((i : Int) + 1) = ((i + 1 : Nat) : Int) := by omega
    rw [hi1, hi2]
    refine wpAny_bind (wpAny_mono ht (fun r s2 h2 => ?_) fun _ _ x => x)
    obtain ⟨hr, h2⟩ := h2
    subst hr
    rw [drop_cons_range (by omega : i < N), List.all_cons] at fin
    cases he : e i with
    | true =>
      rw [he] at fin
      have hrec := ih (i + 1) (by omega) (by omega) (fun j hj => by rcases Nat.lt_succ_iff_lt_or_eq.mp hj with q | q; exact hp0 j q; rw [q]; exact he) (by simpa using fin) s2 h2
      obtain ⟨hp2, g2, d2, tk2, os2⟩ := s2
      wp_walk
      rw [hc]
      exact ⟨plainId_quiet plain_eq_loop _, codeAny_builtin entry_eq_loop (by
        rw [Around.under_plainId plain_eq_loop _]
        exact hrec)⟩
    | false =>
      rw [he] at fin
      have hR := fin s2 h2
      obtain ⟨jt, jt2, m, m2, hl2, hb2, hz1, hz2, _⟩ := hl _ h2
      have hj1 : jt[((i : Nat) : Int).toNat]? = some (jt[i]'(by omega)) := by simp
      have hj2 : jt2[((i : Nat) : Int).toNat]? = some (jt2[i]'(by omega)) := by simp
      obtain ⟨hp2, g2, d2, tk2, os2⟩ := s2
      wp_walk using wpAny_loadPart' hl2, wpAny_loadPart' hb2
      rw [hj1, hj2]
      wp_walk
      simpa using hR
theorem list_eqB (l b : Addr) (N : Nat) (e : Nat → Bool) (I : Shared → Prop) (hl : ListB prog w A (fun e s' => R (.error e) s') l b N e I)
    (fin : ∀ s, I s → R (.ok (.ret (.bool ((List.range N).all e)))) s) {s : Shared} (h : I s) :
    wpAny (model prog w) A.in1 (Builtin.«list.__eq__» ⟨[.ref l, .ref b], []⟩) (GQ.FinOf prog w A R) (fun e s' => R (.error e) s') s := by
  obtain ⟨items, items2, n, n2, hl1, hb1, hs1, hs2, _⟩ := hl _ h
  have hrec := eq_loopB (A := A) (R := R) l b N e I hl _ 0 rfl (Nat.zero_le _) (fun j hj => absurd hj (Nat.not_lt_zero j)) (by simpa using fin) s h
  obtain ⟨hp, g, d, tk, os⟩ := s
  have f3 := AutoSeq1.sub_list_list
  have hne : ¬ (items.size != items2.size) = true := by simp [hs1, hs2]
  wp_walk using wpAny_loadPart' hl1, wpAny_loadPart' hb1
  exact ⟨plainId_quiet plain_eq_loop _, codeAny_builtin entry_eq_loop (by
    rw [Around.under_plainId plain_eq_loop _]
    exact hrec)⟩
theorem tuple_eqB (l b : Addr) (items items2 : Array Value) (n n2 : Nat) (dd dd2 : Option Addr) (sl sl2 : Array (Option Value)) (e : Nat → Bool) (I : Shared → Prop)
    (turn : ∀ i (h1 : i < items.size) (h2 : i < items2.size) s, (∀ j, j < i → e j = true) → I s → wpAny (model prog w) A.in1 (eqBool items[i] items2[i]) (fun r s' => r = e i ∧ I s') (fun e s' => R (.error e) s') s)
    (fin : ∀ s, I s → R (.ok (.ret (.bool (((List.range (min items.size items2.size)).all e && items.size == items2.size))))) s) {s : Shared} (hl1 : s.heap.get? l = some { cls := .type "tuple", dict := dd, data := .seq items n, slots := sl }) (hb1 : s.heap.get? b = some { cls := .type "tuple", dict := dd2, data := .seq items2 n2, slots := sl2 }) (h : I s) :
    wpAny (model prog w) A.in1 (Builtin.«tuple.__eq__» ⟨[.ref l, .ref b], []⟩) (GQ.FinOf prog w A R) (fun e s' => R (.error e) s') s := by
  have f2 := AutoSeq1.sub_tuple_tuple
  have hZ : (items.toList.zip items2.toList).length = min items.size items2.size := by simp
  have h0 := h
  obtain ⟨hp, g, d, tk, os⟩ := s
  wp_walk using wpAny_loadPart' hl1, wpAny_loadPart' hb1, wpAny_forIn_list _ (fun rest b s' => b.1 = none ∧ I s' ∧ ∃ i, rest = (items.toList.zip items2.toList).drop i ∧ (∀ j, j < i → e j = true) ∧
      ∀ s, I s → R (.ok (.ret (.bool ((((List.range (min items.size items2.size)).drop i).all e && items.size == items2.size))))) s) _
  case turn =>
    rintro ⟨y, x⟩ rest b s' ⟨hb', hI, i, hz, hp0, hR⟩
    have hlt : i < (items.toList.zip items2.toList).length := by
      rcases Nat.lt_or_ge i (items.toList.zip items2.toList).length with h' | h'
      · exact h'
      · rw [List.drop_of_length_le h'] at hz; cases hz
    have hm : i < min items.size items2.size := hZ ▸ hlt
    have h1 : i < items.size := Nat.lt_of_lt_of_le hm (Nat.min_le_left _ _)
    have h2 : i < items2.size := Nat.lt_of_lt_of_le hm (Nat.min_le_right _ _)
    rw [List.drop_eq_getElem_cons hlt] at hz
    injection hz with hyx hrest
    have hy : y = items[i] := by have := congrArg Prod.fst hyx; simpa using this
    have hx : x = items2[i] := by have := congrArg Prod.snd hyx; simpa using this
    subst hy hx
    rw [drop_cons_range hm, List.all_cons] at hR
    refine wpAny_bind (wpAny_mono (turn i h1 h2 s' hp0 hI) (fun r s2 q2 => ?_) fun _ _ x => x)
    obtain ⟨hr, q2⟩ := q2
    subst hr
    cases hy : e i with
    | true =>
      rw [hy] at hR
      wp_walk
      exact ⟨rfl, q2, i + 1, hrest, fun j hj => (by rcases Nat.lt_succ_iff_lt_or_eq.mp hj with q | q; exact hp0 j q; rw [q]; exact hy), by simpa using hR⟩
    | false =>
      rw [hy] at hR
      wp_walk
      have := hR s2 q2
      simpa using this
  case fin =>
    rintro ⟨b1, b2⟩ s' ⟨hb', hI, i, hz, hp0, hR⟩
    simp only at hb'
    subst hb'
    have hge : min items.size items2.size ≤ i := by
      rcases Nat.lt_or_ge i (items.toList.zip items2.toList).length with h' | h'
      · rw [List.drop_eq_getElem_cons h'] at hz; cases hz
      · exact hZ ▸ h'
    rw [List.drop_of_length_le (by simpa using hge)] at hR
    have := hR s' hI
    wp_walk
    simpa [Builtin.Tuple.tupleCompareSizes, bne] using this
  case h =>
    exact ⟨rfl, h0, 0, rfl, fun j hj => absurd hj (Nat.not_lt_zero j), by simpa using fin⟩
theorem rc_list_eqB {E : Value → Shared → Prop} {s : Shared} {l b : Addr} {N : Nat} {e : Nat → Bool} {Q : Value → Shared → Prop} (hu : A.units < cLine) (I : Shared → Prop) (hl : ListB prog w A E l b N e I)
    (fin : ∀ s, I s → Q (.bool ((List.range N).all e)) s) (h : I s) : wpAny (model prog w) A (richCompare .Eq (.ref l) (.ref b)) Q E s := by
  obtain ⟨items, items2, n, n2, hl1, hb1, _, _, _⟩ := hl _ h
  refine wpAny_richCompare_same_room (op := .Eq) ⟨_, hl1, rfl⟩ ⟨_, hb1, rfl⟩ F.slot_list_eq (GQ.call_here F.slot_list_eq ⟨_, hl1, rfl⟩ F.entry_list_eq (F.args_list_eq_2 _ _) ?_) hu
  exact list_eqB (R := wants (fun v s' => v ≠ .notImplemented ∧ Q v s') E) l b N e I hl (fun s' q => ⟨(fun x => nomatch x), fin s' q⟩) h
theorem rc_tup_eqB {E : Value → Shared → Prop} {s : Shared} {l b : Addr} {items items2 : Array Value} {e : Nat → Bool} {Q : Value → Shared → Prop} (hu : A.units < cLine) (I : Shared → Prop)
    (hl : s.heap.IsTuple l items) (hb : s.heap.IsTuple b items2)
    (turn : ∀ i (h1 : i < items.size) (h2 : i < items2.size) s, (∀ j, j < i → e j = true) → I s → wpAny (model prog w) A.in1 (eqBool items[i] items2[i]) (fun r s' => r = e i ∧ I s') E s)
    (fin : ∀ s, I s → Q (.bool (((List.range (min items.size items2.size)).all e && items.size == items2.size))) s) (h : I s) : wpAny (model prog w) A (richCompare .Eq (.ref l) (.ref b)) Q E s := by
  obtain ⟨⟨cls, dd, data, sl⟩, ho, hc, n, hd⟩ := id hl
  obtain ⟨⟨cls2, dd2, data2, sl2⟩, ho2, hc2, n2, hd2⟩ := id hb
  simp only at hc hd hc2 hd2
  subst hc hd hc2 hd2
  refine wpAny_richCompare_same_room (op := .Eq) ⟨_, ho, rfl⟩ ⟨_, ho2, rfl⟩ F.slot_tuple_eq (GQ.call_here F.slot_tuple_eq ⟨_, ho, rfl⟩ F.entry_tuple_eq (F.args_tuple_eq_2 _ _) ?_) hu
  exact tuple_eqB (R := wants (fun v s' => v ≠ .notImplemented ∧ Q v s') E) l b items items2 n n2 dd dd2 sl sl2 e I turn (fun s' q => ⟨(fun x => nomatch x), fin s' q⟩) ho ho2 h
theorem ne_loopB (l b : Addr) (N : Nat) (e : Nat → Bool) (I : Shared → Prop) (hl : ListB prog w A (fun e s' => R (.error e) s') l b N e I) (k : Nat) :
    ∀ i : Nat, N - i = k → i ≤ N → (∀ j, j < i → e j = true) → (∀ s, I s → R (.ok (.ret (.bool (!(((List.range N).drop i).all e))))) s) → ∀ s, I s →
      wpAny (model prog w) A.in1 (Builtin.«list.__eq__.loop» ⟨[.ref l, .ref b, rawInt i, rawInt 3], []⟩) (GQ.FinOf prog w A R) (fun e s' => R (.error e) s') s := by
  induction k with
  | zero =>
    intro i hk hi hp0 fin s h
    obtain ⟨items, items2, n, n2, hl1, hb1, hs1, hs2, _⟩ := hl _ h
    have hR := fin s h
    have hd : (List.range N).drop i = [] := by simp; omega
    rw [hd] at hR
    obtain ⟨hp, g, d, tk, os⟩ := s
    wp_walk using wpAny_loadPart' hl1, wpAny_loadPart' hb1
    have hi1 : items[((i : Nat) : Int).toNat]? = none := by simp; omega
    have hi2 : items2[((i : Nat) : Int).toNat]? = none := by simp; omega
    rw [hi1, hi2]
    wp_walk using wpAny_loadPart' hl1, wpAny_loadPart' hb1
    show R (.ok (.ret (.bool (items.size != items2.size)))) _
    rw [hs1, hs2]
    simpa using hR
  | succ k ih =>
    intro i hk hi hp0 fin s h
    obtain ⟨items, items2, n, n2, hl1, hb1, hs1, hs2, turn⟩ := hl _ h
    have hlt : i < items.size := by omega
    have hlt2 : i < items2.size := by omega
    have ht := turn i hlt hlt2 hp0
    obtain ⟨hp, g, d, tk, os⟩ := s
    wp_walk using wpAny_loadPart' hl1, wpAny_loadPart' hb1
    have hi1 : items[((i : Nat) : Int).toNat]? = some items[i] := by simp [hlt]
    have hi2 : items2[((i : Nat) : Int).toNat]? = some items2[i] := by simp [hlt2]
    have hc : ((i : Int) + 1) = ((i + 1 : Nat) : Int) := by omega
    rw [hi1, hi2]
    refine wpAny_bind (wpAny_mono ht (fun r s2 h2 => ?_) fun _ _ x => x)
    obtain ⟨hr, h2⟩ := h2
    subst hr
    rw [drop_cons_range (by omega : i < N), List.all_cons] at fin
    cases he : e i with
    | true =>
      rw [he] at fin
      have hrec := ih (i + 1) (by omega) (by omega) (fun j hj => by rcases Nat.lt_succ_iff_lt_or_eq.mp hj with q | q; exact hp0 j q; rw [q]; exact he) (by simpa using fin) s2 h2
      obtain ⟨hp2, g2, d2, tk2, os2⟩ := s2
      wp_walk
      rw [hc]
      exact ⟨plainId_quiet plain_eq_loop _, codeAny_builtin entry_eq_loop (by
        rw [Around.under_plainId plain_eq_loop _]
        exact hrec)⟩
    | false =>
      rw [he] at fin
      have hR := fin s2 h2
      obtain ⟨jt, jt2, m, m2, hl2, hb2, hz1, hz2, _⟩ := hl _ h2
      have hj1 : jt[((i : Nat) : Int).toNat]? = some (jt[i]'(by omega)) := by simp
      have hj2 : jt2[((i : Nat) : Int).toNat]? = some (jt2[i]'(by omega)) := by simp
      obtain ⟨hp2, g2, d2, tk2, os2⟩ := s2
      wp_walk using wpAny_loadPart' hl2, wpAny_loadPart' hb2
      rw [hj1, hj2]
      wp_walk
      simpa using hR
theorem list_neB (l b : Addr) (N : Nat) (e : Nat → Bool) (I : Shared → Prop) (hl : ListB prog w A (fun e s' => R (.error e) s') l b N e I)
    (fin : ∀ s, I s → R (.ok (.ret (.bool (!((List.range N).all e))))) s) {s : Shared} (h : I s) :
    wpAny (model prog w) A.in1 (Builtin.«list.__ne__» ⟨[.ref l, .ref b], []⟩) (GQ.FinOf prog w A R) (fun e s' => R (.error e) s') s := by
  obtain ⟨items, items2, n, n2, hl1, hb1, hs1, hs2, _⟩ := hl _ h
  have hrec := ne_loopB (A := A) (R := R) l b N e I hl _ 0 rfl (Nat.zero_le _) (fun j hj => absurd hj (Nat.not_lt_zero j)) (by simpa using fin) s h
  obtain ⟨hp, g, d, tk, os⟩ := s
  have f3 := AutoSeq1.sub_list_list
  have hne : ¬ (items.size != items2.size) = true := by simp [hs1, hs2]
  wp_walk using wpAny_loadPart' hl1, wpAny_loadPart' hb1
  exact ⟨plainId_quiet plain_eq_loop _, codeAny_builtin entry_eq_loop (by
    rw [Around.under_plainId plain_eq_loop _]
    exact hrec)⟩
theorem tuple_neB (l b : Addr) (items items2 : Array Value) (n n2 : Nat) (dd dd2 : Option Addr) (sl sl2 : Array (Option Value)) (e : Nat → Bool) (I : Shared → Prop)
    (turn : ∀ i (h1 : i < items.size) (h2 : i < items2.size) s, (∀ j, j < i → e j = true) → I s → wpAny (model prog w) A.in1 (eqBool items[i] items2[i]) (fun r s' => r = e i ∧ I s') (fun e s' => R (.error e) s') s)
    (fin : ∀ s, I s → R (.ok (.ret (.bool (!(((List.range (min items.size items2.size)).all e && items.size == items2.size)))))) s) {s : Shared} (hl1 : s.heap.get? l = some { cls := .type "tuple", dict := dd, data := .seq items n, slots := sl }) (hb1 : s.heap.get? b = some { cls := .type "tuple", dict := dd2, data := .seq items2 n2, slots := sl2 }) (h : I s) :
    wpAny (model prog w) A.in1 (Builtin.«tuple.__ne__» ⟨[.ref l, .ref b], []⟩) (GQ.FinOf prog w A R) (fun e s' => R (.error e) s') s := by
  have f2 := AutoSeq1.sub_tuple_tuple
  have hZ : (items.toList.zip items2.toList).length = min items.size items2.size := by simp
  have h0 := h
  obtain ⟨hp, g, d, tk, os⟩ := s
  wp_walk using wpAny_loadPart' hl1, wpAny_loadPart' hb1, wpAny_forIn_list _ (fun rest b s' => b.1 = none ∧ I s' ∧ ∃ i, rest = (items.toList.zip items2.toList).drop i ∧ (∀ j, j < i → e j = true) ∧
      ∀ s, I s → R (.ok (.ret (.bool (!((((List.range (min items.size items2.size)).drop i).all e && items.size == items2.size)))))) s) _
  case turn =>
    rintro ⟨y, x⟩ rest b s' ⟨hb', hI, i, hz, hp0, hR⟩
    have hlt : i < (items.toList.zip items2.toList).length := by
      rcases Nat.lt_or_ge i (items.toList.zip items2.toList).length with h' | h'
      · exact h'
      · rw [List.drop_of_length_le h'] at hz; cases hz
    have hm : i < min items.size items2.size := hZ ▸ hlt
    have h1 : i < items.size := Nat.lt_of_lt_of_le hm (Nat.min_le_left _ _)
    have h2 : i < items2.size := Nat.lt_of_lt_of_le hm (Nat.min_le_right _ _)
    rw [List.drop_eq_getElem_cons hlt] at hz
    injection hz with hyx hrest
    have hy : y = items[i] := by have := congrArg Prod.fst hyx; simpa using this
    have hx : x = items2[i] := by have := congrArg Prod.snd hyx; simpa using this
    subst hy hx
    rw [drop_cons_range hm, List.all_cons] at hR
    refine wpAny_bind (wpAny_mono (turn i h1 h2 s' hp0 hI) (fun r s2 q2 => ?_) fun _ _ x => x)
    obtain ⟨hr, q2⟩ := q2
    subst hr
    cases hy : e i with
    | true =>
      rw [hy] at hR
      wp_walk
      exact ⟨rfl, q2, i + 1, hrest, fun j hj => (by rcases Nat.lt_succ_iff_lt_or_eq.mp hj with q | q; exact hp0 j q; rw [q]; exact hy), by simpa using hR⟩
    | false =>
      rw [hy] at hR
      wp_walk
      have := hR s2 q2
      simpa using this
  case fin =>
    rintro ⟨b1, b2⟩ s' ⟨hb', hI, i, hz, hp0, hR⟩
    simp only at hb'
    subst hb'
    have hge : min items.size items2.size ≤ i := by
      rcases Nat.lt_or_ge i (items.toList.zip items2.toList).length with h' | h'
      · rw [List.drop_eq_getElem_cons h'] at hz; cases hz
      · exact hZ ▸ h'
    rw [List.drop_of_length_le (by simpa using hge)] at hR
    have := hR s' hI
    wp_walk
    simpa [Builtin.Tuple.tupleCompareSizes, bne] using this
  case h =>
    exact ⟨rfl, h0, 0, rfl, fun j hj => absurd hj (Nat.not_lt_zero j), by simpa using fin⟩
theorem rc_list_neB {E : Value → Shared → Prop} {s : Shared} {l b : Addr} {N : Nat} {e : Nat → Bool} {Q : Value → Shared → Prop} (hu : A.units < cLine) (I : Shared → Prop) (hl : ListB prog w A E l b N e I)
    (fin : ∀ s, I s → Q (.bool (!((List.range N).all e))) s) (h : I s) : wpAny (model prog w) A (richCompare .NotEq (.ref l) (.ref b)) Q E s := by
  obtain ⟨items, items2, n, n2, hl1, hb1, _, _, _⟩ := hl _ h
  refine wpAny_richCompare_same_room (op := .NotEq) ⟨_, hl1, rfl⟩ ⟨_, hb1, rfl⟩ F.slot_list_ne (GQ.call_here F.slot_list_ne ⟨_, hl1, rfl⟩ F.entry_list_ne (F.args_list_ne_2 _ _) ?_) hu
  exact list_neB (R := wants (fun v s' => v ≠ .notImplemented ∧ Q v s') E) l b N e I hl (fun s' q => ⟨(fun x => nomatch x), fin s' q⟩) h
theorem rc_tup_neB {E : Value → Shared → Prop} {s : Shared} {l b : Addr} {items items2 : Array Value} {e : Nat → Bool} {Q : Value → Shared → Prop} (hu : A.units < cLine) (I : Shared → Prop)
    (hl : s.heap.IsTuple l items) (hb : s.heap.IsTuple b items2)
    (turn : ∀ i (h1 : i < items.size) (h2 : i < items2.size) s, (∀ j, j < i → e j = true) → I s → wpAny (model prog w) A.in1 (eqBool items[i] items2[i]) (fun r s' => r = e i ∧ I s') E s)
    (fin : ∀ s, I s → Q (.bool (!(((List.range (min items.size items2.size)).all e && items.size == items2.size)))) s) (h : I s) : wpAny (model prog w) A (richCompare .NotEq (.ref l) (.ref b)) Q E s := by
  obtain ⟨⟨cls, dd, data, sl⟩, ho, hc, n, hd⟩ := id hl
  obtain ⟨⟨cls2, dd2, data2, sl2⟩, ho2, hc2, n2, hd2⟩ := id hb
  simp only at hc hd hc2 hd2
  subst hc hd hc2 hd2
  refine wpAny_richCompare_same_room (op := .NotEq) ⟨_, ho, rfl⟩ ⟨_, ho2, rfl⟩ F.slot_tuple_ne (GQ.call_here F.slot_tuple_ne ⟨_, ho, rfl⟩ F.entry_tuple_ne (F.args_tuple_ne_2 _ _) ?_) hu
  exact tuple_neB (R := wants (fun v s' => v ≠ .notImplemented ∧ Q v s') E) l b items items2 n n2 dd dd2 sl sl2 e I turn (fun s' q => ⟨(fun x => nomatch x), fin s' q⟩) ho ho2 h
end
/-! ### != of an instance by its own == -/
section
open Builtin PySem.W
variable {prog : Program} {w : World} {A : Around} {E : Value → Shared → Prop} {s : Shared} {K : Frag} {x C L f : Addr} {h₀ : Heap} {m : Str → Option Value} {ox : Obj} {od : Option Obj} {b tb : Value}
theorem ifBound_B {M : Model} {args : List Value} {name : Str} {id : String} {Q : Option Value → Shared → Prop} (X : K.In s.heap) (I : InstAt s.heap x ox C od) (hs : findIn K (.ref C) name = some (some (.builtin id)))
    (hb : ∀ self, bindSpecial (.builtin id) self = pure (.builtin id, [self]))
    (h : wpAny M A (call (.builtin id) (.ref x :: args)) (fun v => Q (some v)) E s) : wpAny M A (callSpecialIfBound? (.ref x) name args) Q E s := by
  simp only [callSpecialIfBound?, bindSpecialIfBound?]
  refine wpAny_holding (wpAny_bind (wpAny_bind (wpAny_bind (I.type.here ((looks_findIn X hs).here ?_)))))
  refine wpAny_bind (wpAny_askSetting (wpAny_ite ?_))
  have fin : wpAny M A (call (.builtin id) ([.ref x] ++ args) >>= fun v => pure (some v)) Q E s := wpAny_bind (wpAny_mono h (fun v s' h' => wpAny_pure h') fun _ _ h' => h')
  split
  · exact wpAny_bind ((Looks.of_pure (hb _)).here (wpAny_pure (by exact fin)))
  · exact wpAny_tryCatch (wpAny_bind ((Looks.of_pure (hb _)).here (wpAny_pure (by exact fin))))
theorem kne_obj {Q : Value → Shared → Prop} (hu : A.in1.units < cLine) (X : K.In s.heap) (I : InstAt s.heap x ox C od) (hm : mroIn K C (.type "object") = some true) (hs : findIn K (.ref C) "__eq__" = some (some (.ref f))) (hf : isFn K (.ref f) = true)
    (h : wpAny (model prog w) A.in1 (call (.ref f) [.ref x, b]) (fun v s' => ∃ r, v = .bool r ∧ Q (.bool (!r)) s') E s) : wpAny (model prog w) A (call (.builtin "object.__ne__") [.ref x, b]) Q E s := by
  refine wpAny_call (codeAny_call_builtin (by decide +kernel) F.cmpEntry_ne (check_slot (i := "object.__ne__") (owner := "object") (n := "__ne__") F.cmpKind_ne F.cmpSplit_ne (I.type.andThen (looks_mroIn X hm)) (F.cmpArgs_ne _ _) ?_))
  unfold Builtin.«object.__ne__»
  refine wpAny_bind (m := slotArgs "__ne__" 1 _) (wpAny_pure ?_)
  refine wpAny_bind (m := cRoomFor _ _) (wpAny_cRoomFor hu ?_)
  refine wpAny_bind (m := callSpecialIfBound? (.ref x) (Str.ofString "__eq__") _) (ifBound_K X I hs hf (wpAny_mono h (fun r s' hq => ?_) fun _ _ y => y))
  obtain ⟨r, rfl, q⟩ := hq
  exact wpAny_bind (m := truthy (.bool r)) (wpAny_truthy_bool (wpAny_pure q))
theorem ne_K {Q : Value → Shared → Prop} (hu : A.units + 1 < cLine) (F : PyProof.Rows.Fr h₀ L s.heap m) (X₀ : K.In h₀) (I : InstAt s.heap x ox C od) (hb : Looks (model prog w) s.heap (typeOf b) tb) (hn : notFirst K C tb = true)
    (hne : findIn K (.ref C) "__ne__" = some (some (.builtin "object.__ne__"))) (hm : mroIn K C (.type "object") = some true) (hs : findIn K (.ref C) "__eq__" = some (some (.ref f))) (hf : isFn K (.ref f) = true)
    (h : wpAny (model prog w) A.in1 (call (.ref f) [.ref x, b]) (fun v s' => ∃ r, v = .bool r ∧ Q (.bool (!r)) s') E s) : wpAny (model prog w) A (richCompare .NotEq (.ref x) b) Q E s := by
  have X := X₀.keeps F.keep
  have one : wpAny (model prog w) A (tryCompare (.ref x) (cmpInfo .NotEq).2.1 b) (fun r s' => ∃ v, r = some v ∧ Q v s') E s := by
    unfold tryCompare
    refine wpAny_bind (ifBound_B X I hne (fun self => PySem.F.cmp_object.ne.bind self) (kne_obj (by show A.units + 1 < _; exact hu) X I hm hs hf (wpAny_mono h (fun v s' hv => ?_) fun _ _ e => e)))
    obtain ⟨r, rfl, q⟩ := hv
    exact ⟨r, rfl, wpAny_pure ⟨_, rfl, q⟩⟩
  unfold richCompare
  simp only [oneThing_ref]
  refine wpAny_holding (wpAny_bind (wpAny_cRoomFor (Nat.lt_of_succ_lt hu) ?_))
  refine wpAny_bind (I.type.here (wpAny_bind (hb.here ?_)))
  split
  · rename_i q
    have e : subIn K tb (.ref C) = some false := by
      rcases Bool.or_eq_true_iff.mp hn with e | e
      · rw [beq_iff_eq.mp e] at q; simp at q
      · exact beq_iff_eq.mp e
    refine wpAny_bind ((looks_subIn X e).here ?_)
    simp only [Bool.false_eq_true, if_false]
    refine wpAny_bind (wpAny_mono one (fun r s' z => ?_) fun _ _ e => e)
    obtain ⟨v, rfl, hq⟩ := z
    exact wpAny_pure hq
  · refine wpAny_bind (wpAny_pure ?_)
    simp only [Bool.false_eq_true, if_false]
    refine wpAny_bind (wpAny_mono one (fun r s' z => ?_) fun _ _ e => e)
    obtain ⟨v, rfl, hq⟩ := z
    exact wpAny_pure hq
end
/-! ### == of values of which some are instances of the class c, with its own == -/
mutual
def okU (c : Str) : D → Bool
  | .non => true
  | .bl _ => true
  | .int _ => true
  | .str _ => true
  | .tup xs => okUs c xs
  | .lst xs => okUs c xs
  | .ins c' fs => decide (c' = c) && okUf c fs
  | .dct _ => false
  | .ref _ => false
  | .scr _ => false
  | .exv _ _ => false
def okUs (c : Str) : List D → Bool
  | [] => true
  | d :: ds => okU c d && okUs c ds
def okUf (c : Str) : List (Str × D) → Bool
  | [] => true
  | p :: r => okUp c p && okUf c r
def okUp (c : Str) : Str × D → Bool
  | (_, d) => okU c d
end
section
variable {X : Cx} {cl : Str → Option Addr} {pins : List (Addr × Obj)} {σ : St} {H : Hp} {s : Shared} {W : Wd} {c : Str}
theorem tup_lst (I : Inv X pins σ H s) {a : Addr} {xs ys : List V} (h : SqT X.K H a xs) (h' : H a = some (.lst ys)) : False := by
  obtain ⟨its, _, ⟨o, e, hc, _⟩, _⟩ := I.tuple h
  obtain ⟨_, its', n', _, e'⟩ := (show ObjOk X.prog X.w H s.heap a (.lst ys) from I.hok a _ h')
  rw [e] at e'
  cases e'
  simp at hc
theorem tup_ins (I : Inv X pins σ H s) {a C dx : Addr} {xs : List V} {fs : List (Str × V)} (h : SqT X.K H a xs) (h' : H a = some (.ins C dx fs)) : False := by
  obtain ⟨its, _, ⟨o, e, hc, _⟩, _⟩ := I.tuple h
  obtain ⟨_, _, _, e', _⟩ := (show ObjOk X.prog X.w H s.heap a (.ins C dx fs) from I.hok a _ h')
  rw [e] at e'
  cases e'
  simp [PySem.W.instObj] at hc
mutual
theorem rep_uniq (I : Inv X pins σ H s) (r : ∀ a o, W.G a = some o → H a = some o) : ∀ {v : V} {d d' : D}, Rep X.K cl W v d → okU c d = true → Rep X.K cl W v d' → okU c d' = true → d = d'
  | _, _, _, .non, _, h, _ => by cases h; rfl
  | _, _, _, .bl b, _, h, _ => by cases h; rfl
  | _, _, _, .int i, _, h, _ => by cases h; rfl
  | _, _, _, .str x, _, h, _ => by cases h; rfl
  | _, _, _, .tup h t, u, h', u' => by
    cases h' with
    | tup k t' =>
      have e := I.tuple_inj (sqT_up r h) (sqT_up r k)
      subst e
      exact congrArg D.tup (reps_uniq I r t (by simpa [okU] using u) t' (by simpa [okU] using u'))
    | lst k t' => exact (tup_lst I (sqT_up r h) (r _ _ k)).elim
    | ins k k2 t' => exact (tup_ins I (sqT_up r h) (r _ _ k)).elim
    | _ => simp [okU] at u'
  | _, _, _, .lst h t, u, h', u' => by
    cases h' with
    | tup k t' => exact (tup_lst I (sqT_up r k) (r _ _ h)).elim
    | lst k t' =>
      rw [h] at k
      cases k
      exact congrArg D.lst (reps_uniq I r t (by simpa [okU] using u) t' (by simpa [okU] using u'))
    | ins k k2 t' => rw [h] at k; cases k
    | _ => simp [okU] at u'
  | _, _, _, .scr h, u, h', u' => by simp [okU] at u
  | _, _, _, .dct h t, u, h', u' => by simp [okU] at u
  | _, _, _, .ins h hc t, u, h', u' => by
    cases h' with
    | tup k t' => exact (tup_ins I (sqT_up r k) (r _ _ h)).elim
    | lst k t' => rw [h] at k; cases k
    | ins k k2 t' =>
      rw [h] at k
      cases k
      simp only [okU, Bool.and_eq_true, decide_eq_true_eq] at u u'
      obtain ⟨e1, u⟩ := u
      obtain ⟨e2, u'⟩ := u'
      rw [e1, e2]
      exact congrArg (D.ins _) (repf_uniq I r t u t' u')
    | _ => simp [okU] at u'
  | _, _, _, .ref _, u, _, _ => by simp [okU] at u
  | _, _, _, .exv0 _ _ _ _, u, _, _ => by simp [okU] at u
  | _, _, _, .exv1 _ _ _ _ _ _ _, u, _, _ => by simp [okU] at u
theorem reps_uniq (I : Inv X pins σ H s) (r : ∀ a o, W.G a = some o → H a = some o) : ∀ {v : List V} {d d' : List D}, Reps X.K cl W v d → okUs c d = true → Reps X.K cl W v d' → okUs c d' = true → d = d'
  | _, _, _, .nil, _, h, _ => by cases h; rfl
  | _, _, _, .cons h t, u, h', u' => by
    cases h' with
    | cons k t' =>
      simp only [okUs, Bool.and_eq_true] at u u'
      rw [rep_uniq I r h u.1 k u'.1, reps_uniq I r t u.2 t' u'.2]
theorem repf_uniq (I : Inv X pins σ H s) (r : ∀ a o, W.G a = some o → H a = some o) : ∀ {v : List (Str × V)} {d d' : List (Str × D)}, RepF X.K cl W v d → okUf c d = true → RepF X.K cl W v d' → okUf c d' = true → d = d'
  | _, _, _, .nil, _, h, _ => by cases h; rfl
  | _, _, _, .cons h t, u, h', u' => by
    cases h' with
    | cons k t' =>
      simp only [okUf, okUp, Bool.and_eq_true] at u u'
      rw [rep_uniq I r h u.1 k u'.1, repf_uniq I r t u.2 t' u'.2]
end
end

/-! the answer of == -/
open Classical in
noncomputable def ownB (g : List D → Store → Res D) (x y : D) (S : Store) : Option Bool := match ar 2 g [x, y] S with
  | .ok (.bl b) S' => if S' = S then some b else none
  | _ => none
def allO (e : D → D → Option Bool) : List D → List D → Option Bool
  | [], [] => some true
  | x :: xs, y :: ys => (match e x y with
    | some true => allO e xs ys
    | some false => some false
    | none => none)
  | _, _ => some false
open Classical in
noncomputable def elO (c : Str) (r : D → D → Option Bool) (S : Store) (x y : D) : Option Bool := match eqB S x y with
  | some b => some b
  | none => (match r x y with
    | some true => some true
    | some false => if okU c x = true ∧ okU c y = true ∧ x ≠ y then some false else none
    | none => none)
/-- what may stand right of an instance -/
def okR (c : Str) (S : Store) (y : D) : Bool := match y with
  | .non => true
  | .bl _ => true
  | .int _ => true
  | .str _ => true
  | .tup _ => true
  | .lst _ => true
  | .dct _ => true
  | .ins c' _ => decide (c' = c)
  | .ref n => (match S[n]? with
    | some (.lst _) => true
    | _ => false)
  | _ => false
noncomputable def rcX (c : Str) (g : List D → Store → Res D) (S : Store) : Nat → D → D → Option Bool
  | 0, _, _ => none
  | n + 1, x, y => (match lsOf S x, lsOf S y with
    | some xs, some ys => if xs.length = ys.length then allO (elO c (rcX c g S n) S) xs ys else some false
    | _, _ => (match x, y with
      | .tup xs, .tup ys => allO (elO c (rcX c g S n) S) xs ys
      | .ins c' fs, y => if c' = c ∧ okR c S y = true then ownB g (.ins c' fs) y S else none
      | _, _ => none))
noncomputable def eqO (c : Str) (g : List D → Store → Res D) (n : Nat) (x y : D) (S : Store) : Res D := match eqB S x y with
  | some b => .ok (.bl b) S
  | none => ofB (rcX c g S n x y) S
noncomputable def neO (c : Str) (g : List D → Store → Res D) (n : Nat) (x y : D) (S : Store) : Res D := match eqB S x y with
  | some b => .ok (.bl (!b)) S
  | none => ofB ((rcX c g S n x y).map not) S
/-- the class c has an own ==, and != by it -/
structure OwnE (P : Program) (w : World) (K : PySem.W.Frag) (mg : Str → Option Value) (base : Heap) (cl : Str → Option Addr) (c : Str) (k : Nat) (g : List D → Store → Res D) : Prop where
  mf : MFn P w K mg base cl c "__eq__" k 2 g
  ne : ∀ C, cl c = some C → PySem.W.findIn K (.ref C) "__ne__" = some (some (.builtin "object.__ne__"))
  top : ∀ C, cl c = some C → PySem.W.mroIn K C (.type "object") = some true
def KeptE (X : Cx) (cl : Str → Option Addr) (pins : List (Addr × Obj)) (σ : St) (W : Wd) (S : Store) (s' : Shared) : Prop := ∃ W' H', Inv X pins σ H' s' ∧ Le W W' ∧ R X.K cl W' H' S
def EqJ (X : Cx) (cl : Str → Option Addr) (n : Nat) (S : Store) (dx dy : D) (b : Bool) : Prop :=
  ∀ (A : Around) (pins : List (Addr × Obj)) (s : Shared) (σ : St) (H : Hp) (W : Wd) (x y : V) (u v : Value), Sub X n A → Inv X pins σ H s → R X.K cl W H S → Rep X.K cl W x dx → Rep X.K cl W y dy → RelV x u → RelV y v →
    wpAny (model X.prog X.w) A (eqBool u v) (fun r s' => r = b ∧ KeptE X cl pins σ W S s') X.xe s
def RcJ (X : Cx) (cl : Str → Option Addr) (n : Nat) (S : Store) (op : CmpOp) (dx dy : D) (b : Bool) : Prop :=
  ∀ (A : Around) (pins : List (Addr × Obj)) (s : Shared) (σ : St) (H : Hp) (W : Wd) (x y : V) (u v : Value), Sub X n A → Inv X pins σ H s → R X.K cl W H S → Rep X.K cl W x dx → Rep X.K cl W y dy → RelV x u → RelV y v →
    wpAny (model X.prog X.w) A (richCompare op u v) (fun r s' => r = .bool b ∧ KeptE X cl pins σ W S s') X.xe s
section
variable {X : Cx} {cl : Str → Option Addr} {n m : Nat} {S : Store} {dx dy : D} {b : Bool} {c : Str}
theorem EqJ.mono (h : EqJ X cl n S dx dy b) (hn : n ≤ m) : EqJ X cl m S dx dy b := fun A pins s σ H W x y u v sb => h A pins s σ H W x y u v (sb.mono hn)
theorem scal_eqV {x y : V} (h : scal x y = true) : (flatV x = true ∧ flatV y = true ∧ decide (x = y) = eqV x y) ∨ ∃ p q, x = .byt p ∧ y = .byt q := by
  cases x <;> cases y <;> first | (exact .inr ⟨_, _, rfl, rfl⟩) | (cases h; done) | (refine .inl ⟨rfl, rfl, ?_⟩; simp [eqV]; done) | (refine .inl ⟨rfl, rfl, ?_⟩; simp only [eqV]; rw [Bool.eq_iff_iff]; simp)
theorem eqJ_base (e : eqB S dx dy = some b) : EqJ X cl 0 S dx dy b := by
  intro A pins s σ H W x y u v sb I r rx ry ru rv
  have fin : b = b ∧ KeptE X cl pins σ W S s := ⟨rfl, W, H, I, .rf W, r⟩
  rcases eq_cases r rx ry e with ⟨h, rfl⟩ | ⟨d, e', h1, h2, h3, h4, rfl⟩
  · rcases scal_eqV h with ⟨f1, f2, q⟩ | ⟨p, q, rfl, rfl⟩
    · have z := eqAt_V (A := A) (s := s) ru rv f1 f2
      rw [← q] at z
      exact z X.prog X.w X.xe _ fin
    · cases rx
  · obtain ⟨as, r1⟩ := Dp.reads I d x u h1 ru
    obtain ⟨bs, r2⟩ := Dp.reads I e' y v h2 rv
    exact SeqAt.eqAt_reads d e' A s u v as bs r1 r2 (SeqAt.canLay_of_shaped h3) (SeqAt.canLay_of_shaped h4) (SeqAt.room_of_shaped h3 sb.room.units) X.prog X.w X.xe _ fin
end
section
variable {X : Cx} {cl : Str → Option Addr} {n m k : Nat} {S : Store} {dx dy : D} {b : Bool} {c : Str} {pins : List (Addr × Obj)} {σ : St} {H : Hp} {s : Shared} {W : Wd} {E : Value → Shared → Prop}
theorem allO_at {e : D → D → Option Bool} : ∀ {xs ys : List D} {b : Bool}, allO e xs ys = some b → ∃ f : Nat → Bool, b = ((List.range (min xs.length ys.length)).all f && xs.length == ys.length) ∧
    ∀ (j : Nat) (x y : D), xs[j]? = some x → ys[j]? = some y → (∀ i < j, f i = true) → e x y = some (f j)
  | [], [], _, h => by cases h; exact ⟨fun _ => true, rfl, fun j x y q => by simp at q⟩
  | [], y :: ys, _, h => by cases h; exact ⟨fun _ => true, rfl, fun j x y q => by simp at q⟩
  | x :: xs, [], _, h => by cases h; exact ⟨fun _ => true, rfl, fun j x y _ q => by simp at q⟩
  | x :: xs, y :: ys, b, h => by
    unfold allO at h
    cases q : e x y with
    | none => rw [q] at h; cases h
    | some k =>
      rw [q] at h
      cases k with
      | false =>
        cases h
        refine ⟨fun _ => false, ?_, fun j x' y' h1 h2 hf => ?_⟩
        · rw [List.length_cons, List.length_cons, Nat.succ_min_succ, List.range_succ_eq_map]
          rfl
        · cases j with
          | zero =>
            simp at h1 h2
            subst h1 h2
            exact q
          | succ j => exact absurd (hf 0 (Nat.succ_pos _)) (by simp)
      | true =>
        obtain ⟨f, hb, hf⟩ := allO_at h
        refine ⟨fun i => match i with | 0 => true | i + 1 => f i, ?_, fun j x' y' h1 h2 hj => ?_⟩
        · rw [hb, List.length_cons, List.length_cons, Nat.succ_min_succ, List.range_succ_eq_map]
          simp [List.all_map, Function.comp_def]
        · cases j with
          | zero =>
            simp at h1 h2
            subst h1 h2
            exact q
          | succ j => exact hf j x' y' (by simpa using h1) (by simpa using h2) fun i hi => hj (i + 1) (by omega)
theorem ls_at (r : R X.K cl W H S) {x : V} {xs : List D} (rx : Rep X.K cl W x dx) (e : lsOf S dx = some xs) : ∃ a, x = .ref a ∧ ∀ W' H', Le W W' → R X.K cl W' H' S → ∃ vs, H' a = some (.lst vs) ∧ Reps X.K cl W' vs xs := by
  cases rx with
  | lst h t =>
    cases e
    exact ⟨_, rfl, fun W' H' l r' => ⟨_, r'.sub _ _ (l.g _ _ h), t.up l⟩⟩
  | @ref n hn =>
    unfold lsOf at e
    dsimp only at e
    cases q : S[n]? with
    | none => rw [q] at e; cases e
    | some mo =>
      rw [q] at e
      cases mo with
      | lst ys =>
        cases e
        refine ⟨_, rfl, fun W' H' l r' => ?_⟩
        obtain ⟨_, vs, h1, h2⟩ := r'.live n _ q (by intro z; cases z)
        rw [l.i n hn] at h1
        exact ⟨vs, h1, h2⟩
      | _ => cases e
  | _ => cases e
theorem turnE {e : D → D → Option Bool} {xs ys : List D} {b0 : Bool} (hD : ∀ dx dy b, e dx dy = some b → EqJ X cl n S dx dy b) {f : Nat → Bool}
    (hf : ∀ (j : Nat) (x y : D), xs[j]? = some x → ys[j]? = some y → (∀ i < j, f i = true) → e x y = some (f j)) {A : Around} (sb : Sub X (n + 1) A) {W1 : Wd} {H1 : Hp} {s1 : Shared} (l1 : Le W W1) (I1 : Inv X pins σ H1 s1) (r1 : R X.K cl W1 H1 S)
    {vs ws : List V} {its its2 : List Value} (t1 : Reps X.K cl W1 vs xs) (t2 : Reps X.K cl W1 ws ys) (q1 : Vals vs its) (q2 : Vals ws its2) (i : Nat) (h1 : i < its.toArray.size) (h2 : i < its2.toArray.size) (hp : ∀ j, j < i → f j = true) :
    wpAny (model X.prog X.w) A.in1 (eqBool its.toArray[i] its2.toArray[i]) (fun r s2 => r = f i ∧ KeptE X cl pins σ W S s2) X.xe s1 := by
  have g1 : its[i]? = some its.toArray[i] := by
    have h1' : i < its.length := by simpa using h1
    rw [List.getElem?_eq_getElem h1'] <;> simp
  have g2 : its2[i]? = some its2.toArray[i] := by
    have h2' : i < its2.length := by simpa using h2
    rw [List.getElem?_eq_getElem h2'] <;> simp
  have k1 : i < vs.length := by rw [q1.length]; simpa using h1
  have k2 : i < ws.length := by rw [q2.length]; simpa using h2
  obtain ⟨u, hu, ru⟩ := q1.get (List.getElem?_eq_getElem k1)
  obtain ⟨v, hv, rv⟩ := q2.get (List.getElem?_eq_getElem k2)
  rw [g1] at hu
  rw [g2] at hv
  rw [Option.some.inj hu, Option.some.inj hv]
  obtain ⟨x, hx, rx⟩ := t1.at' (List.getElem?_eq_getElem k1)
  obtain ⟨y, hy, ry⟩ := t2.at' (List.getElem?_eq_getElem k2)
  refine wpAny_mono (hD x y (f i) (hf i x y hx hy hp) A.in1 pins s1 σ H1 W1 _ _ u v sb.in1 I1 r1 rx ry ru rv) (fun r s2 q => ?_) fun _ _ x => x
  obtain ⟨hr, W2, H2, I2, l2, r2⟩ := q
  exact ⟨hr, W2, H2, I2, l1.tr l2, r2⟩
theorem rep_refl_len {vs : List V} {xs : List D} (t : Reps X.K cl W vs xs) {its : List Value} (q : Vals vs its) : its.toArray.size = xs.length := by
  rw [List.size_toArray, ← q.length, t.len]
theorem rcJ_list_eq {e : D → D → Option Bool} {xs ys : List D} (hD : ∀ dx dy b, e dx dy = some b → EqJ X cl n S dx dy b) (hx : lsOf S dx = some xs) (hy : lsOf S dy = some ys) (h : (if xs.length = ys.length then allO e xs ys else some false) = some b) :
    RcJ X cl (n + 1) S .Eq dx dy (b) := by
  intro A pins s σ H W x y u v sb I r rx ry ru rv
  obtain ⟨a, rfl, ha⟩ := ls_at r rx hx
  obtain ⟨a2, rfl, ha2⟩ := ls_at r ry hy
  cases ru
  cases rv
  split at h
  · rename_i hl
    obtain ⟨f, hb, hf⟩ := allO_at h
    have hb : b = (List.range xs.length).all f := by rw [hb, ← hl]; simp
    refine rc_list_eqB (N := xs.length) (e := f) sb.room.units0 (fun s' => KeptE X cl pins σ W S s') (fun s' q => ?_) (fun s' q => ⟨by rw [hb], q⟩) ⟨W, H, I, .rf W, r⟩
    obtain ⟨W1, H1, I1, l1, r1⟩ := q
    obtain ⟨vs, g1, t1⟩ := ha W1 H1 l1 r1
    obtain ⟨ws, g2, t2⟩ := ha2 W1 H1 l1 r1
    obtain ⟨z, its, k, q1, e1⟩ := I1.hok a _ g1
    obtain ⟨z2, its2, k2, q2, e2⟩ := I1.hok a2 _ g2
    exact ⟨its.toArray, its2.toArray, k, k2, e1, e2, rep_refl_len t1 q1, by rw [rep_refl_len t2 q2, hl], fun i h1 h2 hp => turnE (b0 := b) hD hf sb l1 I1 r1 t1 t2 q1 q2 i h1 h2 hp⟩
  · rename_i hl
    cases h
    obtain ⟨vs, g1, t1⟩ := ha W H (.rf W) r
    obtain ⟨ws, g2, t2⟩ := ha2 W H (.rf W) r
    obtain ⟨z, its, k, q1, e1⟩ := I.hok a _ g1
    obtain ⟨z2, its2, k2, q2, e2⟩ := I.hok a2 _ g2
    refine SeqAt.RcAt.lists_lengths ⟨_, e1, rfl, k, rfl⟩ ⟨_, e2, rfl, k2, rfl⟩ ?_ sb.room.units0 X.prog X.w X.xe _ ⟨rfl, W, H, I, .rf W, r⟩
    rw [rep_refl_len t1 q1, rep_refl_len t2 q2]
    simpa using hl
theorem rcJ_tup_eq {e : D → D → Option Bool} {xs ys : List D} (hD : ∀ dx dy b, e dx dy = some b → EqJ X cl n S dx dy b) (h : allO e xs ys = some b) : RcJ X cl (n + 1) S .Eq (.tup xs) (.tup ys) (b) := by
  intro A pins s σ H W x y u v sb I r rx ry ru rv
  cases rx with | @tup a vs _ h1 t1 =>
  cases ry with | @tup a2 ws _ h2 t2 =>
  cases ru
  cases rv
  obtain ⟨its, q1, e1, z⟩ := I.tuple (sqT_up r.sub h1)
  obtain ⟨its2, q2, e2, z2⟩ := I.tuple (sqT_up r.sub h2)
  obtain ⟨f, hb, hf⟩ := allO_at h
  refine rc_tup_eqB (e := f) sb.room.units0 (fun s' => KeptE X cl pins σ W S s') e1 e2 (fun i k1 k2 s' hp q => ?_) (fun s' q => ⟨by rw [hb, rep_refl_len t1 q1, rep_refl_len t2 q2], q⟩) ⟨W, H, I, .rf W, r⟩
  obtain ⟨W1, H1, I1, l1, r1⟩ := q
  exact turnE (b0 := b) hD hf sb l1 I1 r1 (t1.up l1) (t2.up l1) q1 q2 i k1 k2 hp
theorem rcJ_list_ne {e : D → D → Option Bool} {xs ys : List D} (hD : ∀ dx dy b, e dx dy = some b → EqJ X cl n S dx dy b) (hx : lsOf S dx = some xs) (hy : lsOf S dy = some ys) (h : (if xs.length = ys.length then allO e xs ys else some false) = some b) :
    RcJ X cl (n + 1) S .NotEq dx dy (!b) := by
  intro A pins s σ H W x y u v sb I r rx ry ru rv
  obtain ⟨a, rfl, ha⟩ := ls_at r rx hx
  obtain ⟨a2, rfl, ha2⟩ := ls_at r ry hy
  cases ru
  cases rv
  split at h
  · rename_i hl
    obtain ⟨f, hb, hf⟩ := allO_at h
    have hb : b = (List.range xs.length).all f := by rw [hb, ← hl]; simp
    refine rc_list_neB (N := xs.length) (e := f) sb.room.units0 (fun s' => KeptE X cl pins σ W S s') (fun s' q => ?_) (fun s' q => ⟨by rw [hb], q⟩) ⟨W, H, I, .rf W, r⟩
    obtain ⟨W1, H1, I1, l1, r1⟩ := q
    obtain ⟨vs, g1, t1⟩ := ha W1 H1 l1 r1
    obtain ⟨ws, g2, t2⟩ := ha2 W1 H1 l1 r1
    obtain ⟨z, its, k, q1, e1⟩ := I1.hok a _ g1
    obtain ⟨z2, its2, k2, q2, e2⟩ := I1.hok a2 _ g2
    exact ⟨its.toArray, its2.toArray, k, k2, e1, e2, rep_refl_len t1 q1, by rw [rep_refl_len t2 q2, hl], fun i h1 h2 hp => turnE (b0 := b) hD hf sb l1 I1 r1 t1 t2 q1 q2 i h1 h2 hp⟩
  · rename_i hl
    cases h
    obtain ⟨vs, g1, t1⟩ := ha W H (.rf W) r
    obtain ⟨ws, g2, t2⟩ := ha2 W H (.rf W) r
    obtain ⟨z, its, k, q1, e1⟩ := I.hok a _ g1
    obtain ⟨z2, its2, k2, q2, e2⟩ := I.hok a2 _ g2
    refine SeqAt.RcNeAt.lists_lengths ⟨_, e1, rfl, k, rfl⟩ ⟨_, e2, rfl, k2, rfl⟩ ?_ sb.room.units0 X.prog X.w X.xe _ ⟨rfl, W, H, I, .rf W, r⟩
    rw [rep_refl_len t1 q1, rep_refl_len t2 q2]
    simpa using hl
theorem rcJ_tup_ne {e : D → D → Option Bool} {xs ys : List D} (hD : ∀ dx dy b, e dx dy = some b → EqJ X cl n S dx dy b) (h : allO e xs ys = some b) : RcJ X cl (n + 1) S .NotEq (.tup xs) (.tup ys) (!b) := by
  intro A pins s σ H W x y u v sb I r rx ry ru rv
  cases rx with | @tup a vs _ h1 t1 =>
  cases ry with | @tup a2 ws _ h2 t2 =>
  cases ru
  cases rv
  obtain ⟨its, q1, e1, z⟩ := I.tuple (sqT_up r.sub h1)
  obtain ⟨its2, q2, e2, z2⟩ := I.tuple (sqT_up r.sub h2)
  obtain ⟨f, hb, hf⟩ := allO_at h
  refine rc_tup_neB (e := f) sb.room.units0 (fun s' => KeptE X cl pins σ W S s') e1 e2 (fun i k1 k2 s' hp q => ?_) (fun s' q => ⟨by rw [hb, rep_refl_len t1 q1, rep_refl_len t2 q2], q⟩) ⟨W, H, I, .rf W, r⟩
  obtain ⟨W1, H1, I1, l1, r1⟩ := q
  exact turnE (b0 := b) hD hf sb l1 I1 r1 (t1.up l1) (t2.up l1) q1 q2 i k1 k2 hp
theorem looks_ref {h : Heap} {M : Model} {a : Addr} {o : Obj} (e : h.get? a = some o) : PySem.W.Looks M h (typeOf (.ref a)) o.cls := fun A Q E s k q => wpAny_typeOf_ref (k _ _ e) q
theorem looks_right (I : Inv X pins σ H s) (r : R X.K cl W H S) {y : V} {v : Value} {C : Addr} (hC : cl c = some C) (ry : Rep X.K cl W y dy) (rv : RelV y v) (ok : okR c S dy = true) : ∃ tb, PySem.W.Looks (model X.prog X.w) s.heap (typeOf v) tb ∧ PySem.W.notFirst X.K C tb = true := by
  have nf : ∀ T, (fastBuiltinMro T).map (·.contains (.ref C)) = some false → PySem.W.notFirst X.K C (.type T) = true := fun T h => by
    unfold PySem.W.notFirst PySem.W.subIn
    dsimp only
    rw [h]
    simp
  cases ry with
  | non => cases rv; exact ⟨.type "NoneType", .of_pure rfl, nf _ (by kernel_rfl)⟩
  | bl b => cases rv; exact ⟨.type "bool", .of_pure rfl, nf _ (by kernel_rfl)⟩
  | int i => obtain ⟨t, rfl⟩ := rv; exact ⟨.type "int", .of_pure rfl, nf _ (by kernel_rfl)⟩
  | str i => obtain ⟨t, rfl⟩ := rv; exact ⟨.type "str", .of_pure rfl, nf _ (by kernel_rfl)⟩
  | tup h t =>
    cases rv
    obtain ⟨its, _, ⟨o, e, hc, _⟩, _⟩ := I.tuple (sqT_up r.sub h)
    refine ⟨_, looks_ref e, ?_⟩
    rw [hc]
    exact nf _ (by kernel_rfl)
  | lst h t =>
    cases rv
    obtain ⟨_, its, k, _, e⟩ := I.hok _ _ (r.sub _ _ h)
    exact ⟨_, looks_ref e, nf _ (by kernel_rfl)⟩
  | dct h t =>
    cases rv
    obtain ⟨e, _, _, vs', _, o', es, ep, e', x, _⟩ := I.hok _ _ (r.sub _ _ h)
    refine ⟨_, looks_ref e', ?_⟩
    rw [x.1]
    exact nf _ (by kernel_rfl)
  | ins h hc t =>
    cases rv
    obtain ⟨_, _, _, e, _⟩ := I.hok _ _ (r.sub _ _ h)
    refine ⟨_, looks_ref e, ?_⟩
    have ok : c = _ := (of_decide_eq_true ok).symm
    rw [← ok, hC] at hc
    cases hc
    unfold PySem.W.notFirst PySem.W.instObj
    simp
  | @ref n hn =>
    unfold okR at ok
    dsimp only at ok
    cases q : S[n]? with
    | none => rw [q] at ok; cases ok
    | some mo =>
      rw [q] at ok
      cases mo with
      | lst ys =>
        cases rv
        obtain ⟨_, vs, h1, h2⟩ := r.live n _ q (by intro z; cases z)
        obtain ⟨_, its, k, _, e⟩ := I.hok _ _ h1
        exact ⟨_, looks_ref e, nf _ (by kernel_rfl)⟩
      | _ => cases ok
  | _ => cases ok
theorem ownB_eq {g : List D → Store → Res D} (h : ownB g dx dy S = some b) : ar 2 g [dx, dy] S = .ok (.bl b) S := by
  unfold ownB at h
  split at h
  · rename_i k S' e
    split at h
    · rename_i hS
      cases h
      rw [e, hS]
    · cases h
  · cases h
theorem call_own {g : List D → Store → Res D} {f : Addr} {fd : FuncData} {ps : List Str} (F : FnOk X.prog X.w X.K X.mg X.base (L2.CX X.prog X.w) k f fd ps (spOf X.K cl 2 g)) (hb : Binds X.K fd ps []) (he : ownB g dx dy S = some b)
    {A : Around} (sb : Sub X k A) (I : Inv X pins σ H s) (r : R X.K cl W H S) {x y : V} {u v : Value} (rx : Rep X.K cl W x dx) (ry : Rep X.K cl W y dy) (ru : RelV x u) (rv : RelV y v) :
    wpAny (model X.prog X.w) A (call (.ref f) [u, v]) (fun r s' => r = .bool b ∧ KeptE X cl pins σ W S s') X.xe s := by
  have hsp : spOf X.K cl 2 g [x, y] H (fun z H' => z = .bl b ∧ ∃ W', Le W W' ∧ R X.K cl W' H' S) (fun _ _ _ => False) := by
    refine ⟨W, S, [dx, dy], r, .cons rx (.cons ry .nil), ?_⟩
    rw [ownB_eq he]
    intro W' H' z l r' rep
    cases rep
    exact ⟨rfl, W', l, r'⟩
  have hx : Passes (L2.CX X.prog X.w) X (fun _ _ _ => False) := fun pins σ H s e s' I z => passAt (X := X) (W := fun _ _ _ _ => False) takes0 σ pins H s e s' I z
  have e0 : Env0 X.prog X.w X.K X.mg X.base A X.stack s H := by
    have e := I.env0
    exact ⟨by rw [sb.fr]; exact e.frames, e.mod, e.bs, e.bsz, e.funs, e.frf, e.hok, e.bare⟩
  have hl := F.len _ _ _ _ hsp
  have r2 : Vals [x, y] [u, v] := .cons ru (.cons rv .nil)
  refine wpAny_call (codeAny_mono (F.run A X.stack s H ⟨[u, v], []⟩ [u, v] [x, y] _ (fun _ _ _ => False) sb.room e0 (by
    have := hb s [u, v] I.kIn (by simpa using hl)
    simpa using this) r2 hsp) fun r s' hq => ?_)
  cases r with
  | error e => exact hx pins σ H s e s' I hq
  | ok fl =>
    cases fl with
    | ret w =>
      obtain ⟨z, H', I', rz, ez, W', l', r'⟩ := I.after hq
      subst ez
      cases rz
      exact ⟨rfl, W', H', I', l', r'⟩
    | next => exact False.elim hq
    | brk => exact False.elim hq
    | cont => exact False.elim hq
theorem rcJ_ins_eq {g : List D → Store → Res D} {fs : List (Str × D)} (G : OwnE X.prog X.w X.K X.mg X.base cl c k g) (ok : okR c S dy = true) (he : ownB g (.ins c fs) dy S = some b) : RcJ X cl k S .Eq (.ins c fs) dy b := by
  intro A pins s σ H W x y u v sb I r rx ry ru rv
  obtain ⟨C, f, fd, ps, c1, c2, c3, c4, c5⟩ := G.mf
  cases rx with | @ins a C' dx _ vs _ h hc t =>
  rw [c1] at hc
  cases hc
  obtain ⟨tb, lk, nf⟩ := looks_right I r c1 ry rv ok
  have ru' := ru
  cases ru'
  obtain ⟨mA, J, _⟩ := ins_get I.hok (r.sub _ _ h)
  obtain ⟨od, J, _⟩ := J.look
  obtain ⟨m, hF⟩ := I.fr
  refine PySem.W.cmp_K (op := .Eq) (tb := tb) sb.room.units0 hF I.ok.mod.kin J lk nf c3.at_ c3.fn ?_
  refine wpAny_mono (call_own c4 c5 he sb I r (.ins h c1 t) ry ru rv) (fun z s' hz => ?_) fun _ _ x => x
  obtain ⟨rfl, q⟩ := hz
  exact ⟨rfl, q⟩
theorem rcJ_ins_ne {g : List D → Store → Res D} {fs : List (Str × D)} (G : OwnE X.prog X.w X.K X.mg X.base cl c k g) (ok : okR c S dy = true) (he : ownB g (.ins c fs) dy S = some b) : RcJ X cl (k + 1) S .NotEq (.ins c fs) dy (!b) := by
  intro A pins s σ H W x y u v sb I r rx ry ru rv
  obtain ⟨C, f, fd, ps, c1, c2, c3, c4, c5⟩ := G.mf
  cases rx with | @ins a C' dx _ vs _ h hc t =>
  rw [c1] at hc
  cases hc
  obtain ⟨tb, lk, nf⟩ := looks_right I r c1 ry rv ok
  have ru' := ru
  cases ru'
  obtain ⟨mA, J, _⟩ := ins_get I.hok (r.sub _ _ h)
  obtain ⟨od, J, _⟩ := J.look
  obtain ⟨m, hF⟩ := I.fr
  refine ne_K (tb := tb) (by have := sb.room.units; omega) hF I.ok.mod.kin J lk nf (G.ne _ c1) (G.top _ c1) c3.at_ c3.fn ?_
  refine wpAny_mono (call_own c4 c5 he sb.in1 I r (.ins h c1 t) ry ru rv) (fun z s' hz => ?_) fun _ _ x => x
  obtain ⟨rfl, q⟩ := hz
  exact ⟨b, rfl, rfl, q⟩
/-- inside a list or a tuple: the same object is equal to itself -/
theorem RcJ.eqJ (h : RcJ X cl n S .Eq dx dy b) (hr : ∀ {W : Wd} {v : V}, (Rep X.K cl W v dx → ∃ a, v = .ref a)) (hb : b = false → okU c dx = true ∧ okU c dy = true ∧ dx ≠ dy) : EqJ X cl n S dx dy b := by
  intro A pins s σ H W x y u v sb I r rx ry ru rv
  obtain ⟨a, rfl⟩ := hr rx
  cases ru
  unfold eqBool
  refine wpAny_holding ?_
  refine wpAny_ite_split (fun hab => ?_) (fun _ => ?_)
  · have e : Value.ref a = v := eq_of_beq hab
    subst e
    refine wpAny_bind (wpAny_rule (wpAny_pure ⟨?_, W, H, I, .rf W, r⟩))
    cases b with
    | true => rfl
    | false =>
      obtain ⟨o1, o2, ne⟩ := hb rfl
      have ey : y = .ref a := by
        cases y <;> first | (cases rv; done) | (obtain ⟨_, z⟩ := rv; cases z; done) | (cases rv; rfl)
      subst ey
      exact (ne (rep_uniq I r.sub rx o1 ry o2)).elim
  · refine wpAny_bind (wpAny_mono (h A pins s σ H W _ y _ v sb I r rx ry rfl rv) (fun z s' hz => ?_) fun _ _ x => x)
    obtain ⟨rfl, q⟩ := hz
    exact wpAny_truthy_bool ⟨rfl, q⟩
theorem RcJ.mono {op : CmpOp} (h : RcJ X cl n S op dx dy b) (hn : n ≤ m) : RcJ X cl m S op dx dy b := fun A pins s σ H W x y u v sb => h A pins s σ H W x y u v (sb.mono hn)
def refB (S : Store) (d : D) : Bool := match d with
  | .tup _ => true
  | .lst _ => true
  | .ins _ _ => true
  | .ref _ => true
  | _ => false
theorem refB_ref (h : refB S dx = true) {v : V} (r : Rep X.K cl W v dx) : ∃ a, v = .ref a := by
  cases r <;> first | exact ⟨_, rfl⟩ | cases h
theorem lsOf_ref {xs : List D} (h : lsOf S dx = some xs) : refB S dx = true := by
  cases dx <;> first | rfl | cases h
theorem elJ {r : D → D → Option Bool} (hr : ∀ dx dy b, r dx dy = some b → RcJ X cl n S .Eq dx dy b ∧ refB S dx = true) (dx dy : D) (b : Bool) (h : elO c r S dx dy = some b) : EqJ X cl n S dx dy b := by
  unfold elO at h
  split at h
  · rename_i b' e
    cases h
    exact (eqJ_base e).mono (Nat.zero_le _)
  · split at h
    · rename_i e
      cases h
      obtain ⟨j, q⟩ := hr _ _ _ e
      exact j.eqJ (c := c) (fun z => refB_ref q z) (fun z => by cases z)
    · rename_i e
      obtain ⟨j, q⟩ := hr _ _ _ e
      split at h
      · rename_i z
        cases h
        exact j.eqJ (c := c) (fun z => refB_ref q z) (fun _ => z)
      · cases h
    · cases h
theorem rcX_ok {g : List D → Store → Res D} (G : OwnE X.prog X.w X.K X.mg X.base cl c k g) : ∀ (n : Nat) (dx dy : D) (b : Bool), rcX c g S n dx dy = some b →
    RcJ X cl (k + n) S .Eq dx dy b ∧ RcJ X cl (k + n) S .NotEq dx dy (!b) ∧ refB S dx = true
  | 0, _, _, _, h => by cases h
  | n + 1, dx, dy, b, h => by
    have hD := elJ (c := c) (X := X) (cl := cl) (n := k + n) (S := S) fun dx dy b e => let ⟨j, _, q⟩ := rcX_ok G n dx dy b e; ⟨j, q⟩
    unfold rcX at h
    split at h
    · rename_i xs ys hx hy
      exact ⟨rcJ_list_eq hD hx hy h, rcJ_list_ne hD hx hy h, lsOf_ref hx⟩
    · split at h
      · exact ⟨rcJ_tup_eq hD h, rcJ_tup_ne hD h, rfl⟩
      · split at h
        · rename_i hc
          obtain ⟨rfl, ok⟩ := hc
          exact ⟨(rcJ_ins_eq G ok h).mono (by omega), (rcJ_ins_ne G ok h).mono (by omega), rfl⟩
        · cases h
      · cases h
end
section
variable {X : Cx} {cl : Str → Option Addr} {n k : Nat} {c : Str} {g : List D → Store → Res D}
def rEqO (K : PySem.W.Frag) (cl : Str → Option Addr) (c : Str) (g : List D → Store → Res D) (n : Nat) : R2 := fun x y H Q => rEqA K x y H Q ∨ ∃ W S dx dy b, R K cl W H S ∧ Rep K cl W x dx ∧ Rep K cl W y dy ∧ rcX c g S n dx dy = some b ∧ ∀ W' H', Le W W' → R K cl W' H' S → Q (.bl b) H'
def rNeO (K : PySem.W.Frag) (cl : Str → Option Addr) (c : Str) (g : List D → Store → Res D) (n : Nat) : R2 := fun x y H Q => rNeA K x y H Q ∨ ∃ W S dx dy b, R K cl W H S ∧ Rep K cl W x dx ∧ Rep K cl W y dy ∧ rcX c g S n dx dy = some b ∧ ∀ W' H', Le W W' → R K cl W' H' S → Q (.bl (!b)) H'
theorem op_eqO (G : OwnE X.prog X.w X.K X.mg X.base cl c k g) (hr : Room (k + n) X.A) : OpR X (compareOp .Eq) (rEqO X.K cl c g n) := by
  refine opr_or (op_eqA hr) ?_
  intro pins s σ H x y v u Q I rx ry hq
  obtain ⟨W, S, dx, dy, b, r, px, py, e, q⟩ := hq
  refine wpAny_mono ((rcX_ok G n dx dy b e).1 X.A pins s σ H W x y v u ⟨hr, rfl⟩ I r px py rx ry) (fun z s' hz => ?_) fun _ _ x => x
  obtain ⟨rfl, W', H', I', l', r'⟩ := hz
  exact ⟨.bl b, H', I', rfl, q W' H' l' r'⟩
theorem op_neO (G : OwnE X.prog X.w X.K X.mg X.base cl c k g) (hr : Room (k + n) X.A) : OpR X (compareOp .NotEq) (rNeO X.K cl c g n) := by
  refine opr_or (op_neA hr) ?_
  intro pins s σ H x y v u Q I rx ry hq
  obtain ⟨W, S, dx, dy, b, r, px, py, e, q⟩ := hq
  refine wpAny_mono ((rcX_ok G n dx dy b e).2.1 X.A pins s σ H W x y v u ⟨hr, rfl⟩ I r px py rx ry) (fun z s' hz => ?_) fun _ _ x => x
  obtain ⟨rfl, W', H', I', l', r'⟩ := hz
  exact ⟨.bl _, H', I', rfl, q W' H' l' r'⟩
theorem eqO_s {K : PySem.W.Frag} : OpS K cl (rEqO K cl c g n) (eqO c g n) := by
  intro W H S x y a b Q E r rx ry p
  unfold eqO at p
  cases e : eqB S a b with
  | some z =>
    refine .inl (eq_s W H S x y a b Q E r rx ry ?_)
    unfold eqD
    rw [e] at p ⊢
    exact p
  | none =>
    rw [e] at p
    dsimp only at p
    cases e2 : rcX c g S n a b with
    | none => rw [e2] at p; exact p.elim
    | some z =>
      rw [e2] at p
      exact .inr ⟨W, S, a, b, z, r, rx, ry, e2, fun W' H' l r' => p W' H' _ l r' (.bl z)⟩
theorem neO_s {K : PySem.W.Frag} : OpS K cl (rNeO K cl c g n) (neO c g n) := by
  intro W H S x y a b Q E r rx ry p
  unfold neO at p
  cases e : eqB S a b with
  | some z =>
    refine .inl (ne_s W H S x y a b Q E r rx ry ?_)
    unfold neD
    rw [e] at p ⊢
    exact p
  | none =>
    rw [e] at p
    dsimp only at p
    cases e2 : rcX c g S n a b with
    | none => rw [e2] at p; exact p.elim
    | some z =>
      rw [e2] at p
      exact .inr ⟨W, S, a, b, z, r, rx, ry, e2, fun W' H' l r' => p W' H' _ l r' (.bl _)⟩
end
end G
namespace G
open PySem L2
/-! ### order of texts; sorted(list of texts) -/
def lS (a b : Str) : Prop := a.cps.toList < b.cps.toList
def bS (a b : Str) : Bool := PySem.Spec.ltCps a.cps.toList b.cps.toList
theorem ltCps_iff : ∀ {a b : List Nat}, PySem.Spec.ltCps a b = true ↔ a < b
  | [], [] => by simp [PySem.Spec.ltCps]
  | [], _ :: _ => by simp [PySem.Spec.ltCps]
  | _ :: _, [] => by simp [PySem.Spec.ltCps]
  | a :: r, b :: t => by
    unfold PySem.Spec.ltCps
    rw [Bool.or_eq_true, Bool.and_eq_true, ltCps_iff (a := r) (b := t), List.cons_lt_cons_iff]
    simp
theorem ltCps_tot {a b : List Nat} (h1 : PySem.Spec.ltCps a b = false) (h2 : PySem.Spec.ltCps b a = false) : a = b := by
  have e1 : ¬ a < b := fun h => by rw [← ltCps_iff, h1] at h; cases h
  have e2 : ¬ b < a := fun h => by rw [← ltCps_iff, h2] at h; cases h
  exact List.le_antisymm (List.not_lt.mp e2) (List.not_lt.mp e1)
theorem bS_tot {a b : Str} (h1 : bS a b = false) (h2 : bS b a = false) : a = b := by
  have h := ltCps_tot h1 h2
  obtain ⟨⟨a⟩⟩ := a
  obtain ⟨⟨b⟩⟩ := b
  exact congrArg (fun l => (⟨⟨l⟩⟩ : Str)) h
theorem bS_trans {a b c : Str} (h1 : bS a b = true) (h2 : bS b c = true) : bS a c = true := ltCps_iff.mpr (List.lt_trans (ltCps_iff.mp h1) (ltCps_iff.mp h2))
theorem bS_irr {a : Str} : bS a a = false := by
  cases h : bS a a with
  | false => rfl
  | true => exact absurd (ltCps_iff.mp h) (List.lt_irrefl _)
theorem bS_asym {a b : Str} (h : bS a b = true) : bS b a = false := by
  cases q : bS b a with
  | false => rfl
  | true => have := bS_trans h q; rw [bS_irr] at this; cases this
/-- a ≤ b -/
def wS (a b : Str) : Prop := bS b a = false
theorem wS_trans {a b c : Str} (h1 : wS a b) (h2 : wS b c) : wS a c := by
  unfold wS at *
  cases q : bS c a with
  | false => rfl
  | true =>
    cases e : bS a b with
    | true =>
      have := bS_trans q e
      rw [h2] at this
      cases this
    | false =>
      have := bS_tot e h1
      subst this
      rw [h2] at q
      cases q
theorem sortedS_pw : ∀ (l : List Str), PyProof.Rows.sortedS l = true → l.Pairwise wS
  | [], _ => .nil
  | [x], _ => .cons (fun _ h => nomatch h) .nil
  | x :: y :: r, h => by
    have h : (!PySem.Spec.ltCps y.cps.toList x.cps.toList && PyProof.Rows.risingS y r) = true := h
    rw [Bool.and_eq_true] at h
    have ih := sortedS_pw (y :: r) h.2
    have hxy : wS x y := by simpa [wS, bS] using h.1
    refine .cons (fun z hz => ?_) ih
    rcases List.mem_cons.mp hz with rfl | hz
    · exact hxy
    · exact wS_trans hxy (List.rel_of_pairwise_cons ih hz)
noncomputable def srtS (l : List Str) : List Str := l.mergeSort (fun a b => !bS b a)
theorem srtS_perm (l : List Str) : (srtS l).Perm l := List.mergeSort_perm _ _
theorem srtS_pw (l : List Str) : (srtS l).Pairwise wS := by
  have := List.pairwise_mergeSort (le := fun a b : Str => !bS b a) (fun a b c h1 h2 => by
    have h1 : wS a b := by simpa [wS] using h1
    have h2 : wS b c := by simpa [wS] using h2
    have := wS_trans h1 h2
    simpa [wS] using this) (fun a b => by
    cases h : bS b a with
    | false => simp
    | true => simp [bS_asym h]) l
  exact this.imp (by simp [wS])
theorem srtS_eq {l ns : List Str} (h1 : l.Perm ns) (h2 : l.Pairwise wS) : l = srtS ns :=
  List.Perm.eq_of_pairwise (fun x y _ _ h1 h2 => bS_tot h2 h1) h2 (srtS_pw ns) (h1.trans (srtS_perm ns).symm)
noncomputable def sortedSD (as : List D) (S : Store) : Res D := match as with
  | [x] => (match (lsOf S x).bind stsO with
    | some ns => if ns.length < 64 then .ok (.lst ((srtS ns).map D.str)) S else .stk
    | none => .stk)
  | _ => .stk
section
variable {K : PySem.W.Frag} {cl : Str → Option Addr}
theorem sts_ofV {W : Wd} : ∀ {vs : List V} {ds : List D} {ns : List Str}, Reps K cl W vs ds → stsO ds = some ns → vs = ns.map V.str
  | _, _, _, .nil, e => by cases e; rfl
  | _, _, _, .cons (d := d) (ds := ds) h t, e => by
    cases h with
    | str i =>
      unfold stsO at e
      cases e1 : stsO ds with
      | none => rw [e1] at e; cases e
      | some l =>
        rw [e1] at e
        cases e
        rw [sts_ofV t e1]
        rfl
    | _ => cases e
theorem reps_strs {W : Wd} : ∀ l : List Str, Reps K cl W (l.map V.str) (l.map D.str)
  | [] => .nil
  | i :: l => .cons (.str i) (reps_strs l)
theorem sortedS_s : FnS K cl (rSortedS K) sortedSD := by
  intro W H S x a Q E r rx p
  unfold sortedSD at p
  split at p
  · rename_i d
    cases rx with | cons rx rn =>
    cases rn
    split at p
    · rename_i ns en
      split at p
      · rename_i hz
        cases e1 : lsOf S d with
        | none => rw [e1] at en; cases en
        | some ds =>
          rw [e1] at en
          obtain ⟨l, vs, rfl, h, t⟩ := ls_of r rx e1
          have ev := sts_ofV t (show stsO ds = some ns from en)
          subst ev
          refine ⟨l, ns, rfl, SqL.of h, hz, fun ns' q hp hs hq => ?_⟩
          rw [srtS_eq hp (sortedS_pw _ hs)]
          exact newL r (reps_strs _) p q hq
      · exact p.elim
    · exact p.elim
  · exact p.elim
/-! ### x.startswith(y) -/
def startsD (x : D) (as : List D) (S : Store) : Res D := match x, as with
  | .str a, [.str b] => .ok (.bl (Txt.startswith a b)) S
  | _, _ => .stk
theorem starts_s : MtS K cl (fun x xs H Q => ∃ a b, x = .str a ∧ xs = [.str b] ∧ Q (.bl (Txt.startswith a b)) H) startsD := by
  intro W H S x a y b Q E r rx ry p
  unfold startsD at p
  split at p
  · cases rx
    cases ry with | cons ry rn =>
    cases rn; cases ry
    exact ⟨_, _, rfl, rfl, p.now r (.bl _)⟩
  · exact p.elim
end
/-! ### *xs among the parts of a tuple -/
def mStar (a : M D) (b : M (List D)) : M (List D) := fun ρ S => (a ρ S).bind fun x S1 => match sqOf S1 x with
  | some xs => (b ρ S1).bind fun ys S2 => .ok (xs ++ ys) S2
  | none => .stk
section
variable {X : Cx} {cl : Str → Option Addr} {E : WX} {a : Expr} {es : List Expr} {m : M D} {ms : M (List D)} {p : Pos}
theorem ta_star (ha : PE X a (T X.K cl E m)) (hb : PA X es (TL X.K cl E ms)) (hs : starEach (.Starred a p :: es) X.env = (true, eval a X.env) :: starEach es X.env := by rfl) : PA X (.Starred a p :: es) (TL X.K cl E (mStar m ms)) :=
  pa_imp (StX.pa_star ha hb hs) fun σ H Q ⟨W, ρ, S, hr, en, q⟩ => step hr en q fun W1 H1 v d S1 l1 r1 e1 rv p1 => by
    split at p1
    · rename_i xs ex
      obtain ⟨q, vs, rfl, h, t⟩ := sq_of' r1 rv ex
      exact ⟨q, vs, rfl, h.symm, step r1 e1 p1 fun W2 H2 ws ds S2 l2 r2 e2 rw p2 => p2.now r2 ((t.up l2).app rw)⟩
    · exact p1.elim
end
/-! ### list(reversed(list)) -/
end G
namespace PySem
open RT Builtin
section
variable {prog : Program} {w : World} {A : Around} {E : Value → Shared → Prop} {s : Shared}
theorem init_list_rev {R : Result → Shared → Prop} {it l : Addr} {items : Array Value} (hh : A.handled = none) (hit : s.heap.IsRevIter it l ((items.size : Int) - 1)) (hl : s.heap.IsList l items) (hne : l ≠ it) (hn : items.size ≤ sizeLine) (S : Addr) (hSi : S ≠ it) (hSl : S ≠ l)
    (hS : s.heap.get? S = some { cls := .type "list", data := .seq #[] })
    (hR : ∀ h' tk acc' c', (∀ b o, b ≠ S → b ≠ it → s.heap.get? b = some o → h'.get? b = some o) → h'.get? S = some { cls := .type "list", dict := none, data := .seq acc' c', slots := #[] } →
      ItemsOf (fun i v => items[items.size - 1 - i]? = some v) acc' items.size → R (.ok (.ret .none)) { s with heap := h', toks := tk }) :
    wpAny (model prog w) A.in1 (Builtin.«list.__init__» ⟨[.ref S, .ref it], []⟩)
      (fun fin s' => match fin with | .done f => R (.ok f) s' | .again c' => c'.quiet = true ∧ codeAny (model prog w) A c' R s') (fun e s' => R (.error e) s') s := by
  have W := (Walks.listRev (prog := prog) (w := w) (A := A.in1) hh it l hne items).toS
  have hSf : S ∉ [it, l] := by simp only [List.mem_cons, List.not_mem_nil, or_false, not_or]; exact ⟨hSi, hSl⟩
  show wpAny _ A.in1 (do let old ← Builtin.List.listItems (.ref S); Builtin.List.listUpdate (.ref S) (fun _ => #[]); letGo old.toList.reverse; Builtin.List.listExtendWith (.ref S) (.ref it) .none) _ _ s
  refine wpAny_bind ?_
  unfold Builtin.List.listItems
  refine wpAny_bind (wpAny_seqItems hS rfl (wpAny_pure ?_))
  show wpAny _ A.in1 (updateSeq S (fun _ => #[]) >>= fun _ => letGo (#[] : Array Value).toList.reverse >>= fun _ => Builtin.List.listExtendWith (.ref S) (.ref it) .none) _ _ s
  refine wpAny_bind (wpAny_updateSeq hS rfl ?_)
  have hS₂ := Heap.get?_update_self (Obj.mapSeq (fun _ => (#[] : Array Value))) hS rfl
  have oth : ∀ b o, b ≠ S → s.heap.get? b = some o → (s.heap.update S (Obj.mapSeq (fun _ => (#[] : Array Value)))).get? b = some o :=
    fun b o hb e => (Heap.get?_update_other _ _ (Ne.symm hb)).trans e
  refine wpAny_bind (wpAny_letGo ?_)
  have hit1 : (s.heap.update S (Obj.mapSeq (fun _ => (#[] : Array Value)))).IsRevIter it l ((items.size : Int) - 1) := hit.at fun o e => oth it o (Ne.symm hSi) e
  have hl1 : (s.heap.update S (Obj.mapSeq (fun _ => (#[] : Array Value)))).IsList l items := by
    obtain ⟨o, e, q⟩ := hl
    exact ⟨o, oth l o (Ne.symm hSl) e, q⟩
  have hT : ({ s with heap := s.heap.update S (Obj.mapSeq (fun _ => (#[] : Array Value))) } : Shared).TypeIs (.ref it) "list_reverseiterator" := Heap.IsRevIter.typeIs (s := { s with heap := s.heap.update S (Obj.mapSeq (fun _ => (#[] : Array Value))) }) hit1
  have h1 : Builtin.List.listSameRef (.ref S) (.ref it) = false := by simp [Builtin.List.listSameRef, hSi]
  unfold Builtin.List.listExtendWith
  refine wpAny_bind (wpAny_typeOf hT ?_)
  rw [if_neg (by rw [h1]; decide)]
  refine wpAny_bind (wpAny_pyIter_revIter (s := { s with heap := s.heap.update S (Obj.mapSeq (fun _ => (#[] : Array Value))) }) hit1 ?_)
  refine wpAny_bind (wpAny_holding ?_)
  unfold Builtin.List.listLengthHint
  refine wpAny_bind (wpAny_specialOf hT nolen_lri ?_)
  show wpAny _ A.in1 (specialOf (Value.ref it) (Str.ofString "__length_hint__") >>= _) _ _ _
  refine wpAny_bind (wpAny_specialOf hT hint_lri ?_)
  generalize hid : ("list_reverseiterator.__length_hint__" : String) = id0
  wp_delta
  rw [show splitId id0 = some ("list_reverseiterator", "__length_hint__") from by subst hid; decide +kernel]
  subst hid
  refine wpAny_bind (wpAny_isInstance (b := true) hT (by rw [isSubtype_type]; kernel_rfl) ?_)
  refine wpAny_pure ?_
  rw [if_neg (by decide)]
  have e0 : ((items.size : Nat) : Int) - 1 - ((0 : Nat) : Int) = (items.size : Int) - 1 := by omega
  refine wpAny_pure ⟨plainId_quiet F.plain_extend_loop _, codeAny_extend_loopS W hn _ hSf _ items.size 0 _ _ _ rfl (Nat.zero_le _) ⟨Nat.zero_le _, by rw [e0]; exact hit1, hl1⟩ hS₂ (ItemsOf.nil _) fun s' acc' c' hm hS' hacc => ?_⟩
  rw [Moved.eq_with hm]
  refine hR s'.heap s'.toks acc' c' (fun b o hb hi e => hm.heap b o (fun hmem => ?_) (oth b o hb e)) hS' hacc
  rcases List.mem_cons.mp hmem with e' | hmem
  · exact hb e'
  · exact hi (List.mem_singleton.mp hmem)
theorem call_list_rev {it l : Addr} {items : Array Value} {Q : Value → Shared → Prop} (hh : A.handled = none) (hit : s.heap.IsRevIter it l ((items.size : Int) - 1)) (hl : s.heap.IsList l items) (hne : l ≠ it) (hn : items.size ≤ sizeLine)
    (hQ : ∀ h' tk acc' c', (∀ b o, b ≠ it → s.heap.get? b = some o → h'.get? b = some o) → h'.get? s.heap.objs.size = some { cls := .type "list", dict := none, data := .seq acc' c', slots := #[] } →
      ItemsOf (fun i v => items[items.size - 1 - i]? = some v) acc' items.size → Q (.ref s.heap.objs.size) { s with heap := h', toks := tk }) :
    wpAny (model prog w) A (call (.type "list") [.ref it]) Q E s := by
  obtain ⟨oi, hoi, _⟩ := id hit
  obtain ⟨ol, hol, _⟩ := id hl
  refine callType_codes (Q₁ := fun obj s₁ => obj = .ref s.heap.objs.size ∧ s₁ = { s with heap := s.heap.push { cls := .type "list", data := .seq #[] } }) F.called_list (F.typeCall_list_1 _) F.entry_list_init
    (code_list_new _ ⟨rfl, rfl⟩) fun obj s₁ h₁ => ?_
  obtain ⟨rfl, rfl⟩ := h₁
  have hS : (s.heap.push { cls := .type "list", data := .seq #[] }).get? s.heap.objs.size = some { cls := .type "list", data := .seq #[] } := Heap.get?_push_size _ rfl
  refine ⟨⟨_, hS, rfl⟩, F.args_list_init_2 _ _, init_list_rev (A := A.in1) hh (hit.at fun o e => Heap.get?_push_of_some _ e) (hl.push _) hne hn _ (Nat.ne_of_gt (Heap.lt_size hoi)) (Nat.ne_of_gt (Heap.lt_size hol)) hS fun h' tk acc' c' hk hS' hacc => ?_⟩
  exact ⟨rfl, hQ h' tk acc' c' (fun b o hb e => hk b o (Nat.ne_of_lt (Heap.lt_size e)) hb (Heap.get?_push_of_some _ e)) hS' hacc⟩
end
end PySem

namespace G
open PySem L2 PyProof.Rows RT
section
variable {X : Cx} {cl : Str → Option Addr} {E : WX} {e : Expr} {te : TE} {m : M D} {p p2 pos pos2 : Pos}
def tLstRev (K : PySem.W.Frag) (te : TE) : TE := fun σ H Q => te σ H fun v H1 => ∃ (a : Addr) (xs : List V), v = .ref a ∧ SqL K H1 a xs ∧ ∀ q, H1 q = none → Q (.ref q) (upd H1 q (.lst xs.reverse))
theorem pe_lstRev (hc : X.calm = true) (hg : Gl X "list") (hm : X.mg "list" = none) (hg2 : Gl X "reversed") (hm2 : X.mg "reversed" = none) (he : PE X e te)
    (hs : starEach [e] X.env = (false, eval e X.env) :: starEach [] X.env := by rfl)
    (hs2 : starEach [.Call (.Name "reversed" p2) [e] [] pos2] X.env = (false, eval (.Call (.Name "reversed" p2) [e] [] pos2) X.env) :: starEach [] X.env := by rfl) :
    PE X (.Call (.Name "list" p) [.Call (.Name "reversed" p2) [e] [] pos2] [] pos) (tLstRev X.K te) := by
  refine ⟨fun pins s σ H Q I h => ?_⟩
  refine Call_ (ld_blt I hg hm bt_list (PyProof.Rows.callWith_type1 (args_cons (Call_ (ld_blt I hg2 hm2 PyProof.Rows.boot_reversed (PyProof.Rows.callWith_type1 (args_cons (thn (he.run pins s σ H _ I h) fun u s1 ⟨v, H1, I1, r1, q1⟩ => args_nil ?_) hs) hs rfl))) hs2) hs2 rfl))
  obtain ⟨a, xs, ev, hq, q⟩ := q1
  subst ev
  obtain rfl : u = Value.ref a := r1
  obtain ⟨its, rv, p', hz⟩ := I1.list hq
  refine call_reversed_list p'.isList (args_nil ?_)
  have k0 : ∀ b o, s1.heap.get? b = some o → (s1.heap.push (revObj a ((its.toArray.size : Int) - 1))).get? b = some o := fun b o e => Heap.get?_push_of_some _ e
  have I2 : Inv X pins σ H1 { s1 with heap := s1.heap.push (revObj a ((its.toArray.size : Int) - 1)) } := I1.kept (t' := s1.toks) k0
  obtain ⟨f0, f1, f2, f3, f4, f5⟩ := I1.fpOk (H' := H1) (b := s1.heap.objs.size) (Nat.le_refl _) (I1.hok.fresh (Nat.le_refl _))
  have hl := p'.isList
  obtain ⟨ol, hol, _⟩ := id hl
  have hne : a ≠ s1.heap.objs.size := Nat.ne_of_lt (Heap.lt_size hol)
  have hn : its.toArray.size ≤ sizeLine := by rw [List.size_toArray, ← rv.length]; exact hz
  refine call_list_rev (s := { s1 with heap := s1.heap.push (revObj a ((its.toArray.size : Int) - 1)) }) (I1.ok.hd hc) ⟨_, Heap.get?_push_size _ rfl, rfl, rfl⟩ (hl.push _) hne hn fun h' tk acc c' hk hS hi => ?_
  have hz2 : s1.heap.objs.size ≤ (s1.heap.push (revObj a ((its.toArray.size : Int) - 1))).objs.size := by simp [Heap.push]
  refine ⟨.ref _, upd H1 _ (.lst xs.reverse), I1.laid (t' := tk) (fun b o e => hk b o (Nat.ne_of_lt (Heap.lt_size e)) (k0 b o e)) hz2 (show ObjOk X.prog X.w _ _ _ (.lst xs.reverse) from ⟨by rw [List.length_reverse]; exact hz, acc.toList, c', RT.vals_rev rv hi, ?_⟩), rfl, q _ (I1.hok.fresh hz2)⟩
  rw [Array.toArray_toList]
  exact hS
def lrevD (d : D) (S : Store) : Res D := match lsOf S d with
  | some xs => .ok (.lst xs.reverse) S
  | none => .stk
theorem t_lstRev (hm : X.mg "list" = none) (hm2 : X.mg "reversed" = none) (he : PE X e (T X.K cl E m)) (hc : X.calm = true := by rfl) (hg : Gl X "list" := by rfl) (hg2 : Gl X "reversed" := by rfl)
    (hs : starEach [e] X.env = (false, eval e X.env) :: starEach [] X.env := by rfl)
    (hs2 : starEach [.Call (.Name "reversed" p2) [e] [] pos2] X.env = (false, eval (.Call (.Name "reversed" p2) [e] [] pos2) X.env) :: starEach [] X.env := by rfl) :
    PE X (.Call (.Name "list" p) [.Call (.Name "reversed" p2) [e] [] pos2] [] pos) (T X.K cl E (mUn lrevD m)) :=
  pe_imp (pe_lstRev hc hg hm hg2 hm2 he hs hs2) fun σ H Q ⟨W, ρ, S, hr, en, q⟩ => step hr en q fun W1 H1 v d S1 l1 r1 e1 rv p1 => by
    unfold lrevD at p1
    split at p1
    · rename_i xs ex
      obtain ⟨l, vs, rfl, h, t⟩ := ls_of r1 rv ex
      exact ⟨l, vs, rfl, SqL.of h, newL r1 t.rev p1⟩
    · exact p1.elim
end
/-! ### a dict of the module, its keys texts, its values flat -/
inductive KTab : List DictEntry → List (Str × D) → Prop
  | nil : KTab [] []
  | cons {e : DictEntry} {x : Str} {t : Tok} {d : D} {r : List DictEntry} {tb : List (Str × D)} : e.key = .str x t → (∃ v, RelV v e.val ∧ absD v = some d) → KTab r tb → KTab (e :: r) ((x, d) :: tb)
def KCon (K : PySem.W.Frag) (w : World) (cl : Str → Option Addr) (mg : Str → Option Value) (x : Str) (tb : List (Str × D)) : Prop :=
  ∃ d es n, mg x = some (.ref d) ∧ KDict K w d es n ∧ ∀ z, (tb.lookup z = none → PySem.W.nsIn K d z = some none) ∧ ∀ y, tb.lookup z = some y → ∃ u v, PySem.W.nsIn K d z = some (some u) ∧ RelV v u ∧ ∀ W, Rep K cl W v y
theorem ktab_find : ∀ {es : List DictEntry} {tb : List (Str × D)}, KTab es tb → ∀ z : Str, (tb.lookup z = none → es.find? (·.key.isStr z) = none ∧ es.any (·.refKey) = false) ∧ ∀ y, tb.lookup z = some y → ∃ e v, es.find? (·.key.isStr z) = some e ∧ RelV v e.val ∧ absD v = some y
  | _, _, .nil, z => ⟨fun _ => ⟨rfl, rfl⟩, fun y h => by cases h⟩
  | _, _, .cons (e := e) (x := x) hk hv t, z => by
    obtain ⟨h1, h2⟩ := ktab_find t z
    have hs : e.key.isStr z = decide (x = z) := by rw [hk]; rfl
    have hr : e.refKey = false := by
      unfold DictEntry.refKey
      rw [hk]
    by_cases hz : x = z
    · subst hz
      refine ⟨fun h => ?_, fun y h => ?_⟩
      · simp [List.lookup] at h
      · simp [List.lookup] at h
        obtain ⟨v, q1, q2⟩ := hv
        exact ⟨e, v, by rw [List.find?_cons_of_pos (by rw [hs]; simp)], q1, by rw [q2, h]⟩
    · have hb : (z == x) = false := by simpa using fun h => hz h.symm
      refine ⟨fun h => ?_, fun y h => ?_⟩
      · rw [List.lookup_cons, hb] at h
        obtain ⟨q1, q2⟩ := h1 h
        refine ⟨by rw [List.find?_cons_of_neg (by rw [hs]; simpa using hz)]; exact q1, by rw [List.any_cons, hr, q2]; rfl⟩
      · rw [List.lookup_cons, hb] at h
        obtain ⟨e', v, q1, q2⟩ := h2 y h
        exact ⟨e', v, by rw [List.find?_cons_of_neg (by rw [hs]; simpa using hz)]; exact q1, q2⟩
theorem kcon_of {K : PySem.W.Frag} {w : World} {cl : Str → Option Addr} {mg : Str → Option Value} {x : Str} {tb : List (Str × D)} {d : Addr} {es : Array DictEntry} {n : Nat} (h : mg x = some (.ref d)) (D : KDict K w d es n) (t : KTab es.toList tb) : KCon K w cl mg x tb := by
  refine ⟨d, es, n, h, D, fun z => ?_⟩
  obtain ⟨h1, h2⟩ := ktab_find t z
  refine ⟨fun q => ?_, fun y q => ?_⟩
  · obtain ⟨a, b⟩ := h1 q
    unfold PySem.W.nsIn
    rw [D.at_]
    dsimp only
    rw [a, b]
    rfl
  · obtain ⟨e, v, a, b, c⟩ := h2 y q
    refine ⟨e.val, v, ?_, b, fun W => abs_rep c⟩
    unfold PySem.W.nsIn
    rw [D.at_]
    dsimp only
    rw [a]
def mInK (tb : List (Str × D)) (a : M D) : M D := fun ρ S => (a ρ S).bind fun x S1 => match x with
  | .str z => .ok (.bl (tb.lookup z).isSome) S1
  | _ => .stk
def mIxK (tb : List (Str × D)) (a : M D) : M D := fun ρ S => (a ρ S).bind fun x S1 => match x with
  | .str z => (match tb.lookup z with
    | some d => .ok d S1
    | none => .stk)
  | _ => .stk
section
variable {X : Cx} {cl : Str → Option Addr} {E : WX} {a : Expr} {m : M D} {x : Str} {tb : List (Str × D)} {p pos : Pos}
theorem pe_globr {d : Addr} (hm : X.mg x = some (.ref d)) (hg : Gl X x) (hd : (x == ("__debug__" : Str)) = false) : PE X (.Name x pos) (tC (.ref d)) := pe_glob hg hm rfl hd
theorem t_inK (h : KCon X.K X.w cl X.mg x tb) (ha : PE X a (T X.K cl E m)) (hg : Gl X x := by rfl) (hd : (x == ("__debug__" : Str)) = false := by decide) (hm : behindInMarks .In (.Name x p) = false := by first | exact nomark _ | rfl) :
    PE X (.Compare a [.In] [.Name x p] pos) (T X.K cl E (mInK tb m)) := by
  obtain ⟨d, es, n, h1, h2, h3⟩ := h
  refine pe_imp (pe_cmpR (op_in_kd h2) ha (pe_globr h1 hg hd) hm) fun σ H Q ⟨W, ρ, S, hr, en, q⟩ => step hr en q fun W1 H1 v dv S1 l1 r1 e1 rv p1 => ?_
  split at p1
  · rename_i z
    cases rv
    cases e : tb.lookup z with
    | none =>
      rw [e] at p1
      exact ⟨z, none, rfl, rfl, (h3 z).1 e, p1.now r1 (.bl _)⟩
    | some y =>
      rw [e] at p1
      obtain ⟨u, v, q1, _⟩ := (h3 z).2 y e
      exact ⟨z, some u, rfl, rfl, q1, p1.now r1 (.bl _)⟩
  · exact p1.elim
theorem tt_inK (h : KCon X.K X.w cl X.mg x tb) (ha : PE X a (T X.K cl E m)) (hg : Gl X x := by rfl) (hd : (x == ("__debug__" : Str)) = false := by decide) (hm : behindInMarks .In (.Name x p) = false := by first | exact nomark _ | rfl) :
    PT X (.Compare a [.In] [.Name x p] pos) (TB X.K cl E (mTest (mInK tb m))) := by
  obtain ⟨d, es, n, h1, h2, h3⟩ := h
  refine pt_imp (pt_cmpR (op_in_kd h2) ha (pe_globr h1 hg hd) hm) fun σ H Q ⟨W, ρ, S, hr, en, q⟩ => ?_
  have q : Post X.K cl (Rep X.K cl) W (mInK tb m ρ S) _ _ := post_test q
  refine step hr en q fun W1 H1 v dv S1 l1 r1 e1 rv p1 => ?_
  split at p1
  · rename_i z
    cases rv
    cases e : tb.lookup z with
    | none =>
      rw [e] at p1
      exact ⟨z, none, rfl, rfl, (h3 z).1 e, p1.now r1 (.bl _)⟩
    | some y =>
      rw [e] at p1
      obtain ⟨u, v, q1, _⟩ := (h3 z).2 y e
      exact ⟨z, some u, rfl, rfl, q1, p1.now r1 (.bl _)⟩
  · exact p1.elim
theorem ix_kd {d : Addr} {es : Array DictEntry} {n : Nat} (D : KDict X.K X.w d es n) : IxR X (fun x y H Q => ∃ (z : Str) (u0 : Value) (v0 : V), x = .ref d ∧ y = .str z ∧ PySem.W.nsIn X.K d z = some (some u0) ∧ RelV v0 u0 ∧ Q v0 H) := by
  intro value slice pins s σ H x y v u Q I rx ry h hs
  have ex : x = .ref d := by obtain ⟨_, _, _, e, _⟩ := h; exact e
  have rx' := rx
  subst ex
  cases rx'
  exact tail_any (kd_type D I) PySem.F.slot_dict_getitem.lookup (op_item_kd D pins s σ H _ y _ u Q I rx ry h) hs
theorem t_ixK (h : KCon X.K X.w cl X.mg x tb) (ha : PE X a (T X.K cl E m)) (hg : Gl X x := by rfl) (hd : (x == ("__debug__" : Str)) = false := by decide) (hs : PlainIx a := by exact fun _ _ => rfl) : PE X (.Subscript (.Name x p) a pos) (T X.K cl E (mIxK tb m)) := by
  obtain ⟨d, es, n, h1, h2, h3⟩ := h
  refine pe_imp (pe_ix (ix_kd h2) (pe_globr h1 hg hd) ha hs) fun σ H Q ⟨W, ρ, S, hr, en, q⟩ => step hr en q fun W1 H1 v dv S1 l1 r1 e1 rv p1 => ?_
  split at p1
  · rename_i z
    cases rv
    split at p1
    · rename_i y e
      obtain ⟨u, v, q1, q2, q3⟩ := (h3 z).2 y e
      exact ⟨z, u, v, rfl, rfl, q1, q2, p1.now r1 (q3 _)⟩
    · exact p1.elim
  · exact p1.elim
end
end G
namespace G
open PySem L2
/-! ### list(d), d any dict -/
section
variable {X : Cx} {cl : Str → Option Addr}
theorem cr_listA (hc : X.calm = true) : CallR X (.type "list") (fun xs H Q => ∃ a kvs, xs = [.ref a] ∧ Rd H a (.dK kvs) ∧ ∀ q, H q = none → Q (.ref q) (upd H q (.lst (kvs.map fun kv => kV kv.1)))) := by
  intro pins s σ H xs us Q I rr ⟨a, kvs, ex, ha, q⟩
  subst ex
  obtain ⟨u, eu, ru⟩ := vals1 rr
  subst eu
  obtain rfl : u = Value.ref a := ru
  obtain ⟨zz, lw, vs, kv, dd⟩ := dk_rd I.hok ha
  obtain ⟨ep, atd⟩ := dd.dictAt
  have len : kvs.length = vs.length := Paired.length kv
  refine PySem.W.kdl_call (PySem.W.kdl_dict (knd := mixKind X.prog X.w) (kvs := vs) (ep := ep) lw) (I.ok.hd hc) atd (len ▸ zz) fun h1 t1 acc c1 kp new its => ?_
  have okk : ObjOk X.prog X.w (upd H s.heap.objs.size (.lst (kvs.map fun kv => kV kv.1))) h1 s.heap.objs.size (.lst (kvs.map fun kv => kV kv.1)) := by
    refine ⟨by rw [List.length_map]; exact zz, acc.toList, c1, vals_of_at ?_ fun j x w g1 g2 => ?_, by rw [Array.toArray_toList]; exact new⟩
    · rw [List.length_map, len, ← its.1]
      simp
    · obtain ⟨k, y, hk, is⟩ := its.2 j w (by rw [← Array.getElem?_toList]; exact g2)
      have f1 : (kvs.map (·.1))[j]? = some k := by rw [KV.keys kv, List.getElem?_map, hk]; rfl
      have f2 : (kvs.map fun kv => kV kv.1)[j]? = some (kV k) := by
        rw [show (kvs.map fun kv => kV kv.1) = (kvs.map (·.1)).map kV from (by rw [List.map_map]; rfl), List.getElem?_map, f1]
        rfl
      rw [f2] at g1
      cases g1
      exact keyIs_rel is
  exact ⟨.ref s.heap.objs.size, _, I.laid kp (Nat.le_refl _) okk, rfl, q _ (I.hok.fresh (Nat.le_refl _))⟩
def listKA (as : List D) (S : Store) : Res D := match as with
  | [x] => (match dcOf S x with
    | some kvs => .ok (.lst (kvs.map fun kv => keyD kv.1)) S
    | none => .stk)
  | _ => .stk
theorem listKA_s {K : PySem.W.Frag} : FnS K cl (fun xs H Q => ∃ a kvs, xs = [.ref a] ∧ Rd H a (.dK kvs) ∧ ∀ q, H q = none → Q (.ref q) (upd H q (.lst (kvs.map fun kv => kV kv.1)))) listKA := by
  intro W H S x a Q E r rx p
  unfold listKA at p
  split at p
  · cases rx with | cons rx rn =>
    cases rn
    split at p
    · rename_i kvs ek
      obtain ⟨l, vs, rfl, h, t⟩ := dc_of r rx ek
      exact ⟨l, vs, rfl, h, newL r (reps_keys t) p⟩
    · exact p.elim
  · exact p.elim
end
/-! ### x is True, x None or a flag -/
section
variable {X : Cx} {cl : Str → Option Addr}
theorem op_isNb : OpR X (compareOp .Is) (fun x y H Q => x = .non ∧ (∃ b, y = .bl b) ∧ Q (.bl false) H) := by
  intro pins s σ H x y v u Q I rx ry h
  obtain ⟨rfl, ⟨b, rfl⟩, q⟩ := h
  cases (show v = Value.none from rx)
  cases (show u = Value.bool b from ry)
  exact wpAny_is_other rfl (fun z => nomatch z) ⟨.bl false, H, I, rfl, q⟩
def rIsT : R2 := fun x y H Q => rIsA x y H Q ∨ (x = .non ∧ (∃ b, y = .bl b) ∧ Q (.bl false) H)
theorem op_isT : OpR X (compareOp .Is) rIsT := opr_or op_isA op_isNb
def isTD (a b : D) (S : Store) : Res D := match a, b with
  | .non, .bl _ => .ok (.bl false) S
  | a, b => isND a b S
theorem isT_s {K : PySem.W.Frag} : OpS K cl rIsT isTD := by
  intro W H S x y a b Q E r rx ry p
  unfold isTD at p
  split at p
  · cases rx
    cases ry
    exact .inr ⟨rfl, ⟨_, rfl⟩, p.now r (.bl _)⟩
  · exact .inl (isN_s W H S x y a b Q E r rx ry p)
@[simp] theorem v_isTn {S : Store} {b : Bool} : isTD .non (.bl b) S = .ok (.bl false) S := nrfl rfl
@[simp] theorem v_isTb {S : Store} {a b : Bool} : isTD (.bl a) (.bl b) S = .ok (.bl (decide (a = b))) S := nrfl rfl
end
/-! ### running -/
section
variable {ρ : Sl} {S : Store} {x y d : D} {ds ys : List D} {kvs : List (Key × D)} {tb : List (Str × D)} {a b z : Str} {m : M D} {ms : M (List D)} {c : Str} {g : List D → Store → Res D} {n : Nat} {k : Bool}
def rLK (o : Option (List (Key × D))) (S : Store) : Res D := match o with
  | some kvs => .ok (.lst (kvs.map fun kv => keyD kv.1)) S
  | none => .stk
@[simp] theorem v_listKA : listKA [x] S = rLK (dcOf S x) S := by
  unfold listKA rLK
  rfl
@[simp] theorem rLK_some : rLK (some kvs) S = .ok (.lst (kvs.map fun kv => keyD kv.1)) S := nrfl rfl
def rLR (o : Option (List D)) (S : Store) : Res D := match o with
  | some xs => .ok (.lst xs.reverse) S
  | none => .stk
@[simp] theorem v_lrev : lrevD x S = rLR (lsOf S x) S := by
  unfold lrevD rLR
  rfl
@[simp] theorem rLR_some : rLR (some ds) S = .ok (.lst ds.reverse) S := nrfl rfl
noncomputable def rSS (o : Option (List D)) (S : Store) : Res D := match o.bind stsO with
  | some ns => if ns.length < 64 then .ok (.lst ((srtS ns).map D.str)) S else .stk
  | none => .stk
@[simp] theorem v_sortS : sortedSD [x] S = rSS (lsOf S x) S := by
  unfold sortedSD rSS
  rfl
theorem sts_map : ∀ l : List Str, stsO (l.map D.str) = some l
  | [] => rfl
  | x :: l => by
    rw [List.map_cons]
    unfold stsO
    rw [sts_map l]
    rfl
theorem rSS_some {l : List Str} (h : l.length < 64) : rSS (some (l.map D.str)) S = .ok (.lst ((srtS l).map D.str)) S := by
  unfold rSS
  show (match stsO (l.map D.str) with | some ns => _ | none => _) = _
  rw [sts_map]
  exact if_pos h
@[simp] theorem v_starts : startsD (.str a) [.str b] S = .ok (.bl (Txt.startswith a b)) S := nrfl rfl
def kSt2 (ρ : Sl) (b : M (List D)) (o : Option (List D)) (S : Store) : Res (List D) := match o with
  | some xs => (b ρ S).bind fun ys S2 => .ok (xs ++ ys) S2
  | none => .stk
def kSt (ρ : Sl) (b : M (List D)) (x : D) (S : Store) : Res (List D) := kSt2 ρ b (sqOf S x) S
def kSt3 (xs : List D) (ys : List D) (S : Store) : Res (List D) := .ok (xs ++ ys) S
@[simp] theorem e_star : mStar m ms ρ S = (m ρ S).bind (kSt ρ ms) := nrfl rfl
@[simp] theorem kSt_eq : kSt ρ ms x S = kSt2 ρ ms (sqOf S x) S := nrfl rfl
@[simp] theorem kSt2_some : kSt2 ρ ms (some ds) S = (ms ρ S).bind (kSt3 ds) := nrfl rfl
@[simp] theorem kSt3_eq : kSt3 ds ys S = .ok (ds ++ ys) S := nrfl rfl
def kInK (tb : List (Str × D)) (x : D) (S : Store) : Res D := match x with
  | .str z => .ok (.bl (tb.lookup z).isSome) S
  | _ => .stk
@[simp] theorem e_inK : mInK tb m ρ S = (m ρ S).bind (kInK tb) := nrfl rfl
@[simp] theorem kInK_str : kInK tb (.str z) S = .ok (.bl (tb.lookup z).isSome) S := nrfl rfl
def rIxK (o : Option D) (S : Store) : Res D := match o with
  | some d => .ok d S
  | none => .stk
def kIxK (tb : List (Str × D)) (x : D) (S : Store) : Res D := match x with
  | .str z => rIxK (tb.lookup z) S
  | _ => .stk
@[simp] theorem e_ixK : mIxK tb m ρ S = (m ρ S).bind (kIxK tb) := by
  unfold mIxK kIxK rIxK
  rfl
@[simp] theorem kIxK_str : kIxK tb (.str z) S = rIxK (tb.lookup z) S := nrfl rfl
@[simp] theorem rIxK_some : rIxK (some d) S = .ok d S := nrfl rfl
theorem eqO_base (h : eqB S x y = some k) : eqO c g n x y S = .ok (.bl k) S := by
  unfold eqO
  rw [h]
theorem neO_base (h : eqB S x y = some k) : neO c g n x y S = .ok (.bl (!k)) S := by
  unfold neO
  rw [h]
theorem eqO_own (h0 : eqB S x y = none) (h : rcX c g S n x y = some k) : eqO c g n x y S = .ok (.bl k) S := by
  unfold eqO
  rw [h0, h]
  rfl
theorem neO_own (h0 : eqB S x y = none) (h : rcX c g S n x y = some k) : neO c g n x y S = .ok (.bl (!k)) S := by
  unfold neO
  rw [h0, h]
  rfl
end
/-! ### == of plain data: whole numbers, texts, lists and tuples of these -/
inductive Pl : Nat → D → Prop
  | int {n : Nat} {i : Int} : Pl n (.int i)
  | str {n : Nat} {x : Str} : PyData.strOk x = true → Pl n (.str x)
  | tup {n : Nat} {ds : List D} : (∀ d ∈ ds, Pl n d) → Pl (n + 1) (.tup ds)
  | lst {n : Nat} {ds : List D} : (∀ d ∈ ds, Pl n d) → Pl (n + 1) (.lst ds)
theorem Pl.mono {n m : Nat} {d : D} (h : Pl n d) : n ≤ m → Pl m d := by
  induction h generalizing m with
  | int => exact fun _ => .int
  | str h => exact fun _ => .str h
  | tup _ ih =>
    intro hm
    obtain ⟨m, rfl⟩ : ∃ k, m = k + 1 := ⟨m - 1, by omega⟩
    exact .tup fun d hd => ih d hd (by omega)
  | lst _ ih =>
    intro hm
    obtain ⟨m, rfl⟩ : ∃ k, m = k + 1 := ⟨m - 1, by omega⟩
    exact .lst fun d hd => ih d hd (by omega)
theorem pl_pys {n : Nat} : ∀ {ds : List D}, (∀ d ∈ ds, ∃ q, toPy d = some q ∧ q.canLay0 = true ∧ q.depth ≤ n) → ∃ qs, toPys ds = some qs ∧ PyData.canLayAll0 qs = true ∧ PyData.depthAll qs ≤ n
  | [], _ => ⟨[], rfl, rfl, by simp [PyData.depthAll]⟩
  | d :: ds, h => by
    obtain ⟨q, h1, h2, h3⟩ := h d (by simp)
    obtain ⟨qs, g1, g2, g3⟩ := pl_pys (n := n) (ds := ds) fun e he => h e (by simp [he])
    refine ⟨q :: qs, ?_, ?_, ?_⟩
    · unfold toPys
      rw [h1, g1]
    · simp [PyData.canLayAll0, h2, g2]
    · simp only [PyData.depthAll]; omega
theorem Pl.py {n : Nat} {d : D} (h : Pl n d) : ∃ q, toPy d = some q ∧ q.canLay0 = true ∧ q.depth ≤ n := by
  induction h with
  | int => exact ⟨_, rfl, rfl, by simp [PyData.depth]⟩
  | str h => exact ⟨_, rfl, by simpa [PyData.canLay0] using h, by simp [PyData.depth]⟩
  | tup _ ih =>
    obtain ⟨qs, h1, h2, h3⟩ := pl_pys ih
    refine ⟨.tuple qs, by unfold toPy; rw [h1]; rfl, by simpa [PyData.canLay0] using h2, by simp [PyData.depth]; omega⟩
  | lst _ ih =>
    obtain ⟨qs, h1, h2, h3⟩ := pl_pys ih
    refine ⟨.list qs, by unfold toPy; rw [h1]; rfl, by simpa [PyData.canLay0] using h2, by simp [PyData.depth]; omega⟩
section
open Classical
theorem pl_eqs : ∀ {ds es : List D} {p q : List PyData}, (∀ d ∈ ds, ∀ {e : D} {p q : PyData}, (∃ m, Pl m e) → toPy d = some p → toPy e = some q → PyData.eqv p q = decide (d = e)) → (∀ e ∈ es, ∃ m, Pl m e) → toPys ds = some p → toPys es = some q → PyData.eqvAll p q = decide (ds = es)
  | [], [], _, _, _, _, h1, h2 => by cases h1; cases h2; simp [PyData.eqvAll]
  | [], e :: es, _, _, _, _, h1, h2 => by
    cases h1
    unfold toPys at h2
    split at h2
    · cases h2; simp [PyData.eqvAll]
    · cases h2
  | d :: ds, [], _, _, _, _, h1, h2 => by
    cases h2
    unfold toPys at h1
    split at h1
    · cases h1; simp [PyData.eqvAll]
    · cases h1
  | d :: ds, e :: es, _, _, hd, he, h1, h2 => by
    unfold toPys at h1 h2
    split at h1
    · rename_i p ps e1 e2
      split at h2
      · rename_i q qs e3 e4
        cases h1
        cases h2
        have a := hd d (by simp) (he e (by simp)) e1 e3
        have b := pl_eqs (fun x hx => hd x (by simp [hx])) (fun x hx => he x (by simp [hx])) e2 e4
        unfold PyData.eqvAll
        rw [a, b, ← Bool.decide_and]
        congr 1
        simp
      · cases h2
    · cases h1
theorem Pl.eqv {n : Nat} {d : D} (h : Pl n d) : ∀ {e : D} {p q : PyData}, (∃ m, Pl m e) → toPy d = some p → toPy e = some q → PyData.eqv p q = decide (d = e) := by
  induction h with
  | int =>
    intro e p q ⟨m, he⟩ h1 h2
    cases h1
    cases he with
    | int => cases h2; simp only [PyData.eqv]; rw [Bool.eq_iff_iff]; simp
    | str _ => cases h2; simp [PyData.eqv]
    | tup _ => unfold toPy at h2; obtain ⟨_, _, rfl⟩ := Option.map_eq_some_iff.mp h2; simp [PyData.eqv]
    | lst _ => unfold toPy at h2; obtain ⟨_, _, rfl⟩ := Option.map_eq_some_iff.mp h2; simp [PyData.eqv]
  | str _ =>
    intro e p q ⟨m, he⟩ h1 h2
    cases h1
    cases he with
    | int => cases h2; simp [PyData.eqv]
    | str _ => cases h2; simp only [PyData.eqv]; rw [Bool.eq_iff_iff]; simp
    | tup _ => unfold toPy at h2; obtain ⟨_, _, rfl⟩ := Option.map_eq_some_iff.mp h2; simp [PyData.eqv]
    | lst _ => unfold toPy at h2; obtain ⟨_, _, rfl⟩ := Option.map_eq_some_iff.mp h2; simp [PyData.eqv]
  | tup _ ih =>
    intro e p q ⟨m, he⟩ h1 h2
    unfold toPy at h1
    obtain ⟨ps, g1, rfl⟩ := Option.map_eq_some_iff.mp h1
    cases he with
    | int => cases h2; simp [PyData.eqv]
    | str _ => cases h2; simp [PyData.eqv]
    | tup he =>
      unfold toPy at h2
      obtain ⟨qs, g2, rfl⟩ := Option.map_eq_some_iff.mp h2
      have := pl_eqs ih (fun e h => ⟨_, he e h⟩) g1 g2
      simp [PyData.eqv, this]
    | lst _ => unfold toPy at h2; obtain ⟨_, _, rfl⟩ := Option.map_eq_some_iff.mp h2; simp [PyData.eqv]
  | lst _ ih =>
    intro e p q ⟨m, he⟩ h1 h2
    unfold toPy at h1
    obtain ⟨ps, g1, rfl⟩ := Option.map_eq_some_iff.mp h1
    cases he with
    | int => cases h2; simp [PyData.eqv]
    | str _ => cases h2; simp [PyData.eqv]
    | tup _ => unfold toPy at h2; obtain ⟨_, _, rfl⟩ := Option.map_eq_some_iff.mp h2; simp [PyData.eqv]
    | lst he =>
      unfold toPy at h2
      obtain ⟨qs, g2, rfl⟩ := Option.map_eq_some_iff.mp h2
      have := pl_eqs ih (fun e h => ⟨_, he e h⟩) g1 g2
      simp [PyData.eqv, this]
theorem Pl.eqB {n m : Nat} {d e : D} {S : Store} (h : Pl n d) (h' : Pl m e) (hn : n ≤ 64) (hm : m ≤ 64) : G.eqB S d e = some (decide (d = e)) := by
  obtain ⟨p, p1, p2, p3⟩ := h.py
  obtain ⟨q, q1, q2, q3⟩ := h'.py
  have s1 : toPyS S d = some p := by cases h <;> exact p1
  have s2 : toPyS S e = some q := by cases h' <;> exact q1
  have z1 : SeqAt.shaped p = true := by simp only [SeqAt.shaped, Bool.and_eq_true, decide_eq_true_eq]; exact ⟨p2, by omega⟩
  have z2 : SeqAt.shaped q = true := by simp only [SeqAt.shaped, Bool.and_eq_true, decide_eq_true_eq]; exact ⟨q2, by omega⟩
  have e0 := h.eqv ⟨m, h'⟩ p1 q1
  unfold G.eqB
  split
  · rename_i u w e1 e2
    cases h <;> first | (cases e1; done) | (cases h' <;> first | (cases e2; done) | (cases e1; cases e2; simp [scal, eqV]))
  · rw [s1, s2]
    simp only [z1, z2, Bool.and_self, if_true]
    rw [e0]
end
end G
/-! G43: list comprehensions whose elements may let an exception out. -/
namespace G
open PySem PySem.Spec
open PyProof.Rows hiding St
open L2
section
variable {X : Cx} {pins : List (Addr × Obj)} {σ : St} {H : Hp} {s s' : Shared}
/-- in the air behind a call, on its way -/
theorem air_call {Y : Cx} {E : XK} (I : Inv Y pins σ H s) {u : Value} (c : L2.CX Y.prog Y.w Y.stack H s E u s') :
    ∃ (a : Addr) (B : Heap) (sI : Shared) (pins : List (Addr × Obj)) (σ : St) (H' : Hp) (cls : Value) (d : Option Addr), u = .ref a ∧ Inv Y pins σ H' sI ∧ (∀ b o, sI.heap.get? b = some o → b ∉ frs Y.stack → B.get? b = some o) ∧
      sI.heap.UpToSlots s'.heap ∧ HandSPX.FlyingZ B Y.stack a (Zc cls d) s'.heap ∧ H' a = none ∧ s'.os = sI.os ∧ AllBare s'.gens ∧ E cls d H' := by
  have x := XE.of_call (W := fun cls d _ H => E cls d H) I (fun _ _ _ h => h) c
  obtain ⟨a0, B0, H0, cls0, d0, rfl, fl0, _⟩ := c
  obtain ⟨a, B, sI, pins, σ, H', cls, d, e, I', nb, up, sky, na, os, ag, w⟩ := x
  cases e
  obtain ⟨_, _, _, oe, vs, T, oT, ts, he, _, hd, h1, _, _, hT, hdT, h3⟩ := fl0
  refine ⟨a0, B, sI, pins, σ, H', cls, d, rfl, I', nb, up, ?_, na, os, ag, w⟩
  rcases sky with ⟨_, _, _, oe', vs', he', _, hd', h1'⟩ | fl | ⟨_, _, _, oe', vs', T', oT', ts', he', _, hd', h1', _, _, hT', hdT', h3'⟩
  · rw [he] at he'; cases he'
    rw [hd] at hd'; cases hd'
    rw [h1] at h1'; cases h1'
  · exact fl
  · rw [he] at he'; cases he'
    rw [hd] at hd'; cases hd'
    rw [h1] at h1'; cases h1'
    rw [hT] at hT'; cases hT'
    rw [hdT] at hdT'; cases hdT'
    rw [h3] at h3'; cases h3'

/-- out of the comprehension -/
theorem comp_fails {W : WX} {scope : Scope} {ce : Env} {fp : List Addr} {s3 s5 s6 : Shared} {H3 H5 : Hp} {pins' : List (Addr × Obj)} {σ' : St} (hs : X.stack = X.env :: X.outer) (hf : X.env.frame = some X.env.locals) (tk : Takes X W)
    (I3 : Inv X pins σ H3 s3) (f3 : ∀ b ∈ fp, FpOk X pins H3 b ∧ b < s3.heap.objs.size) (cf : ce.frame = X.env.frame) (cL : ce.locals = s3.heap.objs.size) (I : Inv (X.blk s3 H3 scope ce fp) pins' σ' H5 s5) {u : Value}
    (c : L2.CX X.prog X.w X.stack H5 s5 (fun c d H => W c d σ H) u s6) : notedBy (model X.prog X.w) X.A ce (fun e s' => CompFails (model X.prog X.w) X.A X.xe ce e s') u s6 := by
  have hfr : X.A.frames = some (X.env :: X.outer) := by rw [I3.ok.frames, hs]
  obtain ⟨a, B, sI, pinsI, σI, H', cls, d, rfl, J, nb, up, fl, na, os, ag, w⟩ := air_call (Y := X.blk s3 H3 scope ce fp) I c
  have fl : HandSPX.FlyingZ B X.stack a (Zc cls d) s6.heap := fl
  have nb : ∀ b o, sI.heap.get? b = some o → b ∉ frs X.stack → B.get? b = some o := nb
  rw [hs] at fl
  have ff : s6.heap.FunFrames B (X.env :: X.outer) := fl.2.2.1
  obtain ⟨m, hn, _⟩ := J.loc
  have hn : sI.heap.Ns ce.locals m := hn
  have nC : H' ce.locals = none := J.free
  show wpAny _ X.A (noteFrame (.ref a) ce) _ _ s6
  rw [noteFrame_env _ cf]
  refine HandSPX.looks_onZ Zc.steady hfr hf fl fun h1 hh up1 => ?_
  have n1 : h1.Ns ce.locals m := (hn.upToSlots up).upToSlots up1
  refine ⟨m, n1, fun h2 m2 n2 sb => ?_⟩
  obtain ⟨st1, Ba, ff1, oe, vs, T, oT, ts, he, hz, hd, hv1, hBT, hTa, hT, hdT, ht3⟩ := hh
  have noC : ∀ {b : Addr} {o : Obj} {vs : Array Value}, h1.get? b = some o → o.data = .fields vs → b ≠ ce.locals := fun {b o vs} e dd q => by
    obtain ⟨oL, es, ep, hoL, hdL, _⟩ := n1
    rw [q, hoL] at e; cases e
    rw [hdL] at dd; cases dd
  have hB' : ∀ b o, (PySem.W.hideAll B [ce.locals]).get? b = some o → B.get? b = some o ∧ b ≠ ce.locals := fun b o e =>
    ⟨PySem.W.of_hideAll _ e, fun q => by rw [PySem.W.hideAll_none [ce.locals] (by rw [q]; simp)] at e; cases e⟩
  have hBn : ∀ {b : Addr}, B.get? b = none → (PySem.W.hideAll B [ce.locals]).get? b = none := fun {b} e => by
    cases q : (PySem.W.hideAll B [ce.locals]).get? b with
    | none => rfl
    | some o => rw [(hB' b o q).1] at e; cases e
  have ha2 := (sb.2 a (noC he hd)).trans he
  have hT2 := (sb.2 T (noC hT hdT)).trans hT
  have st2 : (PySem.W.hideAll B [ce.locals]).StaysIn h2 := fun b o e => (sb.2 b (hB' b o e).2).trans (st1 b o (hB' b o e).1)
  have ff2 : h2.FunFrames (PySem.W.hideAll B [ce.locals]) (X.env :: X.outer) := funFrames_none (Heap.FunFrames.sameBut sb n2 ff1) fun L hL => hBn (ff1.mem hL).1
  have t2 : HandSPX.TracedZ h2 (PySem.W.hideAll B [ce.locals]) a (Zc cls d) (rawInt X.env.locals) := ⟨oe, vs, T, oT, ts, ha2, hz, hd, hv1, hBn hBT, hTa, hT2, hdT, ht3⟩
  unfold PySem.passOn
  refine wpAny_bind (wpAny_field ha2 hd hv1 ?_)
  rw [if_neg (show ¬ ((Value.ref T == Value.none) = true) from by simp)]
  rw [cf, hf]
  refine wpAny_bind (HandSPX.setFlight_anyZ (fr := some X.env.locals) st2 ff2 t2 fun h3 k1 k2 k3 k4 => wpAny_throw ?_)
  have lt3 : ∀ {b : Addr} {o : Obj}, s3.heap.get? b = some o → b ∉ [ce.locals] := fun {b o} e q => by
    have z := Heap.lt_size e
    rw [List.mem_singleton.mp q, cL] at z
    exact absurd z (Nat.lt_irrefl _)
  have base := J.base
  have base : Un (frs X.stack) fp H3 H' s3.heap sI.heap := base
  refine tk _ _ ⟨a, PySem.W.hideAll B [ce.locals], { sI with heap := PySem.W.hideAll sI.heap [ce.locals] }, pins, σ, H', cls, d, rfl, ?_, fun b o e hb => ?_, fun b o e hnf => ?_, .inr (.inr ⟨k1, hBn Ba, by rw [hs]; exact k2, k3⟩), na, os, ag, w⟩
  · refine I3.call' (ch := fp) J.os ⟨fun b o e n h1 h2 => PySem.W.hideAll_get _ (base.keep b o e n h1 h2) (lt3 e), fun b o e n h1 h2 => ?_, base.free, fun b o e h => ?_, base.tups, base.frzs, base.tbls⟩ (fun b o q => ?_) J.bare
      fun b hb => ⟨(f3 b hb).1.2.2.2.1, (f3 b hb).1.2.1, (f3 b hb).1.2.2.2.2.1, (f3 b hb).1.2.2.2.2.2⟩
    · obtain ⟨sl, q⟩ := base.slot b o e n h1 h2
      exact ⟨sl, PySem.W.hideAll_get _ q (lt3 e)⟩
    · obtain ⟨o', q⟩ := base.there b o e h
      exact ⟨o', PySem.W.hideAll_get _ q (lt3 e)⟩
    · refine (J.hok b o q).stay (fun c u hc r => PySem.W.hideAll_get _ r fun hm => ?_) (fun _ r => r) fun _ _ r => r
      have z : H' c = none := by rw [List.mem_singleton.mp hm]; exact nC
      rcases hc with hc | hc
      · rw [hc, q] at z; cases z
      · rw [hc] at z; cases z
  · have e1 : sI.heap.get? b = some o := PySem.W.of_hideAll _ e
    refine PySem.W.hideAll_get _ (nb b o e1 hb) fun hm => ?_
    rw [show (PySem.W.hideAll sI.heap [ce.locals]).get? b = none from PySem.W.hideAll_none _ hm] at e; cases e
  · have e1 : sI.heap.get? b = some o := PySem.W.of_hideAll _ e
    have hbC : b ≠ ce.locals := fun q => by
      rw [show (PySem.W.hideAll sI.heap [ce.locals]).get? b = none from PySem.W.hideAll_none _ (by rw [q]; simp)] at e; cases e
    obtain ⟨sl1, e2⟩ := up b o e1 hnf
    obtain ⟨sl2, e3⟩ := up1 b _ e2 hnf
    obtain ⟨sl3, e4⟩ := k4 b { o with slots := sl2 } ((sb.2 b hbC).trans e3) hnf
    exact ⟨sl3, e4⟩
/-- the context of the block, with a wish of its own -/
abbrev blkW (X : Cx) (s : Shared) (H : Hp) (scope : Scope) (ce : Env) (fp : List Addr) (xe : Value → Shared → Prop) : Cx := { X.blk s H scope ce fp with xe := xe }
/-- the wish: a call's exception -/
def AirOf (Y : Cx) (E : XK) (u : Value) (s' : Shared) : Prop := ∃ (pins : List (Addr × Obj)) (σ : St) (H : Hp) (s : Shared), Inv Y pins σ H s ∧ L2.CX Y.prog Y.w Y.stack H s E u s'
theorem lcX_core {W : WX} {Q : VK} {elt tg iter : Expr} {ifs : List Expr} {scope : Scope} {own : List (Str × Nat)} {pos pos' : Pos} {wi : TI} {g : TG} {tt : TT} {te : WX → TE} {use : Option (Value → Sem Unit)} {Qf : Value → Shared → Prop}
    (hst : X.stack = X.env :: X.outer) (hfr : X.env.frame = some X.env.locals) (tk : Takes X W)
    (hc : X.calm = true) (hN : X.N.Nodup) (I : Inv X pins σ H s) (hi : PI X tg iter wi) (ok : BlkOk X.N X.env.scope scope own)
    (hg : ∀ (s : Shared) (H : Hp) (C : Addr) (cl : List (Str × Addr)) (fp : List Addr), PG (X.blk s H scope (compEnvC scope cl C X.env) fp) tg g) (ht : ∀ (s : Shared) (H : Hp) (C : Addr) (cl : List (Str × Addr)) (fp : List Addr), PTs (X.blk s H scope (compEnvC scope cl C X.env) fp) ifs tt)
    (he : ∀ (s : Shared) (H : Hp) (C : Addr) (cl : List (Str × Addr)) (fp : List Addr) (xe : Value → Shared → Prop) (W' : WX), (∀ σ, PassesAt (L2.CX X.prog X.w) (blkW X s H scope (compEnvC scope cl C X.env) fp xe) σ (WE W' σ)) →
      PE (blkW X s H scope (compEnvC scope cl C X.env) fp xe) elt (te W')) (hs : ∀ x, foldedSetIterable iter X.env x = pure x)
    (h : tLc wi g tt (te fun c d _ H => W c d σ H) (own.map (·.2)) σ H Q)
    (hRR : ∀ D C s' m H', Inv X pins σ H' s' → Q (.ref D) H' → s'.heap.Ns C m → FpOk X pins H' C → compPost (model X.prog X.w) X.A X.xe use Qf (.ref D) C (.ok .next) s') :
    wpAny (model X.prog X.w) X.A (comprehension (.ListComp elt [⟨tg, iter, ifs, 0⟩] scope pos) scope X.env pos' (newList []) false (eval iter X.env) use) Qf X.xe s := by
  have captured : ∀ y ∈ scope.names, y.2 = .free → ∃ c, X.env.cells.lookup y.1 = some c := fun y hy e => I.ok.has _ (ok.free y hy e)
  refine comprehension_at (use := use) rfl hs (closure_ok captured) ok.kind (fun y hy e => by rw [ok.uniq y hy, e])
    (thn (hi.run pins s σ H _ I h) fun xv s1 hx => thn hx fun itv s2 h2 => ?_)
  obtain ⟨it, fp, tn, J, H2, e, I2, T, st2, f2, q⟩ := h2
  subst e
  refine wpAny_newObj_type (newEnv_comp ?_) (by show 0 ≤ sizeLine; decide)
  generalize hD : s2.heap.objs.size = D
  have hDn : H2 D = none := I2.hok.fresh (Nat.le_of_eq hD)
  obtain ⟨Wt, ⟨m0, w0⟩, turn⟩ := q D hDn
  generalize hs3 : ({ s2 with heap := s2.heap.push { cls := .type "list", data := .seq ([] : List Value).toArray } } : Shared) = s3
  have h3 : s3.heap = s2.heap.push { cls := .type "list", data := .seq ([] : List Value).toArray } := by rw [← hs3]
  have I3 : Inv X pins σ (upd H2 D (.lst [])) s3 := by
    rw [← hs3]
    refine I2.laid (t' := s2.toks) (fun b o e => Heap.get?_push_of_some _ e) (Nat.le_of_eq hD) ⟨Nat.zero_le _, [], 0, .nil, ?_⟩
    subst hD
    exact Heap.get?_push_size _ rfl
  have f3 : ∀ b ∈ fp, FpOk X pins (upd H2 D (.lst [])) b ∧ b < s3.heap.objs.size := fun b hb => by
    obtain ⟨o, e, _⟩ := T.obj _ _ st2 b hb
    have hlt := Heap.lt_size e
    have hbD : b ≠ D := by rw [← hD]; exact Nat.ne_of_lt hlt
    exact ⟨⟨by rw [upd_ne hbD]; exact (f2 b hb).1, (f2 b hb).2⟩, by rw [h3, Heap.size_push]; exact Nat.lt_succ_of_lt hlt⟩
  have st3 : tn 0 s3.heap := T.keep _ _ _ st2 fun b _ o e => by rw [h3]; exact Heap.get?_push_of_some _ e
  have I4 := block_start I3 ok hN f3
  generalize hcl : cellsFrom (s3.heap.objs.size + 1) scope.names (cloFrom X.env.cells scope.names []) = cs at I4
  have pg := hg s3 (upd H2 D (.lst [])) s3.heap.objs.size cs fp
  have pt := ht s3 (upd H2 D (.lst [])) s3.heap.objs.size cs fp
  have pe := he s3 (upd H2 D (.lst [])) s3.heap.objs.size cs fp
  have start : (compEnvC scope cs s3.heap.objs.size X.env).frame = X.env.frame := rfl
  subst hcl
  show codeAny _ _ (.compStart (.ListComp elt [⟨tg, iter, ifs, 0⟩] scope pos) 0 (.ref it) (.ref D) (compEnvC scope (cellsFrom (s3.heap.objs.size + 1) scope.names (cloFrom X.env.cells scope.names [])) s3.heap.objs.size X.env))
    (compEnds (model X.prog X.w) X.A X.xe use Qf (.ref D) (compEnvC scope (cellsFrom (s3.heap.objs.size + 1) scope.names (cloFrom X.env.cells scope.names [])) s3.heap.objs.size X.env)) { s3 with heap := pushCells (s3.heap.push { cls := .type "dict", data := .dict #[] }) scope.names }
  have nfp : ∀ b ∈ fp, (upd H2 D (.lst [])) b = none := fun b hb => (f3 b hb).1.1
  generalize hce : compEnvC scope (cellsFrom (s3.heap.objs.size + 1) scope.names (cloFrom X.env.cells scope.names [])) s3.heap.objs.size X.env = ce at I4 pg pt pe start ⊢
  have cL : ce.locals = s3.heap.objs.size := by subst hce; rfl
  generalize hH3 : upd H2 D (.lst []) = H3 at I3 I4 pg pt pe w0 nfp f3
  generalize hs4 : ({ s3 with heap := pushCells (s3.heap.push { cls := .type "dict", data := .dict #[] }) scope.names } : Shared) = s4 at I4 ⊢
  have st4 : tn 0 s4.heap := T.keep _ _ _ st3 fun b _ o e => by rw [← hs4]; exact pushCells_keeps _ _ _ _ (Heap.get?_push_of_some _ e)
  have pe := pe (AirOf (X.blk s3 H3 scope ce fp) fun c d H => W c d σ H) (fun c d _ H => W c d σ H) fun σ' pins' H' s' u s'' I' c' => ⟨pins', σ', H', s', Inv.unwish (X := X.blk s3 H3 scope ce fp) I', c'⟩
  have stat : ∀ {σ' : St} {H' : Hp} {s' : Shared}, Inv (X.blk s3 H3 scope ce fp) [] σ' H' s' → (∀ b ∈ fp, H' b = none) → ∀ b ∈ fp, FpOk (X.blk s3 H3 scope ce fp) [] H' b := fun {σ' H' s'} I' hn b hb =>
    ⟨hn b hb, (I'.ok.exf b hb).1, I'.ok.exfs b hb, .inl hb, fun x c e => (I'.ok.exf b hb).2 x c e, fun p hp => absurd (show p ∈ ([] : List (Addr × Obj)) ++ [] from hp) (by simp)⟩
  have loop : codeAny (model X.prog X.w) X.A (.compLoop (.ListComp elt [⟨tg, iter, ifs, 0⟩] scope pos) 0 (.ref it) (.ref D) ce) (compEnds (model X.prog X.w) X.A X.xe use Qf (.ref D) ce) s4 := by
    refine compLoop_any (fun n s' => ∃ i H', Inv (X.blk s3 H3 scope ce fp) [] (wipe σ (own.map (·.2))) H' s' ∧ tn i s'.heap ∧ (∀ b ∈ fp, H' b = none) ∧ Wt i n H') ?_ m0 ⟨0, H3, I4, st4, nfp, w0⟩
    rintro n s5 ⟨i, H5, I5, st5, n5, w5⟩
    rcases turn i n H5 w5 with ⟨stop, qq⟩ | ⟨go, Nx, hNx, step⟩
    · refine thnF (T.done (X.blk s3 H3 scope ce fp) rfl rfl rfl hc i [] s5 _ H5 (fun _ _ => False) I5 (stat I5 n5) st5 stop) fun r s6 ⟨hr, I6⟩ => ?_
      subst hr
      have I7 : Inv X pins σ H5 s6 := I3.call' (ch := fp) I6.os I6.base I6.hok I6.bare fun b hb => ⟨(f3 b hb).1.2.2.2.1, (f3 b hb).1.2.1, (f3 b hb).1.2.2.2.2.1, (f3 b hb).1.2.2.2.2.2⟩
      have nC : H5 ce.locals = none := I6.free
      obtain ⟨m, hn, _⟩ := I6.loc
      have hn : s6.heap.Ns ce.locals m := hn
      have z := hRR D ce.locals s6 m H5 I7 qq hn (I3.fpOk (Nat.le_of_eq cL.symm) nC)
      cases use <;> exact z
    · refine thnF (T.item (X.blk s3 H3 scope ce fp) rfl rfl rfl hc i [] s5 _ H5 (fun _ _ => False) I5 (stat I5 n5) st5 go) fun r s6 ⟨u, hr, h6⟩ => ?_
      subst hr
      refine thnF h6 fun _ s7 ⟨x, H7, I7, r7, y7, st7, n7⟩ => ?_
      have I7' := I7.pinned (stat I7 n7) (T.obj _ _ st7)
      refine thnF (pg.run _ s7 _ H7 x u _ I7' r7 (step x H7 y7)) fun _ s8 ⟨σ8, H8, I8, hw8, q8⟩ => ?_
      refine thnF (pt.run _ s8 σ8 H8 _ I8 q8) fun b s9 ⟨H9, I9, q9⟩ => ?_
      have fin : ∀ {s' : Shared} {H' : Hp}, Inv (X.blk s3 H3 scope ce fp) ([] ++ pinsAt fp s7.heap) σ8 H' s' → Nx H' → ∃ m, m < n ∧ ∃ i H', Inv (X.blk s3 H3 scope ce fp) [] (wipe σ (own.map (·.2))) H' s' ∧ tn i s'.heap ∧ (∀ b ∈ fp, H' b = none) ∧ Wt i m H' := fun {s' H'} I' nx => by
        obtain ⟨m', hm, w'⟩ := hNx H' nx
        have pin' : ∀ b ∈ fp, ∀ o, s7.heap.get? b = some o → s'.heap.get? b = some o ∧ H' b = none := fun b hb o e =>
          let z := I'.pin (b, o) (List.mem_append_right _ (List.mem_append_right _ (mem_pinsAt hb e)))
          ⟨z.1, z.2.1⟩
        refine ⟨m', hm, i + 1, H', (I'.unpinned (pins := [])).weak (by rw [← hw8, wipe_length]) (fun j v e => (wipe_some (hw8 ▸ e)).1), T.keep _ _ _ st7 fun b hb o e => (pin' b hb o e).1, fun b hb => ?_, w'⟩
        obtain ⟨o, e, _⟩ := T.obj _ _ st7 b hb
        exact (pin' b hb o e).2
      cases b with
      | false =>
        simp only [Bool.false_eq_true, if_false] at q9 ⊢
        exact fin I9 q9
      | true =>
        simp only [if_true] at q9 ⊢
        refine wpAny_mono (pe.run _ s9 σ8 H9 _ (Inv.wish (X := X.blk s3 H3 scope ce fp) I9 _) q9) (fun z s10 ⟨yv, H10, I10, r10, acc, hD10, hz10, nx⟩ => ?_) fun u s10 ⟨pins', σ', H', s', I', c'⟩ => ?_
        · exact app_ok (X := X.blk s3 H3 scope ce fp) (Inv.unwish (X := X.blk s3 H3 scope ce fp) I10) hD10 hz10 r10 fun s11 I11 => fin I11 nx
        · have z := comp_fails hst hfr tk I3 f3 start cL I' c'
          cases use <;> exact z
  exact codeAny_compStart_list loop (T.self X.A 0 _ _ _ st4 loop)
theorem pe_lcX {W : WX} {elt tg iter : Expr} {ifs : List Expr} {scope : Scope} {own : List (Str × Nat)} {pos : Pos} {wi : TI} {g : TG} {tt : TT} {te : WX → TE} (hst : X.stack = X.env :: X.outer) (hfr : X.env.frame = some X.env.locals) (tk : Takes X W)
    (hc : X.calm = true) (hN : X.N.Nodup) (hi : PI X tg iter wi) (ok : BlkOk X.N X.env.scope scope own)
    (hg : ∀ (s : Shared) (H : Hp) (C : Addr) (cl : List (Str × Addr)) (fp : List Addr), PG (X.blk s H scope (compEnvC scope cl C X.env) fp) tg g) (ht : ∀ (s : Shared) (H : Hp) (C : Addr) (cl : List (Str × Addr)) (fp : List Addr), PTs (X.blk s H scope (compEnvC scope cl C X.env) fp) ifs tt)
    (he : ∀ (s : Shared) (H : Hp) (C : Addr) (cl : List (Str × Addr)) (fp : List Addr) (xe : Value → Shared → Prop) (W' : WX), (∀ σ, PassesAt (L2.CX X.prog X.w) (blkW X s H scope (compEnvC scope cl C X.env) fp xe) σ (WE W' σ)) →
      PE (blkW X s H scope (compEnvC scope cl C X.env) fp xe) elt (te W')) (hs : ∀ x, foldedSetIterable iter X.env x = pure x := by intro _; rfl) :
    PE X (.ListComp elt [⟨tg, iter, ifs, 0⟩] scope pos) (fun σ H Q => tLc wi g tt (te fun c d _ H => W c d σ H) (own.map (·.2)) σ H Q) := by
  refine ⟨fun pins s σ H Q I h => ?_⟩
  rw [eval_ListComp]
  refine lcX_core hst hfr tk hc hN I hi ok hg ht he hs h fun D C s' m H' I' q hn f => ⟨m, hn, fun h'' sb => ?_⟩
  obtain ⟨f0, f1, f2, f3, f4, f5⟩ := f
  exact ⟨.ref D, H', I'.turned (t' := s'.toks) (fun b o hb e => (sb.2 b hb).trans e) f0 f1 f3 f4 f5, rfl, q⟩
end
open Classical in
/-- a comprehension, the exceptions of its elements let out -/
noncomputable def compLX (it : Itb) (p : Pt) (t : M Bool) (e : M D) (ρ : Sl) : List D → Nat → Store → Res (List D)
  | [], _, S => if Grd it S then .ok [] S else .stk
  | d :: ds, n, S => if Grd it S then (match p d ρ with
    | some ρ1 => (t ρ1 S).nox.bind fun k S1 => if k = true then (e ρ1 S1).bind fun x S2 => if n < sizeLine then (compLX it p t e ρ ds (n + 1) S2).bind fun xs S3 => .ok (x :: xs) S3 else .stk
        else compLX it p t e ρ ds n S1
    | none => .stk) else .stk
noncomputable def mCompX (m : M Itb) (p : Pt) (t : M Bool) (e : M D) (vs : List Nat) (mk : List D → Store → Res D) : M D := fun ρ S => (m ρ S).bind fun it S1 => (compLX it p t e (wipeD ρ vs) it.xs 0 S1).bind fun xs S2 => mk xs S2
section
variable {it : Itb} {p : Pt} {e : M D} {t : M Bool} {ρ ρ1 : Sl} {S : Store} {n : Nat} {d : D} {ds : List D}
theorem comp_nilX (hg : Grd it S) : compLX it p t e ρ [] n S = .ok [] S := by
  unfold compLX
  rw [if_pos hg]
noncomputable def kCpX2 (ρ : Sl) (it : Itb) (p : Pt) (t : M Bool) (e : M D) (ds : List D) (n : Nat) (x : D) (S : Store) : Res (List D) := if n < sizeLine then (compLX it p t e ρ ds (n + 1) S).bind (kCp3 x) else .stk
noncomputable def kCpX (ρ : Sl) (it : Itb) (p : Pt) (t : M Bool) (e : M D) (ds : List D) (n : Nat) (ρ1 : Sl) (k : Bool) (S : Store) : Res (List D) := if k = true then (e ρ1 S).bind (kCpX2 ρ it p t e ds n) else compLX it p t e ρ ds n S
theorem comp_consX (hg : Grd it S) (hp : p d ρ = some ρ1) : compLX it p t e ρ (d :: ds) n S = (t ρ1 S).nox.bind (kCpX ρ it p t e ds n ρ1) := by
  rw [compLX.eq_2, if_pos hg, hp]
  rfl
noncomputable def kCompX (ρ : Sl) (p : Pt) (t : M Bool) (e : M D) (vs : List Nat) (mk : List D → Store → Res D) (it : Itb) (S : Store) : Res D := (compLX it p t e (wipeD ρ vs) it.xs 0 S).bind mk
@[simp] theorem e_compX {m : M Itb} {vs : List Nat} {mk : List D → Store → Res D} : mCompX m p t e vs mk ρ S = (m ρ S).bind (kCompX ρ p t e vs mk) := nrfl rfl
@[simp] theorem e_compX2 {vs : List Nat} {mk : List D → Store → Res D} : kCompX ρ p t e vs mk it S = (compLX it p t e (wipeD ρ vs) it.xs 0 S).bind mk := nrfl rfl
@[simp] theorem c_cpX {k : Bool} : kCpX ρ it p t e ds n ρ1 k S = if k = true then (e ρ1 S).bind (kCpX2 ρ it p t e ds n) else compLX it p t e ρ ds n S := nrfl rfl
@[simp] theorem c_cpX2 {x : D} : kCpX2 ρ it p t e ds n x S = if n < sizeLine then (compLX it p t e ρ ds (n + 1) S).bind (kCp3 x) else .stk := nrfl rfl
end
section
variable {X : Cx} {cl : Str → Option Addr} {E : WX} {elt tg iter : Expr} {ifs : List Expr} {scope : Scope} {own : List (Str × Nat)} {pos : Pos} {mi : M Itb} {a : List Nat} {p : Pt} {mt : M Bool} {me : M D} {mk : List D → Store → Res D}
theorem xrep_out {K : PySem.W.Frag} {cl : Str → Option Addr} {W : Wd} {P : Hp} {c : Value} {dd : Option Addr} {z : Exc} (h : XRep K cl W c dd z) : XRep K cl (W.out P) c dd z := by
  obtain ⟨C, h1, h2, h3 | ⟨d, vs, h4, h5, h6, h7⟩⟩ := h
  · exact ⟨C, h1, h2, .inl h3⟩
  · exact ⟨C, h1, h2, .inr ⟨d, vs, h4, h5, h6, h7.ups Ls.out⟩⟩
/-- its reading -/
theorem lcX_read {K : PySem.W.Frag} {σ : St} {H : Hp} {Q : VK} {vs : List Nat} (hk : MkS K cl mk) (ha : ∀ i ∈ a, i ∈ vs) (h : T K cl E (mCompX mi p mt me vs mk) σ H Q) :
    tLc (TIt K cl E mi) (Tp K cl a p) (TB K cl F0 mt) (T K cl (fun c d _ H => E c d σ H) me) vs σ H Q := by
  obtain ⟨W, ρ, S, hr, he, q⟩ := h
  refine step hr he q fun W1 H1 J it S1 l1 r1 e1 hJ p1 => fun Dl hD => ?_
  have np : W1.P Dl = none := by
    cases e : W1.P Dl with
    | none => rfl
    | some u => rw [(r1.priv Dl u e).1] at hD; cases hD
  refine ⟨fun i m H' => m = it.xs.length - i ∧ i ≤ it.xs.length ∧ ∃ W' S' acc dacc, Le W1 W' ∧ R K cl (W'.hid Dl (.lst acc)) H' S' ∧ Reps K cl W' acc dacc ∧
      Post K cl (Rep K cl) W' ((compLX it p mt me (wipeD ρ vs) (it.xs.drop i) dacc.length S').bind fun xs S2 => mk (dacc ++ xs) S2) Q (fun c d H' => E c d σ H'),
    ⟨_, rfl, Nat.zero_le _, W1, S1, [], [], .rf W1, r1.hide hD, .nil, p1⟩, ?_⟩
  rintro i m H2 ⟨rfl, hi, W2, S2, acc, dacc, l2, r2, t2, p2⟩
  have np2 : W2.P Dl = none := by rw [l2.p]; exact np
  by_cases hlt : i < it.xs.length
  · have ed : it.xs.drop i = it.xs[i] :: it.xs.drop (i + 1) := List.drop_eq_getElem_cons hlt
    have ei : it.xs[i]? = some it.xs[i] := List.getElem?_eq_getElem hlt
    generalize hd : it.xs[i] = d at ed ei
    rw [ed] at p2
    unfold compLX at p2
    by_cases hG : Grd it S2
    · rw [if_pos hG] at p2
      obtain ⟨g1, _⟩ := hJ (W2.hid Dl (.lst acc)) H2 S2 (l2.s.tr Ls.hid) r2 hG
      obtain ⟨go, yld⟩ := g1 i d ei
      refine .inr ⟨go, fun H' => ∃ W' S' acc dacc, Le W1 W' ∧ R K cl (W'.hid Dl (.lst acc)) H' S' ∧ Reps K cl W' acc dacc ∧
          Post K cl (Rep K cl) W' ((compLX it p mt me (wipeD ρ vs) (it.xs.drop (i + 1)) dacc.length S').bind fun xs S2 => mk (dacc ++ xs) S2) Q (fun c d H' => E c d σ H'), fun H' n => ⟨it.xs.length - (i + 1), by omega, rfl, hlt, n⟩, fun x H3 y => ?_⟩
      obtain ⟨W3, l3, r3, rx⟩ := yld x H3 y
      have back : ∀ W4 : Wd, Le (W2.hid Dl (.lst acc)) W4 → W4 = (W4.out W1.P).hid Dl (.lst acc) ∧ Le W2 (W4.out W1.P) := fun W4 l4 => by
        have eP : W4.P = upd W1.P Dl (.lst acc) := by rw [l4.p]; show upd W2.P Dl _ = _; rw [l2.p]
        refine ⟨?_, ⟨l4.g, l4.i, l4.n, l2.p.symm⟩⟩
        cases W4
        simp only [Wd.out, Wd.hid] at eP ⊢
        rw [eP]
      cases e4 : p d (wipeD ρ vs) with
      | none => simp only [e4] at p2; exact p2.elim
      | some ρ3 =>
        simp only [e4] at p2
        have ev : Envs K cl W3 (L2.wipe σ vs) (wipeD ρ vs) := ((e1.up l2).wipe vs).ups (Ls.hid.tr l3.s)
        refine ⟨W3, wipeD ρ vs, S2, d, ρ3, r3, ev, rx, e4, fun σ3 e3 off => ⟨wipe_off off ha, W3, ρ3, S2, r3, e3, ?_⟩⟩
        cases e5 : mt ρ3 S2 with
        | stk => rw [e5] at p2; exact p2.elim
        | exc z S5 => rw [e5] at p2; exact p2.elim
        | ok k S5 =>
          rw [e5] at p2
          intro W5 H5 b l5 r5 eb
          obtain rfl : b = k := eb
          cases b with
          | false =>
            obtain ⟨eq5, le5⟩ := back W5 (l3.tr l5)
            rw [eq5] at r5
            exact ⟨W5.out W1.P, S5, acc, dacc, l2.tr le5, r5, t2.up le5, Post.up le5 p2⟩
          | true =>
            refine ⟨W5, ρ3, S5, r5, e3.up l5, ?_⟩
            cases e6 : me ρ3 S5 with
            | stk => simp only [nox_ok, bind_ok, if_true, e6] at p2; exact p2.elim
            | exc z S6 =>
              simp only [nox_ok, bind_ok, if_true, e6] at p2
              intro W6 H6 c dd l6 r6 xr
              obtain ⟨eq6, le6⟩ := back W6 ((l3.tr l5).tr l6)
              rw [eq6] at r6
              exact p2 (W6.out W1.P) H6 c dd le6 (r6.unhide (show (W6.out W1.P).P Dl = none from np)).1 (xrep_out xr)
            | ok dy S6 =>
              simp only [nox_ok, bind_ok, if_true, e6] at p2
              intro W6 H6 y6 l6 r6 ry
              obtain ⟨eq6, le6⟩ := back W6 ((l3.tr l5).tr l6)
              have r7 := r6
              rw [eq6] at r7
              by_cases hz : dacc.length < sizeLine
              · rw [if_pos hz] at p2
                refine ⟨acc, (r7.priv Dl _ upd_same).1, by rw [t2.len]; exact hz, W6.out W1.P, S6, acc ++ [y6], dacc ++ [dy], l2.tr le6, r7.turn, (t2.up le6).app (.cons (ry.ups Ls.out) .nil), ?_⟩
                rw [List.length_append]
                have p3 := Post.up le6 p2
                revert p3
                show _ → Post K cl (Rep K cl) _ ((compLX it p mt me (wipeD ρ vs) (it.xs.drop (i + 1)) (dacc.length + 1) S6).bind fun xs S2 => mk (dacc ++ [dy] ++ xs) S2) _ _
                cases compLX it p mt me (wipeD ρ vs) (it.xs.drop (i + 1)) (dacc.length + 1) S6 with
                | stk => exact fun z => z
                | exc z S7 => exact fun z => z
                | ok xs S7 =>
                  intro z
                  simp only [bind_ok] at z ⊢
                  rw [List.append_assoc]
                  exact z
              · rw [if_neg hz] at p2
                exact p2.elim
    · rw [if_neg hG] at p2
      exact p2.elim
  · have ei : i = it.xs.length := by omega
    subst ei
    rw [List.drop_length] at p2
    unfold compLX at p2
    by_cases hG : Grd it S2
    · rw [if_pos hG] at p2
      obtain ⟨_, g2⟩ := hJ (W2.hid Dl (.lst acc)) H2 S2 (l2.s.tr Ls.hid) r2 hG
      obtain ⟨r3, h3, h4, h5⟩ := r2.unhide np2
      have p3 : Post K cl (Rep K cl) W2 (mk (dacc ++ []) S2) Q (fun c d H' => E c d σ H') := p2
      rw [List.append_nil] at p3
      exact .inl ⟨g2, hk W2 H2 S2 Dl acc dacc Q _ r3 h3 h4 h5 np2 t2 p3⟩
    · rw [if_neg hG] at p2
      exact p2.elim
theorem t_lcX (own : List (Str × Nat)) (hk : MkS X.K cl mk) (hst : X.stack = X.env :: X.outer) (hfr : X.env.frame = some X.env.locals) (tk : Takes X E) (hc : X.calm = true) (hN : X.N.Nodup) (hi : PI X tg iter (TIt X.K cl E mi)) (ok : BlkOk X.N X.env.scope scope own)
    (hg : ∀ (s : Shared) (H : Hp) (C : Addr) (ce : List (Str × Addr)) (fp : List Addr), PG (X.blk s H scope (compEnvC scope ce C X.env) fp) tg (Tp X.K cl a p))
    (ht : ∀ (s : Shared) (H : Hp) (C : Addr) (ce : List (Str × Addr)) (fp : List Addr), PTs (X.blk s H scope (compEnvC scope ce C X.env) fp) ifs (TB X.K cl F0 mt))
    (he : ∀ (s : Shared) (H : Hp) (C : Addr) (ce : List (Str × Addr)) (fp : List Addr) (xe : Value → Shared → Prop) (W' : WX), (∀ σ, PassesAt (L2.CX X.prog X.w) (blkW X s H scope (compEnvC scope ce C X.env) fp xe) σ (WE W' σ)) →
      PE (blkW X s H scope (compEnvC scope ce C X.env) fp xe) elt (T X.K cl W' me))
    (ha : ∀ i ∈ a, i ∈ own.map (·.2) := by decide) (hs : ∀ x, foldedSetIterable iter X.env x = pure x := by intro _; rfl) :
    PE X (.ListComp elt [⟨tg, iter, ifs, 0⟩] scope pos) (T X.K cl E (mCompX mi p mt me (own.map (·.2)) mk)) :=
  pe_imp (pe_lcX (te := fun W' => T X.K cl W' me) hst hfr tk hc hN hi ok hg ht he hs) fun σ H Q h => lcX_read hk ha h
end
section
variable {X : Cx} {cl : Str → Option Addr} {E : WX} {k n : Nat} {g : List D → Store → Res D} {x : Str} {p pos : Pos} {e : Expr} {es : List Expr} {ms : M (List D)}
/-- a call, what it lets out is passed -/
theorem t_callX (F : Fn X.prog X.w X.K X.mg X.base cl x k n g) (hr : Room k X.A) (hx : ∀ σ, PassesAt (L2.CX X.prog X.w) X σ (WE E σ)) (ha : PA X (e :: es) (TL X.K cl E ms)) (hg : Gl X x := by rfl) (hdb : (x == ("__debug__" : Str)) = false := by decide)
    (he : starEach (e :: es) X.env = (false, eval e X.env) :: starEach es X.env := by rfl) (hpl : (backTo pos (starEach es X.env)).any (·.1) = false := by rfl) :
    PE X (.Call (.Name x p) (e :: es) [] pos) (T X.K cl E (mFn (ar n g) ms)) := by
  obtain ⟨f, fd, ps, h1, h2, h3, h4⟩ := F.ex
  exact pe_imp (pe_callS h1 hr hg h2 h3 h4 hx ha hdb he hpl) fun σ H Q ⟨W, ρ, S, hr, he, q⟩ => step hr he q fun W1 H1 x dx S1 l1 r1 e1 rx p1 => ⟨W1, S1, dx, r1, rx, p1⟩
end
end G
/-! G44: sorted(set(list of texts)). -/
namespace G
open PySem PySem.Spec
open PyProof.Rows hiding St
open L2
/-! ### sets of texts (as HandS.Set has them for whole numbers) -/
def tKey (e : Int × Value) : Str := match e.2 with
  | .str k _ => k
  | _ => Str.empty
def TOk (w : World) (e : Int × Value) : Prop := ∃ k tk, e.2 = Value.str k tk ∧ e.1 = hashStr w k
def TSet (w : World) (h : Heap) (a : Addr) (S : Str → Bool) (n : Nat) : Prop :=
  ∃ o es ep t, h.get? a = some o ∧ o.ExactSet ∧ o.data = .set es ep t ∧ (∀ e ∈ es.toList, TOk w e) ∧ (es.toList.map tKey).Nodup ∧ (∀ k, S k = true ↔ k ∈ es.toList.map tKey) ∧
    es.size < scanBound ∧ t.fits es.size = true ∧ es.size = n ∧ Ris t.place.toList ∧ (w.params.followText "set-order" = true ∨ t.led = true)
section
variable {P : Program} {w : World} {h h' : Heap} {a : Addr} {S : Str → Bool} {n : Nat}
theorem TSet.at (R : TSet w h a S n) (k : ∀ o, h.get? a = some o → h'.get? a = some o) : TSet w h' a S n := by
  obtain ⟨o, es, ep, t, ho, r⟩ := R
  exact ⟨o, es, ep, t, k o ho, r⟩
theorem TSet.congr {S' : Str → Bool} (R : TSet w h a S n) (e : ∀ k, S' k = S k) : TSet w h a S' n := (funext e : S' = S) ▸ R
theorem tok_elems {l : List (Int × Value)} (g : ∀ e ∈ l, TOk w e) : ElemsOf (PySem.strKind P w) l := fun e he => by
  obtain ⟨k, tk, h1, h2⟩ := g e he
  exact ⟨⟨k, by rw [h1]; exact strKind_is P w k tk, h2⟩, by rw [h1] <;> rfl⟩
theorem tok_is {e : Int × Value} (g : TOk w e) (k : Str) : (PySem.strKind P w).is k e.2 = true ↔ tKey e = k := by
  obtain ⟨k0, tk, h1, _⟩ := g
  unfold tKey
  rw [h1]
  show ((k0 == k) = true) ↔ k0 = k
  exact beq_iff_eq
theorem tok_mem {l : List (Int × Value)} (g : ∀ e ∈ l, TOk w e) (k : Str) : k ∈ l.map tKey ↔ ∃ e ∈ l, (PySem.strKind P w).is k e.2 = true := by
  rw [List.mem_map]
  exact ⟨fun ⟨e, he, q⟩ => ⟨e, he, (tok_is (g e he) k).2 q⟩, fun ⟨e, he, q⟩ => ⟨e, he, (tok_is (g e he) k).1 q⟩⟩
theorem tset_new {ns : List Str} (ho : h.get? a = some { cls := .type "set", dict := none, data := .set #[] 0 (.fresh 0 0 (!w.params.followText "set-order")) }) : TSet w h a (fun j => decide (j ∈ ns.take 0)) 0 :=
  ⟨_, #[], 0, _, ho, ⟨rfl, rfl, rfl⟩, rfl, (fun e he => by simp at he), (by simp), (fun k => by simp), (by decide), (by rfl), rfl, List.Pairwise.nil, by
    show _ ∨ (!w.params.followText "set-order") = true
    cases w.params.followText "set-order"
    · exact .inr rfl
    · exact .inl rfl⟩
end
section
variable {P : Program} {w : World} {A : Around} {E : Value → Shared → Prop} {s : Shared} {a : Addr} {S : Str → Bool} {n : Nat}
theorem tset_tail {g : Bool → Sem Unit} (hg : ∀ (b : Bool) (s₁ : Shared) (Q' : Unit → Shared → Prop), Q' () s₁ → wpAny (model P w) A (g b) Q' E s₁)
    {o : Obj} {es : Array (Int × Value)} {ep : Nat} {t : SetTable} (ho : s.heap.get? a = some o) (hex : o.ExactSet) (hd : o.data = .set es ep t)
    {es1 : Array (Int × Value)} {t2 : SetTable} {S' : Str → Bool} (g1 : ∀ e ∈ es1.toList, TOk w e) (nd1 : (es1.toList.map tKey).Nodup) (m1 : ∀ k, S' k = true ↔ k ∈ es1.toList.map tKey)
    (hb1 : es1.size < scanBound) (hf2 : t2.fits es1.size = true) (hr : Ris t2.place.toList) (hl : w.params.followText "set-order" = true ∨ t2.led = true) {wasDummy : Bool} {R : Option Bool → Shared → Prop}
    (hR : ∀ h', Heap.SameBut a s.heap h' → TSet w h' a S' es1.size → R (some true) { s with heap := h' }) :
    wpAny (model P w) A (do
        storeSet a es1 t2
        if (!wasDummy && t2.tooFull) = true then do
            g (relayAll t2 es1 (SetTable.grown es1.size)).2.2
            storeSet a (relayAll t2 es1 (SetTable.grown es1.size)).1 (relayAll t2 es1 (SetTable.grown es1.size)).2.1
            pure (some true)
          else pure (some true)) R E s := by
  refine wpAny_bind (wpAny_storeSet_of ho hd ?_ (fits_of_scanBound hb1))
  have ho1 := store_at (es' := es1) (t' := t2) ho hd
  have sb1 := Heap.SameBut.update s.heap a (Obj.putSet es1 t2)
  split
  · have pm := relayAll_perm t2 es1 (SetTable.grown es1.size)
    have hf3 := relayAll_fits t2 es1 (SetTable.grown es1.size)
    have hr3 := relayAll_ris t2 es1 (SetTable.grown es1.size)
    have hl3 := relayAll_led t2 es1 (SetTable.grown es1.size)
    generalize relayAll t2 es1 (SetTable.grown es1.size) = Z at pm hf3 hr3 hl3 ⊢
    obtain ⟨es2, t3, gave⟩ := Z
    dsimp only at pm hf3 hr3 hl3 ⊢
    have hsz : es2.size = es1.size := by rw [← Array.length_toList, pm.length_eq, Array.length_toList]
    have hb2 : es2.size < scanBound := by rw [hsz]; exact hb1
    refine wpAny_bind (hg _ _ _ ?_)
    refine wpAny_bind (wpAny_storeSet_of ho1 rfl ?_ (fits_of_scanBound hb2))
    have ho2 := store_at (es' := es2) (t' := t3) ho1 rfl
    refine wpAny_pure (hR _ (sb1.trans (Heap.SameBut.update _ a _)) ?_)
    exact ⟨_, es2, _, t3, ho2, hex, rfl, fun e he => g1 e (pm.mem_iff.mp he), (pm.map tKey).nodup_iff.mpr nd1, fun k => (m1 k).trans (pm.map tKey).mem_iff.symm, hb2, hf3, hsz, hr3,
      hl.imp id fun z => by rw [hl3]; exact z⟩
  · exact wpAny_pure (hR _ sb1 ⟨_, es1, _, t2, ho1, hex, rfl, g1, nd1, m1, hb1, hf2, rfl, hr, hl⟩)


theorem tset_add {k : Str} {tk : Tok} {Q : Bool → Shared → Prop} (R : TSet w s.heap a S n) (room : n + 1 < scanBound)
    (hQ : ∀ h', Heap.SameBut a s.heap h' → TSet w h' a (fun j => S j || decide (j = k)) (if S k = true then n else n + 1) → Q (!S k) { s with heap := h' }) :
    wpAny (model P w) A (setAddHashed a (.str k tk) ((PySem.strKind P w).hash k)) Q E s := by
  obtain ⟨o, es, ep, t, ho, hex, hd, g, nd, hm, hb, hf, hn, hr, hl⟩ := R
  have hkey : (PySem.strKind P w).is k (.str k tk) = true := strKind_is P w k tk
  have hsc : (Value.str k tk).scannable = true := rfl
  have hel : ElemsOf (PySem.strKind P w) es.toList := tok_elems g
  unfold setAddHashed setAddHashedIn
  refine wpAny_holding (wpAny_bind (wpAny_setState_of ho hd hf ?_))
  dsimp only
  rw [byScan_of hsc hb hel]
  simp only [↓reduceIte]
  unfold setAddByScan
  refine wpAny_bind ?_
  refine wpAny_bind (wpAny_rule ?_)
  refine wpAny_bind (wpAny_setScan_of hkey ho hd hf hel ?_)
  cases hfi : List.findIdx? (fun e => (PySem.strKind P w).is k e.2) es.toList with
  | some j =>
    dsimp only
    obtain ⟨hj, pj, _⟩ := List.findIdx?_eq_some_iff_getElem.mp hfi
    have hSk : S k = true := (hm k).2 ((tok_mem (P := P) (w := w) g k).2 ⟨es.toList[j], List.getElem_mem hj, pj⟩)
    refine wpAny_pure (wpAny_pure ?_)
    have q := hQ s.heap (Heap.SameBut.refl a s.heap) ⟨o, es, ep, t, ho, hex, hd, g, nd, fun i => by
      rw [Bool.or_eq_true, decide_eq_true_eq, ← hm i]
      exact ⟨fun z => z.elim id (fun e => e ▸ hSk), .inl⟩, hb, hf, by rw [if_pos hSk]; exact hn, hr, hl⟩
    rw [hSk] at q
    exact q
  | none =>
    dsimp only
    have hnk : k ∉ es.toList.map tKey := fun z => by
      obtain ⟨e, he, q⟩ := (tok_mem (P := P) (w := w) g k).1 z
      have c := List.findIdx?_eq_none_iff.mp hfi e he
      rw [q] at c
      cases c
    have hSk : S k = false := by
      cases q : S k with
      | false => rfl
      | true => exact absurd ((hm k).1 q) hnk
    have hgw : ∀ (b : Bool) {s₁ : Shared} {Q' : Unit → Shared → Prop}, Q' () s₁ → wpAny (model P w) A (match b with | true => rule "set.scan.the-table-gave-way" | false => pure ()) Q' E s₁ :=
      fun b s₁ Q' q => by cases b <;> first | exact wpAny_pure q | exact wpAny_rule q
    have pm := layNew_perm t es ((PySem.strKind P w).hash k) (.str k tk)
    have hf1 := layNew_fits t es ((PySem.strKind P w).hash k) (.str k tk)
    have hr1 := layNew_ris t es ((PySem.strKind P w).hash k) (.str k tk) hr
    have hl1 := layNew_led t es ((PySem.strKind P w).hash k) (.str k tk)
    generalize layNew t es ((PySem.strKind P w).hash k) (.str k tk) = Z at pm hf1 hr1 hl1 ⊢
    obtain ⟨es1, t1, wasDummy, gave⟩ := Z
    dsimp only at pm hf1 hr1 hl1 ⊢
    rw [Array.toList_push] at pm
    have pc : es1.toList.Perm (((PySem.strKind P w).hash k, Value.str k tk) :: es.toList) := pm.trans (List.perm_append_singleton _ _)
    have pk : (es1.toList.map tKey).Perm (k :: es.toList.map tKey) := pc.map tKey
    have g1 : ∀ e ∈ es1.toList, TOk w e := fun e he => by
      rcases List.mem_cons.mp (pc.mem_iff.mp he) with z | z
      · rw [z]; exact ⟨k, tk, rfl, rfl⟩
      · exact g e z
    have nd1 : (es1.toList.map tKey).Nodup := pk.nodup_iff.mpr (List.nodup_cons.mpr ⟨hnk, nd⟩)
    have m1 : ∀ i, (S i || decide (i = k)) = true ↔ i ∈ es1.toList.map tKey := fun i => by
      rw [Bool.or_eq_true, decide_eq_true_eq, hm i, pk.mem_iff, List.mem_cons]
      exact Or.comm
    have hsz : es1.size = n + 1 := by rw [← Array.length_toList, pc.length_eq, List.length_cons, Array.length_toList, hn]
    have hb1 : es1.size < scanBound := by rw [hsz]; exact room
    have hled : w.params.followText "set-order" = true ∨ t1.led = true := hl.imp id fun z => by rw [hl1]; exact z
    have fin : ∀ h', Heap.SameBut a s.heap h' → TSet w h' a (fun j => S j || decide (j = k)) es1.size → Q true { s with heap := h' } := fun h' sb r => by
      have q := hQ h' sb
      rw [hSk] at q
      rw [hsz] at r
      exact q r
    refine wpAny_bind (hgw _ ?_)
    split
    · refine wpAny_bind ?_
      rw [hashByValue_scannable 8 hsc]
      refine wpAny_pure ?_
      refine tset_tail ?_ ho hex hd g1 nd1 m1 hb1 ?_ ?_ ?_ ?_
      · intro b s₁ Q' q; cases b <;> first | exact wpAny_pure q | exact wpAny_rule q
      · first | (split <;> first | exact hf1 | exact SetTable.fits_plain_off hf1) | exact hf1
      · first | (split <;> exact hr1) | exact hr1
      · first | (split <;> exact hled) | exact hled
      · intro h' sb r; dsimp only; exact wpAny_pure (fin h' sb r)
    · refine wpAny_bind (wpAny_pure ?_)
      simp only [↓reduceIte]
      refine tset_tail ?_ ho hex hd g1 nd1 m1 hb1 hf1 hr1 hled ?_
      · intro b s₁ Q' q; cases b <;> first | exact wpAny_pure q | exact wpAny_rule q
      · intro h' sb r; dsimp only; exact wpAny_pure (fin h' sb r)


theorem tset_update {I : Addr} {fp wr : List Addr} {G : Array GenState → Array GenState → Prop} {n : Nat} {Pv : Nat → Value → Prop} {St : Nat → Shared → Prop} {R : Result → Shared → Prop}
    (W : WalksS P w A.in1 I fp wr G n Pv St) (S : Addr) (hSf : S ∉ fp) (ns : List Str) (hn : n = ns.length) (hb : ns.length + 1 < scanBound) (hval : ∀ i v, Pv i v → ∃ k t, ns[i]? = some k ∧ v = .str k t) :
    ∀ (k i : Nat) (s : Shared), n - i = k → i ≤ n → St i s → (∃ c, c ≤ i ∧ TSet w s.heap S (fun j => decide (j ∈ ns.take i)) c) →
      (∀ s' c, Moved (S :: wr) G s s' → c ≤ n → TSet w s'.heap S (fun j => decide (j ∈ ns)) c → R (.ok (.ret .none)) s') →
      codeAny (model P w) A (.builtin "set.update.loop" ⟨[.ref S, .ref I], []⟩) R s := by
  have hSw : S ∉ wr := fun h => hSf (W.sub _ h)
  have hsub : ∀ b ∈ wr, b ∈ S :: wr := fun b hb => List.mem_cons_of_mem _ hb
  intro k
  induction k with
  | zero =>
    intro i s hk' hi hst ⟨c, hc, hS⟩ hR
    have hin : i = n := by omega
    subst hin
    refine codeAny_builtin F.entry_set_update_loop ?_
    rw [Around.under_plainId F.plain_set_update_loop _]
    show wpAny _ A.in1 (pyNext (.ref I) >>= _) _ _ s
    refine wpAny_bind (W.done s _ _ hst fun s' hm => ?_)
    show wpAny _ A.in1 (ret Value.none) _ _ s'
    have e : ns.take i = ns := List.take_of_length_le (by omega)
    rw [e] at hS
    exact wpAny_pure (hR s' c (hm.mono hsub) hc (hS.at fun o e => hm.heap S o hSw e))
  | succ k ih =>
    intro i s hk' hi hst ⟨c, hc, hS⟩ hR
    have hlt : i < n := by omega
    refine codeAny_builtin F.entry_set_update_loop ?_
    rw [Around.under_plainId F.plain_set_update_loop _]
    show wpAny _ A.in1 (pyNext (.ref I) >>= _) _ _ s
    refine wpAny_bind (W.item i s _ _ hlt hst fun v s' hP hst' hm => ?_)
    obtain ⟨z, t, hz, rfl⟩ := hval i v hP
    have hS' : TSet w s'.heap S (fun j => decide (j ∈ ns.take i)) c := hS.at fun o e => hm.heap S o hSw e
    show wpAny _ A.in1 (holding [Value.str z t] (setAdd S (.str z t)) >>= _) _ _ s'
    refine wpAny_bind (wpAny_holding ?_)
    unfold setAdd
    refine wpAny_holding ?_
    refine wpAny_bind ((PySem.strKind P w).pyHash (k := z) (strKind_is _ _ _ _) ?_)
    refine tset_add (s := { s' with toks := s'.toks + 1 }) hS' (by omega) fun h' hsb hS2 => ?_
    have hS3 : TSet w h' S (fun j => decide (j ∈ ns.take (i + 1))) (if decide (z ∈ ns.take i) = true then c else c + 1) := hS2.congr fun j => by
      rw [List.take_add_one, hz]
      simp [List.mem_append]
    have hc3 : (if decide (z ∈ ns.take i) = true then c else c + 1) ≤ i + 1 := by
      split <;> omega
    refine wpAny_pure ⟨plainId_quiet F.plain_set_update_loop _, ih (i + 1) _ (by omega) hlt (W.frame _ s' _ _ hst' (Nat.le_succ _) fun b hb o e => ?_) ⟨_, hc3, hS3⟩ fun s'' c2 hm'' hc'' hS'' => ?_⟩
    · rw [hsb.2 b (fun h : b = S => hSf (by rw [← h]; exact hb))]; exact e
    · refine hR s'' c2 (Moved.trans W.gtrans ((hm.mono hsub).then_heap (Nat.le_succ _) fun b o hb e => ?_) hm'') hc'' hS''
      rw [hsb.2 b (fun h : b = S => hb (by rw [h]; exact List.mem_cons_self))]; exact e


theorem call_tset {l : Addr} {items : Array Value} (ns : List Str) {Q : Value → Shared → Prop} (hh : A.handled = none) (hl : s.heap.IsList l items) (hit : StrsAre items.toList ns) (hb : ns.length + 1 < scanBound)
    (h : ∀ (h' : Heap) (tk c : Nat), TSet w h' s.heap.objs.size (fun j => decide (j ∈ ns)) c → c ≤ ns.length → (∀ b o, s.heap.get? b = some o → h'.get? b = some o) → Q (.ref s.heap.objs.size) { s with heap := h', toks := tk }) :
    wpAny (model P w) A (call (.type "set") [.ref l]) Q E s := by
  have hisz : items.size = ns.length := by
    have q := StrsAre.length hit
    rw [Array.length_toList] at q
    exact q
  obtain ⟨c, tl, hmro⟩ := F.called_set.mro
  have hmade := F.called_set.made
  have hsub := F.called_set.sub
  refine wpAny_call (codeAny_of_tree ?_)
  show wpAny _ _ (callAny (.type "set") _) _ _ _
  refine wpAny_pure ⟨Code.quiet_builtin _ (by decide +kernel), codeAny_builtin F.entry_type_call ?_⟩
  rw [Around.under_plain (weight_type_call_type "set" [.ref l] []) rfl]
  have h1 := F.called_set.notType
  have h2 := F.called_set.canCreate
  have hct := F.typeCall_set_1 (.ref l)
  repeat (any_goals (first | assumption | wp_step))

  refine codeAny_mono (code_set_led1 (.ref l) (E := E) (Q₁ := fun obj s₁ => obj = .ref s.heap.objs.size ∧ s₁ = { s with heap := s.heap.push { cls := .type "set", dict := none, data := .set #[] 0 (.fresh 0 0 (!w.params.followText "set-order")) } }) ⟨rfl, rfl⟩) fun r s₁ hr => ?_
  cases r with
  | error e => exact hr
  | ok fl =>
    cases fl with
    | ret obj =>
      obtain ⟨rfl, rfl⟩ := hr
      have hS : (s.heap.push { cls := .type "set", dict := none, data := .set #[] 0 (.fresh 0 0 (!w.params.followText "set-order")) }).get? s.heap.objs.size = some { cls := .type "set", dict := none, data := .set #[] 0 (.fresh 0 0 (!w.params.followText "set-order")) } := Heap.get?_push_size _ rfl
      have hT : Shared.TypeIs { s with heap := s.heap.push { cls := .type "set", dict := none, data := .set #[] 0 (.fresh 0 0 (!w.params.followText "set-order")) } } (.ref s.heap.objs.size) "set" := ⟨_, hS, rfl⟩
      have hli := F.called_set.init.lookup
      have hbi := F.called_set.init.bind (.ref s.heap.objs.size)
      repeat (any_goals (first | assumption | wp_step))

      refine codeAny_mono (codeAny_call_builtin (R := wants (fun r s₂ => r = .none ∧ ∃ h' tk c, s₂ = { s with heap := h', toks := tk } ∧ TSet w h' s.heap.objs.size (fun j => decide (j ∈ ns)) c ∧ c ≤ ns.length ∧
          (∀ b o, s.heap.get? b = some o → h'.get? b = some o)) E) F.called_set.init.plain F.entry_set_init (check_set_init_1 hT ?_)) fun r₂ s₂ hr₂ => ?_
      · obtain ⟨ol, hol, hcl, nl, hdl⟩ := hl
        obtain ⟨ocls, odict, odata, oslots⟩ := ol
        simp only at hcl hdl
        subst hcl; subst hdl
        have hol' : (s.heap.push { cls := .type "set", dict := none, data := .set #[] 0 (.fresh 0 0 (!w.params.followText "set-order")) }).get? l = some { cls := .type "list", dict := odict, data := .seq items nl, slots := oslots } := Heap.get?_push_of_some _ hol
        have hsls := F.sub_list_set
        have hslf := F.sub_list_frozenset
        have hne : (Value.type "list" == Value.type "dict") = false := by decide
        have hl1 : (s.heap.push { cls := .type "set", dict := none, data := .set #[] 0 (.fresh 0 0 (!w.params.followText "set-order")) }).IsList l items := ⟨_, hol', rfl, nl, rfl⟩
        unfold Builtin.«set.__init__» noKeywords Builtin.Frozenset.updateFrom
        generalize hPI : pyIter = PI
        wp_walk
        subst hPI

        refine wpAny_pyIter_list hl1 ?_
        refine wpAny_bind (wpAny_runValue ?_)
        have hlS : l < s.heap.objs.size := Heap.lt_size hol
        have hh3 : A.in1.in1.in1.handled = none := by simp [hh]
        have hz1 : (s.heap.push { cls := .type "set", dict := none, data := .set #[] 0 (.fresh 0 0 (!w.params.followText "set-order")) }).objs.size = s.heap.objs.size + 1 := Heap.size_push ..
        have hneI : l ≠ (s.heap.push { cls := .type "set", dict := none, data := .set #[] 0 (.fresh 0 0 (!w.params.followText "set-order")) }).objs.size := by
          rw [Heap.size_push]; exact Nat.ne_of_lt (Nat.lt_succ_of_lt hlS)
        have hSf : s.heap.objs.size ∉ [(s.heap.push { cls := .type "set", dict := none, data := .set #[] 0 (.fresh 0 0 (!w.params.followText "set-order")) }).objs.size, l] := by
          rw [Heap.size_push]; simp only [List.mem_cons, List.mem_singleton, List.not_mem_nil, or_false, not_or]
          exact ⟨Nat.ne_of_lt (Nat.lt_succ_self _), Nat.ne_of_gt hlS⟩
        have hval : ∀ (i : Nat) (v : Value), items[i]? = some v → ∃ k t, ns[i]? = some k ∧ v = .str k t := fun i v hv => by
          have hi : i < ns.length := by rw [← hisz]; exact (Array.getElem?_eq_some_iff.mp hv).1
          obtain ⟨t, e⟩ := SS.strs_at hit i v (by rw [Array.getElem?_toList]; exact hv)
          refine ⟨ns[i], t, List.getElem?_eq_getElem hi, ?_⟩
          rw [e, List.getD_eq_getElem?_getD, List.getElem?_eq_getElem hi] <;> rfl
        refine tset_update ((Walks.list hh3 _ l hneI items).toS) s.heap.objs.size
          hSf ns hisz hb hval (items.size - 0) 0 _ (by omega) (Nat.zero_le _)
          ⟨⟨_, Heap.get?_push_size _ rfl, rfl, rfl⟩, (hl1.push _)⟩ ?hS0 ?hR
        case hS0 =>
          have hget : ((s.heap.push { cls := .type "set", dict := none, data := .set #[] 0 (.fresh 0 0 (!w.params.followText "set-order")) }).push { cls := .type "list_iterator", data := .fields #[.ref l, .int 0 0] }).get? s.heap.objs.size
              = some { cls := .type "set", dict := none, data := .set #[] 0 (.fresh 0 0 (!w.params.followText "set-order")) } := Heap.get?_push_of_some _ hS
          exact ⟨0, Nat.le_refl 0, tset_new hget⟩
        case hR =>
          intro s' c' hm hc' hS'
          obtain ⟨h', g2, d', tk', os'⟩ := s'
          have eg : g2 = s.gens := hm.gens
          have ed : d' = s.drawn := hm.drawn
          have eo : os' = s.os := hm.os
          subst eg; subst ed; subst eo
          show wpAny _ _ _ _ _ _
          refine wpAny_pure ?_
          show wpAny _ _ (ret Value.none) _ _ _
          rw [hisz] at hc'
          refine wpAny_pure ⟨rfl, h', tk', c', rfl, hS', hc', fun b o e => ?_⟩
          have hb0 : b < s.heap.objs.size := Heap.lt_size e
          have hb1 : b ≠ s.heap.objs.size := Nat.ne_of_lt hb0
          have hb2 : b ≠ (s.heap.push { cls := .type "set", dict := none, data := .set #[] 0 (.fresh 0 0 (!w.params.followText "set-order")) }).objs.size := by
            rw [Heap.size_push]; exact Nat.ne_of_lt (Nat.lt_succ_of_lt hb0)
          exact hm.heap b o (by simp only [List.mem_cons, List.mem_singleton, List.not_mem_nil, or_false, not_or]; exact ⟨hb1, hb2⟩) (Heap.get?_push_of_some _ (Heap.get?_push_of_some _ e))

      · cases r₂ with
        | error e => exact hr₂
        | ok fl₂ =>
          cases fl₂ with
          | ret r =>
            obtain ⟨rfl, h', tk, c', rfl, hS', hc', hk'⟩ := hr₂
            repeat (any_goals (first | assumption | wp_step))
            exact h _ _ _ hS' hc' hk'
          | _ => exact hr₂.elim
    | _ => exact hr.elim
/-! ### sorted -/
def strOfV (v : Value) : Str := match v with
  | .str k _ => k
  | _ => Str.empty
theorem strs_are : ∀ (l : List Value), (∀ v ∈ l, ∃ k tk, v = Value.str k tk) → StrsAre l (l.map strOfV)
  | [], _ => .nil
  | v :: l, h => by
    obtain ⟨k, tk, rfl⟩ := h v List.mem_cons_self
    exact .cons k tk (strs_are l fun u hu => h u (List.mem_cons_of_mem _ hu))
theorem tKey_of (e : Int × Value) : tKey e = strOfV e.2 := by
  obtain ⟨i, v⟩ := e
  cases v <;> rfl
theorem sorted_tset {Q : Value → Shared → Prop} (R : TSet w s.heap a S n) (hh : A.handled = none) (h64 : n < 64)
    (hQ : ∀ s' p (out : Array Value) (c : Nat) (ns : List Str), (∀ b o, s.heap.get? b = some o → s'.heap.get? b = some o) → s'.gens = s.gens → s'.os = s.os → s.heap.objs.size ≤ p →
      s'.heap.get? p = some (seqObj "list" out c) → StrsAre out.toList ns → sortedS ns = true → ns.Nodup → (∀ k, k ∈ ns ↔ S k = true) → ns.length = n → Q (.ref p) s') :
    wpAny (model P w) A (call (.builtin "sorted") [.ref a]) Q E s := by
  obtain ⟨o, es, ep, t, ho, hex, hd, g, nd, hm, hb, hf, hn, hr, hl⟩ := R
  refine Calls.call_function_entry kind_sorted plain_sorted entry_sorted (args_sorted1 _) ?_
  unfold Builtin.«sorted»
  refine wpAny_bind (m := checkCount "sorted" 1 1 _) (wpAny_pure ?_)
  refine wpAny_bind (collect_set (A := A.in1) hh ⟨o, ho, hex.1, hd⟩ hf hb hr hl fun s1 vs k1 hz g1 o1 pm => ?_)
  have hvl : vs.length = n := by rw [pm.length_eq, List.length_map, Array.length_toList]; exact hn
  have hI : StrsAre vs (vs.map strOfV) := strs_are vs fun v hv => by
    obtain ⟨e, he, q⟩ := List.mem_map.mp (pm.mem_iff.mp hv)
    obtain ⟨k, tk, h1, _⟩ := g e he
    exact ⟨k, tk, by rw [← q]; exact h1⟩
  have pk : (vs.map strOfV).Perm (es.toList.map tKey) := by
    have q := pm.map strOfV
    rw [List.map_map] at q
    rwa [show es.toList.map (strOfV ∘ fun x => x.2) = es.toList.map tKey from List.map_congr_left fun e _ => (tKey_of e).symm] at q
  refine wpAny_bind (wpAny_newList ?_ (by rw [hvl, sizeLine_eq]; omega))
  have hoL : (s1.heap.push (seqObj "list" vs.toArray 0)).get? s1.heap.objs.size = some (seqObj "list" vs.toArray 0) := Heap.get?_push_size _ rfl
  refine wpAny_bind (wpAny_holding (wpAny_call_entry slot_list_sort ⟨_, hoL, rfl⟩ entry_list_sort (list_sort_treeK strKind_oneLt hoL hI.keysOf (fun v₁ v₂ rest e => keyKind_strs (by rw [← e]; exact hI)) (by rw [hvl]; exact h64) fun st' hp hs => ⟨_, rfl, ?_⟩) (args_list_sort _)))
  obtain ⟨ns, a1, a2, a3⟩ := sorted_out_str hI hp hs
  obtain ⟨c, hc⟩ := sortedHeap_at (vs := vs) (out := (arrOf st').map (·.2)) hoL
  have pn : ns.Perm (es.toList.map tKey) := a2.trans pk
  refine wpAny_pure ⟨_, rfl, hQ _ s1.heap.objs.size _ c ns (fun b u e => ?_) g1 o1 hz hc a1 a3 (pn.nodup_iff.mpr nd) (fun k => by rw [pn.mem_iff, ← hm k]) ?_⟩
  · have q := k1 b u e
    have hlt := Heap.lt_size q
    show (sortedHeap (s1.heap.push (seqObj "list" vs.toArray 0)) s1.heap.objs.size vs _).get? b = some u
    rw [sortedHeap_old (Nat.ne_of_lt hlt) (by rw [Heap.size_push]; exact Nat.lt_succ_of_lt hlt)]
    exact Heap.get?_push_of_some _ q
  · rw [pn.length_eq, List.length_map, Array.length_toList]; exact hn
end
/-! ### calls -/
def TSetO (w : World) (a : Addr) (S : Str → Bool) (n : Nat) : HO := .ext fun h => TSet w h a S n
theorem tsetO_new {w : World} {P : Program} {H : Hp} {h : Heap} {a : Addr} {S : Str → Bool} {n : Nat} (R : TSet w h a S n) : ObjOk P w H h a (TSetO w a S n) := by
  have ⟨o, _, _, _, ho, _⟩ := R
  exact ⟨R, ⟨o, ho⟩, fun h1 h2 p k => TSet.at p k⟩
section
variable {X : Cx}
def rTSet (K : PySem.W.Frag) (w : World) : List V → Hp → VK → Prop := fun vs H Q => ∃ (l : Addr) (xs : List Str), vs = [V.ref l] ∧ SqL K H l (xs.map V.str) ∧ xs.length ≤ 1000 ∧
  ∀ (p : Addr) (c : Nat), c ≤ xs.length → H p = none → Q (.ref p) (upd H p (TSetO w p (fun j => decide (j ∈ xs)) c))
theorem cr_tset (hc : X.calm = true) : CallR X (.type "set") (rTSet X.K X.w) := by
  intro pins s σ H vs us Q I r h
  obtain ⟨l, xs, rfl, hs, hz, q⟩ := h
  obtain ⟨its, rv, hl, _⟩ := I.list hs
  rw [Vals.ref1 r]
  refine call_tset xs (I.ok.hd hc) hl.isList rv.strs (by unfold scanBound; omega) fun h' tk c R hcn k => ?_
  exact ⟨.ref _, upd H s.heap.objs.size (TSetO X.w s.heap.objs.size (fun j => decide (j ∈ xs)) c), I.laid (t' := tk) k (Nat.le_refl _) (tsetO_new R), rfl, q _ c hcn (I.hok.fresh (Nat.le_refl _))⟩
def rSortT (w : World) : List V → Hp → VK → Prop := fun vs H Q => ∃ (a : Addr) (S : Str → Bool) (n : Nat), vs = [V.ref a] ∧ H a = some (TSetO w a S n) ∧ n < 64 ∧
  ∀ (ns : List Str) (p : Addr), sortedS ns = true → ns.Nodup → (∀ k : Str, k ∈ ns ↔ S k = true) → H p = none → Q (.ref p) (upd H p (.lst (ns.map V.str)))
theorem cr_sortT (hc : X.calm = true) : CallR X (.builtin "sorted") (rSortT X.w) := by
  intro pins s σ H vs us Q I r h
  obtain ⟨a, S, n, rfl, ha, h64, q⟩ := h
  have R : TSet X.w s.heap a S n := (I.hok a _ ha).1
  rw [Vals.ref1 r]
  refine sorted_tset R (I.ok.hd hc) h64 fun s' p out c ns k g o hp hg hi hs hn hm hl => ?_
  have hlen : (ns.map V.str).length ≤ sizeLine := by rw [List.length_map, hl]; exact small64 h64
  have hf : H p = none := I.hok.fresh hp
  have J : Inv X pins σ (upd H p (.lst (ns.map V.str))) { s with heap := s'.heap, gens := s'.gens, drawn := s'.drawn, toks := s'.toks } :=
    I.call (ch := []) (Un.laid k hp hf) (I.hok.laid k hp ⟨hlen, out.toList, c, vals_of_strs hi, hg⟩) (by rw [g]; exact I.bare) (fun _ z => nomatch z)
  have e : s' = { s with heap := s'.heap, gens := s'.gens, drawn := s'.drawn, toks := s'.toks } := by
    cases s'
    cases s
    cases o
    rfl
  rw [e]
  exact ⟨.ref p, _, J, rfl, q ns p hs hn hm hf⟩
end
/-! ### by semantics -/
def ddS : List Str → List Str
  | [] => []
  | x :: l => if x ∈ ddS l then ddS l else x :: ddS l
theorem ddS_mem {x : Str} : ∀ {l : List Str}, x ∈ ddS l ↔ x ∈ l
  | [] => Iff.rfl
  | y :: l => by
    unfold ddS
    split
    · rename_i h
      rw [ddS_mem, List.mem_cons]
      exact ⟨.inr, fun z => z.elim (fun e => e ▸ ddS_mem.mp h) id⟩
    · rw [List.mem_cons, List.mem_cons, ddS_mem]
theorem ddS_nd : ∀ l : List Str, (ddS l).Nodup
  | [] => .nil
  | y :: l => by
    unfold ddS
    split
    · exact ddS_nd l
    · rename_i h
      exact List.nodup_cons.mpr ⟨h, ddS_nd l⟩
noncomputable def sortedTD (as : List D) (S : Store) : Res D := match as with
  | [x] => (match (lsOf S x).bind stsO with
    | some ns => if ns.length < 64 then .ok (.lst ((srtS (ddS ns)).map D.str)) S else .stk
    | none => .stk)
  | _ => .stk
section
variable {X : Cx} {cl : Str → Option Addr} {E : WX} {m : M D} {e : Expr} {p q pos pos' : Pos}
theorem bt_set' : bootBuiltins "set" = some (.type "set") := by decide +kernel
/-- sorted(set(xs)) -/
theorem t_sortT (hc : X.calm = true) (hm : X.mg "sorted" = none) (hv : bootBuiltins "sorted" = some (.builtin "sorted")) (hm2 : X.mg "set" = none) (he : PE X e (T X.K cl E m)) (hg : Gl X "sorted" := by rfl) (hg2 : Gl X "set" := by rfl)
    (hs : starEach [e] X.env = (false, eval e X.env) :: starEach [] X.env := by rfl) (hs2 : starEach [.Call (.Name "set" q) [e] [] pos'] X.env = (false, eval (.Call (.Name "set" q) [e] [] pos') X.env) :: starEach [] X.env := by rfl) :
    PE X (.Call (.Name "sorted" p) [.Call (.Name "set" q) [e] [] pos'] [] pos) (T X.K cl E (mFn sortedTD (mCons m mNil))) := by
  have ha := pa_cons he (pa_nil (X := X)) hs
  have hset := pe_callTy (pos := pos') (p := q) (cr_tset hc) hg2 hm2 bt_set' ha (he := hs)
  refine pe_imp (pe_callB (cr_sortT hc) hg hm hv (pa_cons hset (pa_nil (X := X)) hs2) (he := hs2)) fun σ H Q h => ?_
  obtain ⟨W, ρ, S, hr, en, pp⟩ := h
  have pp : Post X.K cl (Rep X.K cl) W ((m ρ S).bind fun x S1 => sortedTD [x] S1) Q (fun c d H' => E c d σ H') := by
    revert pp
    show Post X.K cl (Rep X.K cl) W (((m ρ S).bind fun x S1 => (Res.ok [] S1).bind fun y S2 => Res.ok (x :: y) S2).bind sortedTD) _ _ → _
    cases m ρ S <;> exact id
  refine step hr en pp fun W1 H1 v d S1 l1 r1 e1 rv p1 => ?_
  unfold sortedTD at p1
  dsimp only at p1
  split at p1
  · rename_i ns en
    split at p1
    · rename_i h64
      cases e2 : lsOf S1 d with
      | none => rw [e2] at en; cases en
      | some ds =>
        rw [e2] at en
        obtain ⟨l, vs, rfl, h, t⟩ := ls_of r1 rv e2
        have ev := sts_ofV t (show stsO ds = some ns from en)
        subst ev
        refine ⟨l, ns, rfl, SqL.of h, by omega, fun p0 c hcn hp0 => ?_⟩
        refine ⟨p0, _, c, rfl, upd_same, by omega, fun ys p2 hs hn hmem hp2 => ?_⟩
        have ep : ys.Perm (ddS ns) := (List.perm_ext_iff_of_nodup hn (ddS_nd ns)).mpr fun x => by
          rw [hmem x, ddS_mem]
          simp
        rw [srtS_eq ep (sortedS_pw ys hs)] 
        have r2 := r1.junk (o := TSetO X.w p0 (fun j => decide (j ∈ ns)) c) hp0
        exact newL r2 (reps_strs (srtS (ddS ns))) p1 p2 hp2
    · exact p1.elim
  · exact p1.elim
end
end G
/-! G45: xs[::-1] of lists. -/
namespace G
open PySem PySem.Spec
open PyProof.Rows hiding St
open L2
section
variable {X : Cx} {e st : Expr} {te ts : TE} {p2 pos : Pos}
def tRevS (K : PySem.W.Frag) (te ts : TE) : TE := fun σ H Q => te σ H fun x H1 => ts σ H1 fun y H2 => y = .int (-1) ∧ ∃ a xs, x = .ref a ∧ SqL K H2 a xs ∧ ∀ p, H2 p = none → Q (.ref p) (upd H2 p (.lst xs.reverse))
theorem pe_revS (he : PE X e te) (hst : PE X st ts) : PE X (.Subscript e (.Slice none none (some st) p2) pos) (tRevS X.K te ts) := by
  refine ⟨fun pins s σ H Q I h => ?_⟩
  refine Subscript_ (thn (he.run pins s σ H _ I h) fun v s1 ⟨x, H1, I1, r1, q1⟩ => ?_)
  refine wpAny_Slice ?_
  rw [evalPart_none]
  refine wpAny_pure (wpAny_pure ?_)
  rw [evalPart_some]
  refine thn (hst.run pins s1 σ H1 _ I1 q1) fun w s3 ⟨y, H3, I3, ry, ey, a, xs, ex, hx, q⟩ => ?_
  subst ey ex
  obtain rfl : v = Value.ref a := r1
  obtain ⟨t, rfl⟩ := ry
  have I4 : Inv X pins σ H3 { s3 with heap := s3.heap.push { cls := .type "slice", data := .fields #[.none, .none, .int (-1) t] } } := I3.kept (t' := s3.toks) fun b ob q => Heap.get?_push_of_some _ q
  obtain ⟨its, rv, ht, hz⟩ := I4.list hx
  have hlen := rv.length
  show wpAny (model X.prog X.w) X.A (subscriptTail e (.Slice none none (some st) p2) (.ref a) (.ref s3.heap.objs.size)) (EP X pins σ Q) X.xe { s3 with heap := s3.heap.push { cls := .type "slice", data := .fields #[.none, .none, .int (-1) t] } }
  refine tail_any (ops := [.ref a, .ref s3.heap.objs.size]) ht.isList.typeIs slot_list_getitem.lookup ?_ (by with_unfolding_all rfl)
  refine wpAny_getItem_list_slice ht.isList (Heap.IsSliceOf.new ..) .none .none (.int (-1) t) (by simp) ?_ (by rw [List.size_toArray] <;> omega)
  rw [PySem.W.krv_pick]
  refine ⟨.ref _, _, I4.laid (t' := s3.toks) (o := .lst xs.reverse) (fun b ob q => Heap.get?_push_of_some _ q) (Nat.le_refl _) ?_, rfl, q _ (I4.hok.fresh (Nat.le_refl _))⟩
  exact ⟨by rw [List.length_reverse]; exact hz, _, 0, rv.reverse, Heap.get?_push_size _ rfl⟩
end
def rvD (x y : D) (S : Store) : Res D := match y with
  | .int i => if i = -1 then lrevD x S else .stk
  | _ => .stk
section
variable {X : Cx} {cl : Str → Option Addr} {E : WX} {m ms : M D} {e st : Expr} {p2 pos : Pos}
theorem t_revS (he : PE X e (T X.K cl E m)) (hst : PE X st (T X.K cl E ms)) : PE X (.Subscript e (.Slice none none (some st) p2) pos) (T X.K cl E (mOp rvD m ms)) :=
  pe_imp (pe_revS he hst) fun σ H Q ⟨W, ρ, S, hr, en, q⟩ => step hr en q fun W1 H1 x dx S1 l1 r1 e1 rx p1 => step r1 e1 p1 fun W2 H2 y dy S2 l2 r2 e2 ry p2 => by
    unfold rvD at p2
    split at p2
    · rename_i i
      cases ry
      split at p2
      · rename_i hi
        subst hi
        unfold lrevD at p2
        split at p2
        · rename_i xs ex
          obtain ⟨l, vs, rfl, h, t⟩ := ls_of r2 (rx.up l2) ex
          exact ⟨rfl, l, vs, rfl, SqL.of h, newL r2 t.rev p2⟩
        · exact p2.elim
      · exact p2.elim
    · exact p2.elim
end
section
variable {S : Store} {x y : D}
@[simp] theorem v_rv : rvD x (.int (-1)) S = lrevD x S := nrfl rfl
end
end G
namespace G
open PySem L2
def top (i : Nat) : Stmt := PySem.Challenge.pw_sparedwork_k63_orders_that_stand_ahead.main.body.getD i (.Pass ⟨0, 0, 0, 0⟩)
def c_CHARS : D := .str " !\"#$&'()*+,-./0123456789:;<=>?@ABCDEFGHIJKLMNOPQRSTUVWXYZ[\\]^_`abcdefghijklmnopqrstuvwxyz{|}~"
def c_DIGITS : D := .str "0123456789"
def c_KEPT_WORDS : D := .tup [.str "and", .str "or", .str "not", .str "sure", .str "in", .str "is", .str "empty", .str "begins", .str "always", .str "never", .str "unsure"]
def c_LETTERS : D := .str "abcdefghijklmnopqrstuvwxyz"
def c_MOST_ATOMS : D := .int 48
def c_MOST_LEVELS : D := .int 24
def c_MOST_PIECES : D := .int 4
def c_MOST_VALUES : D := .int 8
def c_OPERATORS : D := .tup [.str "<", .str "<=", .str "==", .str "!=", .str ">", .str ">="]
def c_SLOT_NUMBERS : D := .tup [.str "1", .str "2", .str "3"]
def c_TURNED_WAYS : List (Str × D) := [("up", .str "down"), ("down", .str "up")]
structure Gb (w : World) (K : PySem.W.Frag) (cl : Str → Option Addr) (mg : Str → Option Value) : Prop where
  g_TURNED_WAYS : KCon K w cl mg "TURNED_WAYS" c_TURNED_WAYS
  ne_Test : ∀ C, cl "Test" = some C → PySem.W.findIn K (.ref C) "__ne__" = some (some (.builtin "object.__ne__"))
  top_Test : ∀ C, cl "Test" = some C → PySem.W.mroIn K C (.type "object") = some true
  b_all : mg "all" = none
  b_any : mg "any" = none
  b_bool : mg "bool" = none
  b_dict : mg "dict" = none
  b_int : mg "int" = none
  b_isinstance : mg "isinstance" = none
  b_len : mg "len" = none
  b_list : mg "list" = none
  b_max : mg "max" = none
  b_range : mg "range" = none
  b_set : mg "set" = none
  b_sorted : mg "sorted" = none
  b_str : mg "str" = none
  b_tuple : mg "tuple" = none
  g_CHARS : GlobIs K cl mg "CHARS" c_CHARS
  g_DIGITS : GlobIs K cl mg "DIGITS" c_DIGITS
  g_KEPT_WORDS : GlobIs K cl mg "KEPT_WORDS" c_KEPT_WORDS
  g_LETTERS : GlobIs K cl mg "LETTERS" c_LETTERS
  g_MOST_ATOMS : GlobIs K cl mg "MOST_ATOMS" c_MOST_ATOMS
  g_MOST_LEVELS : GlobIs K cl mg "MOST_LEVELS" c_MOST_LEVELS
  g_MOST_PIECES : GlobIs K cl mg "MOST_PIECES" c_MOST_PIECES
  g_MOST_VALUES : GlobIs K cl mg "MOST_VALUES" c_MOST_VALUES
  g_OPERATORS : GlobIs K cl mg "OPERATORS" c_OPERATORS
  g_SLOT_NUMBERS : GlobIs K cl mg "SLOT_NUMBERS" c_SLOT_NUMBERS
  a_Test__data : AttrOk K cl "_data" ["Test"]
  a_Test__kind : AttrOk K cl "_kind" ["Test"]
  a_Test__parts : AttrOk K cl "_parts" ["Test"]
  sf_Test : ∀ C, cl "Test" = some C → PySem.W.selfFirst K C = true
  ic_Test : IsC K mg cl "Test" [("Test", true)]
section
variable {P : Program} {w : World} {K : PySem.W.Frag} {mg : Str → Option Value} {base : Heap} {cl : Str → Option Addr}
abbrev s_Test_eq : Stmt := (inClass (top 23) 12)
theorem sc_Test_eq : FnScope ["self", "other"] ["self", "other"] (defScope s_Test_eq) :=
  ⟨rfl, rfl, rfl, by decide +kernel, rfl, by decide +kernel, by decide +kernel⟩
noncomputable def sem_Test_eq (rec : List D → Store → Res D) : MS :=
  (sSeq (sIf (mNot (mTru (mUn (isCD [("Test", true)]) (mVar 1))))
  (sRet (mC (.bl false)))
  sPass)
  (sRet (mAndV (mOp eqD (mUn (fldD ["Test"] "_kind") (mVar 0)) (mUn (fldD ["Test"] "_kind") (mVar 1))) (mAndV (mOp eqD (mUn (fldD ["Test"] "_data") (mVar 0)) (mUn (fldD ["Test"] "_data") (mVar 1))) (mOp (eqO "Test" rec 2) (mUn (fldD ["Test"] "_parts") (mVar 0)) (mUn (fldD ["Test"] "_parts") (mVar 1)))))))
noncomputable def fn_Test_eq : Nat → List D → Store → Res D
  | 0 => fun _ _ => .stk
  | j + 1 => runB 2 (sem_Test_eq (fn_Test_eq j))
theorem ok_Test_eq {k : Nat} {rec : List D → Store → Res D} {f : Addr} {fd : FuncData} (hk : 0 ≤ k) (F : Fun K "__eq__" "Test.__eq__" s_Test_eq f fd) (T : Gb w K cl mg) (G_Test_eq : MFn P w K mg base cl "Test" "__eq__" k 2 rec) :
    FnOk P w K mg base (L2.CX P w) (k + 3) f fd ["self", "other"] (spOf K cl 2 ((runB 2 (sem_Test_eq rec)))) :=
  fn_sem F sc_Test_eq rfl fun cdv A outer s H E hr =>
  (s_cons (s_if (tt_not (tt_tru (t_isC T.ic_Test T.b_isinstance (t_var 1))))
  (s_one (s_ret t_bl))
  s_nil)
  (s_one (s_ret (t_and (t_cmp (op_eqA hr) eq_s (t_fld T.a_Test__kind (t_var 0)) (t_fld T.a_Test__kind (t_var 1))) (t_and (t_cmp (op_eqA hr) eq_s (t_fld T.a_Test__data (t_var 0)) (t_fld T.a_Test__data (t_var 1))) (t_one (t_cmp (op_eqO ⟨G_Test_eq, T.ne_Test, T.top_Test⟩ (hr.mono (by omega))) eqO_s (t_fld T.a_Test__parts (t_var 0)) (t_fld T.a_Test__parts (t_var 1)))))))))
theorem mk_Test_eq {f : Addr} {fd : FuncData} (F : Fun K "__eq__" "Test.__eq__" s_Test_eq f fd) {C : Addr} (hcl : cl "Test" = some C) (hc : Cls K C) (hm : Meth K C "__eq__" f) (T : Gb w K cl mg) : ∀ j : Nat, MFn P w K mg base cl "Test" "__eq__" (0 + 3 * j) 2 (fn_Test_eq j)
  | 0 => ⟨C, f, fd, ["self", "other"], hcl, hc, hm, fn_stk.mono (by omega), (F.binds (ps := ["self", "other"]) fun _ _ _ _ _ _ us hl => match us, hl with | [_, _], _ => rfl)⟩
  | j + 1 => ⟨C, f, fd, ["self", "other"], hcl, hc, hm, ok_Test_eq (Nat.le_add_right _ _) F T (mk_Test_eq F hcl hc hm T j), (F.binds (ps := ["self", "other"]) fun _ _ _ _ _ _ us hl => match us, hl with | [_, _], _ => rfl)⟩
abbrev s_BadTest_init : Stmt := (inClass (top 3) 0)
theorem sc_BadTest_init : FnScope ["self", "why"] ["self", "why"] (defScope s_BadTest_init) :=
  ⟨rfl, rfl, rfl, by decide +kernel, rfl, by decide +kernel, by decide +kernel⟩
theorem ok_BadTest_init {f : Addr} {fd : FuncData} (F : Fun K "__init__" "BadTest.__init__" s_BadTest_init f fd) : FnOk P w K mg base (L2.CX P w) 1 f fd ["self", "why"] (spErr K ["self", "why"] 2 [("why", 1)]) :=
  err_fn F sc_BadTest_init rfl (by decide) (by decide) fun cdv A outer s H E => (er_cons 1 er_nil)
theorem mk_BadTest_init {f : Addr} {fd : FuncData} (F : Fun K "__init__" "BadTest.__init__" s_BadTest_init f fd) {C : Addr} (hcl : cl "BadTest" = some C) (hg : mg "BadTest" = some (.ref C)) (hx : OexC K C) (hi : PySem.W.findIn K (.ref C) "__init__" = some (some (.ref f))) (ht : PySem.W.typeIn K (.ref f) = some (.type "function")) (hf1 : PySem.W.findIn K (.ref C) "why" = some none) : ErrF P w K mg base cl "BadTest" 1 2 ["self", "why"] [("why", 1)] :=
  ⟨C, f, fd, ["self", "why"], hcl, hg, hx, hi, ht, ok_BadTest_init F, (F.binds (ps := ["self", "why"]) fun _ _ _ _ _ _ us hl => match us, hl with | [_, _], _ => rfl), (by intro q hq; simp only [List.mem_cons, List.not_mem_nil, or_false] at hq; rcases hq with rfl <;> assumption)⟩
abbrev s_Test_init : Stmt := (inClass (top 23) 0)
theorem sc_Test_init : FnScope ["self", "kind", "data", "parts"] ["self", "kind", "data", "parts"] (defScope s_Test_init) :=
  ⟨rfl, rfl, rfl, by decide +kernel, rfl, by decide +kernel, by decide +kernel⟩
noncomputable def sem_Test_init : MS :=
  (sSeq (sSetF ["Test"] "_kind" (mVar 0) (mVar 1))
  (sSeq (sSetF ["Test"] "_data" (mVar 0) (mVar 2))
  (sSetF ["Test"] "_parts" (mVar 0) (mVar 3))))
noncomputable def fn_Test_init : List D → Store → Res D := runB 4 sem_Test_init
theorem ok_Test_init {f : Addr} {fd : FuncData} (F : Fun K "__init__" "Test.__init__" s_Test_init f fd) (T : Gb w K cl mg) :
    FnOk P w K mg base (L2.CX P w) 1 f fd ["self", "kind", "data", "parts"] (spOf K cl 4 fn_Test_init) :=
  fn_sem F sc_Test_init rfl fun cdv A outer s H E hr =>
  (s_cons (s_fld T.a_Test__kind (t_var 0) (t_var 1))
  (s_cons (s_fld T.a_Test__data (t_var 0) (t_var 2))
  (s_one (s_fld T.a_Test__parts (t_var 0) (t_var 3)))))
theorem mk_Test_init {f : Addr} {fd : FuncData} (F : Fun K "__init__" "Test.__init__" s_Test_init f fd) {C : Addr} (hcl : cl "Test" = some C) (hg : mg "Test" = some (.ref C)) (hM : Mk K C f) (T : Gb w K cl mg) : Mkr P w K mg base cl "Test" 1 4 fn_Test_init :=
  ⟨C, f, fd, ["self", "kind", "data", "parts"], hcl, hg, hM, ok_Test_init F T, (F.binds (ps := ["self", "kind", "data", "parts"]) fun _ _ _ _ _ _ us hl => match us, hl with | [_, _, _, _], _ => rfl)⟩
abbrev s_Test_atoms : Stmt := (inClass (top 23) 4)
theorem sc_Test_atoms : FnScope ["self", "part", "atom"] ["self"] (defScope s_Test_atoms) :=
  ⟨rfl, rfl, rfl, by decide +kernel, rfl, by decide +kernel, by decide +kernel⟩
noncomputable def sem_Test_atoms (rec : List D → Store → Res D) : MS :=
  (sSeq (sIf (mNot (mTru (mUn (fldD ["Test"] "_parts") (mVar 0))))
  (sRet (mFn lstD (mCons (mVar 0) mNil)))
  sPass)
  (sRet (mComp2 (mIt (mUn (fldD ["Test"] "_parts") (mVar 0))) (ptN 1) mYes (mIt (mMeth [("Test", rec)] "atoms" 1 (mVar 1) mNil)) (ptN 2) mYes (mVar 2) [1, 2] [2] frzD)))
noncomputable def fn_Test_atoms : Nat → List D → Store → Res D
  | 0 => fun _ _ => .stk
  | j + 1 => runB 3 (sem_Test_atoms (fn_Test_atoms j))
theorem ok_Test_atoms {k : Nat} {rec : List D → Store → Res D} {f : Addr} {fd : FuncData} (hk : 0 ≤ k) (F : Fun K "atoms" "Test.atoms" s_Test_atoms f fd) (T : Gb w K cl mg) (G_Test_atoms : MFn P w K mg base cl "Test" "atoms" k 1 rec) :
    FnOk P w K mg base (L2.CX P w) (k + 1) f fd ["self"] (spOf K cl 1 ((runB 3 (sem_Test_atoms rec)))) :=
  fn_sem F sc_Test_atoms rfl fun cdv A outer s H E hr =>
  (s_cons (s_if (tt_not (tt_tru (t_fld T.a_Test__parts (t_var 0))))
  (s_one (s_ret (t_lst (ta_cons (t_var 0) ta_nil))))
  s_nil)
  (s_one (s_ret (t_lc2 [("part", 1), ("atom", 2)] [2] frz_s rfl sc_Test_atoms.nd (i_seq (t_fld T.a_Test__parts (t_var 0))) (blkOk_by (N := ["self", "part", "atom"]) (sc := defScope s_Test_atoms) (by decide +kernel)) (fun _ _ _ _ _ => (g_name 1 sc_Test_atoms.nd)) (fun _ _ _ _ _ => tts_nil) (fun _ _ _ _ _ => (i_seq (t_meth0 (mt_cons G_Test_atoms mt_nil) mt_ex (hr.mono (by omega)) takes0 (t_var 1)))) (fun _ _ _ _ _ => (g_name 2 sc_Test_atoms.nd)) (fun _ _ _ _ _ => tts_nil) (fun _ _ _ _ _ => (t_var 2))))))
theorem mk_Test_atoms {f : Addr} {fd : FuncData} (F : Fun K "atoms" "Test.atoms" s_Test_atoms f fd) {C : Addr} (hcl : cl "Test" = some C) (hc : Cls K C) (hm : Meth K C "atoms" f) (T : Gb w K cl mg) : ∀ j : Nat, MFn P w K mg base cl "Test" "atoms" (0 + 1 * j) 1 (fn_Test_atoms j)
  | 0 => ⟨C, f, fd, ["self"], hcl, hc, hm, fn_stk.mono (by omega), (F.binds (ps := ["self"]) fun _ _ _ _ _ _ us hl => match us, hl with | [_], _ => rfl)⟩
  | j + 1 => ⟨C, f, fd, ["self"], hcl, hc, hm, ok_Test_atoms (Nat.le_add_right _ _) F T (mk_Test_atoms F hcl hc hm T j), (F.binds (ps := ["self"]) fun _ _ _ _ _ _ us hl => match us, hl with | [_], _ => rfl)⟩
abbrev s_Test_levels : Stmt := (inClass (top 23) 5)
theorem sc_Test_levels : FnScope ["self", "part"] ["self"] (defScope s_Test_levels) :=
  ⟨rfl, rfl, rfl, by decide +kernel, rfl, by decide +kernel, by decide +kernel⟩
noncomputable def sem_Test_levels (rec : List D → Store → Res D) : MS :=
  (sRet (mFn (exD mxI) (mCons (mOp addD (mFn lstD (mCons (mC (.int 0)) mNil)) (mComp (mIt (mUn (fldD ["Test"] "_parts") (mVar 0))) (ptN 1) mYes (mOp addD (mMeth [("Test", rec)] "levels" 1 (mVar 1) mNil) (mC (.int 1))) [1] frzD)) mNil)))
noncomputable def fn_Test_levels : Nat → List D → Store → Res D
  | 0 => fun _ _ => .stk
  | j + 1 => runB 2 (sem_Test_levels (fn_Test_levels j))
theorem ok_Test_levels {k : Nat} {rec : List D → Store → Res D} {f : Addr} {fd : FuncData} (hk : 0 ≤ k) (F : Fun K "levels" "Test.levels" s_Test_levels f fd) (T : Gb w K cl mg) (G_Test_levels : MFn P w K mg base cl "Test" "levels" k 1 rec) :
    FnOk P w K mg base (L2.CX P w) (k + 1) f fd ["self"] (spOf K cl 1 ((runB 2 (sem_Test_levels rec)))) :=
  fn_sem F sc_Test_levels rfl fun cdv A outer s H E hr =>
  (s_one (s_ret (t_callB (cr_max rfl) max_s T.b_max bt_max (ta_cons (t_op op_addA add_s (t_lst (ta_cons t_int ta_nil)) (t_lc [("part", 1)] frz_s rfl sc_Test_levels.nd (i_seq (t_fld T.a_Test__parts (t_var 0))) (blkOk_by (N := ["self", "part"]) (sc := defScope s_Test_levels) (by decide +kernel)) (fun _ _ _ _ _ => (g_name 1 sc_Test_levels.nd)) (fun _ _ _ _ _ => tts_nil) (fun _ _ _ _ _ => (t_op op_addA add_s (t_meth0 (mt_cons G_Test_levels mt_nil) mt_ex (hr.mono (by omega)) takes0 (t_var 1)) t_int)))) ta_nil))))
theorem mk_Test_levels {f : Addr} {fd : FuncData} (F : Fun K "levels" "Test.levels" s_Test_levels f fd) {C : Addr} (hcl : cl "Test" = some C) (hc : Cls K C) (hm : Meth K C "levels" f) (T : Gb w K cl mg) : ∀ j : Nat, MFn P w K mg base cl "Test" "levels" (0 + 1 * j) 1 (fn_Test_levels j)
  | 0 => ⟨C, f, fd, ["self"], hcl, hc, hm, fn_stk.mono (by omega), (F.binds (ps := ["self"]) fun _ _ _ _ _ _ us hl => match us, hl with | [_], _ => rfl)⟩
  | j + 1 => ⟨C, f, fd, ["self"], hcl, hc, hm, ok_Test_levels (Nat.le_add_right _ _) F T (mk_Test_levels F hcl hc hm T j), (F.binds (ps := ["self"]) fun _ _ _ _ _ _ us hl => match us, hl with | [_], _ => rfl)⟩
abbrev s_limited : Stmt := (top 24)
theorem sc_limited : FnScope ["test"] ["test"] (defScope s_limited) :=
  ⟨rfl, rfl, rfl, by decide +kernel, rfl, by decide +kernel, by decide +kernel⟩
noncomputable def sem_limited : MS :=
  (sSeq (sIf (mTest (mOp gtD (mFn lenD (mCons (mMeth [("Test", (fn_Test_atoms 30))] "atoms" 1 (mVar 0) mNil) mNil)) (mC c_MOST_ATOMS)))
  (sRaise "BadTest" 2 2 [("why", 1)] (mCons (mC (.str "large")) mNil))
  sPass)
  (sSeq (sIf (mTest (mOp gtD (mMeth [("Test", (fn_Test_levels 30))] "levels" 1 (mVar 0) mNil) (mC c_MOST_LEVELS)))
  (sRaise "BadTest" 2 2 [("why", 1)] (mCons (mC (.str "deep")) mNil))
  sPass)
  (sRet (mVar 0))))
noncomputable def fn_limited : List D → Store → Res D := runB 1 sem_limited
theorem ok_limited {f : Addr} {fd : FuncData} (F : Fun K "limited" "limited" s_limited f fd) (T : Gb w K cl mg) (G_BadTest_init : ErrF P w K mg base cl "BadTest" 1 2 ["self", "why"] [("why", 1)]) (G_Test_atoms : MFn P w K mg base cl "Test" "atoms" 30 1 (fn_Test_atoms 30)) (G_Test_levels : MFn P w K mg base cl "Test" "levels" 30 1 (fn_Test_levels 30)) :
    FnOk P w K mg base (L2.CX P w) 31 f fd ["test"] (spOf K cl 1 fn_limited) :=
  fn_sem F sc_limited rfl fun cdv A outer s H E hr =>
  (s_cons (s_if (tt_cmp op_gt gt_s (t_callB (call_len) len_s T.b_len bt_len (ta_cons (t_meth0 (mt_cons G_Test_atoms mt_nil) mt_ex (hr.mono (by decide)) (takes_of rfl rfl rfl rfl) (t_var 0)) ta_nil)) (t_glob' T.g_MOST_ATOMS))
  (s_one (s_raiseF (N := ["self", "why"]) G_BadTest_init (hr.mono (by decide)) (takes_of rfl rfl rfl rfl) (ta_cons t_str ta_nil) (by decide) (by decide)))
  s_nil)
  (s_cons (s_if (tt_cmp op_gt gt_s (t_meth0 (mt_cons G_Test_levels mt_nil) mt_ex (hr.mono (by decide)) (takes_of rfl rfl rfl rfl) (t_var 0)) (t_glob' T.g_MOST_LEVELS))
  (s_one (s_raiseF (N := ["self", "why"]) G_BadTest_init (hr.mono (by decide)) (takes_of rfl rfl rfl rfl) (ta_cons t_str ta_nil) (by decide) (by decide)))
  s_nil)
  (s_one (s_ret (t_var 0)))))
theorem mk_limited {f : Addr} {fd : FuncData} (F : Fun K "limited" "limited" s_limited f fd) (hm : mg "limited" = some (.ref f)) (T : Gb w K cl mg) (G_BadTest_init : ErrF P w K mg base cl "BadTest" 1 2 ["self", "why"] [("why", 1)]) (G_Test_atoms : MFn P w K mg base cl "Test" "atoms" 30 1 (fn_Test_atoms 30)) (G_Test_levels : MFn P w K mg base cl "Test" "levels" 30 1 (fn_Test_levels 30)) : Fn P w K mg base cl "limited" 31 1 fn_limited :=
  ⟨f, fd, ["test"], ok_limited F T G_BadTest_init G_Test_atoms G_Test_levels, hm, F.kp, (F.binds (ps := ["test"]) fun _ _ _ _ _ _ us hl => match us, hl with | [_], _ => rfl)⟩
abbrev s_combine : Stmt := (top 25)
theorem sc_combine : FnScope ["kind", "one", "other"] ["kind", "one", "other"] (defScope s_combine) :=
  ⟨rfl, rfl, rfl, by decide +kernel, rfl, by decide +kernel, by decide +kernel⟩
noncomputable def sem_combine : MS :=
  (sSeq (sIf (mNot (mTru (mUn (isCD [("Test", true)]) (mVar 2))))
  (sRaise "BadTest" 2 2 [("why", 1)] (mCons (mC (.str "part")) mNil))
  sPass)
  (sRet (mFn (ar 1 fn_limited) (mCons (mUn frzI (mMake "Test" 4 fn_Test_init (mCons (mVar 0) (mCons (mFn tupD mNil) (mCons (mFn tupD (mCons (mVar 1) (mCons (mVar 2) mNil))) mNil))))) mNil))))
noncomputable def fn_combine : List D → Store → Res D := runB 3 sem_combine
theorem ok_combine {f : Addr} {fd : FuncData} (F : Fun K "combine" "combine" s_combine f fd) (T : Gb w K cl mg) (G_BadTest_init : ErrF P w K mg base cl "BadTest" 1 2 ["self", "why"] [("why", 1)]) (G_Test_init : Mkr P w K mg base cl "Test" 1 4 fn_Test_init) (G_limited : Fn P w K mg base cl "limited" 31 1 fn_limited) :
    FnOk P w K mg base (L2.CX P w) 32 f fd ["kind", "one", "other"] (spOf K cl 3 fn_combine) :=
  fn_sem F sc_combine rfl fun cdv A outer s H E hr =>
  (s_cons (s_if (tt_not (tt_tru (t_isC T.ic_Test T.b_isinstance (t_var 2))))
  (s_one (s_raiseF (N := ["self", "why"]) G_BadTest_init (hr.mono (by decide)) (takes_of rfl rfl rfl rfl) (ta_cons t_str ta_nil) (by decide) (by decide)))
  s_nil)
  (s_one (s_ret (t_callF G_limited (hr.mono (by decide)) (takes_of rfl rfl rfl rfl) (ta_cons (t_frzI (t_make G_Test_init (hr.mono (by decide)) (takes_of rfl rfl rfl rfl) (ta_cons (t_var 0) (ta_cons (t_tup ta_nil) (ta_cons (t_tup (ta_cons (t_var 1) (ta_cons (t_var 2) ta_nil))) ta_nil))))) ta_nil)))))
theorem mk_combine {f : Addr} {fd : FuncData} (F : Fun K "combine" "combine" s_combine f fd) (hm : mg "combine" = some (.ref f)) (T : Gb w K cl mg) (G_BadTest_init : ErrF P w K mg base cl "BadTest" 1 2 ["self", "why"] [("why", 1)]) (G_Test_init : Mkr P w K mg base cl "Test" 1 4 fn_Test_init) (G_limited : Fn P w K mg base cl "limited" 31 1 fn_limited) : Fn P w K mg base cl "combine" 32 3 fn_combine :=
  ⟨f, fd, ["kind", "one", "other"], ok_combine F T G_BadTest_init G_Test_init G_limited, hm, F.kp, (F.binds (ps := ["kind", "one", "other"]) fun _ _ _ _ _ _ us hl => match us, hl with | [_, _, _], _ => rfl)⟩
abbrev s_Test_and : Stmt := (inClass (top 23) 9)
theorem sc_Test_and : FnScope ["self", "other"] ["self", "other"] (defScope s_Test_and) :=
  ⟨rfl, rfl, rfl, by decide +kernel, rfl, by decide +kernel, by decide +kernel⟩
noncomputable def sem_Test_and : MS :=
  (sRet (mFn (ar 3 fn_combine) (mCons (mC (.str "and")) (mCons (mVar 0) (mCons (mVar 1) mNil)))))
noncomputable def fn_Test_and : List D → Store → Res D := runB 2 sem_Test_and
theorem ok_Test_and {f : Addr} {fd : FuncData} (F : Fun K "__and__" "Test.__and__" s_Test_and f fd) (T : Gb w K cl mg) (G_combine : Fn P w K mg base cl "combine" 32 3 fn_combine) :
    FnOk P w K mg base (L2.CX P w) 33 f fd ["self", "other"] (spOf K cl 2 fn_Test_and) :=
  fn_sem F sc_Test_and rfl fun cdv A outer s H E hr =>
  (s_one (s_ret (t_callF G_combine (hr.mono (by decide)) (takes_of rfl rfl rfl rfl) (ta_cons t_str (ta_cons (t_var 0) (ta_cons (t_var 1) ta_nil))))))
theorem mk_Test_and {f : Addr} {fd : FuncData} (F : Fun K "__and__" "Test.__and__" s_Test_and f fd) {C : Addr} (hcl : cl "Test" = some C) (hc : Cls K C) (hm : Meth K C "__and__" f) (T : Gb w K cl mg) (G_combine : Fn P w K mg base cl "combine" 32 3 fn_combine) : MFn P w K mg base cl "Test" "__and__" 33 2 fn_Test_and :=
  ⟨C, f, fd, ["self", "other"], hcl, hc, hm, ok_Test_and F T G_combine, (F.binds (ps := ["self", "other"]) fun _ _ _ _ _ _ us hl => match us, hl with | [_, _], _ => rfl)⟩
abbrev s_Test_invert : Stmt := (inClass (top 23) 11)
theorem sc_Test_invert : FnScope ["self"] ["self"] (defScope s_Test_invert) :=
  ⟨rfl, rfl, rfl, by decide +kernel, rfl, by decide +kernel, by decide +kernel⟩
noncomputable def sem_Test_invert : MS :=
  (sRet (mFn (ar 1 fn_limited) (mCons (mUn frzI (mMake "Test" 4 fn_Test_init (mCons (mC (.str "not")) (mCons (mFn tupD mNil) (mCons (mFn tupD (mCons (mVar 0) mNil)) mNil))))) mNil)))
noncomputable def fn_Test_invert : List D → Store → Res D := runB 1 sem_Test_invert
theorem ok_Test_invert {f : Addr} {fd : FuncData} (F : Fun K "__invert__" "Test.__invert__" s_Test_invert f fd) (T : Gb w K cl mg) (G_Test_init : Mkr P w K mg base cl "Test" 1 4 fn_Test_init) (G_limited : Fn P w K mg base cl "limited" 31 1 fn_limited) :
    FnOk P w K mg base (L2.CX P w) 32 f fd ["self"] (spOf K cl 1 fn_Test_invert) :=
  fn_sem F sc_Test_invert rfl fun cdv A outer s H E hr =>
  (s_one (s_ret (t_callF G_limited (hr.mono (by decide)) (takes_of rfl rfl rfl rfl) (ta_cons (t_frzI (t_make G_Test_init (hr.mono (by decide)) (takes_of rfl rfl rfl rfl) (ta_cons t_str (ta_cons (t_tup ta_nil) (ta_cons (t_tup (ta_cons (t_var 0) ta_nil)) ta_nil))))) ta_nil))))
theorem mk_Test_invert {f : Addr} {fd : FuncData} (F : Fun K "__invert__" "Test.__invert__" s_Test_invert f fd) {C : Addr} (hcl : cl "Test" = some C) (hc : Cls K C) (hm : Meth K C "__invert__" f) (T : Gb w K cl mg) (G_Test_init : Mkr P w K mg base cl "Test" 1 4 fn_Test_init) (G_limited : Fn P w K mg base cl "limited" 31 1 fn_limited) : MFn P w K mg base cl "Test" "__invert__" 32 1 fn_Test_invert :=
  ⟨C, f, fd, ["self"], hcl, hc, hm, ok_Test_invert F T G_Test_init G_limited, (F.binds (ps := ["self"]) fun _ _ _ _ _ _ us hl => match us, hl with | [_], _ => rfl)⟩
abbrev s_Test_or : Stmt := (inClass (top 23) 10)
theorem sc_Test_or : FnScope ["self", "other"] ["self", "other"] (defScope s_Test_or) :=
  ⟨rfl, rfl, rfl, by decide +kernel, rfl, by decide +kernel, by decide +kernel⟩
noncomputable def sem_Test_or : MS :=
  (sRet (mFn (ar 3 fn_combine) (mCons (mC (.str "or")) (mCons (mVar 0) (mCons (mVar 1) mNil)))))
noncomputable def fn_Test_or : List D → Store → Res D := runB 2 sem_Test_or
theorem ok_Test_or {f : Addr} {fd : FuncData} (F : Fun K "__or__" "Test.__or__" s_Test_or f fd) (T : Gb w K cl mg) (G_combine : Fn P w K mg base cl "combine" 32 3 fn_combine) :
    FnOk P w K mg base (L2.CX P w) 33 f fd ["self", "other"] (spOf K cl 2 fn_Test_or) :=
  fn_sem F sc_Test_or rfl fun cdv A outer s H E hr =>
  (s_one (s_ret (t_callF G_combine (hr.mono (by decide)) (takes_of rfl rfl rfl rfl) (ta_cons t_str (ta_cons (t_var 0) (ta_cons (t_var 1) ta_nil))))))
theorem mk_Test_or {f : Addr} {fd : FuncData} (F : Fun K "__or__" "Test.__or__" s_Test_or f fd) {C : Addr} (hcl : cl "Test" = some C) (hc : Cls K C) (hm : Meth K C "__or__" f) (T : Gb w K cl mg) (G_combine : Fn P w K mg base cl "combine" 32 3 fn_combine) : MFn P w K mg base cl "Test" "__or__" 33 2 fn_Test_or :=
  ⟨C, f, fd, ["self", "other"], hcl, hc, hm, ok_Test_or F T G_combine, (F.binds (ps := ["self", "other"]) fun _ _ _ _ _ _ us hl => match us, hl with | [_, _], _ => rfl)⟩
abbrev s_is_integer : Stmt := (top 11)
theorem sc_is_integer : FnScope ["thing"] ["thing"] (defScope s_is_integer) :=
  ⟨rfl, rfl, rfl, by decide +kernel, rfl, by decide +kernel, by decide +kernel⟩
noncomputable def sem_is_integer : MS :=
  (sRet (mAndV (mUn (isiD k_int) (mVar 0)) (mNotV (mUn (isiD k_bool) (mVar 0)))))
noncomputable def fn_is_integer : List D → Store → Res D := runB 1 sem_is_integer
theorem ok_is_integer {f : Addr} {fd : FuncData} (F : Fun K "is_integer" "is_integer" s_is_integer f fd) (T : Gb w K cl mg) :
    FnOk P w K mg base (L2.CX P w) 1 f fd ["thing"] (spOf K cl 1 fn_is_integer) :=
  fn_sem F sc_is_integer rfl fun cdv A outer s H E hr =>
  (s_one (s_ret (t_and (t_isi is_int T.b_isinstance T.b_int bt_int (t_var 0)) (t_one (t_not (t_isi is_bool T.b_isinstance T.b_bool bt_bool (t_var 0)))))))
theorem mk_is_integer {f : Addr} {fd : FuncData} (F : Fun K "is_integer" "is_integer" s_is_integer f fd) (hm : mg "is_integer" = some (.ref f)) (T : Gb w K cl mg) : Fn P w K mg base cl "is_integer" 1 1 fn_is_integer :=
  ⟨f, fd, ["thing"], ok_is_integer F T, hm, F.kp, (F.binds (ps := ["thing"]) fun _ _ _ _ _ _ us hl => match us, hl with | [_], _ => rfl)⟩
abbrev s_is_name : Stmt := (top 14)
theorem sc_is_name : FnScope ["thing", "char"] ["thing"] (defScope s_is_name) :=
  ⟨rfl, rfl, rfl, by decide +kernel, rfl, by decide +kernel, by decide +kernel⟩
noncomputable def sem_is_name : MS :=
  (sSeq (sIf (mOr (mNot (mTru (mUn (isiD k_str) (mVar 0)))) (mNot (mTest (mChain leD leD (mC (.int 1)) (mFn lenD (mCons (mVar 0) mNil)) (mC (.int 8))))))
  (sRet (mC (.bl false)))
  sPass)
  (sSeq (sIf (mOr (mTest (mOp notInD (mOp ixD (mVar 0) (mC (.int 0))) (mC c_LETTERS))) (mTest (mOp inD (mVar 0) (mC c_KEPT_WORDS))))
  (sRet (mC (.bl false)))
  sPass)
  (sSeq (sFor (mIt (mVar 0)) (ptN 1)
  (sIf (mAnd (mTest (mOp notInD (mVar 1) (mC c_LETTERS))) (mTest (mOp notInD (mVar 1) (mC c_DIGITS))))
  (sRet (mC (.bl false)))
  sPass))
  (sRet (mC (.bl true))))))
noncomputable def fn_is_name : List D → Store → Res D := runB 2 sem_is_name
theorem ok_is_name {f : Addr} {fd : FuncData} (F : Fun K "is_name" "is_name" s_is_name f fd) (T : Gb w K cl mg) :
    FnOk P w K mg base (L2.CX P w) 1 f fd ["thing"] (spOf K cl 1 fn_is_name) :=
  fn_sem F sc_is_name rfl fun cdv A outer s H E hr =>
  (s_cons (s_if (PW.pt (tw_or (tt_not (tt_tru (t_isi is_str T.b_isinstance T.b_str bt_str (t_var 0)))) (tw_or1 (tt_not (tt_chain op_leA le_s op_leA le_s t_int (t_callB (call_len) len_s T.b_len bt_len (ta_cons (t_var 0) ta_nil)) t_int)))))
  (s_one (s_ret t_bl))
  s_nil)
  (s_cons (s_if (PW.pt (tw_or (tt_cmp op_notInA notIn_s (t_ix ix_seq ix_s (t_var 0) t_int) (t_glob' T.g_LETTERS)) (tw_or1 (tt_cmp op_inA in_s (t_var 0) (t_glob' T.g_KEPT_WORDS)))))
  (s_one (s_ret t_bl))
  s_nil)
  (s_cons (s_for (passes_of rfl) rfl (i_seq (t_var 0)) (g_name 1 sc_is_name.nd)
  (s_one (s_if (PW.pt (tw_and (tt_cmp op_notInA notIn_s (t_var 1) (t_glob' T.g_LETTERS)) (tw_and1 (tt_cmp op_notInA notIn_s (t_var 1) (t_glob' T.g_DIGITS)))))
  (s_one (s_ret t_bl))
  s_nil)))
  (s_one (s_ret t_bl)))))
theorem mk_is_name {f : Addr} {fd : FuncData} (F : Fun K "is_name" "is_name" s_is_name f fd) (hm : mg "is_name" = some (.ref f)) (T : Gb w K cl mg) : Fn P w K mg base cl "is_name" 1 1 fn_is_name :=
  ⟨f, fd, ["thing"], ok_is_name F T, hm, F.kp, (F.binds (ps := ["thing"]) fun _ _ _ _ _ _ us hl => match us, hl with | [_], _ => rfl)⟩
abbrev s_is_path : Stmt := (top 15)
theorem sc_is_path : FnScope ["thing", "pieces", "piece"] ["thing"] (defScope s_is_path) :=
  ⟨rfl, rfl, rfl, by decide +kernel, rfl, by decide +kernel, by decide +kernel⟩
noncomputable def sem_is_path : MS :=
  (sSeq (sIf (mNot (mTru (mUn (isiD k_str) (mVar 0))))
  (sRet (mC (.bl false)))
  sPass)
  (sSeq (sSet 1 (mMt "str" splitD (mVar 0) (mCons (mC (.str ".")) mNil)))
  (sSeq (sIf (mOr (mTest (mOp gtD (mFn lenD (mCons (mVar 1) mNil)) (mC c_MOST_PIECES))) (mNot (mTru (mFn (ar 1 fn_is_name) (mCons (mOp ixD (mVar 1) (mUn negD (mC (.int 1)))) mNil)))))
  (sRet (mC (.bl false)))
  sPass)
  (sSeq (sIf (mTest (mOp inD (mOp ixD (mVar 1) (mC (.int 0))) (mC c_SLOT_NUMBERS)))
  (sSet 1 (mSl slD (mVar 1) (mPart (mC (.int 1))) mNoPart))
  sPass)
  (sRet (mFn allD (mCons (mComp (mIt (mVar 1)) (ptN 2) mYes (mFn (ar 1 fn_is_name) (mCons (mVar 2) mNil)) [2] frzD) mNil)))))))
noncomputable def fn_is_path : List D → Store → Res D := runB 3 sem_is_path
theorem ok_is_path {f : Addr} {fd : FuncData} (F : Fun K "is_path" "is_path" s_is_path f fd) (T : Gb w K cl mg) (G_is_name : Fn P w K mg base cl "is_name" 1 1 fn_is_name) :
    FnOk P w K mg base (L2.CX P w) 2 f fd ["thing"] (spOf K cl 1 fn_is_path) :=
  fn_sem F sc_is_path rfl fun cdv A outer s H E hr =>
  (s_cons (s_if (tt_not (tt_tru (t_isi is_str T.b_isinstance T.b_str bt_str (t_var 0))))
  (s_one (s_ret t_bl))
  s_nil)
  (s_cons (s_set 1 sc_is_path.nd (t_bm PySem.F.plainAttrs_str PySem.F.slot_str_split PySem.F.type_str_split mt_split split_s (t_var 0) (ta_cons t_str ta_nil)))
  (s_cons (s_if (PW.pt (tw_or (tt_cmp op_gt gt_s (t_callB (call_len) len_s T.b_len bt_len (ta_cons (t_var 1) ta_nil)) (t_glob' T.g_MOST_PIECES)) (tw_or1 (tt_not (tt_tru (t_callF G_is_name (hr.mono (by decide)) (takes_of rfl rfl rfl rfl) (ta_cons (t_ix ix_seq ix_s (t_var 1) (t_un un_neg neg_s t_int)) ta_nil)))))))
  (s_one (s_ret t_bl))
  s_nil)
  (s_cons (s_if (tt_cmp op_inA in_s (t_ix ix_seq ix_s (t_var 1) t_int) (t_glob' T.g_SLOT_NUMBERS))
  (s_one (s_set 1 sc_is_path.nd (t_sl sl_all sl_s (t_var 1) (tp_some t_int) tp_none)))
  s_nil)
  (s_one (s_ret (t_callB (cr_all rfl) all_s T.b_all bt_all (ta_cons (t_lc [("piece", 2)] frz_s rfl sc_is_path.nd (i_seq (t_var 1)) (blkOk_by (N := ["thing", "pieces", "piece"]) (sc := defScope s_is_path) (by decide +kernel)) (fun _ _ _ _ _ => (g_name 2 sc_is_path.nd)) (fun _ _ _ _ _ => tts_nil) (fun _ _ _ _ _ => (t_callF G_is_name (hr.mono (by decide)) takes0 (ta_cons (t_var 2) ta_nil)))) ta_nil))))))))
theorem mk_is_path {f : Addr} {fd : FuncData} (F : Fun K "is_path" "is_path" s_is_path f fd) (hm : mg "is_path" = some (.ref f)) (T : Gb w K cl mg) (G_is_name : Fn P w K mg base cl "is_name" 1 1 fn_is_name) : Fn P w K mg base cl "is_path" 2 1 fn_is_path :=
  ⟨f, fd, ["thing"], ok_is_path F T G_is_name, hm, F.kp, (F.binds (ps := ["thing"]) fun _ _ _ _ _ _ us hl => match us, hl with | [_], _ => rfl)⟩
abbrev s_need_operator : Stmt := (top 28)
theorem sc_need_operator : FnScope ["op"] ["op"] (defScope s_need_operator) :=
  ⟨rfl, rfl, rfl, by decide +kernel, rfl, by decide +kernel, by decide +kernel⟩
noncomputable def sem_need_operator : MS :=
  (sIf (mOr (mNot (mTru (mUn (isiD k_str) (mVar 0)))) (mTest (mOp notInD (mVar 0) (mC c_OPERATORS))))
  (sRaise "BadTest" 2 2 [("why", 1)] (mCons (mC (.str "op")) mNil))
  sPass)
noncomputable def fn_need_operator : List D → Store → Res D := runB 1 sem_need_operator
theorem ok_need_operator {f : Addr} {fd : FuncData} (F : Fun K "need_operator" "need_operator" s_need_operator f fd) (T : Gb w K cl mg) (G_BadTest_init : ErrF P w K mg base cl "BadTest" 1 2 ["self", "why"] [("why", 1)]) :
    FnOk P w K mg base (L2.CX P w) 3 f fd ["op"] (spOf K cl 1 fn_need_operator) :=
  fn_sem F sc_need_operator rfl fun cdv A outer s H E hr =>
  (s_one (s_if (PW.pt (tw_or (tt_not (tt_tru (t_isi is_str T.b_isinstance T.b_str bt_str (t_var 0)))) (tw_or1 (tt_cmp op_notInA notIn_s (t_var 0) (t_glob' T.g_OPERATORS)))))
  (s_one (s_raiseF (N := ["self", "why"]) G_BadTest_init (hr.mono (by decide)) (takes_of rfl rfl rfl rfl) (ta_cons t_str ta_nil) (by decide) (by decide)))
  s_nil))
theorem mk_need_operator {f : Addr} {fd : FuncData} (F : Fun K "need_operator" "need_operator" s_need_operator f fd) (hm : mg "need_operator" = some (.ref f)) (T : Gb w K cl mg) (G_BadTest_init : ErrF P w K mg base cl "BadTest" 1 2 ["self", "why"] [("why", 1)]) : Fn P w K mg base cl "need_operator" 3 1 fn_need_operator :=
  ⟨f, fd, ["op"], ok_need_operator F T G_BadTest_init, hm, F.kp, (F.binds (ps := ["op"]) fun _ _ _ _ _ _ us hl => match us, hl with | [_], _ => rfl)⟩
abbrev s_need_path : Stmt := (top 27)
theorem sc_need_path : FnScope ["thing"] ["thing"] (defScope s_need_path) :=
  ⟨rfl, rfl, rfl, by decide +kernel, rfl, by decide +kernel, by decide +kernel⟩
noncomputable def sem_need_path : MS :=
  (sIf (mNot (mTru (mFn (ar 1 fn_is_path) (mCons (mVar 0) mNil))))
  (sRaise "BadTest" 2 2 [("why", 1)] (mCons (mC (.str "path")) mNil))
  sPass)
noncomputable def fn_need_path : List D → Store → Res D := runB 1 sem_need_path
theorem ok_need_path {f : Addr} {fd : FuncData} (F : Fun K "need_path" "need_path" s_need_path f fd) (T : Gb w K cl mg) (G_BadTest_init : ErrF P w K mg base cl "BadTest" 1 2 ["self", "why"] [("why", 1)]) (G_is_path : Fn P w K mg base cl "is_path" 2 1 fn_is_path) :
    FnOk P w K mg base (L2.CX P w) 3 f fd ["thing"] (spOf K cl 1 fn_need_path) :=
  fn_sem F sc_need_path rfl fun cdv A outer s H E hr =>
  (s_one (s_if (tt_not (tt_tru (t_callF G_is_path (hr.mono (by decide)) (takes_of rfl rfl rfl rfl) (ta_cons (t_var 0) ta_nil))))
  (s_one (s_raiseF (N := ["self", "why"]) G_BadTest_init (hr.mono (by decide)) (takes_of rfl rfl rfl rfl) (ta_cons t_str ta_nil) (by decide) (by decide)))
  s_nil))
theorem mk_need_path {f : Addr} {fd : FuncData} (F : Fun K "need_path" "need_path" s_need_path f fd) (hm : mg "need_path" = some (.ref f)) (T : Gb w K cl mg) (G_BadTest_init : ErrF P w K mg base cl "BadTest" 1 2 ["self", "why"] [("why", 1)]) (G_is_path : Fn P w K mg base cl "is_path" 2 1 fn_is_path) : Fn P w K mg base cl "need_path" 3 1 fn_need_path :=
  ⟨f, fd, ["thing"], ok_need_path F T G_BadTest_init G_is_path, hm, F.kp, (F.binds (ps := ["thing"]) fun _ _ _ _ _ _ us hl => match us, hl with | [_], _ => rfl)⟩
abbrev s_against : Stmt := (top 30)
theorem sc_against : FnScope ["path", "op", "other", "more"] ["path", "op", "other", "more"] (defScope s_against) :=
  ⟨rfl, rfl, rfl, by decide +kernel, rfl, by decide +kernel, by decide +kernel⟩
noncomputable def sem_against : MS :=
  (sSeq (sExpr (mFn (ar 1 fn_need_path) (mCons (mVar 0) mNil)))
  (sSeq (sExpr (mFn (ar 1 fn_need_operator) (mCons (mVar 1) mNil)))
  (sSeq (sIf (mOr (mNot (mTru (mFn (ar 1 fn_is_path) (mCons (mVar 2) mNil)))) (mTest (mOp eqD (mVar 2) (mVar 0))))
  (sRaise "BadTest" 2 2 [("why", 1)] (mCons (mC (.str "path")) mNil))
  sPass)
  (sSeq (sIf (mNot (mTru (mFn (ar 1 fn_is_integer) (mCons (mVar 3) mNil))))
  (sRaise "BadTest" 2 2 [("why", 1)] (mCons (mC (.str "more")) mNil))
  sPass)
  (sRet (mUn frzI (mMake "Test" 4 fn_Test_init (mCons (mC (.str "against")) (mCons (mFn tupD (mCons (mVar 0) (mCons (mVar 1) (mCons (mVar 2) (mCons (mVar 3) mNil))))) (mCons (mFn tupD mNil) mNil))))))))))
noncomputable def fn_against : List D → Store → Res D := runB 4 sem_against
theorem ok_against {f : Addr} {fd : FuncData} (F : Fun K "against" "against" s_against f fd) (T : Gb w K cl mg) (G_BadTest_init : ErrF P w K mg base cl "BadTest" 1 2 ["self", "why"] [("why", 1)]) (G_Test_init : Mkr P w K mg base cl "Test" 1 4 fn_Test_init) (G_is_integer : Fn P w K mg base cl "is_integer" 1 1 fn_is_integer) (G_is_path : Fn P w K mg base cl "is_path" 2 1 fn_is_path) (G_need_operator : Fn P w K mg base cl "need_operator" 3 1 fn_need_operator) (G_need_path : Fn P w K mg base cl "need_path" 3 1 fn_need_path) :
    FnOk P w K mg base (L2.CX P w) 4 f fd ["path", "op", "other", "more"] (spOf K cl 4 fn_against) :=
  fn_sem F sc_against rfl fun cdv A outer s H E hr =>
  (s_cons (s_expr (t_callF G_need_path (hr.mono (by decide)) (takes_of rfl rfl rfl rfl) (ta_cons (t_var 0) ta_nil)))
  (s_cons (s_expr (t_callF G_need_operator (hr.mono (by decide)) (takes_of rfl rfl rfl rfl) (ta_cons (t_var 1) ta_nil)))
  (s_cons (s_if (PW.pt (tw_or (tt_not (tt_tru (t_callF G_is_path (hr.mono (by decide)) (takes_of rfl rfl rfl rfl) (ta_cons (t_var 2) ta_nil)))) (tw_or1 (tt_cmp (op_eqA hr) eq_s (t_var 2) (t_var 0)))))
  (s_one (s_raiseF (N := ["self", "why"]) G_BadTest_init (hr.mono (by decide)) (takes_of rfl rfl rfl rfl) (ta_cons t_str ta_nil) (by decide) (by decide)))
  s_nil)
  (s_cons (s_if (tt_not (tt_tru (t_callF G_is_integer (hr.mono (by decide)) (takes_of rfl rfl rfl rfl) (ta_cons (t_var 3) ta_nil))))
  (s_one (s_raiseF (N := ["self", "why"]) G_BadTest_init (hr.mono (by decide)) (takes_of rfl rfl rfl rfl) (ta_cons t_str ta_nil) (by decide) (by decide)))
  s_nil)
  (s_one (s_ret (t_frzI (t_make G_Test_init (hr.mono (by decide)) (takes_of rfl rfl rfl rfl) (ta_cons t_str (ta_cons (t_tup (ta_cons (t_var 0) (ta_cons (t_var 1) (ta_cons (t_var 2) (ta_cons (t_var 3) ta_nil))))) (ta_cons (t_tup ta_nil) ta_nil)))))))))))
theorem mk_against {f : Addr} {fd : FuncData} (F : FunD K "against" "against" (defArgs s_against) (defBody s_against) (defScope s_against) [] [("more", (.int 0))] f fd) (hm : mg "against" = some (.ref f)) (T : Gb w K cl mg) (G_BadTest_init : ErrF P w K mg base cl "BadTest" 1 2 ["self", "why"] [("why", 1)]) (G_Test_init : Mkr P w K mg base cl "Test" 1 4 fn_Test_init) (G_is_integer : Fn P w K mg base cl "is_integer" 1 1 fn_is_integer) (G_is_path : Fn P w K mg base cl "is_path" 2 1 fn_is_path) (G_need_operator : Fn P w K mg base cl "need_operator" 3 1 fn_need_operator) (G_need_path : Fn P w K mg base cl "need_path" 3 1 fn_need_path) : FnK P w K mg base cl "against" 4 3 "more" (.int 0) fn_against :=
  fnK_mk (ps := ["path", "op", "other", "more"]) F (ok_against (funD_fun F) T G_BadTest_init G_Test_init G_is_integer G_is_path G_need_operator G_need_path) hm rfl (fun _ => .int _) (fun _ _ _ _ _ _ us ws h1 h2 => match us, ws, h1, h2 with | [_, _, _], [_], _, _ => rfl) (fun _ _ _ _ _ _ us ws h1 h2 => match us, ws, h1, h2 with | [_, _, _], [_], _, _ => ⟨_, _, _, _, _, _, rfl, rfl, rfl⟩)
abbrev s_always : Stmt := (top 33)
theorem sc_always : FnScope [] [] (defScope s_always) :=
  ⟨rfl, rfl, rfl, by decide +kernel, rfl, by decide +kernel, by decide +kernel⟩
noncomputable def sem_always : MS :=
  (sRet (mUn frzI (mMake "Test" 4 fn_Test_init (mCons (mC (.str "always")) (mCons (mFn tupD mNil) (mCons (mFn tupD mNil) mNil))))))
noncomputable def fn_always : List D → Store → Res D := runB 0 sem_always
theorem ok_always {f : Addr} {fd : FuncData} (F : Fun K "always" "always" s_always f fd) (T : Gb w K cl mg) (G_Test_init : Mkr P w K mg base cl "Test" 1 4 fn_Test_init) :
    FnOk P w K mg base (L2.CX P w) 3 f fd [] (spOf K cl 0 fn_always) :=
  fn_sem F sc_always rfl fun cdv A outer s H E hr =>
  (s_one (s_ret (t_frzI (t_make G_Test_init (hr.mono (by decide)) (takes_of rfl rfl rfl rfl) (ta_cons t_str (ta_cons (t_tup ta_nil) (ta_cons (t_tup ta_nil) ta_nil)))))))
theorem mk_always {f : Addr} {fd : FuncData} (F : Fun K "always" "always" s_always f fd) (hm : mg "always" = some (.ref f)) (T : Gb w K cl mg) (G_Test_init : Mkr P w K mg base cl "Test" 1 4 fn_Test_init) : Fn P w K mg base cl "always" 3 0 fn_always :=
  ⟨f, fd, [], ok_always F T G_Test_init, hm, F.kp, (F.binds (ps := []) fun _ _ _ _ _ _ us hl => match us, hl with | [], _ => rfl)⟩
abbrev s_is_sequence : Stmt := (top 12)
theorem sc_is_sequence : FnScope ["thing"] ["thing"] (defScope s_is_sequence) :=
  ⟨rfl, rfl, rfl, by decide +kernel, rfl, by decide +kernel, by decide +kernel⟩
noncomputable def sem_is_sequence : MS :=
  (sRet (mUn (isiD k_list_tuple) (mVar 0)))
noncomputable def fn_is_sequence : List D → Store → Res D := runB 1 sem_is_sequence
theorem ok_is_sequence {f : Addr} {fd : FuncData} (F : Fun K "is_sequence" "is_sequence" s_is_sequence f fd) (T : Gb w K cl mg) :
    FnOk P w K mg base (L2.CX P w) 1 f fd ["thing"] (spOf K cl 1 fn_is_sequence) :=
  fn_sem F sc_is_sequence rfl fun cdv A outer s H E hr =>
  (s_one (s_ret (t_isi2 is_list_tuple T.b_isinstance T.b_list bt_list T.b_tuple bt_tuple (t_var 0))))
theorem mk_is_sequence {f : Addr} {fd : FuncData} (F : Fun K "is_sequence" "is_sequence" s_is_sequence f fd) (hm : mg "is_sequence" = some (.ref f)) (T : Gb w K cl mg) : Fn P w K mg base cl "is_sequence" 1 1 fn_is_sequence :=
  ⟨f, fd, ["thing"], ok_is_sequence F T, hm, F.kp, (F.binds (ps := ["thing"]) fun _ _ _ _ _ _ us hl => match us, hl with | [_], _ => rfl)⟩
abbrev s_is_text : Stmt := (top 13)
theorem sc_is_text : FnScope ["thing", "char"] ["thing"] (defScope s_is_text) :=
  ⟨rfl, rfl, rfl, by decide +kernel, rfl, by decide +kernel, by decide +kernel⟩
noncomputable def sem_is_text : MS :=
  (sSeq (sIf (mNot (mTru (mUn (isiD k_str) (mVar 0))))
  (sRet (mC (.bl false)))
  sPass)
  (sSeq (sFor (mIt (mVar 0)) (ptN 1)
  (sIf (mTest (mOp notInD (mVar 1) (mC c_CHARS)))
  (sRet (mC (.bl false)))
  sPass))
  (sRet (mC (.bl true)))))
noncomputable def fn_is_text : List D → Store → Res D := runB 2 sem_is_text
theorem ok_is_text {f : Addr} {fd : FuncData} (F : Fun K "is_text" "is_text" s_is_text f fd) (T : Gb w K cl mg) :
    FnOk P w K mg base (L2.CX P w) 1 f fd ["thing"] (spOf K cl 1 fn_is_text) :=
  fn_sem F sc_is_text rfl fun cdv A outer s H E hr =>
  (s_cons (s_if (tt_not (tt_tru (t_isi is_str T.b_isinstance T.b_str bt_str (t_var 0))))
  (s_one (s_ret t_bl))
  s_nil)
  (s_cons (s_for (passes_of rfl) rfl (i_seq (t_var 0)) (g_name 1 sc_is_text.nd)
  (s_one (s_if (tt_cmp op_notInA notIn_s (t_var 1) (t_glob' T.g_CHARS))
  (s_one (s_ret t_bl))
  s_nil)))
  (s_one (s_ret t_bl))))
theorem mk_is_text {f : Addr} {fd : FuncData} (F : Fun K "is_text" "is_text" s_is_text f fd) (hm : mg "is_text" = some (.ref f)) (T : Gb w K cl mg) : Fn P w K mg base cl "is_text" 1 1 fn_is_text :=
  ⟨f, fd, ["thing"], ok_is_text F T, hm, F.kp, (F.binds (ps := ["thing"]) fun _ _ _ _ _ _ us hl => match us, hl with | [_], _ => rfl)⟩
abbrev s_kind_of : Stmt := (top 16)
theorem sc_kind_of : FnScope ["value"] ["value"] (defScope s_kind_of) :=
  ⟨rfl, rfl, rfl, by decide +kernel, rfl, by decide +kernel, by decide +kernel⟩
noncomputable def sem_kind_of : MS :=
  (sSeq (sIf (mTru (mFn (ar 1 fn_is_integer) (mCons (mVar 0) mNil)))
  (sRet (mC (.str "number")))
  sPass)
  (sSeq (sIf (mTru (mFn (ar 1 fn_is_text) (mCons (mVar 0) mNil)))
  (sRet (mC (.str "text")))
  sPass)
  (sRet (mC .non))))
noncomputable def fn_kind_of : List D → Store → Res D := runB 1 sem_kind_of
theorem ok_kind_of {f : Addr} {fd : FuncData} (F : Fun K "kind_of" "kind_of" s_kind_of f fd) (T : Gb w K cl mg) (G_is_integer : Fn P w K mg base cl "is_integer" 1 1 fn_is_integer) (G_is_text : Fn P w K mg base cl "is_text" 1 1 fn_is_text) :
    FnOk P w K mg base (L2.CX P w) 2 f fd ["value"] (spOf K cl 1 fn_kind_of) :=
  fn_sem F sc_kind_of rfl fun cdv A outer s H E hr =>
  (s_cons (s_if (tt_tru (t_callF G_is_integer (hr.mono (by decide)) (takes_of rfl rfl rfl rfl) (ta_cons (t_var 0) ta_nil)))
  (s_one (s_ret t_str))
  s_nil)
  (s_cons (s_if (tt_tru (t_callF G_is_text (hr.mono (by decide)) (takes_of rfl rfl rfl rfl) (ta_cons (t_var 0) ta_nil)))
  (s_one (s_ret t_str))
  s_nil)
  (s_one (s_ret t_non))))
theorem mk_kind_of {f : Addr} {fd : FuncData} (F : Fun K "kind_of" "kind_of" s_kind_of f fd) (hm : mg "kind_of" = some (.ref f)) (T : Gb w K cl mg) (G_is_integer : Fn P w K mg base cl "is_integer" 1 1 fn_is_integer) (G_is_text : Fn P w K mg base cl "is_text" 1 1 fn_is_text) : Fn P w K mg base cl "kind_of" 2 1 fn_kind_of :=
  ⟨f, fd, ["value"], ok_kind_of F T G_is_integer G_is_text, hm, F.kp, (F.binds (ps := ["value"]) fun _ _ _ _ _ _ us hl => match us, hl with | [_], _ => rfl)⟩
abbrev s_among : Stmt := (top 31)
theorem sc_among : FnScope ["path", "values", "value"] ["path", "values"] (defScope s_among) :=
  ⟨rfl, rfl, rfl, by decide +kernel, rfl, by decide +kernel, by decide +kernel⟩
noncomputable def sem_among : MS :=
  (sSeq (sExpr (mFn (ar 1 fn_need_path) (mCons (mVar 0) mNil)))
  (sSeq (sIf (mOr (mNot (mTru (mFn (ar 1 fn_is_sequence) (mCons (mVar 1) mNil)))) (mNot (mTest (mChain leD leD (mC (.int 1)) (mFn lenD (mCons (mVar 1) mNil)) (mC c_MOST_VALUES)))))
  (sRaise "BadTest" 2 2 [("why", 1)] (mCons (mC (.str "value")) mNil))
  sPass)
  (sSeq (sIf (mTru (mFn anyD (mCons (mComp (mIt (mVar 1)) (ptN 2) mYes (mOp isND (mFn (ar 1 fn_kind_of) (mCons (mVar 2) mNil)) (mC .non)) [2] frzD) mNil)))
  (sRaise "BadTest" 2 2 [("why", 1)] (mCons (mC (.str "value")) mNil))
  sPass)
  (sRet (mUn frzI (mMake "Test" 4 fn_Test_init (mCons (mC (.str "among")) (mCons (mFn tupD (mCons (mVar 0) (mCons (mFn tupleD (mCons (mVar 1) mNil)) mNil))) (mCons (mFn tupD mNil) mNil)))))))))
noncomputable def fn_among : List D → Store → Res D := runB 3 sem_among
theorem ok_among {f : Addr} {fd : FuncData} (F : Fun K "among" "among" s_among f fd) (T : Gb w K cl mg) (G_BadTest_init : ErrF P w K mg base cl "BadTest" 1 2 ["self", "why"] [("why", 1)]) (G_Test_init : Mkr P w K mg base cl "Test" 1 4 fn_Test_init) (G_is_sequence : Fn P w K mg base cl "is_sequence" 1 1 fn_is_sequence) (G_kind_of : Fn P w K mg base cl "kind_of" 2 1 fn_kind_of) (G_need_path : Fn P w K mg base cl "need_path" 3 1 fn_need_path) :
    FnOk P w K mg base (L2.CX P w) 4 f fd ["path", "values"] (spOf K cl 2 fn_among) :=
  fn_sem F sc_among rfl fun cdv A outer s H E hr =>
  (s_cons (s_expr (t_callF G_need_path (hr.mono (by decide)) (takes_of rfl rfl rfl rfl) (ta_cons (t_var 0) ta_nil)))
  (s_cons (s_if (PW.pt (tw_or (tt_not (tt_tru (t_callF G_is_sequence (hr.mono (by decide)) (takes_of rfl rfl rfl rfl) (ta_cons (t_var 1) ta_nil)))) (tw_or1 (tt_not (tt_chain op_leA le_s op_leA le_s t_int (t_callB (call_len) len_s T.b_len bt_len (ta_cons (t_var 1) ta_nil)) (t_glob' T.g_MOST_VALUES))))))
  (s_one (s_raiseF (N := ["self", "why"]) G_BadTest_init (hr.mono (by decide)) (takes_of rfl rfl rfl rfl) (ta_cons t_str ta_nil) (by decide) (by decide)))
  s_nil)
  (s_cons (s_if (tt_tru (t_callB (cr_any rfl) any_s T.b_any bt_any (ta_cons (t_lc [("value", 2)] frz_s rfl sc_among.nd (i_seq (t_var 1)) (blkOk_by (N := ["path", "values", "value"]) (sc := defScope s_among) (by decide +kernel)) (fun _ _ _ _ _ => (g_name 2 sc_among.nd)) (fun _ _ _ _ _ => tts_nil) (fun _ _ _ _ _ => (t_cmp op_isA isN_s (t_callF G_kind_of (hr.mono (by decide)) takes0 (ta_cons (t_var 2) ta_nil)) t_non))) ta_nil)))
  (s_one (s_raiseF (N := ["self", "why"]) G_BadTest_init (hr.mono (by decide)) (takes_of rfl rfl rfl rfl) (ta_cons t_str ta_nil) (by decide) (by decide)))
  s_nil)
  (s_one (s_ret (t_frzI (t_make G_Test_init (hr.mono (by decide)) (takes_of rfl rfl rfl rfl) (ta_cons t_str (ta_cons (t_tup (ta_cons (t_var 0) (ta_cons (t_callTy (call_tuple_of) tuple_s T.b_tuple bt_tuple (ta_cons (t_var 1) ta_nil)) ta_nil))) (ta_cons (t_tup ta_nil) ta_nil))))))))))
theorem mk_among {f : Addr} {fd : FuncData} (F : Fun K "among" "among" s_among f fd) (hm : mg "among" = some (.ref f)) (T : Gb w K cl mg) (G_BadTest_init : ErrF P w K mg base cl "BadTest" 1 2 ["self", "why"] [("why", 1)]) (G_Test_init : Mkr P w K mg base cl "Test" 1 4 fn_Test_init) (G_is_sequence : Fn P w K mg base cl "is_sequence" 1 1 fn_is_sequence) (G_kind_of : Fn P w K mg base cl "kind_of" 2 1 fn_kind_of) (G_need_path : Fn P w K mg base cl "need_path" 3 1 fn_need_path) : Fn P w K mg base cl "among" 4 2 fn_among :=
  ⟨f, fd, ["path", "values"], ok_among F T G_BadTest_init G_Test_init G_is_sequence G_kind_of G_need_path, hm, F.kp, (F.binds (ps := ["path", "values"]) fun _ _ _ _ _ _ us hl => match us, hl with | [_, _], _ => rfl)⟩
abbrev s_compare : Stmt := (top 29)
theorem sc_compare : FnScope ["path", "op", "value"] ["path", "op", "value"] (defScope s_compare) :=
  ⟨rfl, rfl, rfl, by decide +kernel, rfl, by decide +kernel, by decide +kernel⟩
noncomputable def sem_compare : MS :=
  (sSeq (sExpr (mFn (ar 1 fn_need_path) (mCons (mVar 0) mNil)))
  (sSeq (sExpr (mFn (ar 1 fn_need_operator) (mCons (mVar 1) mNil)))
  (sSeq (sIf (mTest (mOp isND (mFn (ar 1 fn_kind_of) (mCons (mVar 2) mNil)) (mC .non)))
  (sRaise "BadTest" 2 2 [("why", 1)] (mCons (mC (.str "value")) mNil))
  sPass)
  (sRet (mUn frzI (mMake "Test" 4 fn_Test_init (mCons (mC (.str "compare")) (mCons (mFn tupD (mCons (mVar 0) (mCons (mVar 1) (mCons (mVar 2) mNil)))) (mCons (mFn tupD mNil) mNil)))))))))
noncomputable def fn_compare : List D → Store → Res D := runB 3 sem_compare
theorem ok_compare {f : Addr} {fd : FuncData} (F : Fun K "compare" "compare" s_compare f fd) (T : Gb w K cl mg) (G_BadTest_init : ErrF P w K mg base cl "BadTest" 1 2 ["self", "why"] [("why", 1)]) (G_Test_init : Mkr P w K mg base cl "Test" 1 4 fn_Test_init) (G_kind_of : Fn P w K mg base cl "kind_of" 2 1 fn_kind_of) (G_need_operator : Fn P w K mg base cl "need_operator" 3 1 fn_need_operator) (G_need_path : Fn P w K mg base cl "need_path" 3 1 fn_need_path) :
    FnOk P w K mg base (L2.CX P w) 4 f fd ["path", "op", "value"] (spOf K cl 3 fn_compare) :=
  fn_sem F sc_compare rfl fun cdv A outer s H E hr =>
  (s_cons (s_expr (t_callF G_need_path (hr.mono (by decide)) (takes_of rfl rfl rfl rfl) (ta_cons (t_var 0) ta_nil)))
  (s_cons (s_expr (t_callF G_need_operator (hr.mono (by decide)) (takes_of rfl rfl rfl rfl) (ta_cons (t_var 1) ta_nil)))
  (s_cons (s_if (tt_cmp op_isA isN_s (t_callF G_kind_of (hr.mono (by decide)) (takes_of rfl rfl rfl rfl) (ta_cons (t_var 2) ta_nil)) t_non)
  (s_one (s_raiseF (N := ["self", "why"]) G_BadTest_init (hr.mono (by decide)) (takes_of rfl rfl rfl rfl) (ta_cons t_str ta_nil) (by decide) (by decide)))
  s_nil)
  (s_one (s_ret (t_frzI (t_make G_Test_init (hr.mono (by decide)) (takes_of rfl rfl rfl rfl) (ta_cons t_str (ta_cons (t_tup (ta_cons (t_var 0) (ta_cons (t_var 1) (ta_cons (t_var 2) ta_nil)))) (ta_cons (t_tup ta_nil) ta_nil))))))))))
theorem mk_compare {f : Addr} {fd : FuncData} (F : Fun K "compare" "compare" s_compare f fd) (hm : mg "compare" = some (.ref f)) (T : Gb w K cl mg) (G_BadTest_init : ErrF P w K mg base cl "BadTest" 1 2 ["self", "why"] [("why", 1)]) (G_Test_init : Mkr P w K mg base cl "Test" 1 4 fn_Test_init) (G_kind_of : Fn P w K mg base cl "kind_of" 2 1 fn_kind_of) (G_need_operator : Fn P w K mg base cl "need_operator" 3 1 fn_need_operator) (G_need_path : Fn P w K mg base cl "need_path" 3 1 fn_need_path) : Fn P w K mg base cl "compare" 4 3 fn_compare :=
  ⟨f, fd, ["path", "op", "value"], ok_compare F T G_BadTest_init G_Test_init G_kind_of G_need_operator G_need_path, hm, F.kp, (F.binds (ps := ["path", "op", "value"]) fun _ _ _ _ _ _ us hl => match us, hl with | [_, _, _], _ => rfl)⟩
abbrev s_empty : Stmt := (top 32)
theorem sc_empty : FnScope ["path"] ["path"] (defScope s_empty) :=
  ⟨rfl, rfl, rfl, by decide +kernel, rfl, by decide +kernel, by decide +kernel⟩
noncomputable def sem_empty : MS :=
  (sSeq (sExpr (mFn (ar 1 fn_need_path) (mCons (mVar 0) mNil)))
  (sRet (mUn frzI (mMake "Test" 4 fn_Test_init (mCons (mC (.str "empty")) (mCons (mFn tupD (mCons (mVar 0) mNil)) (mCons (mFn tupD mNil) mNil)))))))
noncomputable def fn_empty : List D → Store → Res D := runB 1 sem_empty
theorem ok_empty {f : Addr} {fd : FuncData} (F : Fun K "empty" "empty" s_empty f fd) (T : Gb w K cl mg) (G_Test_init : Mkr P w K mg base cl "Test" 1 4 fn_Test_init) (G_need_path : Fn P w K mg base cl "need_path" 3 1 fn_need_path) :
    FnOk P w K mg base (L2.CX P w) 4 f fd ["path"] (spOf K cl 1 fn_empty) :=
  fn_sem F sc_empty rfl fun cdv A outer s H E hr =>
  (s_cons (s_expr (t_callF G_need_path (hr.mono (by decide)) (takes_of rfl rfl rfl rfl) (ta_cons (t_var 0) ta_nil)))
  (s_one (s_ret (t_frzI (t_make G_Test_init (hr.mono (by decide)) (takes_of rfl rfl rfl rfl) (ta_cons t_str (ta_cons (t_tup (ta_cons (t_var 0) ta_nil)) (ta_cons (t_tup ta_nil) ta_nil))))))))
theorem mk_empty {f : Addr} {fd : FuncData} (F : Fun K "empty" "empty" s_empty f fd) (hm : mg "empty" = some (.ref f)) (T : Gb w K cl mg) (G_Test_init : Mkr P w K mg base cl "Test" 1 4 fn_Test_init) (G_need_path : Fn P w K mg base cl "need_path" 3 1 fn_need_path) : Fn P w K mg base cl "empty" 4 1 fn_empty :=
  ⟨f, fd, ["path"], ok_empty F T G_Test_init G_need_path, hm, F.kp, (F.binds (ps := ["path"]) fun _ _ _ _ _ _ us hl => match us, hl with | [_], _ => rfl)⟩
abbrev s_sure : Stmt := (top 26)
theorem sc_sure : FnScope ["test"] ["test"] (defScope s_sure) :=
  ⟨rfl, rfl, rfl, by decide +kernel, rfl, by decide +kernel, by decide +kernel⟩
noncomputable def sem_sure : MS :=
  (sSeq (sIf (mNot (mTru (mUn (isCD [("Test", true)]) (mVar 0))))
  (sRaise "BadTest" 2 2 [("why", 1)] (mCons (mC (.str "part")) mNil))
  sPass)
  (sRet (mFn (ar 1 fn_limited) (mCons (mUn frzI (mMake "Test" 4 fn_Test_init (mCons (mC (.str "sure")) (mCons (mFn tupD mNil) (mCons (mFn tupD (mCons (mVar 0) mNil)) mNil))))) mNil))))
noncomputable def fn_sure : List D → Store → Res D := runB 1 sem_sure
theorem ok_sure {f : Addr} {fd : FuncData} (F : Fun K "sure" "sure" s_sure f fd) (T : Gb w K cl mg) (G_BadTest_init : ErrF P w K mg base cl "BadTest" 1 2 ["self", "why"] [("why", 1)]) (G_Test_init : Mkr P w K mg base cl "Test" 1 4 fn_Test_init) (G_limited : Fn P w K mg base cl "limited" 31 1 fn_limited) :
    FnOk P w K mg base (L2.CX P w) 32 f fd ["test"] (spOf K cl 1 fn_sure) :=
  fn_sem F sc_sure rfl fun cdv A outer s H E hr =>
  (s_cons (s_if (tt_not (tt_tru (t_isC T.ic_Test T.b_isinstance (t_var 0))))
  (s_one (s_raiseF (N := ["self", "why"]) G_BadTest_init (hr.mono (by decide)) (takes_of rfl rfl rfl rfl) (ta_cons t_str ta_nil) (by decide) (by decide)))
  s_nil)
  (s_one (s_ret (t_callF G_limited (hr.mono (by decide)) (takes_of rfl rfl rfl rfl) (ta_cons (t_frzI (t_make G_Test_init (hr.mono (by decide)) (takes_of rfl rfl rfl rfl) (ta_cons t_str (ta_cons (t_tup ta_nil) (ta_cons (t_tup (ta_cons (t_var 0) ta_nil)) ta_nil))))) ta_nil)))))
theorem mk_sure {f : Addr} {fd : FuncData} (F : Fun K "sure" "sure" s_sure f fd) (hm : mg "sure" = some (.ref f)) (T : Gb w K cl mg) (G_BadTest_init : ErrF P w K mg base cl "BadTest" 1 2 ["self", "why"] [("why", 1)]) (G_Test_init : Mkr P w K mg base cl "Test" 1 4 fn_Test_init) (G_limited : Fn P w K mg base cl "limited" 31 1 fn_limited) : Fn P w K mg base cl "sure" 32 1 fn_sure :=
  ⟨f, fd, ["test"], ok_sure F T G_BadTest_init G_Test_init G_limited, hm, F.kp, (F.binds (ps := ["test"]) fun _ _ _ _ _ _ us hl => match us, hl with | [_], _ => rfl)⟩
abbrev s_law_test : Stmt := (top 46)
theorem sc_law_test : FnScope ["_law_form_here", "_law_word"] ["_law_form_here"] (defScope s_law_test) :=
  ⟨rfl, rfl, rfl, by decide +kernel, rfl, by decide +kernel, by decide +kernel⟩
noncomputable def sem_law_test (rec : List D → Store → Res D) : MS :=
  (sSeq (sSet 1 (mOp ixD (mVar 0) (mC (.int 0))))
  (sSeq (sIf (mTest (mOp eqD (mVar 1) (mC (.str "and"))))
  (sRet (mBin "Test" fn_Test_and (mFn (ar 1 rec) (mCons (mOp ixD (mVar 0) (mC (.int 1))) mNil)) (mFn (ar 1 rec) (mCons (mOp ixD (mVar 0) (mC (.int 2))) mNil))))
  sPass)
  (sSeq (sIf (mTest (mOp eqD (mVar 1) (mC (.str "or"))))
  (sRet (mBin "Test" fn_Test_or (mFn (ar 1 rec) (mCons (mOp ixD (mVar 0) (mC (.int 1))) mNil)) (mFn (ar 1 rec) (mCons (mOp ixD (mVar 0) (mC (.int 2))) mNil))))
  sPass)
  (sSeq (sIf (mTest (mOp eqD (mVar 1) (mC (.str "not"))))
  (sRet (mInv "Test" fn_Test_invert (mFn (ar 1 rec) (mCons (mOp ixD (mVar 0) (mC (.int 1))) mNil))))
  sPass)
  (sSeq (sIf (mTest (mOp eqD (mVar 1) (mC (.str "sure"))))
  (sRet (mFn (ar 1 fn_sure) (mCons (mFn (ar 1 rec) (mCons (mOp ixD (mVar 0) (mC (.int 1))) mNil)) mNil)))
  sPass)
  (sSeq (sIf (mTest (mOp eqD (mVar 1) (mC (.str "always"))))
  (sRet (mFn (ar 0 fn_always) mNil))
  sPass)
  (sSeq (sIf (mTest (mOp eqD (mVar 1) (mC (.str "empty"))))
  (sRet (mFn (ar 1 fn_empty) (mCons (mOp ixD (mVar 0) (mC (.int 1))) mNil)))
  sPass)
  (sSeq (sIf (mTest (mOp eqD (mVar 1) (mC (.str "among"))))
  (sRet (mFn (ar 2 fn_among) (mCons (mOp ixD (mVar 0) (mC (.int 1))) (mCons (mOp ixD (mVar 0) (mC (.int 2))) mNil))))
  sPass)
  (sSeq (sIf (mTest (mOp eqD (mVar 1) (mC (.str "against"))))
  (sRet (mFnK 3 fn_against (mCons (mOp ixD (mVar 0) (mC (.int 1))) (mCons (mOp ixD (mVar 0) (mC (.int 2))) (mCons (mOp ixD (mVar 0) (mC (.int 3))) mNil))) (mOp ixD (mVar 0) (mC (.int 4)))))
  sPass)
  (sRet (mFn (ar 3 fn_compare) (mCons (mOp ixD (mVar 0) (mC (.int 1))) (mCons (mOp ixD (mVar 0) (mC (.int 2))) (mCons (mOp ixD (mVar 0) (mC (.int 3))) mNil))))))))))))))
noncomputable def fn_law_test : Nat → List D → Store → Res D
  | 0 => fun _ _ => .stk
  | j + 1 => runB 2 (sem_law_test (fn_law_test j))
theorem ok_law_test {k : Nat} {rec : List D → Store → Res D} {f : Addr} {fd : FuncData} (hk : 33 ≤ k) (F : Fun K "_law_test" "_law_test" s_law_test f fd) (T : Gb w K cl mg) (G_Test_and : MFn P w K mg base cl "Test" "__and__" 33 2 fn_Test_and) (G_Test_invert : MFn P w K mg base cl "Test" "__invert__" 32 1 fn_Test_invert) (G_Test_or : MFn P w K mg base cl "Test" "__or__" 33 2 fn_Test_or) (G_law_test : Fn P w K mg base cl "_law_test" k 1 rec) (G_against : FnK P w K mg base cl "against" 4 3 "more" (.int 0) fn_against) (G_always : Fn P w K mg base cl "always" 3 0 fn_always) (G_among : Fn P w K mg base cl "among" 4 2 fn_among) (G_compare : Fn P w K mg base cl "compare" 4 3 fn_compare) (G_empty : Fn P w K mg base cl "empty" 4 1 fn_empty) (G_sure : Fn P w K mg base cl "sure" 32 1 fn_sure) :
    FnOk P w K mg base (L2.CX P w) (k + 1) f fd ["_law_form_here"] (spOf K cl 1 ((runB 2 (sem_law_test rec)))) :=
  fn_sem F sc_law_test rfl fun cdv A outer s H E hr =>
  (s_cons (s_set 1 sc_law_test.nd (t_ix ix_seq ix_s (t_var 0) t_int))
  (s_cons (s_if (tt_cmp (op_eqA hr) eq_s (t_var 1) t_str)
  (s_one (s_ret (t_bin' G_Test_and T.sf_Test (hr.mono (by omega)) (takes_of rfl rfl rfl rfl) (t_callF G_law_test (hr.mono (by omega)) (takes_of rfl rfl rfl rfl) (ta_cons (t_ix ix_seq ix_s (t_var 0) t_int) ta_nil)) (t_callF G_law_test (hr.mono (by omega)) (takes_of rfl rfl rfl rfl) (ta_cons (t_ix ix_seq ix_s (t_var 0) t_int) ta_nil)))))
  s_nil)
  (s_cons (s_if (tt_cmp (op_eqA hr) eq_s (t_var 1) t_str)
  (s_one (s_ret (t_bin' G_Test_or T.sf_Test (hr.mono (by omega)) (takes_of rfl rfl rfl rfl) (t_callF G_law_test (hr.mono (by omega)) (takes_of rfl rfl rfl rfl) (ta_cons (t_ix ix_seq ix_s (t_var 0) t_int) ta_nil)) (t_callF G_law_test (hr.mono (by omega)) (takes_of rfl rfl rfl rfl) (ta_cons (t_ix ix_seq ix_s (t_var 0) t_int) ta_nil)))))
  s_nil)
  (s_cons (s_if (tt_cmp (op_eqA hr) eq_s (t_var 1) t_str)
  (s_one (s_ret (t_inv G_Test_invert (hr.mono (by omega)) (takes_of rfl rfl rfl rfl) (t_callF G_law_test (hr.mono (by omega)) (takes_of rfl rfl rfl rfl) (ta_cons (t_ix ix_seq ix_s (t_var 0) t_int) ta_nil)))))
  s_nil)
  (s_cons (s_if (tt_cmp (op_eqA hr) eq_s (t_var 1) t_str)
  (s_one (s_ret (t_callF G_sure (hr.mono (by omega)) (takes_of rfl rfl rfl rfl) (ta_cons (t_callF G_law_test (hr.mono (by omega)) (takes_of rfl rfl rfl rfl) (ta_cons (t_ix ix_seq ix_s (t_var 0) t_int) ta_nil)) ta_nil))))
  s_nil)
  (s_cons (s_if (tt_cmp (op_eqA hr) eq_s (t_var 1) t_str)
  (s_one (s_ret (t_callF0 G_always (hr.mono (by omega)) (takes_of rfl rfl rfl rfl))))
  s_nil)
  (s_cons (s_if (tt_cmp (op_eqA hr) eq_s (t_var 1) t_str)
  (s_one (s_ret (t_callF G_empty (hr.mono (by omega)) (takes_of rfl rfl rfl rfl) (ta_cons (t_ix ix_seq ix_s (t_var 0) t_int) ta_nil))))
  s_nil)
  (s_cons (s_if (tt_cmp (op_eqA hr) eq_s (t_var 1) t_str)
  (s_one (s_ret (t_callF G_among (hr.mono (by omega)) (takes_of rfl rfl rfl rfl) (ta_cons (t_ix ix_seq ix_s (t_var 0) t_int) (ta_cons (t_ix ix_seq ix_s (t_var 0) t_int) ta_nil)))))
  s_nil)
  (s_cons (s_if (tt_cmp (op_eqA hr) eq_s (t_var 1) t_str)
  (s_one (s_ret (t_callK G_against (hr.mono (by omega)) (takes_of rfl rfl rfl rfl) (ta_cons (t_ix ix_seq ix_s (t_var 0) t_int) (ta_cons (t_ix ix_seq ix_s (t_var 0) t_int) (ta_cons (t_ix ix_seq ix_s (t_var 0) t_int) ta_nil))) (t_ix ix_seq ix_s (t_var 0) t_int))))
  s_nil)
  (s_one (s_ret (t_callF G_compare (hr.mono (by omega)) (takes_of rfl rfl rfl rfl) (ta_cons (t_ix ix_seq ix_s (t_var 0) t_int) (ta_cons (t_ix ix_seq ix_s (t_var 0) t_int) (ta_cons (t_ix ix_seq ix_s (t_var 0) t_int) ta_nil)))))))))))))))
theorem mk_law_test {f : Addr} {fd : FuncData} (F : Fun K "_law_test" "_law_test" s_law_test f fd) (hm : mg "_law_test" = some (.ref f)) (T : Gb w K cl mg) (G_Test_and : MFn P w K mg base cl "Test" "__and__" 33 2 fn_Test_and) (G_Test_invert : MFn P w K mg base cl "Test" "__invert__" 32 1 fn_Test_invert) (G_Test_or : MFn P w K mg base cl "Test" "__or__" 33 2 fn_Test_or) (G_against : FnK P w K mg base cl "against" 4 3 "more" (.int 0) fn_against) (G_always : Fn P w K mg base cl "always" 3 0 fn_always) (G_among : Fn P w K mg base cl "among" 4 2 fn_among) (G_compare : Fn P w K mg base cl "compare" 4 3 fn_compare) (G_empty : Fn P w K mg base cl "empty" 4 1 fn_empty) (G_sure : Fn P w K mg base cl "sure" 32 1 fn_sure) : ∀ j : Nat, Fn P w K mg base cl "_law_test" (33 + 1 * j) 1 (fn_law_test j)
  | 0 => ⟨f, fd, ["_law_form_here"], fn_stk.mono (by omega), hm, F.kp, (F.binds (ps := ["_law_form_here"]) fun _ _ _ _ _ _ us hl => match us, hl with | [_], _ => rfl)⟩
  | j + 1 => ⟨f, fd, ["_law_form_here"], ok_law_test (Nat.le_add_right _ _) F T G_Test_and G_Test_invert G_Test_or (mk_law_test F hm T G_Test_and G_Test_invert G_Test_or G_against G_always G_among G_compare G_empty G_sure j) G_against G_always G_among G_compare G_empty G_sure, hm, F.kp, (F.binds (ps := ["_law_form_here"]) fun _ _ _ _ _ _ us hl => match us, hl with | [_], _ => rfl)⟩
abbrev s_law_given : Stmt := (top 49)
theorem sc_law_given : FnScope ["_law_steps", "_law_step_here"] ["_law_steps"] (defScope s_law_given) :=
  ⟨rfl, rfl, rfl, by decide +kernel, rfl, by decide +kernel, by decide +kernel⟩
noncomputable def sem_law_given : MS :=
  (sRet (mComp (mIt (mVar 0)) (ptN 1) mYes (mIte (mTest (mOp eqD (mOp ixD (mVar 1) (mC (.int 0))) (mC (.str "keep")))) (mFn tupD (mCons (mC (.str "keep")) (mCons (mFn (ar 1 (fn_law_test 20)) (mCons (mOp ixD (mVar 1) (mC (.int 1))) mNil)) mNil))) (mVar 1)) [1] frzD))
noncomputable def fn_law_given : List D → Store → Res D := runB 2 sem_law_given
theorem ok_law_given {f : Addr} {fd : FuncData} (F : Fun K "_law_given" "_law_given" s_law_given f fd) (T : Gb w K cl mg) (G_law_test : Fn P w K mg base cl "_law_test" 53 1 (fn_law_test 20)) :
    FnOk P w K mg base (L2.CX P w) 54 f fd ["_law_steps"] (spOf K cl 1 fn_law_given) :=
  fn_sem F sc_law_given rfl fun cdv A outer s H E hr =>
  (s_one (s_ret (t_lc [("_law_step_here", 1)] frz_s rfl sc_law_given.nd (i_seq (t_var 0)) (blkOk_by (N := ["_law_steps", "_law_step_here"]) (sc := defScope s_law_given) (by decide +kernel)) (fun _ _ _ _ _ => (g_name 1 sc_law_given.nd)) (fun _ _ _ _ _ => tts_nil) (fun _ _ _ _ _ => (t_ite (tt_cmp (op_eqA hr) eq_s (t_ix ix_seq ix_s (t_var 1) t_int) t_str) (t_tup (ta_cons t_str (ta_cons (t_callF G_law_test (hr.mono (by decide)) takes0 (ta_cons (t_ix ix_seq ix_s (t_var 1) t_int) ta_nil)) ta_nil))) (t_var 1))))))
theorem mk_law_given {f : Addr} {fd : FuncData} (F : Fun K "_law_given" "_law_given" s_law_given f fd) (hm : mg "_law_given" = some (.ref f)) (T : Gb w K cl mg) (G_law_test : Fn P w K mg base cl "_law_test" 53 1 (fn_law_test 20)) : Fn P w K mg base cl "_law_given" 54 1 fn_law_given :=
  ⟨f, fd, ["_law_steps"], ok_law_given F T G_law_test, hm, F.kp, (F.binds (ps := ["_law_steps"]) fun _ _ _ _ _ _ us hl => match us, hl with | [_], _ => rfl)⟩
abbrev s_law_like : Stmt := (top 42)
theorem sc_law_like : FnScope ["_law_told", "_law_due", "_law_k", "_law_key"] ["_law_told", "_law_due"] (defScope s_law_like) :=
  ⟨rfl, rfl, rfl, by decide +kernel, rfl, by decide +kernel, by decide +kernel⟩
noncomputable def sem_law_like (rec : List D → Store → Res D) : MS :=
  (sSeq (sIf (mTest (mOp isND (mVar 1) (mC .non)))
  (sRet (mOp isND (mVar 0) (mC .non)))
  sPass)
  (sSeq (sIf (mTru (mUn (isiD k_bool) (mVar 1)))
  (sRet (mAndV (mUn (isiD k_bool) (mVar 0)) (mOp eqD (mVar 0) (mVar 1))))
  sPass)
  (sSeq (sIf (mTru (mUn (isiD k_int) (mVar 1)))
  (sRet (mAndV (mUn (isiD k_int) (mVar 0)) (mAndV (mNotV (mUn (isiD k_bool) (mVar 0))) (mOp eqD (mVar 0) (mVar 1)))))
  sPass)
  (sSeq (sIf (mTru (mUn (isiD k_str) (mVar 1)))
  (sRet (mAndV (mUn (isiD k_str) (mVar 0)) (mOp eqD (mVar 0) (mVar 1))))
  sPass)
  (sSeq (sIf (mTru (mUn (isiD k_dict) (mVar 1)))
  (sSeq (sIf (mOr (mNot (mTru (mUn (isiD k_dict) (mVar 0)))) (mTest (mOp neD (mFn lenA (mCons (mVar 0) mNil)) (mFn lenA (mCons (mVar 1) mNil)))))
  (sRet (mC (.bl false)))
  sPass)
  (sRet (mFn allD (mCons (mComp (mIt (mUn keysL (mVar 1))) (ptN 3) mYes (mAndV (mOp inA (mVar 3) (mVar 0)) (mFn (ar 2 rec) (mCons (mOp ixA (mVar 0) (mVar 3)) (mCons (mOp ixA (mVar 1) (mVar 3)) mNil)))) [3] frzD) mNil))))
  sPass)
  (sSeq (sIf (mAnd (mTru (mUn (isiD k_tuple) (mVar 1))) (mNot (mTru (mUn (isiD k_tuple) (mVar 0)))))
  (sRet (mC (.bl false)))
  sPass)
  (sSeq (sIf (mOr (mAnd (mTru (mUn (isiD k_list) (mVar 1))) (mNot (mTru (mUn (isiD k_list) (mVar 0))))) (mTest (mOp neD (mFn lenA (mCons (mVar 0) mNil)) (mFn lenA (mCons (mVar 1) mNil)))))
  (sRet (mC (.bl false)))
  sPass)
  (sRet (mFn allD (mCons (mComp (mRng rng1 (mCons (mFn lenA (mCons (mVar 1) mNil)) mNil)) (ptN 2) mYes (mFn (ar 2 rec) (mCons (mOp ixA (mVar 0) (mVar 2)) (mCons (mOp ixA (mVar 1) (mVar 2)) mNil))) [2] frzD) mNil))))))))))
noncomputable def fn_law_like : Nat → List D → Store → Res D
  | 0 => fun _ _ => .stk
  | j + 1 => runB 4 (sem_law_like (fn_law_like j))
theorem ok_law_like {k : Nat} {rec : List D → Store → Res D} {f : Addr} {fd : FuncData} (hk : 0 ≤ k) (F : Fun K "_law_like" "_law_like" s_law_like f fd) (T : Gb w K cl mg) (G_law_like : Fn P w K mg base cl "_law_like" k 2 rec) :
    FnOk P w K mg base (L2.CX P w) (k + 1) f fd ["_law_told", "_law_due"] (spOf K cl 2 ((runB 4 (sem_law_like rec)))) :=
  fn_sem F sc_law_like rfl fun cdv A outer s H E hr =>
  (s_cons (s_if (tt_cmp op_isA isN_s (t_var 1) t_non)
  (s_one (s_ret (t_cmp op_isA isN_s (t_var 0) t_non)))
  s_nil)
  (s_cons (s_if (tt_tru (t_isi is_bool T.b_isinstance T.b_bool bt_bool (t_var 1)))
  (s_one (s_ret (t_and (t_isi is_bool T.b_isinstance T.b_bool bt_bool (t_var 0)) (t_one (t_cmp (op_eqA hr) eq_s (t_var 0) (t_var 1))))))
  s_nil)
  (s_cons (s_if (tt_tru (t_isi is_int T.b_isinstance T.b_int bt_int (t_var 1)))
  (s_one (s_ret (t_and (t_isi is_int T.b_isinstance T.b_int bt_int (t_var 0)) (t_and (t_not (t_isi is_bool T.b_isinstance T.b_bool bt_bool (t_var 0))) (t_one (t_cmp (op_eqA hr) eq_s (t_var 0) (t_var 1)))))))
  s_nil)
  (s_cons (s_if (tt_tru (t_isi is_str T.b_isinstance T.b_str bt_str (t_var 1)))
  (s_one (s_ret (t_and (t_isi is_str T.b_isinstance T.b_str bt_str (t_var 0)) (t_one (t_cmp (op_eqA hr) eq_s (t_var 0) (t_var 1))))))
  s_nil)
  (s_cons (s_if (tt_tru (t_isi is_dict T.b_isinstance T.b_dict bt_dict (t_var 1)))
  (s_cons (s_if (PW.pt (tw_or (tt_not (tt_tru (t_isi is_dict T.b_isinstance T.b_dict bt_dict (t_var 0)))) (tw_or1 (tt_cmp (op_neA hr) ne_s (t_callB cr_lenA lenA_s T.b_len bt_len (ta_cons (t_var 0) ta_nil)) (t_callB cr_lenA lenA_s T.b_len bt_len (ta_cons (t_var 1) ta_nil))))))
  (s_one (s_ret t_bl))
  s_nil)
  (s_one (s_ret (t_callB (cr_all rfl) all_s T.b_all bt_all (ta_cons (t_lc [("_law_key", 3)] frz_s rfl sc_law_like.nd (i_seq (t_keysL T.b_list (t_var 1))) (blkOk_by (N := ["_law_told", "_law_due", "_law_k", "_law_key"]) (sc := defScope s_law_like) (by decide +kernel)) (fun _ _ _ _ _ => (g_name 3 sc_law_like.nd)) (fun _ _ _ _ _ => tts_nil) (fun _ _ _ _ _ => (t_and (t_cmp (op_inD2 hr) inA_s (t_var 3) (t_var 0)) (t_one (t_callF G_law_like (hr.mono (by omega)) takes0 (ta_cons (t_ixA hr (t_var 0) (t_var 3)) (ta_cons (t_ixA hr (t_var 1) (t_var 3)) ta_nil))))))) ta_nil)))))
  s_nil)
  (s_cons (s_if (PW.pt (tw_and (tt_tru (t_isi is_tuple T.b_isinstance T.b_tuple bt_tuple (t_var 1))) (tw_and1 (tt_not (tt_tru (t_isi is_tuple T.b_isinstance T.b_tuple bt_tuple (t_var 0)))))))
  (s_one (s_ret t_bl))
  s_nil)
  (s_cons (s_if (PW.pt (tw_or (PW.pt (tw_and (tt_tru (t_isi is_list T.b_isinstance T.b_list bt_list (t_var 1))) (tw_and1 (tt_not (tt_tru (t_isi is_list T.b_isinstance T.b_list bt_list (t_var 0))))))) (tw_or1 (tt_cmp (op_neA hr) ne_s (t_callB cr_lenA lenA_s T.b_len bt_len (ta_cons (t_var 0) ta_nil)) (t_callB cr_lenA lenA_s T.b_len bt_len (ta_cons (t_var 1) ta_nil))))))
  (s_one (s_ret t_bl))
  s_nil)
  (s_one (s_ret (t_callB (cr_all rfl) all_s T.b_all bt_all (ta_cons (t_lc [("_law_k", 2)] frz_s rfl sc_law_like.nd (i_range1 T.b_range (ta_cons (t_callB cr_lenA lenA_s T.b_len bt_len (ta_cons (t_var 1) ta_nil)) ta_nil)) (blkOk_by (N := ["_law_told", "_law_due", "_law_k", "_law_key"]) (sc := defScope s_law_like) (by decide +kernel)) (fun _ _ _ _ _ => (g_name 2 sc_law_like.nd)) (fun _ _ _ _ _ => tts_nil) (fun _ _ _ _ _ => (t_callF G_law_like (hr.mono (by omega)) takes0 (ta_cons (t_ixA hr (t_var 0) (t_var 2)) (ta_cons (t_ixA hr (t_var 1) (t_var 2)) ta_nil))))) ta_nil)))))))))))
theorem mk_law_like {f : Addr} {fd : FuncData} (F : Fun K "_law_like" "_law_like" s_law_like f fd) (hm : mg "_law_like" = some (.ref f)) (T : Gb w K cl mg) : ∀ j : Nat, Fn P w K mg base cl "_law_like" (0 + 1 * j) 2 (fn_law_like j)
  | 0 => ⟨f, fd, ["_law_told", "_law_due"], fn_stk.mono (by omega), hm, F.kp, (F.binds (ps := ["_law_told", "_law_due"]) fun _ _ _ _ _ _ us hl => match us, hl with | [_, _], _ => rfl)⟩
  | j + 1 => ⟨f, fd, ["_law_told", "_law_due"], ok_law_like (Nat.le_add_right _ _) F T (mk_law_like F hm T j), hm, F.kp, (F.binds (ps := ["_law_told", "_law_due"]) fun _ _ _ _ _ _ us hl => match us, hl with | [_, _], _ => rfl)⟩
abbrev s_law_take : Stmt := (top 41)
theorem sc_law_take : FnScope ["_law_script", "_law_pool", "_law_many", "_law_seed", "_law_cell", "_law_digit"] ["_law_script", "_law_pool", "_law_many"] (defScope s_law_take) :=
  ⟨rfl, rfl, rfl, by decide +kernel, rfl, by decide +kernel, by decide +kernel⟩
noncomputable def sem_law_take : MS :=
  (sSeq (sPut (mVar 1) (mC (.int 2)) (mOp addD (mOp ixD (mVar 1) (mC (.int 2))) (mC (.int 1))))
  (sSeq (sIf (mAnd (mTest (mOp eqD (mOp ixD (mVar 1) (mC (.int 1))) (mC (.int 0)))) (mTest (mOp ltD (mOp ixD (mVar 1) (mC (.int 0))) (mFn lenD (mCons (mVar 0) mNil)))))
  (sSeq (sSet 4 (mOp ixD (mVar 0) (mOp ixD (mVar 1) (mC (.int 0)))))
  (sSeq (sPut (mVar 1) (mC (.int 0)) (mOp addD (mOp ixD (mVar 1) (mC (.int 0))) (mC (.int 1))))
  (sSeq (sIf (mTest (mOp ltD (mVar 4) (mC (.int 0))))
  (sSet 4 (mUn negD (mVar 4)))
  sPass)
  (sIf (mTest (mOp geD (mVar 4) (mOp powD (mC (.int 10)) (mC (.int 18)))))
  (sPut (mVar 1) (mC (.int 1)) (mVar 4))
  (sPut (mVar 1) (mC (.int 3)) (mOp modD (mFn intD (mCons (mOp addD (mOp addD (mOp mulD (mOp ixD (mVar 1) (mC (.int 3))) (mC (.int 31))) (mVar 4)) (mC (.int 17))) mNil)) (mC (.int 1000000007))))))))
  sPass)
  (sSeq (sIf (mTest (mOp gtD (mOp ixD (mVar 1) (mC (.int 1))) (mC (.int 0))))
  (sSeq (sSet 5 (mOp modD (mFn intD (mCons (mOp ixD (mVar 1) (mC (.int 1))) mNil)) (mVar 2)))
  (sSeq (sPut (mVar 1) (mC (.int 1)) (mOp fdivD (mOp ixD (mVar 1) (mC (.int 1))) (mVar 2)))
  (sRet (mVar 5))))
  sPass)
  (sSeq (sSet 3 (mOp modD (mOp mulD (mFn intD (mCons (mOp addD (mOp addD (mOp ixD (mVar 1) (mC (.int 3))) (mOp mulD (mC (.int 7919)) (mOp ixD (mVar 1) (mC (.int 2))))) (mC (.int 1))) mNil)) (mC (.int 48271))) (mC (.int 2147483647))))
  (sSeq (sSet 3 (mOp modD (mFn intD (mCons (mOp mulD (mVar 3) (mOp addD (mOp fdivD (mVar 3) (mC (.int 1009))) (mC (.int 69621)))) mNil)) (mC (.int 2147483629))))
  (sSeq (sSet 3 (mOp modD (mFn intD (mCons (mOp mulD (mVar 3) (mOp addD (mOp fdivD (mVar 3) (mC (.int 2003))) (mC (.int 40692)))) mNil)) (mC (.int 2147483399))))
  (sRet (mOp modD (mFn intD (mCons (mOp fdivD (mVar 3) (mC (.int 16))) mNil)) (mVar 2)))))))))
noncomputable def fn_law_take : List D → Store → Res D := runB 6 sem_law_take
theorem ok_law_take {f : Addr} {fd : FuncData} (F : Fun K "_law_take" "_law_take" s_law_take f fd) (T : Gb w K cl mg) :
    FnOk P w K mg base (L2.CX P w) 1 f fd ["_law_script", "_law_pool", "_law_many"] (spOf K cl 3 fn_law_take) :=
  fn_sem F sc_law_take rfl fun cdv A outer s H E hr =>
  (s_cons (s_put (t_var 1) t_int (t_op op_addA add_s (t_ix ix_seq ix_s (t_var 1) t_int) t_int))
  (s_cons (s_if (PW.pt (tw_and (tt_cmp (op_eqA hr) eq_s (t_ix ix_seq ix_s (t_var 1) t_int) t_int) (tw_and1 (tt_cmp op_ltA lt_s (t_ix ix_seq ix_s (t_var 1) t_int) (t_callB (call_len) len_s T.b_len bt_len (ta_cons (t_var 0) ta_nil))))))
  (s_cons (s_set 4 sc_law_take.nd (t_ix ix_seq ix_s (t_var 0) (t_ix ix_seq ix_s (t_var 1) t_int)))
  (s_cons (s_put (t_var 1) t_int (t_op op_addA add_s (t_ix ix_seq ix_s (t_var 1) t_int) t_int))
  (s_cons (s_if (tt_cmp op_ltA lt_s (t_var 4) t_int)
  (s_one (s_set 4 sc_law_take.nd (t_un un_neg neg_s (t_var 4))))
  s_nil)
  (s_one (s_if (tt_cmp op_ge ge_s (t_var 4) (t_op op_pow pow_s t_int t_int))
  (s_one (s_put (t_var 1) t_int (t_var 4)))
  (s_one (s_put (t_var 1) t_int (t_op op_mod mod_s (t_callTy (call_int1) int_s T.b_int bt_int (ta_cons (t_op op_addA add_s (t_op op_addA add_s (t_op op_mulA mul_s (t_ix ix_seq ix_s (t_var 1) t_int) t_int) (t_var 4)) t_int) ta_nil)) t_int))))))))
  s_nil)
  (s_cons (s_if (tt_cmp op_gt gt_s (t_ix ix_seq ix_s (t_var 1) t_int) t_int)
  (s_cons (s_set 5 sc_law_take.nd (t_op op_mod mod_s (t_callTy (call_int1) int_s T.b_int bt_int (ta_cons (t_ix ix_seq ix_s (t_var 1) t_int) ta_nil)) (t_var 2)))
  (s_cons (s_put (t_var 1) t_int (t_op op_fdivW fdiv_s (t_ix ix_seq ix_s (t_var 1) t_int) (t_var 2)))
  (s_one (s_ret (t_var 5)))))
  s_nil)
  (s_cons (s_set 3 sc_law_take.nd (t_op op_mod mod_s (t_op op_mulA mul_s (t_callTy (call_int1) int_s T.b_int bt_int (ta_cons (t_op op_addA add_s (t_op op_addA add_s (t_ix ix_seq ix_s (t_var 1) t_int) (t_op op_mulA mul_s t_int (t_ix ix_seq ix_s (t_var 1) t_int))) t_int) ta_nil)) t_int) t_int))
  (s_cons (s_set 3 sc_law_take.nd (t_op op_mod mod_s (t_callTy (call_int1) int_s T.b_int bt_int (ta_cons (t_op op_mulA mul_s (t_var 3) (t_op op_addA add_s (t_op op_fdivW fdiv_s (t_var 3) t_int) t_int)) ta_nil)) t_int))
  (s_cons (s_set 3 sc_law_take.nd (t_op op_mod mod_s (t_callTy (call_int1) int_s T.b_int bt_int (ta_cons (t_op op_mulA mul_s (t_var 3) (t_op op_addA add_s (t_op op_fdivW fdiv_s (t_var 3) t_int) t_int)) ta_nil)) t_int))
  (s_one (s_ret (t_op op_mod mod_s (t_callTy (call_int1) int_s T.b_int bt_int (ta_cons (t_op op_fdivW fdiv_s (t_var 3) t_int) ta_nil)) (t_var 2))))))))))
theorem mk_law_take {f : Addr} {fd : FuncData} (F : Fun K "_law_take" "_law_take" s_law_take f fd) (hm : mg "_law_take" = some (.ref f)) (T : Gb w K cl mg) : Fn P w K mg base cl "_law_take" 1 3 fn_law_take :=
  ⟨f, fd, ["_law_script", "_law_pool", "_law_many"], ok_law_take F T, hm, F.kp, (F.binds (ps := ["_law_script", "_law_pool", "_law_many"]) fun _ _ _ _ _ _ us hl => match us, hl with | [_, _, _], _ => rfl)⟩
abbrev s_law_order : Stmt := (top 47)
theorem sc_law_order : FnScope ["_law_script", "_law_pool", "_law_paths", "_law_first", "_law_found", "_law_others", "_law_path", "_law_kind"] ["_law_script", "_law_pool", "_law_paths"] (defScope s_law_order) :=
  ⟨rfl, rfl, rfl, by decide +kernel, rfl, by decide +kernel, by decide +kernel⟩
noncomputable def sem_law_order : MS :=
  (sSeq (sSet 3 (mOp ixD (mOp ixD (mVar 2) (mFn (ar 3 fn_law_take) (mCons (mVar 0) (mCons (mVar 1) (mCons (mFn lenD (mCons (mVar 2) mNil)) mNil))))) (mC (.int 0))))
  (sSeq (sSet 4 (mFn lstL (mCons (mFn tupD (mCons (mVar 3) (mCons (mOp ixD (mFn lstD (mCons (mC (.str "up")) (mCons (mC (.str "down")) mNil))) (mFn (ar 3 fn_law_take) (mCons (mVar 0) (mCons (mVar 1) (mCons (mC (.int 2)) mNil))))) mNil))) mNil)))
  (sSeq (sSet 5 (mComp (mIt (mVar 2)) (ptT (psC (ptN 6) (psC (ptN 7) psN))) (mTest (mOp neD (mVar 6) (mVar 3))) (mVar 6) [6, 7] frzD))
  (sSeq (sIf (mAnd (mTest (mOp neL0 (mVar 5) (mFn lstD mNil))) (mTest (mOp eqD (mFn (ar 3 fn_law_take) (mCons (mVar 0) (mCons (mVar 1) (mCons (mC (.int 4)) mNil)))) (mC (.int 0)))))
  (sExpr (mMt "list" appD (mVar 4) (mCons (mFn tupD (mCons (mOp ixD (mVar 5) (mFn (ar 3 fn_law_take) (mCons (mVar 0) (mCons (mVar 1) (mCons (mFn lenD (mCons (mVar 5) mNil)) mNil))))) (mCons (mOp ixD (mFn lstD (mCons (mC (.str "up")) (mCons (mC (.str "down")) mNil))) (mFn (ar 3 fn_law_take) (mCons (mVar 0) (mCons (mVar 1) (mCons (mC (.int 2)) mNil))))) mNil))) mNil)))
  sPass)
  (sRet (mFn tupleD (mCons (mVar 4) mNil)))))))
noncomputable def fn_law_order : List D → Store → Res D := runB 8 sem_law_order
theorem ok_law_order {f : Addr} {fd : FuncData} (F : Fun K "_law_order" "_law_order" s_law_order f fd) (T : Gb w K cl mg) (G_law_take : Fn P w K mg base cl "_law_take" 1 3 fn_law_take) :
    FnOk P w K mg base (L2.CX P w) 2 f fd ["_law_script", "_law_pool", "_law_paths"] (spOf K cl 3 fn_law_order) :=
  fn_sem F sc_law_order rfl fun cdv A outer s H E hr =>
  (s_cons (s_set 3 sc_law_order.nd (t_ix ix_seq ix_s (t_ix ix_seq ix_s (t_var 2) (t_callF G_law_take (hr.mono (by decide)) (takes_of rfl rfl rfl rfl) (ta_cons (t_var 0) (ta_cons (t_var 1) (ta_cons (t_callB (call_len) len_s T.b_len bt_len (ta_cons (t_var 2) ta_nil)) ta_nil))))) t_int))
  (s_cons (s_set 4 sc_law_order.nd (t_lstL (ta_cons (t_tup (ta_cons (t_var 3) (ta_cons (t_ix ix_seq ix_s (t_lst (ta_cons t_str (ta_cons t_str ta_nil))) (t_callF G_law_take (hr.mono (by decide)) (takes_of rfl rfl rfl rfl) (ta_cons (t_var 0) (ta_cons (t_var 1) (ta_cons t_int ta_nil))))) ta_nil))) ta_nil)))
  (s_cons (s_setLc 5 [("_law_path", 6), ("_law_kind", 7)] frz_s rfl sc_law_order.nd (i_seq (t_var 2)) (blkOk_by (N := ["_law_script", "_law_pool", "_law_paths", "_law_first", "_law_found", "_law_others", "_law_path", "_law_kind"]) (sc := defScope s_law_order) (by decide +kernel)) (fun _ _ _ _ _ => (g_tup rfl (gs_cons (g_name 6 sc_law_order.nd) (gs_cons (g_name 7 sc_law_order.nd) gs_nil)) (ps_lenS (ps_lenS ps_len0)))) (fun _ _ _ _ _ => (tts_one (tt_cmp (op_neA hr) ne_s (t_var 6) (t_var 3)))) (fun _ _ _ _ _ => (t_var 6)) (sw_true rfl rfl rfl (by decide +kernel)))
  (s_cons (s_if (PW.pt (tw_and (tt_cmp (op_neL0 hr) neL0_s (t_var 5) (t_lst ta_nil)) (tw_and1 (tt_cmp (op_eqA hr) eq_s (t_callF G_law_take (hr.mono (by decide)) (takes_of rfl rfl rfl rfl) (ta_cons (t_var 0) (ta_cons (t_var 1) (ta_cons t_int ta_nil)))) t_int))))
  (s_one (s_expr (t_bm PySem.F.plainAttrs_list PySem.F.slot_list_append PySem.F.type_list_append mt_append app_s (t_var 4) (ta_cons (t_tup (ta_cons (t_ix ix_seq ix_s (t_var 5) (t_callF G_law_take (hr.mono (by decide)) (takes_of rfl rfl rfl rfl) (ta_cons (t_var 0) (ta_cons (t_var 1) (ta_cons (t_callB (call_len) len_s T.b_len bt_len (ta_cons (t_var 5) ta_nil)) ta_nil))))) (ta_cons (t_ix ix_seq ix_s (t_lst (ta_cons t_str (ta_cons t_str ta_nil))) (t_callF G_law_take (hr.mono (by decide)) (takes_of rfl rfl rfl rfl) (ta_cons (t_var 0) (ta_cons (t_var 1) (ta_cons t_int ta_nil))))) ta_nil))) ta_nil))))
  s_nil)
  (s_one (s_ret (t_callTy (call_tuple_of) tuple_s T.b_tuple bt_tuple (ta_cons (t_var 4) ta_nil))))))))
theorem mk_law_order {f : Addr} {fd : FuncData} (F : Fun K "_law_order" "_law_order" s_law_order f fd) (hm : mg "_law_order" = some (.ref f)) (T : Gb w K cl mg) (G_law_take : Fn P w K mg base cl "_law_take" 1 3 fn_law_take) : Fn P w K mg base cl "_law_order" 2 3 fn_law_order :=
  ⟨f, fd, ["_law_script", "_law_pool", "_law_paths"], ok_law_order F T G_law_take, hm, F.kp, (F.binds (ps := ["_law_script", "_law_pool", "_law_paths"]) fun _ _ _ _ _ _ us hl => match us, hl with | [_, _, _], _ => rfl)⟩
abbrev s_law_standing : Stmt := (top 50)
theorem sc_law_standing : FnScope ["_law_steps", "_law_i", "_law_found", "_law_turned", "_law_step_here", "_law_known", "_law_path", "_law_way"] ["_law_steps", "_law_i"] (defScope s_law_standing) :=
  ⟨rfl, rfl, rfl, by decide +kernel, rfl, by decide +kernel, by decide +kernel⟩
noncomputable def sem_law_standing : MS :=
  (sSeq (sSet 2 (mFn lstL mNil))
  (sSeq (sSet 3 (mC (.bl false)))
  (sSeq (sFor (mIt (mOp rvD (mSl slD (mVar 0) mNoPart (mPart (mVar 1))) (mUn negD (mC (.int 1))))) (ptN 4)
  (sSeq (sIf (mTest (mOp eqD (mOp ixD (mVar 4) (mC (.int 0))) (mC (.str "flip"))))
  (sSet 3 (mNotV (mVar 3)))
  sPass)
  (sIf (mTest (mOp eqD (mOp ixD (mVar 4) (mC (.int 0))) (mC (.str "sort"))))
  (sSeq (sSet 5 (mComp (mIt (mVar 2)) (ptT (psC (ptN 6) (psC (ptN 7) psN))) mYes (mVar 6) [6, 7] frzD))
  (sFor (mIt (mOp ixD (mVar 4) (mC (.int 1)))) (ptT (psC (ptN 6) (psC (ptN 7) psN)))
  (sIf (mTest (mOp notInD (mVar 6) (mVar 5)))
  (sExpr (mMt "list" appD (mVar 2) (mCons (mFn tupD (mCons (mVar 6) (mCons (mIte (mTru (mVar 3)) (mOp ixA (mDisp [((mC (.str "up")), (mC (.str "down"))), ((mC (.str "down")), (mC (.str "up")))] dfz) (mVar 7)) (mVar 7)) mNil))) mNil)))
  sPass)))
  sPass)))
  (sRet (mFn tupleD (mCons (mVar 2) mNil))))))
noncomputable def fn_law_standing : List D → Store → Res D := runB 8 sem_law_standing
theorem ok_law_standing {f : Addr} {fd : FuncData} (F : Fun K "_law_standing" "_law_standing" s_law_standing f fd) (T : Gb w K cl mg) :
    FnOk P w K mg base (L2.CX P w) 1 f fd ["_law_steps", "_law_i"] (spOf K cl 2 fn_law_standing) :=
  fn_sem F sc_law_standing rfl fun cdv A outer s H E hr =>
  (s_cons (s_set 2 sc_law_standing.nd (t_lstL ta_nil))
  (s_cons (s_set 3 sc_law_standing.nd t_bl)
  (s_cons (s_for (passes_of rfl) rfl (i_seq (t_revS (t_sl sl_all sl_s (t_var 0) tp_none (tp_some (t_var 1))) (t_un un_neg neg_s t_int))) (g_name 4 sc_law_standing.nd)
  (s_cons (s_if (tt_cmp (op_eqA hr) eq_s (t_ix ix_seq ix_s (t_var 4) t_int) t_str)
  (s_one (s_set 3 sc_law_standing.nd (t_not (t_var 3))))
  s_nil)
  (s_one (s_if (tt_cmp (op_eqA hr) eq_s (t_ix ix_seq ix_s (t_var 4) t_int) t_str)
  (s_cons (s_setLc 5 [("_law_path", 6), ("_law_way", 7)] frz_s rfl sc_law_standing.nd (i_seq (t_var 2)) (blkOk_by (N := ["_law_steps", "_law_i", "_law_found", "_law_turned", "_law_step_here", "_law_known", "_law_path", "_law_way"]) (sc := defScope s_law_standing) (by decide +kernel)) (fun _ _ _ _ _ => (g_tup rfl (gs_cons (g_name 6 sc_law_standing.nd) (gs_cons (g_name 7 sc_law_standing.nd) gs_nil)) (ps_lenS (ps_lenS ps_len0)))) (fun _ _ _ _ _ => tts_nil) (fun _ _ _ _ _ => (t_var 6)) (sw_true rfl rfl rfl (by decide +kernel)))
  (s_one (s_for (passes_of rfl) rfl (i_seq (t_ix ix_seq ix_s (t_var 4) t_int)) (g_tup rfl (gs_cons (g_name 6 sc_law_standing.nd) (gs_cons (g_name 7 sc_law_standing.nd) gs_nil)) (ps_lenS (ps_lenS ps_len0)))
  (s_one (s_if (tt_cmp op_notInA notIn_s (t_var 6) (t_var 5))
  (s_one (s_expr (t_bm PySem.F.plainAttrs_list PySem.F.slot_list_append PySem.F.type_list_append mt_append app_s (t_var 2) (ta_cons (t_tup (ta_cons (t_var 6) (ta_cons (t_ite (tt_tru (t_var 3)) (t_ixA hr (t_dispF (dp_cons t_str t_str (dp_cons t_str t_str dp_nil))) (t_var 7)) (t_var 7)) ta_nil))) ta_nil))))
  s_nil)))))
  s_nil))))
  (s_one (s_ret (t_callTy (call_tuple_of) tuple_s T.b_tuple bt_tuple (ta_cons (t_var 2) ta_nil)))))))
theorem mk_law_standing {f : Addr} {fd : FuncData} (F : Fun K "_law_standing" "_law_standing" s_law_standing f fd) (hm : mg "_law_standing" = some (.ref f)) (T : Gb w K cl mg) : Fn P w K mg base cl "_law_standing" 1 2 fn_law_standing :=
  ⟨f, fd, ["_law_steps", "_law_i"], ok_law_standing F T, hm, F.kp, (F.binds (ps := ["_law_steps", "_law_i"]) fun _ _ _ _ _ _ us hl => match us, hl with | [_, _], _ => rfl)⟩
abbrev s_law_value : Stmt := (top 43)
theorem sc_law_value : FnScope ["_law_script", "_law_pool", "_law_kind"] ["_law_script", "_law_pool", "_law_kind"] (defScope s_law_value) :=
  ⟨rfl, rfl, rfl, by decide +kernel, rfl, by decide +kernel, by decide +kernel⟩
noncomputable def sem_law_value : MS :=
  (sSeq (sIf (mTest (mOp eqD (mVar 2) (mC (.str "number"))))
  (sRet (mOp subD (mFn (ar 3 fn_law_take) (mCons (mVar 0) (mCons (mVar 1) (mCons (mC (.int 5)) mNil)))) (mC (.int 1))))
  sPass)
  (sRet (mOp ixD (mFn lstD (mCons (mC (.str "")) (mCons (mC (.str "a")) (mCons (mC (.str "ab")) (mCons (mC (.str "b")) mNil))))) (mFn (ar 3 fn_law_take) (mCons (mVar 0) (mCons (mVar 1) (mCons (mC (.int 4)) mNil)))))))
noncomputable def fn_law_value : List D → Store → Res D := runB 3 sem_law_value
theorem ok_law_value {f : Addr} {fd : FuncData} (F : Fun K "_law_value" "_law_value" s_law_value f fd) (T : Gb w K cl mg) (G_law_take : Fn P w K mg base cl "_law_take" 1 3 fn_law_take) :
    FnOk P w K mg base (L2.CX P w) 2 f fd ["_law_script", "_law_pool", "_law_kind"] (spOf K cl 3 fn_law_value) :=
  fn_sem F sc_law_value rfl fun cdv A outer s H E hr =>
  (s_cons (s_if (tt_cmp (op_eqA hr) eq_s (t_var 2) t_str)
  (s_one (s_ret (t_op op_sub sub_s (t_callF G_law_take (hr.mono (by decide)) (takes_of rfl rfl rfl rfl) (ta_cons (t_var 0) (ta_cons (t_var 1) (ta_cons t_int ta_nil)))) t_int)))
  s_nil)
  (s_one (s_ret (t_ix ix_seq ix_s (t_lst (ta_cons t_str (ta_cons t_str (ta_cons t_str (ta_cons t_str ta_nil))))) (t_callF G_law_take (hr.mono (by decide)) (takes_of rfl rfl rfl rfl) (ta_cons (t_var 0) (ta_cons (t_var 1) (ta_cons t_int ta_nil))))))))
theorem mk_law_value {f : Addr} {fd : FuncData} (F : Fun K "_law_value" "_law_value" s_law_value f fd) (hm : mg "_law_value" = some (.ref f)) (T : Gb w K cl mg) (G_law_take : Fn P w K mg base cl "_law_take" 1 3 fn_law_take) : Fn P w K mg base cl "_law_value" 2 3 fn_law_value :=
  ⟨f, fd, ["_law_script", "_law_pool", "_law_kind"], ok_law_value F T G_law_take, hm, F.kp, (F.binds (ps := ["_law_script", "_law_pool", "_law_kind"]) fun _ _ _ _ _ _ us hl => match us, hl with | [_, _, _], _ => rfl)⟩
abbrev s_law_atom : Stmt := (top 44)
theorem sc_law_atom : FnScope ["_law_script", "_law_pool", "_law_paths", "_law_path", "_law_kind", "_law_op", "_law_way", "_law_others", "_law_more", "_law_one", "_law_other", "_law_k"] ["_law_script", "_law_pool", "_law_paths"] (defScope s_law_atom) :=
  ⟨rfl, rfl, rfl, by decide +kernel, rfl, by decide +kernel, by decide +kernel⟩
noncomputable def sem_law_atom : MS :=
  (sSeq (sAsg (ptT (psC (ptN 3) (psC (ptN 4) psN))) (mOp ixD (mVar 2) (mFn (ar 3 fn_law_take) (mCons (mVar 0) (mCons (mVar 1) (mCons (mFn lenD (mCons (mVar 2) mNil)) mNil))))))
  (sSeq (sSet 5 (mOp ixD (mFn lstD (mCons (mC (.str "<")) (mCons (mC (.str "<=")) (mCons (mC (.str "==")) (mCons (mC (.str "!=")) (mCons (mC (.str ">")) (mCons (mC (.str ">=")) mNil))))))) (mFn (ar 3 fn_law_take) (mCons (mVar 0) (mCons (mVar 1) (mCons (mC (.int 6)) mNil))))))
  (sSeq (sSet 6 (mFn (ar 3 fn_law_take) (mCons (mVar 0) (mCons (mVar 1) (mCons (mC (.int 5)) mNil)))))
  (sSeq (sIf (mTest (mOp eqD (mVar 6) (mC (.int 0))))
  (sRet (mFn tupD (mCons (mC (.str "empty")) (mCons (mVar 3) mNil))))
  sPass)
  (sSeq (sSet 7 (mComp (mIt (mVar 2)) (ptT (psC (ptN 9) (psC (ptN 10) psN))) (mAnd (mTest (mOp eqD (mVar 10) (mVar 4))) (mTest (mOp neD (mVar 9) (mVar 3)))) (mVar 9) [9, 10] frzD))
  (sSeq (sIf (mAnd (mTest (mOp eqD (mVar 6) (mC (.int 1)))) (mTest (mOp neL0 (mVar 7) (mFn lstD mNil))))
  (sSeq (sSet 8 (mIte (mTest (mOp eqD (mVar 4) (mC (.str "number")))) (mOp ixD (mFn lstD (mCons (mC (.int 0)) (mCons (mC (.int 0)) (mCons (mC (.int 1)) (mCons (mUn negD (mC (.int 1))) mNil))))) (mFn (ar 3 fn_law_take) (mCons (mVar 0) (mCons (mVar 1) (mCons (mC (.int 4)) mNil))))) (mC (.int 0))))
  (sRet (mFn tupD (mCons (mC (.str "against")) (mCons (mVar 3) (mCons (mVar 5) (mCons (mOp ixD (mVar 7) (mFn (ar 3 fn_law_take) (mCons (mVar 0) (mCons (mVar 1) (mCons (mFn lenD (mCons (mVar 7) mNil)) mNil))))) (mCons (mVar 8) mNil))))))))
  sPass)
  (sSeq (sIf (mTest (mOp eqD (mVar 6) (mC (.int 2))))
  (sRet (mFn tupD (mCons (mC (.str "among")) (mCons (mVar 3) (mCons (mFn tupleD (mCons (mComp (mRng rng1 (mCons (mOp addD (mC (.int 1)) (mFn (ar 3 fn_law_take) (mCons (mVar 0) (mCons (mVar 1) (mCons (mC (.int 2)) mNil))))) mNil)) (ptN 11) mYes (mFn (ar 3 fn_law_value) (mCons (mVar 0) (mCons (mVar 1) (mCons (mVar 4) mNil)))) [11] frzD) mNil)) mNil)))))
  sPass)
  (sRet (mFn tupD (mCons (mC (.str "compare")) (mCons (mVar 3) (mCons (mVar 5) (mCons (mFn (ar 3 fn_law_value) (mCons (mVar 0) (mCons (mVar 1) (mCons (mVar 4) mNil)))) mNil)))))))))))))
noncomputable def fn_law_atom : List D → Store → Res D := runB 12 sem_law_atom
theorem ok_law_atom {f : Addr} {fd : FuncData} (F : Fun K "_law_atom" "_law_atom" s_law_atom f fd) (T : Gb w K cl mg) (G_law_take : Fn P w K mg base cl "_law_take" 1 3 fn_law_take) (G_law_value : Fn P w K mg base cl "_law_value" 2 3 fn_law_value) :
    FnOk P w K mg base (L2.CX P w) 3 f fd ["_law_script", "_law_pool", "_law_paths"] (spOf K cl 3 fn_law_atom) :=
  fn_sem F sc_law_atom rfl fun cdv A outer s H E hr =>
  (s_cons (s_asg (t_ix ix_seq ix_s (t_var 2) (t_callF G_law_take (hr.mono (by decide)) (takes_of rfl rfl rfl rfl) (ta_cons (t_var 0) (ta_cons (t_var 1) (ta_cons (t_callB (call_len) len_s T.b_len bt_len (ta_cons (t_var 2) ta_nil)) ta_nil))))) (g_tup rfl (gs_cons (g_name 3 sc_law_atom.nd) (gs_cons (g_name 4 sc_law_atom.nd) gs_nil)) (ps_lenS (ps_lenS ps_len0))))
  (s_cons (s_set 5 sc_law_atom.nd (t_ix ix_seq ix_s (t_lst (ta_cons t_str (ta_cons t_str (ta_cons t_str (ta_cons t_str (ta_cons t_str (ta_cons t_str ta_nil))))))) (t_callF G_law_take (hr.mono (by decide)) (takes_of rfl rfl rfl rfl) (ta_cons (t_var 0) (ta_cons (t_var 1) (ta_cons t_int ta_nil))))))
  (s_cons (s_set 6 sc_law_atom.nd (t_callF G_law_take (hr.mono (by decide)) (takes_of rfl rfl rfl rfl) (ta_cons (t_var 0) (ta_cons (t_var 1) (ta_cons t_int ta_nil)))))
  (s_cons (s_if (tt_cmp (op_eqA hr) eq_s (t_var 6) t_int)
  (s_one (s_ret (t_tup (ta_cons t_str (ta_cons (t_var 3) ta_nil)))))
  s_nil)
  (s_cons (s_setLc 7 [("_law_one", 9), ("_law_other", 10)] frz_s rfl sc_law_atom.nd (i_seq (t_var 2)) (blkOk_by (N := ["_law_script", "_law_pool", "_law_paths", "_law_path", "_law_kind", "_law_op", "_law_way", "_law_others", "_law_more", "_law_one", "_law_other", "_law_k"]) (sc := defScope s_law_atom) (by decide +kernel)) (fun _ _ _ _ _ => (g_tup rfl (gs_cons (g_name 9 sc_law_atom.nd) (gs_cons (g_name 10 sc_law_atom.nd) gs_nil)) (ps_lenS (ps_lenS ps_len0)))) (fun _ _ _ _ _ => (tts_one (PW.pt (tw_and (tt_cmp (op_eqA hr) eq_s (t_var 10) (t_var 4)) (tw_and1 (tt_cmp (op_neA hr) ne_s (t_var 9) (t_var 3))))))) (fun _ _ _ _ _ => (t_var 9)) (sw_true rfl rfl rfl (by decide +kernel)))
  (s_cons (s_if (PW.pt (tw_and (tt_cmp (op_eqA hr) eq_s (t_var 6) t_int) (tw_and1 (tt_cmp (op_neL0 hr) neL0_s (t_var 7) (t_lst ta_nil)))))
  (s_cons (s_set 8 sc_law_atom.nd (t_ite (tt_cmp (op_eqA hr) eq_s (t_var 4) t_str) (t_ix ix_seq ix_s (t_lst (ta_cons t_int (ta_cons t_int (ta_cons t_int (ta_cons (t_un un_neg neg_s t_int) ta_nil))))) (t_callF G_law_take (hr.mono (by decide)) (takes_of rfl rfl rfl rfl) (ta_cons (t_var 0) (ta_cons (t_var 1) (ta_cons t_int ta_nil))))) t_int))
  (s_one (s_ret (t_tup (ta_cons t_str (ta_cons (t_var 3) (ta_cons (t_var 5) (ta_cons (t_ix ix_seq ix_s (t_var 7) (t_callF G_law_take (hr.mono (by decide)) (takes_of rfl rfl rfl rfl) (ta_cons (t_var 0) (ta_cons (t_var 1) (ta_cons (t_callB (call_len) len_s T.b_len bt_len (ta_cons (t_var 7) ta_nil)) ta_nil))))) (ta_cons (t_var 8) ta_nil)))))))))
  s_nil)
  (s_cons (s_if (tt_cmp (op_eqA hr) eq_s (t_var 6) t_int)
  (s_one (s_ret (t_tup (ta_cons t_str (ta_cons (t_var 3) (ta_cons (t_callTy (call_tuple_of) tuple_s T.b_tuple bt_tuple (ta_cons (t_lc [("_law_k", 11)] frz_s rfl sc_law_atom.nd (i_range1 T.b_range (ta_cons (t_op op_addA add_s t_int (t_callF G_law_take (hr.mono (by decide)) (takes_of rfl rfl rfl rfl) (ta_cons (t_var 0) (ta_cons (t_var 1) (ta_cons t_int ta_nil))))) ta_nil)) (blkOk_by (N := ["_law_script", "_law_pool", "_law_paths", "_law_path", "_law_kind", "_law_op", "_law_way", "_law_others", "_law_more", "_law_one", "_law_other", "_law_k"]) (sc := defScope s_law_atom) (by decide +kernel)) (fun _ _ _ _ _ => (g_name 11 sc_law_atom.nd)) (fun _ _ _ _ _ => tts_nil) (fun _ _ _ _ _ => (t_callF G_law_value (hr.mono (by decide)) takes0 (ta_cons (t_var 0) (ta_cons (t_var 1) (ta_cons (t_var 4) ta_nil)))))) ta_nil)) ta_nil))))))
  s_nil)
  (s_one (s_ret (t_tup (ta_cons t_str (ta_cons (t_var 3) (ta_cons (t_var 5) (ta_cons (t_callF G_law_value (hr.mono (by decide)) (takes_of rfl rfl rfl rfl) (ta_cons (t_var 0) (ta_cons (t_var 1) (ta_cons (t_var 4) ta_nil)))) ta_nil))))))))))))))
theorem mk_law_atom {f : Addr} {fd : FuncData} (F : Fun K "_law_atom" "_law_atom" s_law_atom f fd) (hm : mg "_law_atom" = some (.ref f)) (T : Gb w K cl mg) (G_law_take : Fn P w K mg base cl "_law_take" 1 3 fn_law_take) (G_law_value : Fn P w K mg base cl "_law_value" 2 3 fn_law_value) : Fn P w K mg base cl "_law_atom" 3 3 fn_law_atom :=
  ⟨f, fd, ["_law_script", "_law_pool", "_law_paths"], ok_law_atom F T G_law_take G_law_value, hm, F.kp, (F.binds (ps := ["_law_script", "_law_pool", "_law_paths"]) fun _ _ _ _ _ _ us hl => match us, hl with | [_, _, _], _ => rfl)⟩
abbrev s_law_form : Stmt := (top 45)
theorem sc_law_form : FnScope ["_law_script", "_law_pool", "_law_paths", "_law_way", "_law_one"] ["_law_script", "_law_pool", "_law_paths"] (defScope s_law_form) :=
  ⟨rfl, rfl, rfl, by decide +kernel, rfl, by decide +kernel, by decide +kernel⟩
noncomputable def sem_law_form : MS :=
  (sSeq (sSet 3 (mFn (ar 3 fn_law_take) (mCons (mVar 0) (mCons (mVar 1) (mCons (mC (.int 9)) mNil)))))
  (sSeq (sSet 4 (mFn (ar 3 fn_law_atom) (mCons (mVar 0) (mCons (mVar 1) (mCons (mVar 2) mNil)))))
  (sSeq (sIf (mTest (mOp eqD (mVar 3) (mC (.int 5))))
  (sRet (mFn tupD (mCons (mC (.str "not")) (mCons (mVar 4) mNil))))
  sPass)
  (sSeq (sIf (mTest (mOp eqD (mVar 3) (mC (.int 6))))
  (sRet (mFn tupD (mCons (mOp ixD (mFn lstD (mCons (mC (.str "and")) (mCons (mC (.str "or")) mNil))) (mFn (ar 3 fn_law_take) (mCons (mVar 0) (mCons (mVar 1) (mCons (mC (.int 2)) mNil))))) (mCons (mVar 4) (mCons (mFn (ar 3 fn_law_atom) (mCons (mVar 0) (mCons (mVar 1) (mCons (mVar 2) mNil)))) mNil)))))
  sPass)
  (sSeq (sIf (mTest (mOp eqD (mVar 3) (mC (.int 7))))
  (sRet (mOp ixD (mFn lstD (mCons (mFn tupD (mCons (mC (.str "sure")) (mCons (mVar 4) mNil))) (mCons (mFn tupD (mCons (mC (.str "always")) mNil)) (mCons (mFn tupD (mCons (mC (.str "not")) (mCons (mFn tupD (mCons (mC (.str "sure")) (mCons (mVar 4) mNil))) mNil))) mNil)))) (mFn (ar 3 fn_law_take) (mCons (mVar 0) (mCons (mVar 1) (mCons (mC (.int 3)) mNil))))))
  sPass)
  (sRet (mVar 4)))))))
noncomputable def fn_law_form : List D → Store → Res D := runB 5 sem_law_form
theorem ok_law_form {f : Addr} {fd : FuncData} (F : Fun K "_law_form" "_law_form" s_law_form f fd) (T : Gb w K cl mg) (G_law_atom : Fn P w K mg base cl "_law_atom" 3 3 fn_law_atom) (G_law_take : Fn P w K mg base cl "_law_take" 1 3 fn_law_take) :
    FnOk P w K mg base (L2.CX P w) 4 f fd ["_law_script", "_law_pool", "_law_paths"] (spOf K cl 3 fn_law_form) :=
  fn_sem F sc_law_form rfl fun cdv A outer s H E hr =>
  (s_cons (s_set 3 sc_law_form.nd (t_callF G_law_take (hr.mono (by decide)) (takes_of rfl rfl rfl rfl) (ta_cons (t_var 0) (ta_cons (t_var 1) (ta_cons t_int ta_nil)))))
  (s_cons (s_set 4 sc_law_form.nd (t_callF G_law_atom (hr.mono (by decide)) (takes_of rfl rfl rfl rfl) (ta_cons (t_var 0) (ta_cons (t_var 1) (ta_cons (t_var 2) ta_nil)))))
  (s_cons (s_if (tt_cmp (op_eqA hr) eq_s (t_var 3) t_int)
  (s_one (s_ret (t_tup (ta_cons t_str (ta_cons (t_var 4) ta_nil)))))
  s_nil)
  (s_cons (s_if (tt_cmp (op_eqA hr) eq_s (t_var 3) t_int)
  (s_one (s_ret (t_tup (ta_cons (t_ix ix_seq ix_s (t_lst (ta_cons t_str (ta_cons t_str ta_nil))) (t_callF G_law_take (hr.mono (by decide)) (takes_of rfl rfl rfl rfl) (ta_cons (t_var 0) (ta_cons (t_var 1) (ta_cons t_int ta_nil))))) (ta_cons (t_var 4) (ta_cons (t_callF G_law_atom (hr.mono (by decide)) (takes_of rfl rfl rfl rfl) (ta_cons (t_var 0) (ta_cons (t_var 1) (ta_cons (t_var 2) ta_nil)))) ta_nil))))))
  s_nil)
  (s_cons (s_if (tt_cmp (op_eqA hr) eq_s (t_var 3) t_int)
  (s_one (s_ret (t_ix ix_seq ix_s (t_lst (ta_cons (t_tup (ta_cons t_str (ta_cons (t_var 4) ta_nil))) (ta_cons (t_tup (ta_cons t_str ta_nil)) (ta_cons (t_tup (ta_cons t_str (ta_cons (t_tup (ta_cons t_str (ta_cons (t_var 4) ta_nil))) ta_nil))) ta_nil)))) (t_callF G_law_take (hr.mono (by decide)) (takes_of rfl rfl rfl rfl) (ta_cons (t_var 0) (ta_cons (t_var 1) (ta_cons t_int ta_nil)))))))
  s_nil)
  (s_one (s_ret (t_var 4))))))))
theorem mk_law_form {f : Addr} {fd : FuncData} (F : Fun K "_law_form" "_law_form" s_law_form f fd) (hm : mg "_law_form" = some (.ref f)) (T : Gb w K cl mg) (G_law_atom : Fn P w K mg base cl "_law_atom" 3 3 fn_law_atom) (G_law_take : Fn P w K mg base cl "_law_take" 1 3 fn_law_take) : Fn P w K mg base cl "_law_form" 4 3 fn_law_form :=
  ⟨f, fd, ["_law_script", "_law_pool", "_law_paths"], ok_law_form F T G_law_atom G_law_take, hm, F.kp, (F.binds (ps := ["_law_script", "_law_pool", "_law_paths"]) fun _ _ _ _ _ _ us hl => match us, hl with | [_, _, _], _ => rfl)⟩
abbrev s_law_step : Stmt := (top 48)
theorem sc_law_step : FnScope ["_law_script", "_law_pool", "_law_paths", "_law_way", "_law_order_here", "_law_path", "_law_up"] ["_law_script", "_law_pool", "_law_paths"] (defScope s_law_step) :=
  ⟨rfl, rfl, rfl, by decide +kernel, rfl, by decide +kernel, by decide +kernel⟩
noncomputable def sem_law_step : MS :=
  (sSeq (sSet 3 (mFn (ar 3 fn_law_take) (mCons (mVar 0) (mCons (mVar 1) (mCons (mC (.int 9)) mNil)))))
  (sSeq (sIf (mTest (mOp ltD (mVar 3) (mC (.int 3))))
  (sRet (mFn tupD (mCons (mC (.str "keep")) (mCons (mFn (ar 3 fn_law_form) (mCons (mVar 0) (mCons (mVar 1) (mCons (mVar 2) mNil)))) mNil))))
  sPass)
  (sSeq (sIf (mTest (mOp ltD (mVar 3) (mC (.int 5))))
  (sRet (mFn tupD (mCons (mC (.str "sort")) (mCons (mFn (ar 3 fn_law_order) (mCons (mVar 0) (mCons (mVar 1) (mCons (mVar 2) mNil)))) mNil))))
  sPass)
  (sSeq (sIf (mTest (mOp ltD (mVar 3) (mC (.int 7))))
  (sSeq (sSet 4 (mFn (ar 3 fn_law_order) (mCons (mVar 0) (mCons (mVar 1) (mCons (mVar 2) mNil)))))
  (sRet (mFn tupD (mCons (mC (.str "distinct")) (mCons (mSl slD (mFn tupleD (mCons (mComp (mIt (mVar 4)) (ptT (psC (ptN 5) (psC (ptN 6) psN))) mYes (mVar 5) [5, 6] frzD) mNil)) mNoPart (mPart (mOp ixD (mFn lstD (mCons (mC (.int 2)) (mCons (mC (.int 2)) (mCons (mC (.int 2)) (mCons (mC (.int 0)) mNil))))) (mFn (ar 3 fn_law_take) (mCons (mVar 0) (mCons (mVar 1) (mCons (mC (.int 4)) mNil))))))) mNil)))))
  sPass)
  (sRet (mOp ixD (mFn lstD (mCons (mFn tupD (mCons (mC (.str "first")) mNil)) (mCons (mFn tupD (mCons (mC (.str "flip")) mNil)) mNil))) (mOp subD (mVar 3) (mC (.int 7)))))))))
noncomputable def fn_law_step : List D → Store → Res D := runB 7 sem_law_step
theorem ok_law_step {f : Addr} {fd : FuncData} (F : Fun K "_law_step" "_law_step" s_law_step f fd) (T : Gb w K cl mg) (G_law_form : Fn P w K mg base cl "_law_form" 4 3 fn_law_form) (G_law_order : Fn P w K mg base cl "_law_order" 2 3 fn_law_order) (G_law_take : Fn P w K mg base cl "_law_take" 1 3 fn_law_take) :
    FnOk P w K mg base (L2.CX P w) 5 f fd ["_law_script", "_law_pool", "_law_paths"] (spOf K cl 3 fn_law_step) :=
  fn_sem F sc_law_step rfl fun cdv A outer s H E hr =>
  (s_cons (s_set 3 sc_law_step.nd (t_callF G_law_take (hr.mono (by decide)) (takes_of rfl rfl rfl rfl) (ta_cons (t_var 0) (ta_cons (t_var 1) (ta_cons t_int ta_nil)))))
  (s_cons (s_if (tt_cmp op_ltA lt_s (t_var 3) t_int)
  (s_one (s_ret (t_tup (ta_cons t_str (ta_cons (t_callF G_law_form (hr.mono (by decide)) (takes_of rfl rfl rfl rfl) (ta_cons (t_var 0) (ta_cons (t_var 1) (ta_cons (t_var 2) ta_nil)))) ta_nil)))))
  s_nil)
  (s_cons (s_if (tt_cmp op_ltA lt_s (t_var 3) t_int)
  (s_one (s_ret (t_tup (ta_cons t_str (ta_cons (t_callF G_law_order (hr.mono (by decide)) (takes_of rfl rfl rfl rfl) (ta_cons (t_var 0) (ta_cons (t_var 1) (ta_cons (t_var 2) ta_nil)))) ta_nil)))))
  s_nil)
  (s_cons (s_if (tt_cmp op_ltA lt_s (t_var 3) t_int)
  (s_cons (s_set 4 sc_law_step.nd (t_callF G_law_order (hr.mono (by decide)) (takes_of rfl rfl rfl rfl) (ta_cons (t_var 0) (ta_cons (t_var 1) (ta_cons (t_var 2) ta_nil)))))
  (s_one (s_ret (t_tup (ta_cons t_str (ta_cons (t_sl sl_all sl_s (t_callTy (call_tuple_of) tuple_s T.b_tuple bt_tuple (ta_cons (t_lc [("_law_path", 5), ("_law_up", 6)] frz_s rfl sc_law_step.nd (i_seq (t_var 4)) (blkOk_by (N := ["_law_script", "_law_pool", "_law_paths", "_law_way", "_law_order_here", "_law_path", "_law_up"]) (sc := defScope s_law_step) (by decide +kernel)) (fun _ _ _ _ _ => (g_tup rfl (gs_cons (g_name 5 sc_law_step.nd) (gs_cons (g_name 6 sc_law_step.nd) gs_nil)) (ps_lenS (ps_lenS ps_len0)))) (fun _ _ _ _ _ => tts_nil) (fun _ _ _ _ _ => (t_var 5))) ta_nil)) tp_none (tp_some (t_ix ix_seq ix_s (t_lst (ta_cons t_int (ta_cons t_int (ta_cons t_int (ta_cons t_int ta_nil))))) (t_callF G_law_take (hr.mono (by decide)) (takes_of rfl rfl rfl rfl) (ta_cons (t_var 0) (ta_cons (t_var 1) (ta_cons t_int ta_nil))))))) ta_nil))))))
  s_nil)
  (s_one (s_ret (t_ix ix_seq ix_s (t_lst (ta_cons (t_tup (ta_cons t_str ta_nil)) (ta_cons (t_tup (ta_cons t_str ta_nil)) ta_nil))) (t_op op_sub sub_s (t_var 3) t_int))))))))
theorem mk_law_step {f : Addr} {fd : FuncData} (F : Fun K "_law_step" "_law_step" s_law_step f fd) (hm : mg "_law_step" = some (.ref f)) (T : Gb w K cl mg) (G_law_form : Fn P w K mg base cl "_law_form" 4 3 fn_law_form) (G_law_order : Fn P w K mg base cl "_law_order" 2 3 fn_law_order) (G_law_take : Fn P w K mg base cl "_law_take" 1 3 fn_law_take) : Fn P w K mg base cl "_law_step" 5 3 fn_law_step :=
  ⟨f, fd, ["_law_script", "_law_pool", "_law_paths"], ok_law_step F T G_law_form G_law_order G_law_take, hm, F.kp, (F.binds (ps := ["_law_script", "_law_pool", "_law_paths"]) fun _ _ _ _ _ _ us hl => match us, hl with | [_, _, _], _ => rfl)⟩
abbrev s_order_turned : Stmt := (top 37)
theorem sc_order_turned : FnScope ["order", "path", "way"] ["order"] (defScope s_order_turned) :=
  ⟨rfl, rfl, rfl, by decide +kernel, rfl, by decide +kernel, by decide +kernel⟩
noncomputable def sem_order_turned : MS :=
  (sRet (mFn tupleD (mCons (mComp (mIt (mVar 0)) (ptT (psC (ptN 1) (psC (ptN 2) psN))) mYes (mFn tupD (mCons (mVar 1) (mCons (mIxK c_TURNED_WAYS (mVar 2)) mNil))) [1, 2] frzD) mNil)))
noncomputable def fn_order_turned : List D → Store → Res D := runB 3 sem_order_turned
theorem ok_order_turned {f : Addr} {fd : FuncData} (F : Fun K "order_turned" "order_turned" s_order_turned f fd) (T : Gb w K cl mg) :
    FnOk P w K mg base (L2.CX P w) 1 f fd ["order"] (spOf K cl 1 fn_order_turned) :=
  fn_sem F sc_order_turned rfl fun cdv A outer s H E hr =>
  (s_one (s_ret (t_callTy (call_tuple_of) tuple_s T.b_tuple bt_tuple (ta_cons (t_lc [("path", 1), ("way", 2)] frz_s rfl sc_order_turned.nd (i_seq (t_var 0)) (blkOk_by (N := ["order", "path", "way"]) (sc := defScope s_order_turned) (by decide +kernel)) (fun _ _ _ _ _ => (g_tup rfl (gs_cons (g_name 1 sc_order_turned.nd) (gs_cons (g_name 2 sc_order_turned.nd) gs_nil)) (ps_lenS (ps_lenS ps_len0)))) (fun _ _ _ _ _ => tts_nil) (fun _ _ _ _ _ => (t_tup (ta_cons (t_var 1) (ta_cons (t_ixK T.g_TURNED_WAYS (t_var 2)) ta_nil))))) ta_nil))))
theorem mk_order_turned {f : Addr} {fd : FuncData} (F : Fun K "order_turned" "order_turned" s_order_turned f fd) (hm : mg "order_turned" = some (.ref f)) (T : Gb w K cl mg) : Fn P w K mg base cl "order_turned" 1 1 fn_order_turned :=
  ⟨f, fd, ["order"], ok_order_turned F T, hm, F.kp, (F.binds (ps := ["order"]) fun _ _ _ _ _ _ us hl => match us, hl with | [_], _ => rfl)⟩
abbrev s_standing : Stmt := (top 39)
theorem sc_standing : FnScope ["steps", "i", "found", "step", "known", "path", "way", "part"] ["steps", "i"] (defScope s_standing) :=
  ⟨rfl, rfl, rfl, by decide +kernel, rfl, by decide +kernel, by decide +kernel⟩
noncomputable def sem_standing : MS :=
  (sSeq (sSet 2 (mFn tupD mNil))
  (sSeq (sFor (mIt (mSl slD (mVar 0) mNoPart (mPart (mVar 1)))) (ptN 3)
  (sSeq (sIf (mTest (mOp eqD (mOp ixD (mVar 3) (mC (.int 0))) (mC (.str "sort"))))
  (sSeq (sSet 4 (mComp (mIt (mOp ixD (mVar 3) (mC (.int 1)))) (ptT (psC (ptN 5) (psC (ptN 6) psN))) mYes (mVar 5) [5, 6] frzD))
  (sSet 2 (mOp addD (mFn tupleD (mCons (mOp ixD (mVar 3) (mC (.int 1))) mNil)) (mFn tupleD (mCons (mComp (mIt (mVar 2)) (ptN 7) (mTest (mOp notInD (mOp ixD (mVar 7) (mC (.int 0))) (mVar 4))) (mVar 7) [7] frzD) mNil)))))
  sPass)
  (sIf (mTest (mOp eqD (mOp ixD (mVar 3) (mC (.int 0))) (mC (.str "flip"))))
  (sSet 2 (mFn (ar 1 fn_order_turned) (mCons (mVar 2) mNil)))
  sPass)))
  (sRet (mVar 2))))
noncomputable def fn_standing : List D → Store → Res D := runB 8 sem_standing
theorem ok_standing {f : Addr} {fd : FuncData} (F : Fun K "standing" "standing" s_standing f fd) (T : Gb w K cl mg) (G_order_turned : Fn P w K mg base cl "order_turned" 1 1 fn_order_turned) :
    FnOk P w K mg base (L2.CX P w) 2 f fd ["steps", "i"] (spOf K cl 2 fn_standing) :=
  fn_sem F sc_standing rfl fun cdv A outer s H E hr =>
  (s_cons (s_set 2 sc_standing.nd (t_tup ta_nil))
  (s_cons (s_for (passes_of rfl) rfl (i_seq (t_sl sl_all sl_s (t_var 0) tp_none (tp_some (t_var 1)))) (g_name 3 sc_standing.nd)
  (s_cons (s_if (tt_cmp (op_eqA hr) eq_s (t_ix ix_seq ix_s (t_var 3) t_int) t_str)
  (s_cons (s_set 4 sc_standing.nd (t_lc [("path", 5), ("way", 6)] frz_s rfl sc_standing.nd (i_seq (t_ix ix_seq ix_s (t_var 3) t_int)) (blkOk_by (N := ["steps", "i", "found", "step", "known", "path", "way", "part"]) (sc := defScope s_standing) (by decide +kernel)) (fun _ _ _ _ _ => (g_tup rfl (gs_cons (g_name 5 sc_standing.nd) (gs_cons (g_name 6 sc_standing.nd) gs_nil)) (ps_lenS (ps_lenS ps_len0)))) (fun _ _ _ _ _ => tts_nil) (fun _ _ _ _ _ => (t_var 5))))
  (s_one (s_set 2 sc_standing.nd (t_op op_addA add_s (t_callTy (call_tuple_of) tuple_s T.b_tuple bt_tuple (ta_cons (t_ix ix_seq ix_s (t_var 3) t_int) ta_nil)) (t_callTy (call_tuple_of) tuple_s T.b_tuple bt_tuple (ta_cons (t_lc [("part", 7)] frz_s rfl sc_standing.nd (i_seq (t_var 2)) (blkOk_by (N := ["steps", "i", "found", "step", "known", "path", "way", "part"]) (sc := defScope s_standing) (by decide +kernel)) (fun _ _ _ _ _ => (g_name 7 sc_standing.nd)) (fun _ _ _ _ _ => (tts_one (tt_cmp op_notInA notIn_s (t_ix ix_seq ix_s (t_var 7) t_int) (t_var 4)))) (fun _ _ _ _ _ => (t_var 7))) ta_nil))))))
  s_nil)
  (s_one (s_if (tt_cmp (op_eqA hr) eq_s (t_ix ix_seq ix_s (t_var 3) t_int) t_str)
  (s_one (s_set 2 sc_standing.nd (t_callF G_order_turned (hr.mono (by decide)) (takes_of rfl rfl rfl rfl) (ta_cons (t_var 2) ta_nil))))
  s_nil))))
  (s_one (s_ret (t_var 2)))))
theorem mk_standing {f : Addr} {fd : FuncData} (F : Fun K "standing" "standing" s_standing f fd) (hm : mg "standing" = some (.ref f)) (T : Gb w K cl mg) (G_order_turned : Fn P w K mg base cl "order_turned" 1 1 fn_order_turned) : Fn P w K mg base cl "standing" 2 2 fn_standing :=
  ⟨f, fd, ["steps", "i"], ok_standing F T G_order_turned, hm, F.kp, (F.binds (ps := ["steps", "i"]) fun _ _ _ _ _ _ us hl => match us, hl with | [_, _], _ => rfl)⟩
abbrev s_law : Stmt := (top 51)
theorem sc_law : FnScope ["_law_script", "_law_pool", "_law_paths", "_law_turn", "_law_steps", "_law_k", "_law_given_here", "_law_kept", "_law_i", "_law_way", "_law_due", "_law_order_here", "_law_told", "_law_known", "_law_path"] ["_law_script"] (defScope s_law) :=
  ⟨rfl, rfl, rfl, by decide +kernel, rfl, by decide +kernel, by decide +kernel⟩
noncomputable def sem_law : MS :=
  (sSeq (sSet 1 (mFn lstL (mCons (mC (.int 0)) (mCons (mC (.int 0)) (mCons (mC (.int 0)) (mCons (mC (.int 0)) mNil))))))
  (sSeq (sSet 2 (mFn lstD (mCons (mFn tupD (mCons (mC (.str "a")) (mCons (mC (.str "number")) mNil))) (mCons (mFn tupD (mCons (mC (.str "b")) (mCons (mC (.str "text")) mNil))) (mCons (mFn tupD (mCons (mC (.str "r.x")) (mCons (mC (.str "number")) mNil))) mNil)))))
  (sSeq (sFor (mRng rng1 (mCons (mC (.int 4)) mNil)) (ptN 3)
  (sSeq (sSet 4 (mFn lstL mNil))
  (sSeq (sFor (mRng rng1 (mCons (mFn (ar 3 fn_law_take) (mCons (mVar 0) (mCons (mVar 1) (mCons (mC (.int 6)) mNil)))) mNil)) (ptN 5)
  (sSeq (sSet 9 (mFn (ar 3 fn_law_take) (mCons (mVar 0) (mCons (mVar 1) (mCons (mC (.int 6)) mNil)))))
  (sSeq (sExpr (mMt "list" appD (mVar 4) (mCons (mFn tupD (mCons (mC (.str "sort")) (mCons (mFn (ar 3 fn_law_order) (mCons (mVar 0) (mCons (mVar 1) (mCons (mVar 2) mNil)))) mNil))) mNil)))
  (sSeq (sIf (mOr (mTest (mOp eqD (mVar 9) (mC (.int 3)))) (mTest (mOp eqD (mVar 9) (mC (.int 4)))))
  (sPut (mVar 4) (mUn negD (mC (.int 1))) (mFn tupD (mCons (mC (.str "flip")) mNil)))
  sPass)
  (sIf (mTest (mOp eqD (mVar 9) (mC (.int 5))))
  (sPut (mVar 4) (mUn negD (mC (.int 1))) (mFn (ar 3 fn_law_step) (mCons (mVar 0) (mCons (mVar 1) (mCons (mVar 2) mNil)))))
  sPass)))))
  (sSeq (sSet 6 (mFn (ar 1 fn_law_given) (mCons (mVar 4) mNil)))
  (sSeq (sSet 7 (mFn listD (mCons (mVar 6) mNil)))
  (sFor (mRng rng1 (mCons (mOp addD (mFn lenD (mCons (mVar 4) mNil)) (mC (.int 1))) mNil)) (ptN 8)
  (sSeq (sSet 10 (mFn (ar 2 fn_law_standing) (mCons (mVar 4) (mCons (mVar 8) mNil))))
  (sSeq (sIf (mOr (mNot (mTru (mFn (ar 2 (fn_law_like 20)) (mCons (mFn (ar 2 fn_standing) (mCons (mVar 6) (mCons (mVar 8) mNil))) (mCons (mVar 10) mNil))))) (mTest (mOp (neO "Test" (fn_Test_eq 20) 4) (mVar 6) (mVar 7))))
  (sRet (mC (.bl false)))
  sPass)
  (sSeq (sIf (mNot (mTru (mFn (ar 2 (fn_law_like 20)) (mCons (mFn (ar 2 fn_standing) (mCons (mFn tupleD (mCons (mVar 6) mNil)) (mCons (mVar 8) mNil))) (mCons (mVar 10) mNil)))))
  (sRet (mC (.bl false)))
  sPass)
  (sSeq (sIf (mTest (mOp gtD (mVar 8) (mC (.int 3))))
  sBrk
  sPass)
  (sSeq (sIf (mNot (mTru (mFn (ar 2 (fn_law_like 20)) (mCons (mFn (ar 2 fn_standing) (mCons (mOp addD (mSl slD (mVar 6) mNoPart (mPart (mVar 8))) (mFn lstD (mCons (mFn tupD (mCons (mC (.str "flip")) mNil)) (mCons (mFn tupD (mCons (mC (.str "flip")) mNil)) mNil)))) (mCons (mOp addD (mVar 8) (mC (.int 2))) mNil))) (mCons (mVar 10) mNil)))))
  (sRet (mC (.bl false)))
  sPass)
  (sSeq (sSet 11 (mFn (ar 3 fn_law_order) (mCons (mVar 0) (mCons (mVar 1) (mCons (mVar 2) mNil)))))
  (sSeq (sSet 12 (mFn (ar 2 fn_standing) (mCons (mOp addD (mSl slD (mVar 6) mNoPart (mPart (mVar 8))) (mFn lstD (mCons (mFn tupD (mCons (mC (.str "sort")) (mCons (mVar 11) mNil))) mNil))) (mCons (mOp addD (mVar 8) (mC (.int 1))) mNil))))
  (sSeq (sSet 13 (mFn sortedTD (mCons (mComp (mIt (mOp addD (mVar 10) (mVar 11))) (ptT (psC (ptN 14) (psC (ptN 9) psN))) mYes (mVar 14) [14, 9] frzD) mNil)))
  (sIf (mOr (mTest (mOp neD (mSl slD (mVar 12) mNoPart (mPart (mFn lenD (mCons (mVar 11) mNil)))) (mVar 11))) (mTest (mOp neD (mFn sortedSD (mCons (mComp (mIt (mVar 12)) (ptT (psC (ptN 14) (psC (ptN 9) psN))) mYes (mVar 14) [14, 9] frzD) mNil)) (mVar 13))))
  (sRet (mC (.bl false)))
  sPass)))))))))))))))
  (sRet (mOp eqD (mFn (ar 2 fn_standing) (mCons (mFn lstD mNil) (mCons (mC (.int 0)) mNil))) (mFn tupD mNil))))))
noncomputable def fn_law : List D → Store → Res D := runB 15 sem_law
theorem ok_law {f : Addr} {fd : FuncData} (F : Fun K "law" "law" s_law f fd) (T : Gb w K cl mg) (G_Test_eq : MFn P w K mg base cl "Test" "__eq__" 60 2 (fn_Test_eq 20)) (G_law_given : Fn P w K mg base cl "_law_given" 54 1 fn_law_given) (G_law_like : Fn P w K mg base cl "_law_like" 20 2 (fn_law_like 20)) (G_law_order : Fn P w K mg base cl "_law_order" 2 3 fn_law_order) (G_law_standing : Fn P w K mg base cl "_law_standing" 1 2 fn_law_standing) (G_law_step : Fn P w K mg base cl "_law_step" 5 3 fn_law_step) (G_law_take : Fn P w K mg base cl "_law_take" 1 3 fn_law_take) (G_standing : Fn P w K mg base cl "standing" 2 2 fn_standing) :
    FnOk P w K mg base (L2.CX P w) 65 f fd ["_law_script"] (spOf K cl 1 fn_law) :=
  fn_sem F sc_law rfl fun cdv A outer s H E hr =>
  (s_cons (s_set 1 sc_law.nd (t_lstL (ta_cons t_int (ta_cons t_int (ta_cons t_int (ta_cons t_int ta_nil))))))
  (s_cons (s_set 2 sc_law.nd (t_lst (ta_cons (t_tup (ta_cons t_str (ta_cons t_str ta_nil))) (ta_cons (t_tup (ta_cons t_str (ta_cons t_str ta_nil))) (ta_cons (t_tup (ta_cons t_str (ta_cons t_str ta_nil))) ta_nil)))))
  (s_cons (s_for (passes_of rfl) rfl (i_range1 T.b_range (ta_cons t_int ta_nil)) (g_name 3 sc_law.nd)
  (s_cons (s_set 4 sc_law.nd (t_lstL ta_nil))
  (s_cons (s_for (passes_of rfl) rfl (i_range1 T.b_range (ta_cons (t_callF G_law_take (hr.mono (by decide)) (takes_of rfl rfl rfl rfl) (ta_cons (t_var 0) (ta_cons (t_var 1) (ta_cons t_int ta_nil)))) ta_nil)) (g_name 5 sc_law.nd)
  (s_cons (s_set 9 sc_law.nd (t_callF G_law_take (hr.mono (by decide)) (takes_of rfl rfl rfl rfl) (ta_cons (t_var 0) (ta_cons (t_var 1) (ta_cons t_int ta_nil)))))
  (s_cons (s_expr (t_bm PySem.F.plainAttrs_list PySem.F.slot_list_append PySem.F.type_list_append mt_append app_s (t_var 4) (ta_cons (t_tup (ta_cons t_str (ta_cons (t_callF G_law_order (hr.mono (by decide)) (takes_of rfl rfl rfl rfl) (ta_cons (t_var 0) (ta_cons (t_var 1) (ta_cons (t_var 2) ta_nil)))) ta_nil))) ta_nil)))
  (s_cons (s_if (PW.pt (tw_or (tt_cmp (op_eqA hr) eq_s (t_var 9) t_int) (tw_or1 (tt_cmp (op_eqA hr) eq_s (t_var 9) t_int))))
  (s_one (s_put (t_var 4) (t_un un_neg neg_s t_int) (t_tup (ta_cons t_str ta_nil))))
  s_nil)
  (s_one (s_if (tt_cmp (op_eqA hr) eq_s (t_var 9) t_int)
  (s_one (s_put (t_var 4) (t_un un_neg neg_s t_int) (t_callF G_law_step (hr.mono (by decide)) (takes_of rfl rfl rfl rfl) (ta_cons (t_var 0) (ta_cons (t_var 1) (ta_cons (t_var 2) ta_nil))))))
  s_nil))))))
  (s_cons (s_set 6 sc_law.nd (t_callF G_law_given (hr.mono (by decide)) (takes_of rfl rfl rfl rfl) (ta_cons (t_var 4) ta_nil)))
  (s_cons (s_set 7 sc_law.nd (t_callTy (call_list_of) list_s T.b_list bt_list (ta_cons (t_var 6) ta_nil)))
  (s_one (s_for (passes_of rfl) rfl (i_range1 T.b_range (ta_cons (t_op op_addA add_s (t_callB (call_len) len_s T.b_len bt_len (ta_cons (t_var 4) ta_nil)) t_int) ta_nil)) (g_name 8 sc_law.nd)
  (s_cons (s_set 10 sc_law.nd (t_callF G_law_standing (hr.mono (by decide)) (takes_of rfl rfl rfl rfl) (ta_cons (t_var 4) (ta_cons (t_var 8) ta_nil))))
  (s_cons (s_if (PW.pt (tw_or (tt_not (tt_tru (t_callF G_law_like (hr.mono (by decide)) (takes_of rfl rfl rfl rfl) (ta_cons (t_callF G_standing (hr.mono (by decide)) (takes_of rfl rfl rfl rfl) (ta_cons (t_var 6) (ta_cons (t_var 8) ta_nil))) (ta_cons (t_var 10) ta_nil))))) (tw_or1 (tt_cmp (op_neO ⟨G_Test_eq, T.ne_Test, T.top_Test⟩ (hr.mono (by decide))) neO_s (t_var 6) (t_var 7)))))
  (s_one (s_ret t_bl))
  s_nil)
  (s_cons (s_if (tt_not (tt_tru (t_callF G_law_like (hr.mono (by decide)) (takes_of rfl rfl rfl rfl) (ta_cons (t_callF G_standing (hr.mono (by decide)) (takes_of rfl rfl rfl rfl) (ta_cons (t_callTy (call_tuple_of) tuple_s T.b_tuple bt_tuple (ta_cons (t_var 6) ta_nil)) (ta_cons (t_var 8) ta_nil))) (ta_cons (t_var 10) ta_nil)))))
  (s_one (s_ret t_bl))
  s_nil)
  (s_cons (s_if (tt_cmp op_gt gt_s (t_var 8) t_int)
  (s_one s_break)
  s_nil)
  (s_cons (s_if (tt_not (tt_tru (t_callF G_law_like (hr.mono (by decide)) (takes_of rfl rfl rfl rfl) (ta_cons (t_callF G_standing (hr.mono (by decide)) (takes_of rfl rfl rfl rfl) (ta_cons (t_op op_addA add_s (t_sl sl_all sl_s (t_var 6) tp_none (tp_some (t_var 8))) (t_lst (ta_cons (t_tup (ta_cons t_str ta_nil)) (ta_cons (t_tup (ta_cons t_str ta_nil)) ta_nil)))) (ta_cons (t_op op_addA add_s (t_var 8) t_int) ta_nil))) (ta_cons (t_var 10) ta_nil)))))
  (s_one (s_ret t_bl))
  s_nil)
  (s_cons (s_set 11 sc_law.nd (t_callF G_law_order (hr.mono (by decide)) (takes_of rfl rfl rfl rfl) (ta_cons (t_var 0) (ta_cons (t_var 1) (ta_cons (t_var 2) ta_nil)))))
  (s_cons (s_set 12 sc_law.nd (t_callF G_standing (hr.mono (by decide)) (takes_of rfl rfl rfl rfl) (ta_cons (t_op op_addA add_s (t_sl sl_all sl_s (t_var 6) tp_none (tp_some (t_var 8))) (t_lst (ta_cons (t_tup (ta_cons t_str (ta_cons (t_var 11) ta_nil))) ta_nil))) (ta_cons (t_op op_addA add_s (t_var 8) t_int) ta_nil))))
  (s_cons (s_set 13 sc_law.nd (t_sortT rfl T.b_sorted bt_sorted T.b_set (t_lc [("_law_path", 14), ("_law_way", 9)] frz_s rfl sc_law.nd (i_seq (t_op op_addA add_s (t_var 10) (t_var 11))) (blkOk_by (N := ["_law_script", "_law_pool", "_law_paths", "_law_turn", "_law_steps", "_law_k", "_law_given_here", "_law_kept", "_law_i", "_law_way", "_law_due", "_law_order_here", "_law_told", "_law_known", "_law_path"]) (sc := defScope s_law) (by decide +kernel)) (fun _ _ _ _ _ => (g_tup rfl (gs_cons (g_name 14 sc_law.nd) (gs_cons (g_name 9 sc_law.nd) gs_nil)) (ps_lenS (ps_lenS ps_len0)))) (fun _ _ _ _ _ => tts_nil) (fun _ _ _ _ _ => (t_var 14)))))
  (s_one (s_if (PW.pt (tw_or (tt_cmp (op_neA hr) ne_s (t_sl sl_all sl_s (t_var 12) tp_none (tp_some (t_callB (call_len) len_s T.b_len bt_len (ta_cons (t_var 11) ta_nil)))) (t_var 11)) (tw_or1 (tt_cmp (op_neA hr) ne_s (t_callB (cr_sortedS) sortedS_s T.b_sorted bt_sorted (ta_cons (t_lc [("_law_path", 14), ("_law_way", 9)] frz_s rfl sc_law.nd (i_seq (t_var 12)) (blkOk_by (N := ["_law_script", "_law_pool", "_law_paths", "_law_turn", "_law_steps", "_law_k", "_law_given_here", "_law_kept", "_law_i", "_law_way", "_law_due", "_law_order_here", "_law_told", "_law_known", "_law_path"]) (sc := defScope s_law) (by decide +kernel)) (fun _ _ _ _ _ => (g_tup rfl (gs_cons (g_name 14 sc_law.nd) (gs_cons (g_name 9 sc_law.nd) gs_nil)) (ps_lenS (ps_lenS ps_len0)))) (fun _ _ _ _ _ => tts_nil) (fun _ _ _ _ _ => (t_var 14))) ta_nil)) (t_var 13)))))
  (s_one (s_ret t_bl))
  s_nil)))))))))))))))))
  (s_one (s_ret (t_cmp (op_eqA hr) eq_s (t_callF G_standing (hr.mono (by decide)) (takes_of rfl rfl rfl rfl) (ta_cons (t_lst ta_nil) (ta_cons t_int ta_nil))) (t_tup ta_nil)))))))
theorem mk_law {f : Addr} {fd : FuncData} (F : Fun K "law" "law" s_law f fd) (hm : mg "law" = some (.ref f)) (T : Gb w K cl mg) (G_Test_eq : MFn P w K mg base cl "Test" "__eq__" 60 2 (fn_Test_eq 20)) (G_law_given : Fn P w K mg base cl "_law_given" 54 1 fn_law_given) (G_law_like : Fn P w K mg base cl "_law_like" 20 2 (fn_law_like 20)) (G_law_order : Fn P w K mg base cl "_law_order" 2 3 fn_law_order) (G_law_standing : Fn P w K mg base cl "_law_standing" 1 2 fn_law_standing) (G_law_step : Fn P w K mg base cl "_law_step" 5 3 fn_law_step) (G_law_take : Fn P w K mg base cl "_law_take" 1 3 fn_law_take) (G_standing : Fn P w K mg base cl "standing" 2 2 fn_standing) : Fn P w K mg base cl "law" 65 1 fn_law :=
  ⟨f, fd, ["_law_script"], ok_law F T G_Test_eq G_law_given G_law_like G_law_order G_law_standing G_law_step G_law_take G_standing, hm, F.kp, (F.binds (ps := ["_law_script"]) fun _ _ _ _ _ _ us hl => match us, hl with | [_], _ => rfl)⟩
end
end G
namespace G
open PySem L2
/-! ### names, paths, values -/
abbrev LET : Str := "abcdefghijklmnopqrstuvwxyz"
abbrev DIG : Str := "0123456789"
def kptL : List Str := ["and", "or", "not", "sure", "in", "is", "empty", "begins", "always", "never", "unsure"]
def kpt (t : Str) : Bool := inV (.str t) (kptL.map V.str)
def lod (c : Nat) : Bool := decide (c ∈ cs LET) || decide (c ∈ cs DIG)
def rn (t : Str) : Bool := decide (1 ≤ t.length) && decide (t.length ≤ 8) && (match cs t with
  | [] => false
  | c :: _ => decide (c ∈ cs LET)) && !kpt t && (cs t).all lod
theorem inS {c : Nat} {z : Str} {S : Store} : inD (.str ⟨#[c]⟩) (.str z) S = .ok (.bl (decide (c ∈ cs z))) S := nrfl rfl
theorem notInS {c : Nat} {z : Str} {S : Store} : notInD (.str ⟨#[c]⟩) (.str z) S = .ok (.bl (!decide (c ∈ cs z))) S := nrfl rfl
theorem kept_in {t : Str} {S : Store} : inD (.str t) c_KEPT_WORDS S = .ok (.bl (kpt t)) S := nrfl rfl
theorem atI_0 {α : Type} {x : α} {xs : List α} : atI (x :: xs) 0 = some x := atI_nat (j := 0) rfl
abbrev oneD (c : Nat) : D := .str ⟨#[c]⟩
theorem name_loop {t : D} {S : Store} {all : List D} : ∀ (l : List Nat) (o : Option D), ∃ o', forL ⟨all, none⟩ (ptN 1) (sIf (mAnd (mTest (mOp notInD (mVar 1) (mC c_LETTERS))) (mTest (mOp notInD (mVar 1) (mC c_DIGITS)))) (sRet (mC (.bl false))) sPass) (l.map oneD) [some t, o] S
    = if l.all lod = true then .nx [some t, o'] S else .rt (.bl false) S
  | [], o => ⟨o, by simpa using for_nil⟩
  | c :: l, o => by
    obtain ⟨o', e⟩ := name_loop (t := t) (S := S) (all := all) l (some (oneD c))
    refine ⟨o', ?_⟩
    rw [List.map_cons, for_cons (ρ1 := [some t, some (oneD c)]) rfl, List.all_cons]
    have hL : notInD (oneD c) c_LETTERS S = .ok (.bl (!decide (c ∈ cs LET))) S := notInS
    have hD : notInD (oneD c) c_DIGITS S = .ok (.bl (!decide (c ∈ cs DIG))) S := notInS
    by_cases h1 : c ∈ cs LET
    · have hl : lod c = true := by simp [lod, h1]
      rw [hl, Bool.true_and, ← e]
      simp [hL, h1]
    · by_cases h2 : c ∈ cs DIG
      · have hl : lod c = true := by simp [lod, h2]
        rw [hl, Bool.true_and, ← e]
        simp [hL, hD, h1, h2]
      · have hl : lod c = false := by simp [lod, h1, h2]
        rw [hl]
        simp [hL, hD, h1, h2]
theorem is_name_ok {t : Str} {S : Store} (ht : t.length ≤ 1000) : fn_is_name [.str t] S = .ok (.bl (rn t)) S := by
  have hz : t.length ≤ sizeLine := sz (by omega)
  unfold fn_is_name
  rw [run_eq]
  simp only [sem_is_name, startD]
  by_cases k1 : 1 ≤ t.length
  · have k1' : (1 : Int) ≤ (t.length : Nat) := by omega
    by_cases k2 : t.length ≤ 8
    · have k2' : ((t.length : Nat) : Int) ≤ 8 := by omega
      obtain ⟨c, l, el⟩ : ∃ c l, cs t = c :: l := by
        cases e : cs t with
        | nil => rw [len_cs, e] at k1; simp at k1
        | cons c l => exact ⟨c, l, rfl⟩
      have e0 : atI t.cps.toList 0 = some c := (congrArg (fun x => atI x 0) el).trans atI_0
      have hL : notInD (oneD c) c_LETTERS S = .ok (.bl (!decide (c ∈ cs LET))) S := notInS
      obtain ⟨o', e⟩ := name_loop (t := .str t) (S := S) (all := t.cps.toList.map oneD) (cs t) none
      have e : forL ⟨t.cps.toList.map oneD, none⟩ (ptN 1) (sIf (mAnd (mTest (mOp notInD (mVar 1) (mC c_LETTERS))) (mTest (mOp notInD (mVar 1) (mC c_DIGITS)))) (sRet (mC (.bl false))) sPass) (t.cps.toList.map oneD) [some (.str t), none] S = _ := e
      by_cases k3 : c ∈ cs LET
      · by_cases k4 : kpt t = true
        · simp [hz, k_str, k1', k2', e0, hL, k3, kept_in, k4, rn]
        · by_cases k5 : (cs t).all lod = true
          · rw [if_pos k5] at e
            simp [hz, k_str, k1', k2', e0, hL, k3, kept_in, k4, e]
            simp only [rn, el, k1, k2, k3, k4]
            rw [← el, k5]
            rfl
          · rw [if_neg k5] at e
            simp [hz, k_str, k1', k2', e0, hL, k3, kept_in, k4, e]
            simp only [rn, k5]
            simp
      · simp [hz, k_str, k1', k2', e0, hL, k3]
        simp [rn, el, k3]
    · have k2' : ¬ ((t.length : Nat) : Int) ≤ 8 := by omega
      simp [hz, k_str, k1', k2', rn, k2]
  · have k1' : ¬ (1 : Int) ≤ (t.length : Nat) := by omega
    simp [hz, k_str, k1', rn, k1]
theorem spl_len (Z : List Nat) : ∀ (xs : List Nat) (k : Nat) (acc p : List Nat), p ∈ TL.spl Z k acc xs → p.length ≤ acc.length + xs.length
  | [], k, acc, p, h => by
    have : TL.spl Z k acc [] = [acc] := by cases k <;> rfl
    rw [this] at h
    simp at h
    subst h
    simp
  | c :: r, 0, acc, p, h => by
    unfold TL.spl at h
    split at h
    · rcases List.mem_cons.mp h with rfl | h
      · simp
      · have := spl_len Z r _ _ _ h
        simp at this ⊢
        omega
    · have := spl_len Z r _ _ _ h
      simp at this ⊢
      omega
  | c :: r, k + 1, acc, p, h => by
    have := spl_len Z r k acc p h
    simp
    omega
theorem split_len {t p : Str} (h : p ∈ Txt.split t ".") : p.length ≤ t.length := by
  have e := TL.split_spl t "." (by decide) (TL.kind_ok (by decide +kernel))
  have h1 : TL.tl p ∈ (Txt.split t ".").map TL.tl := List.mem_map.mpr ⟨p, h, rfl⟩
  rw [e] at h1
  have := spl_len _ _ _ _ _ h1
  rw [TL.len_tl p, TL.len_tl t]
  simpa using this
theorem split_ne (t : Str) : Txt.split t "." ≠ [] := List.length_pos_iff.mp (PyProof.Rows.split_pos t ".")
def slotL : List Str := ["1", "2", "3"]
def slt (t : Str) : Bool := inV (.str t) (slotL.map V.str)
/-- a path by its pieces -/
def rp (ps : List Str) : Bool := decide (ps.length ≤ 4) && rn (ps.getLastD "") && (slt (ps.headD "") || rn (ps.headD "")) && ps.tail.all rn
theorem atI_last {α : Type} (x : α) (xs : List α) : atI (xs ++ [x]) (-1) = some x := by
  unfold atI ixN
  rw [if_neg (by omega)]
  rw [if_pos (by simp; omega)]
  show (xs ++ [x])[((((xs ++ [x]).length : Nat) : Int) + -1).toNat]? = _
  have : ((((xs ++ [x]).length : Nat) : Int) + -1).toNat = xs.length := by simp; omega
  rw [this]
  simp
theorem is_path_ok {t : Str} {S : Store} (ht : t.length ≤ 900) : fn_is_path [.str t] S = .ok (.bl (rp (Txt.split t "."))) S := by
  unfold fn_is_path
  rw [run_eq]
  simp only [sem_is_path, startD]
  have h := split_ne t
  have hl : (Txt.split t ".").length ≤ 1000 := Nat.le_trans (PyProof.Rows.split_le t ".") (by omega)
  have hp : ∀ p ∈ Txt.split t ".", p.length ≤ 1000 := fun p hp => by have := split_len hp; omega
  have hsp : splitD (.str t) [.str "."] S = .ok (.lst ((Txt.split t ".").map D.str)) S := if_pos ⟨rfl, sz (by omega)⟩
  generalize Txt.split t "." = ps at *
  obtain ⟨p, qs, rfl⟩ := List.exists_cons_of_ne_nil h
  obtain ⟨rs, q, e⟩ : ∃ rs q, p :: qs = rs ++ [q] := ⟨_, _, (List.dropLast_concat_getLast h).symm⟩
  have eL : atI ((p :: qs).map D.str) (-1) = some (.str q) := by
    rw [e, List.map_append]
    exact atI_last _ _
  have eF : atI ((p :: qs).map D.str) 0 = some (.str p) := atI_0
  have gl : (p :: qs).getLastD "" = q := by rw [e]; simp
  have hq : q.length ≤ 1000 := hp q (by rw [e]; simp)
  have n1 := is_name_ok (S := S) hq
  have hs : inD (.str p) c_SLOT_NUMBERS S = .ok (.bl (slt p)) S := nrfl rfl
  have cu : cutD ((p :: qs).map D.str) (some 1) none = qs.map D.str := by
    unfold cutD HT.sIx
    simp
    exact List.take_of_length_le (by simp)
  have cm := fun all => comp_map (S := S) (all := all) (p := ptN 2) (e := mFn (ar 1 fn_is_name) (mCons (mVar 2) mNil)) (ρ := [some (.str t), some (.lst (qs.map D.str)), none]) D.str (fun c => .bl (rn c)) qs 0 (fun x hx => ⟨_, rfl, by
    have := is_name_ok (S := S) (hp x (by simp [hx]))
    simp [this]⟩) (sz (by simp at hl; omega))
  have cm2 := fun all => comp_map (S := S) (all := all) (p := ptN 2) (e := mFn (ar 1 fn_is_name) (mCons (mVar 2) mNil)) (ρ := [some (.str t), some (.lst ((p :: qs).map D.str)), none]) D.str (fun c => .bl (rn c)) (p :: qs) 0 (fun x hx => ⟨_, rfl, by
    have := is_name_ok (S := S) (hp x hx)
    simp [this]⟩) (sz (by simp at hl ⊢; omega))
  have ea : allD [.lst (qs.map fun c => .bl (rn c))] S = .ok (.bl (qs.all rn)) S := all_bl _ _
  have ea2 : allD [.lst ((p :: qs).map fun c => .bl (rn c))] S = .ok (.bl ((p :: qs).all rn)) S := all_bl _ _
  have mp : c_MOST_PIECES = .int 4 := rfl
  generalize hds : (p :: qs).map D.str = ds at *
  generalize hes : (p :: qs).map (fun c => D.bl (rn c)) = es at *
  have ld : ds.length = (p :: qs).length := by rw [← hds]; simp
  by_cases c1 : (p :: qs).length ≤ 4
  · have c1' : ¬ (4 : Int) < (ds.length : Nat) := by rw [ld]; omega
    by_cases c2 : rn q = true
    · by_cases c3 : slt p = true
      · simp [k_str, tyD, hsp, mp, c1', eL, n1, c2, eF, hs, c3, cu, wipeD, cm, ea]
        simp only [rp, c1, gl, c2]
        simp [c3]
      · simp [k_str, tyD, hsp, mp, c1', eL, n1, c2, eF, hs, c3, wipeD, cm2, ea2]
        simp only [rp, c1, gl, c2]
        simp [c3]
    · simp [k_str, tyD, hsp, mp, c1', eL, n1, c2]
      simp only [rp, gl, c2]
      simp
  · have c1' : (4 : Int) < (ds.length : Nat) := by rw [ld]; omega
    simp [k_str, tyD, hsp, mp, c1']
    simp [rp, c1]
    intro q
    simp at c1
    omega
theorem no_name {d : D} {S : Store} {k : Kd} (h : kd S d = some k) (h2 : k_str k = false) : fn_is_name [d] S = .ok (.bl false) S ∧ fn_is_path [d] S = .ok (.bl false) S := by
  constructor
  · unfold fn_is_name
    rw [run_eq]
    simp only [sem_is_name, startD]
    simp [isiD, h, h2]
  · unfold fn_is_path
    rw [run_eq]
    simp only [sem_is_path, startD]
    simp [isiD, h, h2]
abbrev CH : Str := " !\"#$&'()*+,-./0123456789:;<=>?@ABCDEFGHIJKLMNOPQRSTUVWXYZ[\\]^_`abcdefghijklmnopqrstuvwxyz{|}~"
theorem text_loop {t : D} {S : Store} {all : List D} : ∀ (l : List Nat) (o : Option D), ∃ o', forL ⟨all, none⟩ (ptN 1) (sIf (mTest (mOp notInD (mVar 1) (mC c_CHARS))) (sRet (mC (.bl false))) sPass) (l.map oneD) [some t, o] S
    = if l.all (fun c => decide (c ∈ cs CH)) = true then .nx [some t, o'] S else .rt (.bl false) S
  | [], o => ⟨o, by simpa using for_nil⟩
  | c :: l, o => by
    obtain ⟨o', e⟩ := text_loop (t := t) (S := S) (all := all) l (some (oneD c))
    refine ⟨o', ?_⟩
    rw [List.map_cons, for_cons (ρ1 := [some t, some (oneD c)]) rfl, List.all_cons]
    have hL : notInD (oneD c) c_CHARS S = .ok (.bl (!decide (c ∈ cs CH))) S := notInS
    by_cases h1 : c ∈ cs CH
    · rw [decide_eq_true h1, Bool.true_and, ← e]
      simp [hL, h1]
    · rw [decide_eq_false h1]
      simp [hL, h1]
def txB (t : Str) : Bool := (cs t).all fun c => decide (c ∈ cs CH)
theorem is_text_ok {t : Str} {S : Store} (hz : t.length ≤ 1000) : fn_is_text [.str t] S = .ok (.bl (txB t)) S := by
  have hzz : t.length ≤ sizeLine := sz (by omega)
  unfold fn_is_text
  rw [run_eq]
  simp only [sem_is_text, startD]
  obtain ⟨o', e⟩ := text_loop (t := .str t) (S := S) (all := t.cps.toList.map oneD) (cs t) none
  have e : forL ⟨t.cps.toList.map oneD, none⟩ (ptN 1) (sIf (mTest (mOp notInD (mVar 1) (mC c_CHARS))) (sRet (mC (.bl false))) sPass) (t.cps.toList.map oneD) [some (.str t), none] S = _ := e
  by_cases h : txB t = true
  · rw [if_pos (show (cs t).all (fun c => decide (c ∈ cs CH)) = true from h)] at e
    simp [k_str, hzz, e, h]
  · rw [if_neg (show ¬ (cs t).all (fun c => decide (c ∈ cs CH)) = true from h)] at e
    simp [k_str, hzz, e, h]
theorem kind_text {t : Str} {S : Store} (hz : t.length ≤ 1000) : fn_kind_of [.str t] S = .ok (if txB t = true then .str "text" else .non) S := by
  have hi : fn_is_integer [.str t] S = .ok (.bl false) S := by
    unfold fn_is_integer
    rw [run_eq]
    simp only [sem_is_integer, startD]
    simp [k_int]
  unfold fn_kind_of
  rw [run_eq]
  simp only [sem_kind_of, startD]
  by_cases h : txB t = true
  · simp [hi, is_text_ok hz, h]
  · simp [hi, is_text_ok hz, h]
theorem kind_int {i : Int} {S : Store} : fn_kind_of [.int i] S = .ok (.str "number") S := by
  have hi : fn_is_integer [.int i] S = .ok (.bl true) S := by
    unfold fn_is_integer
    rw [run_eq]
    simp only [sem_is_integer, startD]
    simp [k_int, k_bool]
  unfold fn_kind_of
  rw [run_eq]
  simp only [sem_kind_of, startD]
  simp [hi]
theorem no_kind {d : D} {S : Store} {k : Kd} (h : kd S d = some k) (h2 : k_str k = false) (h3 : (k_int k && !k_bool k) = false) : fn_kind_of [d] S = .ok .non S := by
  have hi : fn_is_integer [d] S = .ok (.bl false) S := by
    unfold fn_is_integer
    rw [run_eq]
    simp only [sem_is_integer, startD]
    cases e1 : k_int k with
    | false => simp [isiD, h, e1]
    | true =>
      rw [e1] at h3
      have e2 : k_bool k = true := by simpa using h3
      simp [isiD, h, e1, e2]
  have ht : fn_is_text [d] S = .ok (.bl false) S := by
    unfold fn_is_text
    rw [run_eq]
    simp only [sem_is_text, startD]
    simp [isiD, h, h2]
  unfold fn_kind_of
  rw [run_eq]
  simp only [sem_kind_of, startD]
  simp [hi, ht]
end G
namespace G
open PySem L2
def Pool (m : MO) : Prop := ∃ p0 p1 p2 p3 : Int, m = .lst [.int p0, .int p1, .int p2, .int p3] ∧ 0 ≤ p0 ∧ 0 ≤ p1
theorem atI_in {ns : List Int} {p : Int} (h0 : 0 ≤ p) (h1 : p < ns.length) : atI ns p = some (ns.getD p.toNat 0) := by
  unfold atI ixN
  rw [if_pos h0, if_pos h1]
  show ns[p.toNat]? = _
  have : p.toNat < ns.length := by omega
  rw [List.getD_eq_getElem?_getD, List.getElem?_eq_getElem this]
  rfl
theorem take_ok (ns : List Int) (n : Nat) (S : Store) (m : MO) (many : Int) (hS : sg S n = some m) (hp : Pool m) (h0 : 0 < many) (h9 : many.natAbs.log2 < 9000) :
    ∃ r m', fn_law_take [.scr ns, .ref n, .int many] S = .ok (.int r) (sp S n m') ∧ 0 ≤ r ∧ r < many ∧ Pool m' := by
  obtain ⟨p0, p1, p2, p3, rfl, g0, g1⟩ := hp
  have hn : n < S.length := sg_lt hS
  have mp : ∀ x : Int, 0 ≤ x % many ∧ x % many < many := fun x => ⟨Int.emod_nonneg _ (by omega), Int.emod_lt_of_pos _ h0⟩
  have a0 : ∀ a b c d : D, atI [a, b, c, d] 0 = some a := fun _ _ _ _ => rfl
  have a1 : ∀ a b c d : D, atI [a, b, c, d] 1 = some b := fun _ _ _ _ => rfl
  have a2 : ∀ a b c d : D, atI [a, b, c, d] 2 = some c := fun _ _ _ _ => rfl
  have a3 : ∀ a b c d : D, atI [a, b, c, d] 3 = some d := fun _ _ _ _ => rfl
  have b0 : ixN 4 0 = some 0 := rfl
  have b1 : ixN 4 1 = some 1 := rfl
  have b2 : ixN 4 2 = some 2 := rfl
  have b3 : ixN 4 3 = some 3 := rfl
  have l1 : (31 : Int) = 31 ∧ sm64 31 = true := ⟨rfl, by decide⟩
  have l2 : sm64 7919 = true := by decide
  have l3 : sm64 48271 = true := by decide
  have l4 : (Int.natAbs 10) < 18446744073709551616 := by decide
  have d1 : Nat.log2 1009 < 9000 := by decide +kernel
  have d2 : Nat.log2 2003 < 9000 := by decide +kernel
  have d3 : Nat.log2 16 < 9000 := by decide +kernel
  have s1 : ∀ x : Int, sm64 (x % 2147483647) = true := fun x => sm_mod _ (by decide) (by decide)
  have s2 : ∀ x : Int, sm64 (x % 2147483629) = true := fun x => sm_mod _ (by decide) (by decide)
  have dv : ∀ x : Int, 0 ≤ x → 0 ≤ x / many := fun x hx => Int.ediv_nonneg hx (by omega)
  unfold fn_law_take
  rw [run_eq]
  simp only [sem_law_take, startD]
  by_cases c1 : p1 = 0
  · subst c1
    by_cases c2 : p0 < ns.length
    · by_cases c3 : ns.getD p0.toNat 0 < 0
      · by_cases c4 : 1000000000000000000 ≤ -ns.getD p0.toNat 0
        · have c5 : 0 < -ns.getD p0.toNat 0 := by omega
          simp [hS, hn, rP, a0, a1, a2, a3, b0, b1, b2, b3, l1, l2, l3, l4, atI_in g0 c2, c2, c3, c4, c5, h0, h9, -List.getD_eq_getElem?_getD]
          exact ⟨_, _, ⟨rfl, rfl⟩, (mp _).1, (mp _).2, _, _, _, _, rfl, by omega, dv _ (by omega)⟩
        · simp [hS, hn, rP, a0, a1, a2, a3, b0, b1, b2, b3, l1, l2, l3, l4, atI_in g0 c2, c2, c3, c4, h0, h9, s1, s2, d1, d2, d3, -List.getD_eq_getElem?_getD]
          exact ⟨_, _, ⟨rfl, rfl⟩, (mp _).1, (mp _).2, _, _, _, _, rfl, by omega, by omega⟩
      · by_cases c4 : 1000000000000000000 ≤ ns.getD p0.toNat 0
        · have c5 : 0 < ns.getD p0.toNat 0 := by omega
          simp [hS, hn, rP, a0, a1, a2, a3, b0, b1, b2, b3, l1, l2, l3, l4, atI_in g0 c2, c2, c3, c4, c5, h0, h9, -List.getD_eq_getElem?_getD]
          exact ⟨_, _, ⟨rfl, rfl⟩, (mp _).1, (mp _).2, _, _, _, _, rfl, by omega, dv _ (by omega)⟩
        · simp [hS, hn, rP, a0, a1, a2, a3, b0, b1, b2, b3, l1, l2, l3, l4, atI_in g0 c2, c2, c3, c4, h0, h9, s1, s2, d1, d2, d3, -List.getD_eq_getElem?_getD]
          exact ⟨_, _, ⟨rfl, rfl⟩, (mp _).1, (mp _).2, _, _, _, _, rfl, by omega, by omega⟩
    · simp [hS, hn, rP, a0, a1, a2, a3, b0, b1, b2, b3, l1, l2, l3, l4, c2, h0, h9, s1, s2, d1, d2, d3, -List.getD_eq_getElem?_getD]
      exact ⟨_, _, ⟨rfl, rfl⟩, (mp _).1, (mp _).2, _, _, _, _, rfl, by omega, by omega⟩
  · have c5 : 0 < p1 := by omega
    simp [hS, hn, rP, a0, a1, a2, a3, b0, b1, b2, b3, l1, l2, l3, l4, c1, c5, h0, h9, -List.getD_eq_getElem?_getD]
    exact ⟨_, _, ⟨rfl, rfl⟩, (mp _).1, (mp _).2, _, _, _, _, rfl, by omega, dv _ (by omega)⟩
end G
namespace G
open PySem L2

/-- told and due are alike (live lists by what they hold) -/
inductive Sm (S : Store) : Nat → D → D → Prop
  | non {n : Nat} : Sm S n .non .non
  | bl {n : Nat} (b : Bool) : Sm S n (.bl b) (.bl b)
  | int {n : Nat} (i : Int) : Sm S n (.int i) (.int i)
  | str {n : Nat} (x : Str) : Sm S n (.str x) (.str x)
  | tup {n : Nat} {xs ys : List D} : xs.length = ys.length → xs.length ≤ 1000000 → (∀ (i : Nat) (x y : D), xs[i]? = some x → ys[i]? = some y → Sm S n x y) → Sm S (n + 1) (.tup xs) (.tup ys)
  | lst {n : Nat} {x y : D} {xs ys : List D} : lsOf S x = some xs → lsOf S y = some ys → xs.length = ys.length → xs.length ≤ 1000000 → (∀ (i : Nat) (x y : D), xs[i]? = some x → ys[i]? = some y → Sm S n x y) → Sm S (n + 1) x y
  | dct {n : Nat} {x y : D} {ks ls : List (Key × D)} (f g : Key → D) : dcOf S x = some ks → dcOf S y = some ls → kd S x = some .dct → kd S y = some .dct → ks.length = ls.length → ls.length ≤ 1000000 → (∀ kv ∈ ls, valK ks kv.1 = some (f kv.1) ∧ valK ls kv.1 = some (g kv.1)) → (∀ kv ∈ ls, Sm S n (f kv.1) (g kv.1)) → Sm S (n + 1) x y
theorem kd_nb {S : Store} {y : D} {k : Kd} (h : kd S y = some k) (hk : k ≠ .non) : isNb y = false := by
  cases y with
  | non => cases h; exact absurd rfl hk
  | _ => rfl
theorem ls_kd {S : Store} {x : D} {xs : List D} (h : lsOf S x = some xs) : kd S x = some .lst ∧ lenO S x = some xs.length ∧ isNb x = false ∧ (∀ i, ixO S x (.int i) = atI xs i) ∧ dcOf S x = none := by
  cases x with
  | lst ys => cases h; exact ⟨rfl, rfl, rfl, fun _ => rfl, rfl⟩
  | ref n =>
    rw [ls_refS] at h
    cases e : sg S n with
    | none => rw [e] at h; cases h
    | some mo =>
      rw [e] at h
      cases mo with
      | lst ys => cases h; simp [e]
      | _ => cases h
  | _ => cases h
theorem like_run {S : Store} {n : Nat} {x y : D} {xs ys : List D} (rec : List D → Store → Res D) (hl : xs.length = ys.length) (hz : xs.length ≤ 1000000) (ix : ∀ i, ixO S x (.int i) = atI xs i) (iy : ∀ i, ixO S y (.int i) = atI ys i) (dx : dcOf S x = none) (dy : dcOf S y = none)
    (h : ∀ (i : Nat) (a b : D), xs[i]? = some a → ys[i]? = some b → rec [a, b] S = .ok (.bl true) S) :
    compL ⟨(List.range ys.length).map fun i => D.int (i : Nat), none⟩ (ptN 2) mYes (mFn (ar 2 rec) (mCons (mOp ixA (mVar 0) (mVar 2)) (mCons (mOp ixA (mVar 1) (mVar 2)) mNil))) [some x, some y, none, none]
      ((List.range ys.length).map fun i => D.int (i : Nat)) 0 S = .ok ((List.range ys.length).map fun _ => D.bl true) S := by
  refine comp_map (fun i : Nat => D.int (i : Nat)) (fun _ => D.bl true) (List.range ys.length) 0 (fun i hi => ?_) ?_
  · have hi : i < ys.length := List.mem_range.mp hi
    have h1 : xs[i]? = some xs[i] := List.getElem?_eq_getElem (by omega)
    have h2 : ys[i]? = some ys[i] := List.getElem?_eq_getElem hi
    refine ⟨_, rfl, ?_⟩
    simp [dx, dy, ix, iy, atI_nat h1, atI_nat h2, h i _ _ h1 h2]
  · simp only [List.length_range]
    exact Nat.le_trans (by omega) (show 1000000 ≤ sizeLine by decide)
theorem like_ok {S : Store} : ∀ (n : Nat) {x y : D}, Sm S n x y → ∀ j, n < j → fn_law_like j [x, y] S = .ok (.bl true) S := by
  intro n
  induction n with
  | zero =>
    intro x y h j hj
    obtain ⟨j, rfl⟩ : ∃ i, j = i + 1 := ⟨j - 1, by omega⟩
    rw [fn_law_like, run_eq]
    simp only [sem_law_like, startD]
    cases h with
    | non => simp
    | bl b => simp [k_bool]
    | int i => simp [k_bool, k_int]
    | str z => simp [k_bool, k_int, k_str]
  | succ n ih =>
    intro x y h j hj
    obtain ⟨j, rfl⟩ : ∃ i, j = i + 1 := ⟨j - 1, by omega⟩
    rw [fn_law_like, run_eq]
    simp only [sem_law_like, startD]
    cases h with
    | non => simp
    | bl b => simp [k_bool]
    | int i => simp [k_bool, k_int]
    | str z => simp [k_bool, k_int, k_str]
    | @tup _ xs ys hl hz h =>
      have q := like_run (S := S) (n := n) (x := .tup xs) (y := .tup ys) (fn_law_like j) hl hz (fun _ => rfl) (fun _ => rfl) rfl rfl fun i a b h1 h2 => ih (h i a b h1 h2) j (by omega)
      have rr : smR (ys.length : Int) = true := smR_nat (by omega)
      simp [k_bool, k_int, k_str, k_dict, k_tuple, k_list, hl, rr, wipeD, q, all_bl]
    | @lst _ _ _ xs ys h1 h2 hl hz h =>
      obtain ⟨a1, a2, a3, a4, a5⟩ := ls_kd h1
      obtain ⟨b1, b2, b3, b4, b5⟩ := ls_kd h2
      have q := like_run (S := S) (n := n) (x := x) (y := y) (fn_law_like j) hl hz a4 b4 a5 b5 fun i a b h1 h2 => ih (h i a b h1 h2) j (by omega)
      have rr : smR (ys.length : Int) = true := smR_nat (by omega)
      simp [a1, a2, a5, b1, b2, b3, b5, k_bool, k_int, k_str, k_dict, k_tuple, k_list, hl, rr, wipeD, q, all_bl]
    | @dct _ _ _ ks ls f g h1 h2 k1 k2 hl hz hv h =>
      have nb := kd_nb k2 (by intro z; cases z)
      simp [nb, h1, h2, k1, k2, k_bool, k_int, k_str, k_dict, hl, wipeD]
      generalize hx : compL _ _ _ _ _ _ _ _ = w
      obtain ⟨zs, S2, rfl, rfl, rfl⟩ := Ok.g hx (compM (fun kv : Key × D => keyD kv.1) (fun _ => D.bl true) grd_none (fun kv hkv => ⟨_, rfl, by
        obtain ⟨v1, v2⟩ := hv kv hkv
        have r1 := ih (h kv hkv) j (by omega)
        simp [h1, h2, rInA2_some key_keyD, rIxA_key key_keyD, v1, v2, r1]⟩) (Nat.le_trans (by omega) (show 1000000 ≤ sizeLine by decide)))
      simp [all_bl]
end G
namespace G
open PySem L2
/-! ### pages that a law draws -/
/-- plain data of at most n levels -/
inductive Dat : Nat → D → Prop
  | non {n : Nat} : Dat n .non
  | bl {n : Nat} (b : Bool) : Dat n (.bl b)
  | int {n : Nat} (i : Int) : Dat n (.int i)
  | str {n : Nat} (x : Str) : Dat n (.str x)
  | tup {n : Nat} {xs : List D} : xs.length ≤ 1000000 → (∀ x ∈ xs, Dat n x) → Dat (n + 1) (.tup xs)
theorem Dat.sm {S : Store} : ∀ {n : Nat} {d : D}, Dat n d → Sm S n d d
  | _, _, .non => .non
  | _, _, .bl b => .bl b
  | _, _, .int i => .int i
  | _, _, .str x => .str x
  | _, _, .tup hl h => .tup rfl hl fun i x y h1 h2 => by
    rw [h1] at h2
    cases h2
    exact Dat.sm (h x (List.mem_of_getElem? h1))
theorem Dat.up {m : Nat} : ∀ {n : Nat} {d : D}, Dat n d → n ≤ m → Dat m d := by
  induction m with
  | zero =>
    intro n d h hm
    obtain rfl : n = 0 := by omega
    exact h
  | succ m ih =>
    intro n d h hm
    cases h with
    | non => exact .non
    | bl b => exact .bl b
    | int i => exact .int i
    | str x => exact .str x
    | tup hl h => exact .tup hl fun x hx => ih (h x hx) (by omega)
/-- a page: what is_page takes, with plain data -/
theorem log_small : ∀ n : Nat, n ≤ 1000 → n.log2 < 9000 := by decide +kernel
abbrev PoolAt (S : Store) : Prop := ∃ m, sg S 0 = some m ∧ Pool m
/-- a draw: a number below many; only the pool changes -/
structure Drawn (z : Int) (S : Store) (d : D) (S' : Store) : Prop where
  ex : ∃ r : Nat, d = .int r ∧ (r : Int) < z
  pool : PoolAt S'
  fr : Fr [0] S S'
  len : S'.length = S.length
theorem draw {ns : List Int} {S : Store} {z : Int} (hp : PoolAt S) (h0 : 0 < z := by decide) (h1 : z ≤ 1000 := by decide) : Ok (fn_law_take [.scr ns, .ref 0, .int z] S) (Drawn z S) := by
  obtain ⟨m, hS, hp⟩ := hp
  obtain ⟨many, rfl⟩ := Int.eq_ofNat_of_zero_le (Int.le_of_lt h0)
  obtain ⟨r, m', e, g1, l1, p1⟩ := take_ok ns 0 S m (many : Int) hS hp h0 (log_small many (by omega))
  obtain ⟨r, rfl⟩ := Int.eq_ofNat_of_zero_le g1
  exact Ok.of e ⟨⟨r, rfl, l1⟩, ⟨m', sg_sp (sg_lt hS), p1⟩, Fr.put (by simp), sp_len⟩
theorem atI_mem {α : Type} {xs : List α} {r : Nat} (h : r < xs.length) : ∃ x, atI xs (r : Int) = some x ∧ x ∈ xs := ⟨xs[r], atI_nat (List.getElem?_eq_getElem h), List.getElem_mem h⟩
end G
namespace G
open PySem L2
/-! ### orders that stand: the plain law -/
abbrev Prt := Str × Bool
def wayS (b : Bool) : Str := if b = true then "up" else "down"
def prtD (p : Prt) : D := .tup [.str p.1, .str (wayS p.2)]
inductive Sx where
  | srt (o : List Prt)
  | flp
  | oth
def tw (t : Bool) (l : List Prt) : List Prt := if t = true then l.map fun p => (p.1, !p.2) else l
def nms (l : List Prt) : List Str := l.map (·.1)
def notin (k : List Str) (l : List Prt) : List Prt := l.filter fun p => !decide (p.1 ∈ k)
def stand1 (f : List Prt) : Sx → List Prt
  | .srt o => o ++ notin (nms o) f
  | .flp => tw true f
  | .oth => f
def stand (l : List Sx) : List Prt := l.foldl stand1 []
def back : List Sx → List Prt → Bool → List Prt
  | [], f, _ => f
  | .srt o :: l, f, t => back l (f ++ tw t (notin (nms f) o)) t
  | .flp :: l, f, t => back l f (!t)
  | .oth :: l, f, t => back l f t
theorem tw_app (t : Bool) (l m : List Prt) : tw t (l ++ m) = tw t l ++ tw t m := by cases t <;> simp [tw]
theorem tw_nms (t : Bool) (l : List Prt) : nms (tw t l) = nms l := by
  cases t with
  | false => rfl
  | true => simp [tw, nms]
theorem tw_notin (t : Bool) (k : List Str) (l : List Prt) : notin k (tw t l) = tw t (notin k l) := by
  cases t with
  | false => rfl
  | true =>
    unfold notin tw
    simp only [if_true]
    rw [List.filter_map]
    rfl
theorem tw_tw (t : Bool) (l : List Prt) : tw t (tw true l) = tw (!t) l := by
  cases t with
  | false => rfl
  | true =>
    unfold tw
    simp only [if_true, Bool.not_true, Bool.false_eq_true, if_false, List.map_map]
    rw [show ((fun p : Prt => (p.1, !p.2)) ∘ fun p => (p.1, !p.2)) = id from funext fun p => by simp, List.map_id]
theorem notin_nil (l : List Prt) : notin [] l = l := by simp [notin]
theorem notin_two (k : List Str) (o s : List Prt) (t : Bool) : notin (k ++ nms (tw t (notin k o))) s = notin k (notin (nms o) s) := by
  rw [tw_nms]
  unfold notin
  rw [List.filter_filter]
  apply List.filter_congr
  intro p _
  rw [Bool.eq_iff_iff]
  simp only [Bool.not_eq_true', decide_eq_false_iff_not, Bool.and_eq_true, List.mem_append, not_or]
  constructor
  · rintro ⟨h1, h2⟩
    refine ⟨h1, fun h3 => h2 ?_⟩
    obtain ⟨q, hq, e⟩ := List.mem_map.mp h3
    exact List.mem_map.mpr ⟨q, List.mem_filter.mpr ⟨hq, by rw [e]; simpa using h1⟩, e⟩
  · rintro ⟨h1, h2⟩
    refine ⟨h1, fun h3 => h2 ?_⟩
    obtain ⟨q, hq, e⟩ := List.mem_map.mp h3
    exact List.mem_map.mpr ⟨q, (List.mem_filter.mp hq).1, e⟩
theorem notin_app (k : List Str) (l m : List Prt) : notin k (l ++ m) = notin k l ++ notin k m := by simp [notin]
theorem stand_snoc (l : List Sx) (x : Sx) : stand (l ++ [x]) = stand1 (stand l) x := by simp [stand]
theorem back_stand : ∀ (l : List Sx) (f : List Prt) (t : Bool), back l f t = f ++ tw t (notin (nms f) (stand l.reverse))
  | [], f, t => by cases t <;> simp [back, stand, tw, notin]
  | .srt o :: l, f, t => by
    unfold back
    rw [back_stand l, List.reverse_cons, stand_snoc]
    unfold stand1
    rw [notin_app, tw_app, List.append_assoc]
    congr 2
    have e : nms (f ++ tw t (notin (nms f) o)) = nms f ++ nms (tw t (notin (nms f) o)) := by simp [nms]
    rw [e, notin_two]
  | .flp :: l, f, t => by
    unfold back
    rw [back_stand l, List.reverse_cons, stand_snoc]
    unfold stand1
    rw [tw_notin, tw_tw]
  | .oth :: l, f, t => by
    unfold back
    rw [back_stand l, List.reverse_cons, stand_snoc]
    rfl
theorem back_ok (l : List Sx) : back l.reverse [] false = stand l := by
  rw [back_stand, List.reverse_reverse]
  show [] ++ notin [] (stand l) = _
  rw [notin_nil]
  rfl
/-! sizes -/
def nm3 : List Str := ["a", "b", "r.x"]
structure Gd (o : List Prt) : Prop where
  nd : (nms o).Nodup
  mem : ∀ x ∈ nms o, x ∈ nm3
def Sx.gd : Sx → Prop
  | .srt o => Gd o
  | _ => True
theorem Gd.tw {o : List Prt} (h : Gd o) (t : Bool) : Gd (tw t o) := ⟨by rw [tw_nms]; exact h.nd, by rw [tw_nms]; exact h.mem⟩
theorem nms_notin_sub {k : List Str} {f : List Prt} {x : Str} (h : x ∈ nms (notin k f)) : x ∈ nms f ∧ x ∉ k := by
  obtain ⟨p, hp, rfl⟩ := List.mem_map.mp h
  obtain ⟨h1, h2⟩ := List.mem_filter.mp hp
  exact ⟨List.mem_map_of_mem h1, by simpa using h2⟩
theorem nms_notin_nd {k : List Str} {f : List Prt} (h : (nms f).Nodup) : (nms (notin k f)).Nodup := by
  unfold nms notin
  exact List.Sublist.nodup (List.Sublist.map _ List.filter_sublist) h
theorem Gd.app {o f : List Prt} (h : Gd o) (h' : Gd f) : Gd (o ++ notin (nms o) f) := by
  have e : nms (o ++ notin (nms o) f) = nms o ++ nms (notin (nms o) f) := by simp [nms]
  refine ⟨?_, ?_⟩
  · rw [e, List.nodup_append]
    refine ⟨h.nd, nms_notin_nd h'.nd, fun a ha b hb e => ?_⟩
    subst e
    exact (nms_notin_sub hb).2 ha
  · intro x hx
    rw [e] at hx
    rcases List.mem_append.mp hx with hx | hx
    · exact h.mem x hx
    · exact h'.mem x (nms_notin_sub hx).1
theorem stand_gd {l : List Sx} (h : ∀ x ∈ l, x.gd) : Gd (stand l) := by
  have key : ∀ (l : List Sx) (f : List Prt), Gd f → (∀ x ∈ l, x.gd) → Gd (l.foldl stand1 f) := by
    intro l
    induction l with
    | nil => exact fun f hf _ => hf
    | cons x l ih =>
      intro f hf hx
      refine ih _ ?_ fun y hy => hx y (by simp [hy])
      have hx0 := hx x (by simp)
      cases x with
      | srt o => exact Gd.app hx0 hf
      | flp => exact hf.tw true
      | oth => exact hf
  exact key l [] ⟨.nil, fun x hx => by cases hx⟩ h
theorem nd_len : ∀ {l m : List Str}, l.Nodup → (∀ x ∈ l, x ∈ m) → l.length ≤ m.length
  | [], _, _, _ => Nat.zero_le _
  | a :: l, m, hn, hs => by
    have ha := hs a (by simp)
    have hn' := List.nodup_cons.mp hn
    have ih := nd_len (m := m.erase a) hn'.2 fun x hx => (List.mem_erase_of_ne (fun e : x = a => hn'.1 (by rw [← e]; exact hx))).mpr (hs x (by simp [hx]))
    have hl := List.length_erase_of_mem ha
    have : 0 < m.length := List.length_pos_of_mem ha
    simp only [List.length_cons]
    omega
theorem Gd.len {o : List Prt} (h : Gd o) : o.length ≤ 3 := by
  have := nd_len h.nd h.mem
  simpa [nms, nm3] using this
theorem stand_two (l : List Sx) : stand (l ++ [.flp, .flp]) = stand l := by
  rw [show l ++ [Sx.flp, .flp] = (l ++ [.flp]) ++ [.flp] by simp, stand_snoc, stand_snoc]
  unfold stand1
  rw [tw_tw]
  rfl
end G
namespace G
open PySem L2
/-! ### tests -/
abbrev tst (k : Str) (d p : List D) : D := .ins "Test" [("_kind", .str k), ("_data", .tup d), ("_parts", .tup p)]
inductive At where
  | cmp (p op : Str) (v : D)
  | agn (p op q : Str) (m : Int)
  | amg (p : Str) (vs : List D)
  | bgn (p t : Str)
  | emp (p : Str)
  | cst (w : Str)
inductive Sp where
  | lf (a : At)
  | and (x y : Sp)
  | or (x y : Sp)
  | not (x : Sp)
  | sure (x : Sp)
def At.t : At → D
  | .cmp p op v => tst "compare" [.str p, .str op, v] []
  | .agn p op q m => tst "against" [.str p, .str op, .str q, .int m] []
  | .amg p vs => tst "among" [.str p, .tup vs] []
  | .bgn p t => tst "begins" [.str p, .str t] []
  | .emp p => tst "empty" [.str p] []
  | .cst w => tst w [] []
def Sp.t : Sp → D
  | .lf a => a.t
  | .and x y => tst "and" [] [x.t, y.t]
  | .or x y => tst "or" [] [x.t, y.t]
  | .not x => tst "not" [] [x.t]
  | .sure x => tst "sure" [] [x.t]
def Sp.lv : Sp → List At
  | .lf a => [a]
  | .and x y => x.lv ++ y.lv
  | .or x y => x.lv ++ y.lv
  | .not x => x.lv
  | .sure x => x.lv
def Sp.ht : Sp → Nat
  | .lf _ => 0
  | .and x y => max x.ht y.ht + 1
  | .or x y => max x.ht y.ht + 1
  | .not x => x.ht + 1
  | .sure x => x.ht + 1
theorem At.isIns (a : At) : ∃ k d, a.t = tst k d [] := by cases a <;> exact ⟨_, _, rfl⟩
section
variable {S : Store} {k d p : D} {fs : List (Str × D)}
theorem tinit : fn_Test_init [.ref S.length, k, d, p] (S ++ [.ins "Test" []]) = .ok .non (S ++ [.ins "Test" [("_kind", k), ("_data", d), ("_parts", p)]]) := by
  unfold fn_Test_init
  rw [run_eq]
  simp only [sem_Test_init, startD]
  simp [putFD]
theorem atoms_at {a : At} {j : Nat} : fn_Test_atoms (j + 1) [a.t] S = .ok (.lst [a.t]) S := by
  obtain ⟨k, d, e⟩ := a.isIns
  rw [e]
  unfold fn_Test_atoms
  rw [run_eq]
  simp only [sem_Test_atoms, startD]
  simp
theorem flat_len {α β : Type} (f : α → β) : ∀ ls : List (List α), (ls.map fun l => l.map f).flatten = ls.flatten.map f
  | [] => rfl
  | l :: ls => by
    rw [List.map_cons, List.flatten_cons, List.flatten_cons, List.map_append, flat_len f ls]
theorem Sp.isIns (s : Sp) : ∃ k d p, s.t = tst k d p := by
  cases s with
  | lf a => obtain ⟨k, d, e⟩ := a.isIns; exact ⟨k, d, [], e⟩
  | _ => exact ⟨_, _, _, rfl⟩
theorem comp_id {ds : List D} {i k : Nat} {ρ : Sl} (hi : i < ρ.length) (hz : k + ds.length ≤ sizeLine) : compL ⟨ds, none⟩ (ptN i) mYes (mVar i) ρ ds k S = .ok ds S := by
  have c := comp_pure (it := ⟨ds, none⟩) (p := ptN i) (t := mYes) (e := mVar i) (ρ := ρ) (S := S) grd_none id id (fun _ => true) ds k (fun d _ => ⟨_, rfl, rfl, fun _ => by
    unfold mVar
    simp [List.getElem?_set_self hi]⟩) hz
  rw [List.map_id, List.filter_eq_self.mpr (fun _ _ => rfl), List.map_id] at c
  exact c
theorem atoms_of {k : Str} {xs : List Sp} {j : Nat} (h0 : xs ≠ []) (h : ∀ x ∈ xs, fn_Test_atoms j [x.t] S = .ok (.lst (x.lv.map At.t)) S) (hz : ((xs.map Sp.lv).flatten).length ≤ 1000) :
    fn_Test_atoms (j + 1) [tst k [] (xs.map Sp.t)] S = .ok (.lst ((xs.map Sp.lv).flatten.map At.t)) S := by
  have ne : (xs.map Sp.t).isEmpty = false := by
    cases xs with
    | nil => exact absurd rfl h0
    | cons a l => rfl
  have ef : (xs.map fun x => x.lv.map At.t).flatten = (xs.map Sp.lv).flatten.map At.t := by
    rw [← flat_len, List.map_map]
    rfl
  have c := comp2_pure (it := ⟨xs.map Sp.t, none⟩) (p := ptN 1) (t := mYes) (mi1 := mIt (mMeth [("Test", fn_Test_atoms j)] "atoms" 1 (mVar 1) mNil)) (p1 := ptN 2) (t1 := mYes) (e := mVar 2) (vs1 := [2]) (ρ := [some (tst k [] (xs.map Sp.t)), none, none]) (S := S) grd_none Sp.t (fun x => x.lv.map At.t) xs 0
    (fun x hx => by
      obtain ⟨k1, d1, p1, e1⟩ := x.isIns
      have h1 := h x hx
      rw [e1] at h1
      refine ⟨_, ⟨x.lv.map At.t, none⟩, rfl, rfl, ?_, fun k hk => comp_id (by simp [wipeD]) hk⟩
      simp [e1, h1]) (by rw [ef, List.length_map]; exact sz (by omega))
  rw [ef] at c
  unfold fn_Test_atoms
  rw [run_eq]
  simp only [sem_Test_atoms, startD]
  simp [ne, wipeD, c]
theorem atoms_ok : ∀ (s : Sp) (j : Nat), s.ht < j → s.lv.length ≤ 1000 → fn_Test_atoms j [s.t] S = .ok (.lst (s.lv.map At.t)) S
  | s, 0, h, _ => absurd h (Nat.not_lt_zero _)
  | .lf a, j + 1, _, _ => by simpa [Sp.t, Sp.lv] using atoms_at
  | .and x y, j + 1, h, hz => by
    simp only [Sp.ht] at h
    simp only [Sp.lv, List.length_append] at hz
    have := atoms_of (S := S) (k := "and") (xs := [x, y]) (j := j) (by simp) (fun z hz' => by
      simp only [List.mem_cons, List.not_mem_nil, or_false] at hz'
      rcases hz' with rfl | rfl
      · exact atoms_ok _ j (by omega) (by omega)
      · exact atoms_ok _ j (by omega) (by omega)) (by simp; omega)
    simpa [Sp.t, Sp.lv] using this
  | .or x y, j + 1, h, hz => by
    simp only [Sp.ht] at h
    simp only [Sp.lv, List.length_append] at hz
    have := atoms_of (S := S) (k := "or") (xs := [x, y]) (j := j) (by simp) (fun z hz' => by
      simp only [List.mem_cons, List.not_mem_nil, or_false] at hz'
      rcases hz' with rfl | rfl
      · exact atoms_ok _ j (by omega) (by omega)
      · exact atoms_ok _ j (by omega) (by omega)) (by simp; omega)
    simpa [Sp.t, Sp.lv] using this
  | .not x, j + 1, h, hz => by
    simp only [Sp.ht] at h
    simp only [Sp.lv] at hz
    have := atoms_of (S := S) (k := "not") (xs := [x]) (j := j) (by simp) (fun z hz' => by
      rw [List.mem_singleton.mp hz']
      exact atoms_ok _ j (by omega) (by omega)) (by simp; omega)
    simpa [Sp.t, Sp.lv] using this
  | .sure x, j + 1, h, hz => by
    simp only [Sp.ht] at h
    simp only [Sp.lv] at hz
    have := atoms_of (S := S) (k := "sure") (xs := [x]) (j := j) (by simp) (fun z hz' => by
      rw [List.mem_singleton.mp hz']
      exact atoms_ok _ j (by omega) (by omega)) (by simp; omega)
    simpa [Sp.t, Sp.lv] using this
theorem ints_map : ∀ l : List Int, intsO (l.map D.int) = some l
  | [] => rfl
  | a :: l => by
    rw [List.map_cons]
    unfold intsO
    rw [ints_map l]
    rfl
theorem mx_nat : ∀ (l : List Nat) (n : Nat), (l.map fun x : Nat => (x : Int)).foldl (fun a b => if a < b then b else a) (n : Int) = ((l.foldl max n : Nat) : Int)
  | [], n => rfl
  | m :: l, n => by
    rw [List.map_cons, List.foldl_cons, List.foldl_cons]
    have : (if (n : Int) < m then (m : Int) else n) = ((max n m : Nat) : Int) := by
      split <;> omega
    rw [this]
    exact mx_nat l _
theorem levels_of {k : Str} {xs : List Sp} {d : List D} {j : Nat} (h : ∀ x ∈ xs, fn_Test_levels j [x.t] S = .ok (.int x.ht) S) (hz : xs.length ≤ 2) :
    fn_Test_levels (j + 1) [tst k d (xs.map Sp.t)] S = .ok (.int ((xs.map fun x => x.ht + 1).foldl max 0 : Nat)) S := by
  have c := comp_pure (it := ⟨xs.map Sp.t, none⟩) (p := ptN 1) (t := mYes) (e := mOp addD (mMeth [("Test", fn_Test_levels j)] "levels" 1 (mVar 1) mNil) (mC (.int 1))) (ρ := [some (tst k d (xs.map Sp.t)), none]) (S := S) grd_none Sp.t (fun x => .int ((x.ht + 1 : Nat) : Int)) (fun _ => true) xs 0
    (fun x hx => by
      obtain ⟨k1, d1, p1, e1⟩ := x.isIns
      have h1 := h x hx
      rw [e1] at h1
      refine ⟨_, rfl, rfl, fun _ => ?_⟩
      simp [e1, h1]) (sz (by omega))
  rw [List.filter_eq_self.mpr (fun _ _ => rfl)] at c
  have zl : 1 + xs.length ≤ sizeLine := sz (by omega)
  unfold fn_Test_levels
  rw [run_eq]
  simp only [sem_Test_levels, startD]
  have ei : intsO (.int 0 :: xs.map (fun x => D.int ((x.ht : Int) + 1))) = some (0 :: xs.map (fun x => (x.ht : Int) + 1)) := by
    have := ints_map (0 :: xs.map (fun x => (x.ht : Int) + 1))
    rw [List.map_cons, List.map_map] at this
    exact this
  have em : mxI (0 :: xs.map (fun x => (x.ht : Int) + 1)) = some (((xs.map fun x => x.ht + 1).foldl max 0 : Nat) : Int) := by
    have := mx_nat (xs.map fun x => x.ht + 1) 0
    rw [List.map_map] at this
    unfold mxI
    exact congrArg some this
  simp [wipeD, c, zl, exD, lsOf, ei, em]
theorem levels_ok : ∀ (s : Sp) (j : Nat), s.ht < j → fn_Test_levels j [s.t] S = .ok (.int s.ht) S
  | s, 0, h => absurd h (Nat.not_lt_zero _)
  | .lf a, j + 1, _ => by
    obtain ⟨k, d, e⟩ := a.isIns
    have := levels_of (S := S) (k := k) (xs := []) (d := d) (j := j) (by simp) (by simp)
    simpa [Sp.t, Sp.ht, e] using this
  | .and x y, j + 1, h => by
    simp only [Sp.ht] at h
    have := levels_of (S := S) (k := "and") (xs := [x, y]) (d := []) (j := j) (fun z hz' => by
      simp only [List.mem_cons, List.not_mem_nil, or_false] at hz'
      rcases hz' with rfl | rfl
      · exact levels_ok _ j (by omega)
      · exact levels_ok _ j (by omega)) (by simp)
    have e : [x.ht + 1, y.ht + 1].foldl max 0 = max x.ht y.ht + 1 := by simp
    simp only [List.map_cons, List.map_nil, e] at this
    exact this
  | .or x y, j + 1, h => by
    simp only [Sp.ht] at h
    have := levels_of (S := S) (k := "or") (xs := [x, y]) (d := []) (j := j) (fun z hz' => by
      simp only [List.mem_cons, List.not_mem_nil, or_false] at hz'
      rcases hz' with rfl | rfl
      · exact levels_ok _ j (by omega)
      · exact levels_ok _ j (by omega)) (by simp)
    have e : [x.ht + 1, y.ht + 1].foldl max 0 = max x.ht y.ht + 1 := by simp
    simp only [List.map_cons, List.map_nil, e] at this
    exact this
  | .not x, j + 1, h => by
    simp only [Sp.ht] at h
    have := levels_of (S := S) (k := "not") (xs := [x]) (d := []) (j := j) (fun z hz' => by
      rw [List.mem_singleton.mp hz']
      exact levels_ok _ j (by omega)) (by simp)
    simpa [Sp.t, Sp.ht] using this
  | .sure x, j + 1, h => by
    simp only [Sp.ht] at h
    have := levels_of (S := S) (k := "sure") (xs := [x]) (d := []) (j := j) (fun z hz' => by
      rw [List.mem_singleton.mp hz']
      exact levels_ok _ j (by omega)) (by simp)
    simpa [Sp.t, Sp.ht] using this
/-- the test is neither too large nor too deep -/
def Sp.fine (s : Sp) : Prop := s.lv.length ≤ 48 ∧ s.ht ≤ 24
theorem limited_ok {s : Sp} (h : s.fine) : fn_limited [s.t] S = .ok s.t S := by
  obtain ⟨h1, h2⟩ := h
  have ha := atoms_ok (S := S) s 30 (by omega) (by omega)
  have hl := levels_ok (S := S) s 30 (by omega)
  obtain ⟨k, d, p, e⟩ := s.isIns
  rw [e] at ha hl ⊢
  unfold fn_limited
  rw [run_eq]
  simp only [sem_limited, startD]
  simp [ha, hl, c_MOST_ATOMS, c_MOST_LEVELS]
  have g1 : ¬ (48 : Int) < s.lv.length := by omega
  have g2 : ¬ (24 : Int) < s.ht := by omega
  simp [g1, g2]
  rw [hl]
  simp [g2]
end
end G
namespace G
open PySem L2
/-! ### the makers of tests -/
structure Pth (t : Str) : Prop where
  len : t.length ≤ 900
  ok : rp (Txt.split t ".") = true
  so : PyData.strOk t = true
def opsL : List Str := ["<", "<=", "==", "!=", ">", ">="]
inductive Val : D → Str → Prop
  | n (i : Int) : Val (.int i) "number"
  | t (x : Str) (h : x.length ≤ 1000) (h1 : txB x = true) : Val (.str x) "text"
inductive At.wf : At → Prop
  | cmp {p op v k} : Pth p → op ∈ opsL → Val v k → wf (.cmp p op v)
  | agn {p op q m} : Pth p → op ∈ opsL → Pth q → q ≠ p → wf (.agn p op q m)
  | amg {p vs} : Pth p → vs ≠ [] → vs.length ≤ 8 → (∀ v ∈ vs, ∃ k, Val v k) → wf (.amg p vs)
  | bgn {p t} : Pth p → t.length ≤ 1000 → txB t = true → wf (.bgn p t)
  | emp {p} : Pth p → wf (.emp p)
  | cst {w} : w ∈ (["always", "never", "unsure"] : List Str) → wf (.cst w)
section
variable {S : Store}
theorem need_path_ok {p : Str} (h : Pth p) : fn_need_path [.str p] S = .ok .non S := by
  unfold fn_need_path
  rw [run_eq]
  simp only [sem_need_path, startD]
  simp [is_path_ok h.len, h.ok]
theorem need_op_ok {p : Str} (h : p ∈ opsL) : fn_need_operator [.str p] S = .ok .non S := by
  have e : notInD (.str p) c_OPERATORS S = .ok (.bl false) S := by
    simp only [opsL, List.mem_cons, List.not_mem_nil, or_false] at h
    rcases h with rfl | rfl | rfl | rfl | rfl | rfl <;> exact nrfl rfl
  unfold fn_need_operator
  rw [run_eq]
  simp only [sem_need_operator, startD]
  simp [e, k_str]
theorem Val.kind {v : D} {k : Str} (h : Val v k) : fn_kind_of [v] S = .ok (.str k) S := by
  cases h with
  | n i => exact kind_int
  | t x h h1 =>
    rw [kind_text h, if_pos h1]
theorem compare_ok {p op : Str} {v : D} {k : Str} (hp : Pth p) (ho : op ∈ opsL) (hv : Val v k) : fn_compare [.str p, .str op, v] S = .ok (At.cmp p op v).t (S ++ [.dead]) := by
  unfold fn_compare
  rw [run_eq]
  simp only [sem_compare, startD]
  simp [need_path_ok hp, need_op_ok ho, hv.kind, tinit, At.t]
theorem against_ok {p op q : Str} {m : Int} (hp : Pth p) (ho : op ∈ opsL) (hq : Pth q) (hn : q ≠ p) : fn_against [.str p, .str op, .str q, .int m] S = .ok (At.agn p op q m).t (S ++ [.dead]) := by
  have hi : fn_is_integer [.int m] S = .ok (.bl true) S := by
    unfold fn_is_integer
    rw [run_eq]
    simp only [sem_is_integer, startD]
    simp [k_int, k_bool]
  unfold fn_against
  rw [run_eq]
  simp only [sem_against, startD]
  simp [need_path_ok hp, need_op_ok ho, is_path_ok hq.len, hq.ok, hn, hi, tinit, At.t]
theorem seq_lst {xs : List D} : fn_is_sequence [.lst xs] S = .ok (.bl true) S := by
  unfold fn_is_sequence
  rw [run_eq]
  simp only [sem_is_sequence, startD]
  simp [k_list_tuple]
theorem seq_tup {xs : List D} : fn_is_sequence [.tup xs] S = .ok (.bl true) S := by
  unfold fn_is_sequence
  rw [run_eq]
  simp only [sem_is_sequence, startD]
  simp [k_list_tuple]
theorem among_ok {p : Str} {vs : List D} (hp : Pth p) (h0 : vs ≠ []) (h8 : vs.length ≤ 8) (hv : ∀ v ∈ vs, ∃ k, Val v k) : fn_among [.str p, .lst vs] S = .ok (At.amg p vs).t (S ++ [.dead]) := by
  have hl : 0 < vs.length := List.length_pos_iff.mpr h0
  have c := comp_pure (it := ⟨vs, none⟩) (p := ptN 2) (t := mYes) (e := mOp isND (mFn (ar 1 fn_kind_of) (mCons (mVar 2) mNil)) (mC .non)) (ρ := [some (.str p), some (.lst vs), none]) (S := S) grd_none id (fun _ => .bl false) (fun _ => true) vs 0
    (fun x hx => by
      obtain ⟨k, hk⟩ := hv x hx
      refine ⟨_, rfl, rfl, fun _ => ?_⟩
      simp [hk.kind]) (sz (by omega))
  rw [List.map_id, List.filter_eq_self.mpr (fun _ _ => rfl)] at c
  have ea : anyD [.lst (vs.map fun _ => D.bl false)] S = .ok (.bl false) S := by
    show ofO ((blsO (vs.map fun _ => .bl false)).map fun bs => D.bl (bs.any id)) S = _
    rw [bls_map (fun _ => false)]
    simp
  have g1 : (1 : Int) ≤ vs.length := by omega
  have g2 : (vs.length : Int) ≤ 8 := by omega
  unfold fn_among
  rw [run_eq]
  simp only [sem_among, startD]
  simp [need_path_ok hp, seq_lst, c_MOST_VALUES, g1, g2, wipeD, c, ea, tinit, At.t]
theorem empty_ok {p : Str} (hp : Pth p) : fn_empty [.str p] S = .ok (At.emp p).t (S ++ [.dead]) := by
  unfold fn_empty
  rw [run_eq]
  simp only [sem_empty, startD]
  simp [need_path_ok hp, tinit, At.t]
theorem always_ok : fn_always [] S = .ok (At.cst "always").t (S ++ [.dead]) := by
  unfold fn_always
  rw [run_eq]
  simp only [sem_always, startD]
  simp [tinit, At.t]
theorem combine_and {x y : Sp} (h : (Sp.and x y).fine) : fn_combine [.str "and", x.t, y.t] S = .ok (Sp.and x y).t (S ++ [.dead]) := by
  have hl := limited_ok (S := S ++ [.dead]) h
  obtain ⟨k, d, p, e⟩ := y.isIns
  simp only [Sp.t, e] at hl ⊢
  unfold fn_combine
  rw [run_eq]
  simp only [sem_combine, startD]
  simp [tinit, hl]
theorem combine_or {x y : Sp} (h : (Sp.or x y).fine) : fn_combine [.str "or", x.t, y.t] S = .ok (Sp.or x y).t (S ++ [.dead]) := by
  have hl := limited_ok (S := S ++ [.dead]) h
  obtain ⟨k, d, p, e⟩ := y.isIns
  simp only [Sp.t, e] at hl ⊢
  unfold fn_combine
  rw [run_eq]
  simp only [sem_combine, startD]
  simp [tinit, hl]
theorem and_ok {x y : Sp} (h : (Sp.and x y).fine) : fn_Test_and [x.t, y.t] S = .ok (Sp.and x y).t (S ++ [.dead]) := by
  unfold fn_Test_and
  rw [run_eq]
  simp only [sem_Test_and, startD]
  simp [combine_and h]
theorem or_ok {x y : Sp} (h : (Sp.or x y).fine) : fn_Test_or [x.t, y.t] S = .ok (Sp.or x y).t (S ++ [.dead]) := by
  unfold fn_Test_or
  rw [run_eq]
  simp only [sem_Test_or, startD]
  simp [combine_or h]
theorem not_ok {x : Sp} (h : (Sp.not x).fine) : fn_Test_invert [x.t] S = .ok (Sp.not x).t (S ++ [.dead]) := by
  have hl := limited_ok (S := S ++ [.dead]) h
  simp only [Sp.t] at hl ⊢
  unfold fn_Test_invert
  rw [run_eq]
  simp only [sem_Test_invert, startD]
  simp [tinit, hl]
theorem sure_ok {x : Sp} (h : (Sp.sure x).fine) : fn_sure [x.t] S = .ok (Sp.sure x).t (S ++ [.dead]) := by
  have hl := limited_ok (S := S ++ [.dead]) h
  obtain ⟨k, d, p, e⟩ := x.isIns
  simp only [Sp.t, e] at hl ⊢
  unfold fn_sure
  rw [run_eq]
  simp only [sem_sure, startD]
  simp [tinit, hl]
end
end G
namespace G
open PySem L2
/-! ### the law's words for tests, and the tests made of them -/
def At.en2 : At → D
  | .cmp p op v => .tup [.str "compare", .str p, .str op, v]
  | .agn p op q m => .tup [.str "against", .str p, .str op, .str q, .int m]
  | .amg p vs => .tup [.str "among", .str p, .tup vs]
  | .bgn p t => .tup [.str "begins", .str p, .str t]
  | .emp p => .tup [.str "empty", .str p]
  | .cst w => .tup [.str w]
def Sp.en2 : Sp → D
  | .lf a => a.en2
  | .and x y => .tup [.str "and", x.en2, y.en2]
  | .or x y => .tup [.str "or", x.en2, y.en2]
  | .not x => .tup [.str "not", x.en2]
  | .sure x => .tup [.str "sure", x.en2]
def Sp.wf (s : Sp) : Prop := ∀ a ∈ s.lv, a.wf
/-- an atom of this law -/
def At.k63 : At → Prop
  | .bgn _ _ => False
  | .cst w => w = "always"
  | _ => True
def Sp.k63 (s : Sp) : Prop := ∀ a ∈ s.lv, a.k63
section
variable {S : Store}
theorem t3_0 {a b c : D} : atI [a, b, c] 0 = some a := rfl
theorem t3_1 {a b c : D} : atI [a, b, c] 1 = some b := rfl
theorem t3_2 {a b c : D} : atI [a, b, c] 2 = some c := rfl
theorem t1_0 {a : D} : atI [a] 0 = some a := rfl
theorem t2_0 {a b : D} : atI [a, b] 0 = some a := rfl
theorem t2_1 {a b : D} : atI [a, b] 1 = some b := rfl
theorem t4_0 {a b c d : D} : atI [a, b, c, d] 0 = some a := rfl
theorem t4_1 {a b c d : D} : atI [a, b, c, d] 1 = some b := rfl
theorem t4_2 {a b c d : D} : atI [a, b, c, d] 2 = some c := rfl
theorem t4_3 {a b c d : D} : atI [a, b, c, d] 3 = some d := rfl
theorem t5_0 {a b c d e : D} : atI [a, b, c, d, e] 0 = some a := rfl
theorem t5_1 {a b c d e : D} : atI [a, b, c, d, e] 1 = some b := rfl
theorem t5_2 {a b c d e : D} : atI [a, b, c, d, e] 2 = some c := rfl
theorem t5_3 {a b c d e : D} : atI [a, b, c, d, e] 3 = some d := rfl
theorem t5_4 {a b c d e : D} : atI [a, b, c, d, e] 4 = some e := rfl
theorem among_tup {p : Str} {vs : List D} (hp : Pth p) (h0 : vs ≠ []) (h8 : vs.length ≤ 8) (hv : ∀ v ∈ vs, ∃ k, Val v k) : fn_among [.str p, .tup vs] S = .ok (At.amg p vs).t (S ++ [.dead]) := by
  have hl : 0 < vs.length := List.length_pos_iff.mpr h0
  have c := comp_pure (it := ⟨vs, none⟩) (p := ptN 2) (t := mYes) (e := mOp isND (mFn (ar 1 fn_kind_of) (mCons (mVar 2) mNil)) (mC .non)) (ρ := [some (.str p), some (.tup vs), none]) (S := S) grd_none id (fun _ => .bl false) (fun _ => true) vs 0
    (fun x hx => by
      obtain ⟨k, hk⟩ := hv x hx
      refine ⟨_, rfl, rfl, fun _ => ?_⟩
      simp [hk.kind]) (sz (by omega))
  rw [List.map_id, List.filter_eq_self.mpr (fun _ _ => rfl)] at c
  have ea : anyD [.lst (vs.map fun _ => D.bl false)] S = .ok (.bl false) S := by
    show ofO ((blsO (vs.map fun _ => .bl false)).map fun bs => D.bl (bs.any id)) S = _
    rw [bls_map (fun _ => false)]
    simp
  have g1 : (1 : Int) ≤ vs.length := by omega
  have g2 : (vs.length : Int) ≤ 8 := by omega
  unfold fn_among
  rw [run_eq]
  simp only [sem_among, startD]
  simp [need_path_ok hp, seq_tup, c_MOST_VALUES, g1, g2, wipeD, c, ea, tinit, At.t]
theorem test_at {a : At} {j : Nat} (h : a.wf) (hk : a.k63) : fn_law_test (j + 1) [a.en2] S = .ok a.t (S ++ [.dead]) := by
  cases h with
  | cmp hp ho hv =>
    unfold fn_law_test
    rw [run_eq]
    simp only [sem_law_test, startD, At.en2]
    simp [t4_0, t4_1, t4_2, t4_3, compare_ok hp ho hv]
  | @agn p op q m hp ho hq hn =>
    unfold fn_law_test
    rw [run_eq]
    simp only [sem_law_test, startD, At.en2]
    simp [t5_0, t5_1, t5_2, t5_3, t5_4, against_ok hp ho hq hn]
  | amg hp h0 h8 hv =>
    unfold fn_law_test
    rw [run_eq]
    simp only [sem_law_test, startD, At.en2]
    simp [t3_0, t3_1, t3_2, among_tup hp h0 h8 hv]
  | bgn hp h1 ht => exact hk.elim
  | emp hp =>
    unfold fn_law_test
    rw [run_eq]
    simp only [sem_law_test, startD, At.en2]
    simp [t2_0, t2_1, empty_ok hp]
  | cst hw =>
    unfold fn_law_test
    rw [run_eq]
    simp only [sem_law_test, startD, At.en2]
    simp only [At.k63] at hk
    subst hk
    simp [t1_0, always_ok]
theorem Ext.dead {S1 : Store} (h : Ext S S1) : Ext S (S1 ++ [.dead]) := h.tr .one
theorem test_ok : ∀ (s : Sp) (j : Nat) (S : Store), s.ht < j → s.fine → s.wf → s.k63 → Ok (fn_law_test j [s.en2] S) fun d S' => d = s.t ∧ Ext S S'
  | s, 0, _, h, _, _, _ => absurd h (Nat.not_lt_zero _)
  | .lf a, j + 1, S, _, _, h, hk => Ok.of (test_at (h a (by simp [Sp.lv])) (hk a (by simp [Sp.lv]))) ⟨rfl, .one⟩
  | .and x y, j + 1, S, h, hf, hw, hk => by
    simp only [Sp.ht] at h
    obtain ⟨f1, f2⟩ := hf
    simp only [Sp.lv, Sp.ht, List.length_append] at f1 f2
    unfold fn_law_test
    rw [run_eq]
    simp only [sem_law_test, startD, Sp.en2]
    simp [t3_0, t3_1, t3_2]
    generalize hx : fn_law_test j _ _ = x1
    obtain ⟨_, S1, rfl, rfl, e1⟩ := Ok.g hx (test_ok x j S (by omega) ⟨by omega, by omega⟩ (fun a ha => hw a (by simp [Sp.lv, ha])) fun a ha => hk a (by simp [Sp.lv, ha]))
    obtain ⟨k1, d1, p1, q1⟩ := x.isIns
    simp [t3_2]
    generalize hy : fn_law_test j _ _ = x2
    obtain ⟨_, S2, rfl, rfl, e2⟩ := Ok.g hy (test_ok y j S1 (by omega) ⟨by omega, by omega⟩ (fun a ha => hw a (by simp [Sp.lv, ha])) fun a ha => hk a (by simp [Sp.lv, ha]))
    obtain ⟨k2, d2, p2, q2⟩ := y.isIns
    have ha := and_ok (S := S2) (x := x) (y := y) ⟨by simp only [Sp.lv, List.length_append]; omega, by simp only [Sp.ht]; omega⟩
    simp only [Sp.t, q1, q2] at ha ⊢
    simp [ha]
    exact (e1.tr e2).dead
  | .or x y, j + 1, S, h, hf, hw, hk => by
    simp only [Sp.ht] at h
    obtain ⟨f1, f2⟩ := hf
    simp only [Sp.lv, Sp.ht, List.length_append] at f1 f2
    unfold fn_law_test
    rw [run_eq]
    simp only [sem_law_test, startD, Sp.en2]
    simp [t3_0, t3_1, t3_2]
    generalize hx : fn_law_test j _ _ = x1
    obtain ⟨_, S1, rfl, rfl, e1⟩ := Ok.g hx (test_ok x j S (by omega) ⟨by omega, by omega⟩ (fun a ha => hw a (by simp [Sp.lv, ha])) fun a ha => hk a (by simp [Sp.lv, ha]))
    obtain ⟨k1, d1, p1, q1⟩ := x.isIns
    simp [t3_2]
    generalize hy : fn_law_test j _ _ = x2
    obtain ⟨_, S2, rfl, rfl, e2⟩ := Ok.g hy (test_ok y j S1 (by omega) ⟨by omega, by omega⟩ (fun a ha => hw a (by simp [Sp.lv, ha])) fun a ha => hk a (by simp [Sp.lv, ha]))
    obtain ⟨k2, d2, p2, q2⟩ := y.isIns
    have ha := or_ok (S := S2) (x := x) (y := y) ⟨by simp only [Sp.lv, List.length_append]; omega, by simp only [Sp.ht]; omega⟩
    simp only [Sp.t, q1, q2] at ha ⊢
    simp [ha]
    exact (e1.tr e2).dead
  | .not x, j + 1, S, h, hf, hw, hk => by
    simp only [Sp.ht] at h
    obtain ⟨f1, f2⟩ := hf
    simp only [Sp.lv, Sp.ht] at f1 f2
    unfold fn_law_test
    rw [run_eq]
    simp only [sem_law_test, startD, Sp.en2]
    simp [t2_0, t2_1]
    generalize hx : fn_law_test j _ _ = x1
    obtain ⟨_, S1, rfl, rfl, e1⟩ := Ok.g hx (test_ok x j S (by omega) ⟨by omega, by omega⟩ (fun a ha => hw a (by simp [Sp.lv, ha])) fun a ha => hk a (by simp [Sp.lv, ha]))
    obtain ⟨k1, d1, p1, q1⟩ := x.isIns
    have ha := not_ok (S := S1) (x := x) ⟨by simp only [Sp.lv]; omega, by simp only [Sp.ht]; omega⟩
    simp only [Sp.t, q1] at ha ⊢
    simp [ha]
    exact e1.dead
  | .sure x, j + 1, S, h, hf, hw, hk => by
    simp only [Sp.ht] at h
    obtain ⟨f1, f2⟩ := hf
    simp only [Sp.lv, Sp.ht] at f1 f2
    unfold fn_law_test
    rw [run_eq]
    simp only [sem_law_test, startD, Sp.en2]
    simp [t2_0, t2_1]
    generalize hx : fn_law_test j _ _ = x1
    obtain ⟨_, S1, rfl, rfl, e1⟩ := Ok.g hx (test_ok x j S (by omega) ⟨by omega, by omega⟩ (fun a ha => hw a (by simp [Sp.lv, ha])) fun a ha => hk a (by simp [Sp.lv, ha]))
    obtain ⟨k1, d1, p1, q1⟩ := x.isIns
    have ha := sure_ok (S := S1) (x := x) ⟨by simp only [Sp.lv]; omega, by simp only [Sp.ht]; omega⟩
    simp only [Sp.t, q1] at ha ⊢
    simp [ha]
    exact e1.dead
end
end G
namespace G
open PySem L2
/-! ### tests are equal just if they have the same form -/
/-- the data of an atom -/
def At.dat : At → List D
  | .cmp p op v => [.str p, .str op, v]
  | .agn p op q m => [.str p, .str op, .str q, .int m]
  | .amg p vs => [.str p, .tup vs]
  | .bgn p t => [.str p, .str t]
  | .emp p => [.str p]
  | .cst _ => []
def At.knd : At → Str
  | .cmp _ _ _ => "compare"
  | .agn _ _ _ _ => "against"
  | .amg _ _ => "among"
  | .bgn _ _ => "begins"
  | .emp _ => "empty"
  | .cst w => w
theorem At.t_eq (a : At) : a.t = tst a.knd a.dat [] := by cases a <;> rfl
def Sp.knd : Sp → Str
  | .lf a => a.knd
  | .and _ _ => "and"
  | .or _ _ => "or"
  | .not _ => "not"
  | .sure _ => "sure"
def Sp.dat : Sp → List D
  | .lf a => a.dat
  | _ => []
def Sp.ps : Sp → List Sp
  | .lf _ => []
  | .and x y => [x, y]
  | .or x y => [x, y]
  | .not x => [x]
  | .sure x => [x]
theorem Sp.t_eq (s : Sp) : s.t = tst s.knd s.dat (s.ps.map Sp.t) := by
  cases s with
  | lf a => exact a.t_eq
  | _ => rfl
theorem txB_ok {x : Str} (h : txB x = true) : PyData.strOk x = true := by
  have hc : ∀ c ∈ cs CH, c < 0x110000 := by decide +kernel
  unfold PyData.strOk
  rw [← Array.all_toList]
  unfold txB at h
  rw [List.all_eq_true] at h ⊢
  intro c hcm
  have := of_decide_eq_true (h c hcm)
  exact decide_eq_true (hc c this)
theorem Val.pl {v : D} {k : Str} (h : Val v k) : Pl 0 v := by
  cases h with
  | n i => exact .int
  | t x h h1 => exact .str (txB_ok h1)
theorem op_ok {op : Str} (h : op ∈ opsL) : PyData.strOk op = true := by
  simp only [opsL, List.mem_cons, List.not_mem_nil, or_false] at h
  rcases h with rfl | rfl | rfl | rfl | rfl | rfl <;> decide +kernel
theorem At.wf.pl {a : At} (h : a.wf) : ∀ d ∈ a.dat, Pl 1 d := by
  cases h with
  | cmp hp ho hv =>
    intro d hd
    simp only [At.dat, List.mem_cons, List.not_mem_nil, or_false] at hd
    rcases hd with rfl | rfl | rfl
    · exact .str hp.so
    · exact .str (op_ok ho)
    · exact hv.pl.mono (by omega)
  | agn hp ho hq hn =>
    intro d hd
    simp only [At.dat, List.mem_cons, List.not_mem_nil, or_false] at hd
    rcases hd with rfl | rfl | rfl | rfl
    · exact .str hp.so
    · exact .str (op_ok ho)
    · exact .str hq.so
    · exact .int
  | amg hp h0 h8 hv =>
    intro d hd
    simp only [At.dat, List.mem_cons, List.not_mem_nil, or_false] at hd
    rcases hd with rfl | rfl
    · exact .str hp.so
    · exact .tup fun v hv' => (hv v hv').elim fun k h => h.pl
  | bgn hp h1 ht =>
    intro d hd
    simp only [At.dat, List.mem_cons, List.not_mem_nil, or_false] at hd
    rcases hd with rfl | rfl
    · exact .str hp.so
    · exact .str (txB_ok ht)
  | emp hp =>
    intro d hd
    simp only [At.dat, List.mem_cons, List.not_mem_nil, or_false] at hd
    rcases hd with rfl
    exact .str hp.so
  | cst hw => intro d hd; cases hd
theorem cst_ok {w : Str} (h : w ∈ (["always", "never", "unsure"] : List Str)) : PyData.strOk w = true := by
  simp only [List.mem_cons, List.not_mem_nil, or_false] at h
  rcases h with rfl | rfl | rfl <;> decide +kernel
theorem kn_ok : PyData.strOk "compare" = true ∧ PyData.strOk "against" = true ∧ PyData.strOk "among" = true ∧ PyData.strOk "begins" = true ∧ PyData.strOk "empty" = true ∧ PyData.strOk "and" = true ∧ PyData.strOk "or" = true ∧ PyData.strOk "not" = true ∧ PyData.strOk "sure" = true := by decide +kernel
theorem At.wf.kok {a : At} (h : a.wf) : PyData.strOk a.knd = true := by
  cases h with
  | cst hw => exact cst_ok hw
  | cmp => exact kn_ok.1
  | agn => exact kn_ok.2.1
  | amg => exact kn_ok.2.2.1
  | bgn => exact kn_ok.2.2.2.1
  | emp => exact kn_ok.2.2.2.2.1
theorem Sp.wf.kok {s : Sp} (h : s.wf) : PyData.strOk s.knd = true := by
  cases s with
  | lf a => exact (h a (by simp [Sp.lv])).kok
  | and => exact kn_ok.2.2.2.2.2.1
  | or => exact kn_ok.2.2.2.2.2.2.1
  | not => exact kn_ok.2.2.2.2.2.2.2.1
  | sure => exact kn_ok.2.2.2.2.2.2.2.2
theorem Sp.wf.pl {s : Sp} (h : s.wf) : Pl 2 (.tup s.dat) := by
  cases s with
  | lf a => exact .tup (h a (by simp [Sp.lv])).pl
  | _ => exact .tup fun d hd => by cases hd
theorem Sp.wf.ps {s : Sp} (h : s.wf) : ∀ x ∈ s.ps, x.wf := by
  cases s with
  | lf a => intro x hx; cases hx
  | and y z =>
    intro x hx
    simp only [Sp.ps, List.mem_cons, List.not_mem_nil, or_false] at hx
    rcases hx with rfl | rfl
    · exact fun a ha => h a (by simp [Sp.lv, ha])
    · exact fun a ha => h a (by simp [Sp.lv, ha])
  | or y z =>
    intro x hx
    simp only [Sp.ps, List.mem_cons, List.not_mem_nil, or_false] at hx
    rcases hx with rfl | rfl
    · exact fun a ha => h a (by simp [Sp.lv, ha])
    · exact fun a ha => h a (by simp [Sp.lv, ha])
  | not y =>
    intro x hx
    rw [Sp.ps, List.mem_singleton] at hx
    subst hx
    exact h
  | sure y =>
    intro x hx
    rw [Sp.ps, List.mem_singleton] at hx
    subst hx
    exact h
theorem Sp.ps_ht {s x : Sp} (h : x ∈ s.ps) : x.ht < s.ht := by
  cases s with
  | lf a => cases h
  | and y z =>
    simp only [Sp.ps, List.mem_cons, List.not_mem_nil, or_false] at h
    simp only [Sp.ht]
    rcases h with rfl | rfl <;> omega
  | or y z =>
    simp only [Sp.ps, List.mem_cons, List.not_mem_nil, or_false] at h
    simp only [Sp.ht]
    rcases h with rfl | rfl <;> omega
  | not y =>
    rw [Sp.ps, List.mem_singleton] at h
    subst h
    simp only [Sp.ht]
    omega
  | sure y =>
    rw [Sp.ps, List.mem_singleton] at h
    subst h
    simp only [Sp.ht]
    omega
/-- the parts of a test may stand as parts -/
theorem Pl.okU {c : Str} {n : Nat} {d : D} (h : Pl n d) : G.okU c d = true := by
  have hs : ∀ ds : List D, (∀ d ∈ ds, G.okU c d = true) → okUs c ds = true := fun ds => by
    induction ds with
    | nil => exact fun _ => rfl
    | cons d ds ih => exact fun h => by unfold okUs; rw [h d (by simp), ih fun e he => h e (by simp [he])]; rfl
  induction h with
  | int => rfl
  | str _ => rfl
  | tup _ ih => unfold G.okU; exact hs _ ih
  | lst _ ih => unfold G.okU; exact hs _ ih
theorem okUs_map {c : Str} : ∀ ds : List D, (∀ d ∈ ds, okU c d = true) → okUs c ds = true
  | [], _ => rfl
  | d :: ds, h => by unfold okUs; rw [h d (by simp), okUs_map ds fun e he => h e (by simp [he])]; rfl
theorem Sp.okU : ∀ (n : Nat) (s : Sp), s.ht < n → s.wf → G.okU "Test" s.t = true
  | 0, _, h, _ => absurd h (Nat.not_lt_zero _)
  | n + 1, s, h, w => by
    rw [s.t_eq]
    have h1 : okUs "Test" s.dat = true := by
      have := w.pl.okU (c := "Test")
      unfold G.okU at this
      exact this
    have h2 : okUs "Test" (s.ps.map Sp.t) = true := okUs_map _ fun d hd => by
      obtain ⟨x, hx, rfl⟩ := List.mem_map.mp hd
      exact Sp.okU n x (by have := Sp.ps_ht hx; omega) (w.ps x hx)
    simp [tst, G.okU, okUf, okUp, h1, h2]
section
open Classical
variable {S : Store}
theorem eqB_ins {c : Str} {fs : List (Str × D)} {d : D} : eqB S (.ins c fs) d = none := by
  unfold eqB
  split
  · rename_i e _; cases e
  · split
    · rename_i e _; cases e
    · rfl
/-- the parts, one by one -/
theorem parts_eq {g : List D → Store → Res D} : ∀ {xs ys : List Sp}, (∀ x ∈ xs, ∀ y ∈ ys, g [x.t, y.t] S = .ok (.bl (decide (x.t = y.t))) S ∧ okU "Test" x.t = true ∧ okU "Test" y.t = true) →
    allO (elO "Test" (rcX "Test" g S 1) S) (xs.map Sp.t) (ys.map Sp.t) = some (decide (xs.map Sp.t = ys.map Sp.t))
  | [], [], _ => by simp [allO]
  | [], y :: ys, _ => by simp [allO]
  | x :: xs, [], _ => by simp [allO]
  | x :: xs, y :: ys, h => by
    obtain ⟨h1, u1, u2⟩ := h x (by simp) y (by simp)
    have ih := parts_eq (g := g) (xs := xs) (ys := ys) fun a ha b hb => h a (by simp [ha]) b (by simp [hb])
    have e0 : eqB S x.t y.t = none := by rw [x.t_eq]; exact eqB_ins
    have er : rcX "Test" g S 1 x.t y.t = some (decide (x.t = y.t)) := by
      have h1' := h1
      rw [x.t_eq, y.t_eq] at h1' ⊢
      unfold rcX
      have okr : okR "Test" S (tst y.knd y.dat (y.ps.map Sp.t)) = true := rfl
      simp only [lsOf, okr, and_self, if_true]
      unfold ownB ar
      simp only [List.length_cons, List.length_nil, if_true]
      rw [h1']
      simp
    have ee : elO "Test" (rcX "Test" g S 1) S x.t y.t = some (decide (x.t = y.t)) := by
      unfold elO
      rw [e0, er]
      by_cases hxy : x.t = y.t
      · simp [hxy]
      · simp [hxy, u1, u2]
    rw [List.map_cons, List.map_cons]
    unfold allO
    rw [ee]
    by_cases hxy : x.t = y.t
    · simp only [hxy, decide_true, ih]
      simp
    · simp [hxy]
theorem eq_ok : ∀ (j : Nat) (s s' : Sp), s.ht < j → s'.ht < j → s.wf → s'.wf → fn_Test_eq j [s.t, s'.t] S = .ok (.bl (decide (s.t = s'.t))) S
  | 0, _, _, h, _, _, _ => absurd h (Nat.not_lt_zero _)
  | j + 1, s, s', h, h', w, w' => by
    have hp := parts_eq (S := S) (g := fn_Test_eq j) (xs := s.ps) (ys := s'.ps) fun x hx y hy =>
      ⟨eq_ok j x y (by have := Sp.ps_ht hx; omega) (by have := Sp.ps_ht hy; omega) (w.ps x hx) (w'.ps y hy), Sp.okU (x.ht + 1) x (by omega) (w.ps x hx), Sp.okU (y.ht + 1) y (by omega) (w'.ps y hy)⟩
    have hd := Pl.eqB (S := S) w.pl w'.pl (by omega) (by omega)
    have hk := Pl.eqB (S := S) (Pl.str (n := 0) w.kok) (Pl.str (n := 0) w'.kok) (by omega) (by omega)
    have hq : eqO "Test" (fn_Test_eq j) 2 (.tup (s.ps.map Sp.t)) (.tup (s'.ps.map Sp.t)) S = .ok (.bl (decide (s.ps.map Sp.t = s'.ps.map Sp.t))) S := by
      cases e0 : eqB S (.tup (s.ps.map Sp.t)) (.tup (s'.ps.map Sp.t)) with
      | none =>
        refine eqO_own e0 ?_
        unfold rcX
        simp only [lsOf]
        exact hp
      | some b =>
        rw [eqO_base e0]
        have ne : s.ps = [] ∧ s'.ps = [] := by
          have hz : ∀ l : List Sp, l ≠ [] → toPy (.tup (l.map Sp.t)) = none := fun l hl => by
            cases l with
            | nil => exact absurd rfl hl
            | cons a l =>
              rw [List.map_cons, a.t_eq]
              rfl
          constructor
          · by_cases q : s.ps = []
            · exact q
            · unfold eqB at e0
              have : toPyS S (.tup (s.ps.map Sp.t)) = none := hz _ q
              rw [this] at e0
              simp [scV] at e0
          · by_cases q : s'.ps = []
            · exact q
            · unfold eqB at e0
              have : toPyS S (.tup (s'.ps.map Sp.t)) = none := hz _ q
              rw [this] at e0
              simp [scV] at e0
        have hb : b = true := by
          rw [ne.1, ne.2] at e0
          have := Pl.eqB (S := S) (d := .tup []) (e := .tup []) (Pl.tup (n := 0) fun d hd => by cases hd) (Pl.tup (n := 0) fun d hd => by cases hd) (by omega) (by omega)
          rw [List.map_nil] at e0
          rw [this] at e0
          simpa using e0.symm
        rw [hb, ne.1, ne.2]
        simp
    rw [s.t_eq, s'.t_eq]
    unfold fn_Test_eq
    rw [run_eq]
    simp only [sem_Test_eq, startD]
    have ekey : decide (tst s.knd s.dat (s.ps.map Sp.t) = tst s'.knd s'.dat (s'.ps.map Sp.t)) = (decide (D.str s.knd = D.str s'.knd) && (decide (D.tup s.dat = D.tup s'.dat) && decide (s.ps.map Sp.t = s'.ps.map Sp.t))) := by
      rw [← Bool.decide_and, ← Bool.decide_and]
      congr 1
      simp
    rw [ekey]
    simp [hk, hd, hq]
    by_cases q1 : s.knd = s'.knd
    · by_cases q2 : s.dat = s'.dat
      · simp [q1, q2, hq]
      · simp [q1, q2]
    · simp [q1]
theorem eq_not {j : Nat} {s : Sp} {d : D} {k : Kd} (h : kd S d = some k) : fn_Test_eq (j + 1) [s.t, d] S = .ok (.bl false) S := by
  rw [s.t_eq]
  have hi : insO S d = none := by
    cases d with
    | ins c fs => cases h
    | ref n =>
      unfold insO
      unfold kd at h
      dsimp only at h ⊢
      cases q : S[n]? with
      | none => rfl
      | some mo =>
        rw [q] at h
        cases mo <;> first | rfl | cases h
    | _ => rfl
  have hc : isCD [("Test", true)] d S = .ok (.bl false) S := by
    unfold isCD
    rw [hi, h]
  unfold fn_Test_eq
  rw [run_eq]
  simp only [sem_Test_eq, startD]
  simp [hc]
end
end G
namespace G
open PySem L2
/-! ### orders that stand: the program's, and the law's -/
inductive SxD : D → Sx → Prop
  | srt {o : List Prt} : SxD (.tup [.str "sort", .tup (o.map prtD)]) (.srt o)
  | flp : SxD (.tup [.str "flip"]) .flp
  | oth {k : Str} {ds : List D} : k ≠ "sort" → k ≠ "flip" → SxD (.tup (.str k :: ds)) .oth
def SxR (ds : List D) (l : List Sx) : Prop := ds.length = l.length ∧ ∀ (i : Nat) (d : D) (x : Sx), ds[i]? = some d → l[i]? = some x → SxD d x
def stD (l : List Prt) : D := .tup (l.map prtD)
section
variable {S : Store}
theorem scVs_strX : ∀ ps : List Str, scVs (ps.map D.str) = some (ps.map V.str)
  | [] => rfl
  | p :: ps => by
    rw [List.map_cons, List.map_cons]
    unfold scVs
    rw [scVs_strX ps]
    rfl
theorem inV_strX (p : Str) : ∀ ps : List Str, inV (.str p) (ps.map V.str) = decide (p ∈ ps)
  | [] => rfl
  | q :: ps => by
    have h := inV_strX p ps
    unfold inV at h ⊢
    rw [List.map_cons, List.any_cons, h]
    have e : eqV (.str q) (.str p) = decide (q = p) := rfl
    rw [e]
    by_cases hq : q = p
    · simp [hq]
    · simp [hq, Ne.symm hq]
theorem notin_lst {p : Str} {ps : List Str} : notInD (.str p) (.lst (ps.map D.str)) S = .ok (.bl (!decide (p ∈ ps))) S := by
  have e : inB S (.str p) (.lst (ps.map D.str)) = some (decide (p ∈ ps)) := by
    show (match scV (.str p), scVs (ps.map D.str) with
      | some v, some vs => some (inV v vs)
      | _, _ => none) = _
    rw [scVs_strX, ← inV_strX]
    rfl
  unfold notInD
  rw [e]
  rfl
theorem s1000 {n : Nat} (h : n ≤ 1000) : n ≤ sizeLine := Nat.le_trans h (sz (n := 1000) (by omega))
theorem pt_0 {p : Prt} : ixO S (prtD p) (.int 0) = some (.str p.1) := rfl
theorem turned_ok {f : List Prt} (h : f.length ≤ 1000) : fn_order_turned [stD f] S = .ok (stD (tw true f)) S := by
  have c := comp_pure (it := ⟨f.map prtD, none⟩) (p := ptT (psC (ptN 1) (psC (ptN 2) psN))) (t := mYes) (e := mFn tupD (mCons (mVar 1) (mCons (mIxK c_TURNED_WAYS (mVar 2)) mNil))) (ρ := [some (stD f), none, none]) (S := S) grd_none prtD (fun p => prtD (p.1, !p.2)) (fun _ => true) f 0
    (fun p hp => ⟨_, rfl, rfl, fun _ => by
      obtain ⟨x, b⟩ := p
      cases b
      · simp [prtD, wayS, c_TURNED_WAYS]
      · simp [prtD, wayS, c_TURNED_WAYS]⟩) (by rw [Nat.zero_add]; exact s1000 h)
  rw [List.filter_eq_self.mpr (fun _ _ => rfl)] at c
  have e : (tw true f).map prtD = f.map fun p => prtD (p.1, !p.2) := by
    unfold tw
    simp only [if_true, List.map_map]
    rfl
  unfold stD at c ⊢
  unfold fn_order_turned
  rw [run_eq]
  simp only [sem_order_turned, startD]
  simp [wipeD, c]
  exact e.symm
inductive StI (x i : D) (l : List Sx) (S : Store) (j : Nat) : Sl → Store → Prop
  | mk {o3 o4 o5 o6 o7 : Option D} : StI x i l S j [some x, some i, some (stD (stand (l.take j))), o3, o4, o5, o6, o7] S
theorem cut_take {ds : List D} {i : Nat} : cutD ds none (some (i : Int)) = ds.take i := by
  unfold cutD
  have e1 : HT.sIx ds.length 0 none = 0 := rfl
  have e2 : HT.sIx ds.length ds.length (some (i : Int)) = min i ds.length := HT.sIx_nat _ _ i
  rw [e1, e2, List.drop_zero, Nat.sub_zero]
  apply List.ext_getElem?
  intro k
  rw [List.getElem?_take, List.getElem?_take]
  by_cases h : k < i
  · by_cases h2 : k < ds.length
    · rw [if_pos (by omega), if_pos h]
    · rw [if_neg (by omega), if_pos h, List.getElem?_eq_none (by omega)]
  · rw [if_neg (by omega), if_neg h]
theorem SxR.take {ds : List D} {l : List Sx} (h : SxR ds l) (i : Nat) : SxR (ds.take i) (l.take i) := by
  refine ⟨by rw [List.length_take, List.length_take, h.1], fun k d x hd hx => ?_⟩
  rw [List.getElem?_take] at hd hx
  by_cases hk : k < i
  · rw [if_pos hk] at hd hx
    exact h.2 k d x hd hx
  · rw [if_neg hk] at hd
    cases hd
/-- the steps of standing, gone through -/
theorem stand_run {x i : D} {ds : List D} {l : List Sx} (hr : SxR ds l) (hg : ∀ x ∈ l, x.gd) :
    OkN (forL ⟨ds, none⟩ (ptN 3) (sSeq (sIf (mTest (mOp eqD (mOp ixD (mVar 3) (mC (.int 0))) (mC (.str "sort"))))
      (sSeq (sSet 4 (mComp (mIt (mOp ixD (mVar 3) (mC (.int 1)))) (ptT (psC (ptN 5) (psC (ptN 6) psN))) mYes (mVar 5) [5, 6] frzD))
      (sSet 2 (mOp addD (mFn tupleD (mCons (mOp ixD (mVar 3) (mC (.int 1))) mNil)) (mFn tupleD (mCons (mComp (mIt (mVar 2)) (ptN 7) (mTest (mOp notInD (mOp ixD (mVar 7) (mC (.int 0))) (mVar 4))) (mVar 7) [7] frzD) mNil)))))
      sPass)
      (sIf (mTest (mOp eqD (mOp ixD (mVar 3) (mC (.int 0))) (mC (.str "flip"))))
      (sSet 2 (mFn (ar 1 fn_order_turned) (mCons (mVar 2) mNil)))
      sPass)) ds [some x, some i, some (stD []), none, none, none, none, none] S) (fun ρ S' => S' = S ∧ ∃ o3 o4 o5 o6 o7, ρ = [some x, some i, some (stD (stand l)), o3, o4, o5, o6, o7]) := by
  generalize hv : forL _ _ _ _ _ _ = v
  obtain ⟨ρ4, S4, rfl, I4⟩ := OkN.g hv (forI (StI x i l S) (fun _ _ _ _ => grd_none) (fun j d hj ρ S' hI => by
    cases hI with
    | @mk o3 o4 o5 o6 o7 =>
    have hjl : j < l.length := by rw [← hr.1]; exact (List.getElem?_eq_some_iff.mp hj).1
    have hx := hr.2 j d l[j] hj (List.getElem?_eq_getElem hjl)
    have et : stand (l.take (j + 1)) = stand1 (stand (l.take j)) l[j] := by
      rw [List.take_succ, List.getElem?_eq_getElem hjl]
      exact stand_snoc _ _
    have g0 : Gd (stand (l.take j)) := stand_gd fun y hy => hg y (List.mem_of_mem_take hy)
    have gx := hg l[j] (List.getElem_mem hjl)
    refine ⟨_, rfl, ?_⟩
    generalize hf : stand (l.take j) = f at et g0
    generalize l[j] = sx at hx et gx
    cases hx with
    | flp =>
      have t := turned_ok (S := S) (f := f) (by have := g0.len; omega)
      simp [t1_0, t]
      rw [show stD (tw true f) = stD (stand (l.take (j + 1))) from congrArg stD et.symm]
      exact .mk
    | @oth k ds h1 h2 =>
      have e0 : ixO S (.tup (.str k :: ds)) (.int 0) = some (.str k) := by
        show atI (.str k :: ds) 0 = _
        rw [show (0 : Int) = ((0 : Nat) : Int) from rfl, atI_nat (xs := .str k :: ds) (j := 0) (v := .str k) rfl]
      simp [e0, h1, h2]
      rw [show stD f = stD (stand (l.take (j + 1))) from congrArg stD et.symm]
      exact .mk
    | @srt o =>
      have gl := Gd.len (o := o) gx
      have fl := g0.len
      have c1 := comp_pure (it := ⟨o.map prtD, none⟩) (p := ptT (psC (ptN 5) (psC (ptN 6) psN))) (t := mYes) (e := mVar 5) (ρ := [some x, some i, some (stD f), some (.tup [.str "sort", .tup (o.map prtD)]), o4, none, none, o7]) (S := S) grd_none prtD (fun p => .str p.1) (fun _ => true) o 0
        (fun p hp => ⟨_, rfl, rfl, fun _ => by simp⟩) (by rw [Nat.zero_add]; exact s1000 (by omega))
      rw [List.filter_eq_self.mpr (fun _ _ => rfl)] at c1
      have en : o.map (fun p => D.str p.1) = (nms o).map D.str := by unfold nms; rw [List.map_map]; rfl
      rw [en] at c1
      have c2 := comp_pure (it := ⟨f.map prtD, none⟩) (p := ptN 7) (t := mTest (mOp notInD (mOp ixD (mVar 7) (mC (.int 0))) (mVar 4))) (e := mVar 7) (ρ := [some x, some i, some (stD f), some (.tup [.str "sort", .tup (o.map prtD)]), some (.lst ((nms o).map D.str)), o5, o6, none]) (S := S) grd_none prtD prtD (fun p => !decide (p.1 ∈ nms o)) f 0
        (fun p hp => ⟨_, rfl, by simp [pt_0, notin_lst], fun _ => by simp⟩) (by rw [Nat.zero_add]; exact s1000 (by omega))
      have hz : o.length + (notin (nms o) f).length ≤ sizeLine := s1000 (by
        have : (notin (nms o) f).length ≤ f.length := List.length_filter_le _ _
        omega)
      have ef : (f.filter fun p => !decide (p.1 ∈ nms o)) = notin (nms o) f := rfl
      rw [ef] at c2
      have et' : stD (stand (l.take (j + 1))) = .tup (o.map prtD ++ (notin (nms o) f).map prtD) := by
        rw [et]
        unfold stand1 stD
        rw [List.map_append]
      unfold stD at c1 c2
      simp [t2_0, t2_1, wipeD, c1, c2, stD, hz]
      rw [← List.map_append, show D.tup ((o ++ notin (nms o) f).map prtD) = stD (stand (l.take (j + 1))) from by rw [et'  , List.map_append]]
      exact .mk) .mk)
  cases I4 with
  | @mk o3 o4 o5 o6 o7 =>
  rw [hr.1, List.take_length]
  simp
end
end G
namespace G
open PySem L2
section
variable {S : Store}
theorem standing_lst {ds : List D} {l : List Sx} {i : Nat} (hr : SxR ds l) (hg : ∀ x ∈ l, x.gd) : fn_standing [.lst ds, .int (i : Nat)] S = .ok (stD (stand (l.take i))) S := by
  unfold fn_standing
  rw [run_eq]
  simp only [sem_standing, startD]
  simp [cut_take]
  generalize hv : forL _ _ _ _ _ _ = v
  obtain ⟨ρ4, S4, rfl, rfl, o3, o4, o5, o6, o7, rfl⟩ := OkN.g hv (stand_run (hr.take i) fun x hx => hg x (List.mem_of_mem_take hx))
  simp
theorem standing_tup {ds : List D} {l : List Sx} {i : Nat} (hr : SxR ds l) (hg : ∀ x ∈ l, x.gd) : fn_standing [.tup ds, .int (i : Nat)] S = .ok (stD (stand (l.take i))) S := by
  unfold fn_standing
  rw [run_eq]
  simp only [sem_standing, startD]
  simp [cut_take]
  generalize hv : forL _ _ _ _ _ _ = v
  obtain ⟨ρ4, S4, rfl, rfl, o3, o4, o5, o6, o7, rfl⟩ := OkN.g hv (stand_run (hr.take i) fun x hx => hg x (List.mem_of_mem_take hx))
  simp
inductive BkI (x i : D) (R : List Sx) (S : Store) (j : Nat) : Sl → Store → Prop
  | mk {f : List Prt} {t : Bool} {o4 o5 o6 o7 : Option D} {S' : Store} (e : back (R.drop j) f t = back R [] false) (g : Gd f) (fr : Fr [S.length] (S ++ [.lst []]) S') (at_ : sg S' S.length = some (.lst (f.map prtD))) :
    BkI x i R S j [some x, some i, some (.ref S.length), some (.bl t), o4, o5, o6, o7] S'
inductive InI (x i s : D) (f o : List Prt) (t : Bool) (b : Nat) (S : Store) (j : Nat) : Sl → Store → Prop
  | mk {o6 o7 : Option D} {S' : Store} (fr : Fr [b] S S') (at_ : sg S' b = some (.lst ((f ++ tw t (notin (nms f) (o.take j))).map prtD))) :
    InI x i s f o t b S j [some x, some i, some (.ref b), some (.bl t), some s, some (.lst ((nms f).map D.str)), o6, o7] S'
theorem gd_back {f o : List Prt} {t : Bool} (h : Gd f) (h' : Gd o) : Gd (f ++ tw t (notin (nms f) o)) := by
  have e : nms (f ++ tw t (notin (nms f) o)) = nms f ++ nms (notin (nms f) o) := by
    have : nms (f ++ tw t (notin (nms f) o)) = nms f ++ nms (tw t (notin (nms f) o)) := by simp [nms]
    rw [this, tw_nms]
  refine ⟨?_, ?_⟩
  · rw [e, List.nodup_append]
    refine ⟨h.nd, nms_notin_nd h'.nd, fun a ha b hb e => ?_⟩
    subst e
    exact (nms_notin_sub hb).2 ha
  · intro x hx
    rw [e] at hx
    rcases List.mem_append.mp hx with hx | hx
    · exact h.mem x hx
    · exact h'.mem x (nms_notin_sub hx).1
abbrev wayT : List (Key × D) := mrgD [(.inr "up", .str "down"), (.inr "down", .str "up")]
theorem way_up : valK wayT (.inr "up") = some (.str "down") := rfl
theorem way_down : valK wayT (.inr "down") = some (.str "up") := rfl
theorem tupleR {a : Nat} {ds : List D} (h : sg S a = some (.lst ds)) : tupleD [.ref a] S = .ok (.tup ds) S := by
  unfold tupleD
  dsimp only
  rw [sq_refS, h]
  rfl
theorem law_standing_ok {a i : Nat} {ds : List D} {l : List Sx} (hS : sg S a = some (.lst ds)) (hr : SxR ds l) (hg : ∀ x ∈ l, x.gd) : Ok (fn_law_standing [.ref a, .int (i : Nat)] S) fun d S' => d = stD (stand (l.take i)) ∧ Fr [] S S' := by
  have ha : a < S.length := sg_lt hS
  have hS1 : sg (S ++ [.lst []]) a = some (.lst ds) := by rw [sg_app ha]; exact hS
  have hrr : SxR (ds.take i).reverse (l.take i).reverse := by
    have h := hr.take i
    refine ⟨by rw [List.length_reverse, List.length_reverse, h.1], fun k d x hd hx => ?_⟩
    have k1 : k < (ds.take i).length := by
      have := (List.getElem?_eq_some_iff.mp hd).1
      rwa [List.length_reverse] at this
    rw [List.getElem?_reverse k1] at hd
    rw [List.getElem?_reverse (by rw [← h.1]; exact k1), ← h.1] at hx
    exact h.2 _ d x hd hx
  have hgr : ∀ x ∈ (l.take i).reverse, x.gd := fun x hx => hg x (List.mem_of_mem_take (List.mem_reverse.mp hx))
  unfold fn_law_standing
  rw [run_eq]
  simp only [sem_law_standing, startD]
  simp [hS1, cut_take]
  generalize (ds.take i).reverse = es at hrr
  generalize hR : (l.take i).reverse = R at hrr hgr
  generalize hv : forL _ _ _ _ _ _ = v
  obtain ⟨ρ4, S4, rfl, I4⟩ := OkN.g hv (forI (BkI (.ref a) (.int (i : Nat)) R S) (fun _ _ _ _ => grd_none) (fun j d hj ρ S' hI => by
    cases hI with
    | @mk f t o4 o5 o6 o7 _ e g fr at_ =>
    have hjl : j < R.length := by rw [← hrr.1]; exact (List.getElem?_eq_some_iff.mp hj).1
    have hx := hrr.2 j d R[j] hj (List.getElem?_eq_getElem hjl)
    have gx := hgr R[j] (List.getElem_mem hjl)
    have ed : R.drop j = R[j] :: R.drop (j + 1) := List.drop_eq_getElem_cons hjl
    rw [ed] at e
    refine ⟨_, rfl, ?_⟩
    generalize R[j] = sx at hx gx e
    have fl := g.len
    cases hx with
    | flp =>
      simp [t1_0]
      exact .mk e g fr at_
    | @oth k ds h1 h2 =>
      have e0 : ixO S' (.tup (.str k :: ds)) (.int 0) = some (.str k) := by
        show atI (.str k :: ds) 0 = _
        rw [show (0 : Int) = ((0 : Nat) : Int) from rfl, atI_nat (xs := .str k :: ds) (j := 0) (v := .str k) rfl]
      simp [e0, h1, h2]
      exact .mk e g fr at_
    | @srt o =>
      have gl := Gd.len (o := o) gx
      have c1 := comp_pure (it := ⟨f.map prtD, some S.length⟩) (p := ptT (psC (ptN 6) (psC (ptN 7) psN))) (t := mYes) (e := mVar 6) (ρ := [some (.ref a), some (.int (i : Nat)), some (.ref S.length), some (.bl t), some (.tup [.str "sort", .tup (o.map prtD)]), o5, none, none]) (S := S') (grd_some at_) prtD (fun p => .str p.1) (fun _ => true) f 0
        (fun p hp => ⟨_, rfl, rfl, fun _ => by simp⟩) (by rw [Nat.zero_add]; exact s1000 (by omega))
      rw [List.filter_eq_self.mpr (fun _ _ => rfl), show f.map (fun p => D.str p.1) = (nms f).map D.str from by unfold nms; rw [List.map_map]; rfl] at c1
      simp [t2_0, t2_1, at_, wipeD, c1]
      generalize hv : forL _ _ _ _ _ _ = v
      obtain ⟨ρ5, S5, rfl, I5⟩ := OkN.g hv (forI (InI (.ref a) (.int (i : Nat)) (.tup [.str "sort", .tup (o.map prtD)]) f o t S.length S') (fun _ _ _ _ => grd_none) (fun k d hk ρ S2 hI => by
        cases hI with
        | @mk o6 o7 _ fr2 at2 =>
        have hkl : k < o.length := by
          have := (List.getElem?_eq_some_iff.mp hk).1
          simpa using this
        obtain rfl : d = prtD o[k] := by
          rw [List.getElem?_map, List.getElem?_eq_getElem hkl] at hk
          exact (Option.some.inj hk).symm
        have et : o.take (k + 1) = o.take k ++ [o[k]] := by
          rw [List.take_succ, List.getElem?_eq_getElem hkl]
          rfl
        generalize hp : o[k] = p at et
        obtain ⟨z, b⟩ := p
        refine ⟨_, rfl, ?_⟩
        have hz : (f ++ tw t (notin (nms f) (o.take k))).length ≤ 10 := by
          rw [List.length_append]
          have e1 : (tw t (notin (nms f) (o.take k))).length = (notin (nms f) (o.take k)).length := by cases t <;> simp [tw]
          have e2 : (notin (nms f) (o.take k)).length ≤ (o.take k).length := List.length_filter_le _ _
          rw [List.length_take] at e2
          omega
        generalize hF : f ++ tw t (notin (nms f) (o.take k)) = F at at2 hz
        have hz2 : F.length < sizeLine := Nat.lt_of_lt_of_le (show F.length < 1000 by omega) (s1000 (by omega))
        by_cases hm : z ∈ nms f
        · have e1 : f ++ tw t (notin (nms f) (o.take (k + 1))) = F := by
            rw [et, notin_app, tw_app, ← hF]
            have : notin (nms f) [(z, b)] = [] := by simp [notin, hm]
            rw [this]
            cases t <;> simp [tw]
          have nl := notin_lst (S := S2) (p := z) (ps := nms f)
          rw [decide_eq_true hm] at nl
          simp [nl]
          exact .mk fr2 (by rw [e1]; exact at2)
        · have e1 : f ++ tw t (notin (nms f) (o.take (k + 1))) = F ++ tw t [(z, b)] := by
            rw [et, notin_app, tw_app, ← hF, List.append_assoc]
            have : notin (nms f) [(z, b)] = [(z, b)] := by simp [notin, hm]
            rw [this]
          have nl := notin_lst (S := S2) (p := z) (ps := nms f)
          rw [decide_eq_false hm] at nl
          have fin : ∀ (o6 o7 : Option D), InI (.ref a) (.int (i : Nat)) (.tup [.str "sort", .tup (o.map prtD)]) f o t S.length S' (k + 1) [some (.ref a), some (.int (i : Nat)), some (.ref S.length), some (.bl t), some (.tup [.str "sort", .tup (o.map prtD)]), some (.lst ((nms f).map D.str)), o6, o7]
              (sp S2 S.length (.lst (F.map prtD ++ [prtD (z, if t = true then !b else b)]))) := fun o6 o7 => by
            refine .mk (fr2.tr (Fr.put (by simp))) ?_
            rw [sg_sp (sg_lt at2), e1, List.map_append]
            cases t <;> rfl
          cases t with
          | false =>
            simp [nl, prtD, at2, hz2]
            exact fin _ _
          | true =>
            cases b with
            | false =>
              simp [nl, prtD, at2, hz2, wayS, way_up, way_down]
              exact fin _ _
            | true =>
              simp [nl, prtD, at2, hz2, wayS, way_up, way_down]
              exact fin _ _) (.mk (.rf _ _) (by simpa [notin, tw] using at_)))
      cases I5 with
      | @mk o6 o7 _ fr2 at2 =>
      rw [List.length_map, List.take_length] at at2
      simp
      exact .mk e (gd_back g gx) (fr.tr fr2) at2) (.mk (f := []) (by rw [List.drop_zero]) ⟨.nil, fun x hx => by cases hx⟩ (.rf _ _) sg_new))
  cases I4 with
  | @mk f t o4 o5 o6 o7 _ e g fr at_ =>
  rw [hrr.1, List.drop_length] at e
  have e : f = stand (l.take i) := by
    rw [← back_ok (l.take i), hR, ← e]
    rfl
  simp [tupleR at_]
  refine ⟨by unfold stD; rw [e], ?_⟩
  exact ((Fr.ext .one : Fr [S.length] S (S ++ [.lst []])).tr fr).mono fun k hk hl => by
    rw [List.mem_singleton] at hk
    omega
end
end G
namespace G
open PySem L2
/-! ### drawn steps -/
structure Dw (S S' : Store) : Prop where
  pool : PoolAt S'
  fr : Fr [0] S S'
theorem Dw.rf {S : Store} (h : PoolAt S) : Dw S S := ⟨h, .rf _ _⟩
theorem Dw.tr {S S1 S2 : Store} (a : Dw S S1) (b : Dw S1 S2) : Dw S S2 := ⟨b.pool, a.fr.tr b.fr⟩
theorem Drawn.dw {S S' : Store} {z : Int} {d : D} (h : Drawn z S d S') : Dw S S' := ⟨h.pool, h.fr⟩
theorem PoolAt.ext {S S1 : Store} (h : PoolAt S) (e : Ext S S1) : PoolAt S1 := by
  obtain ⟨m, hs, hp⟩ := h
  exact ⟨m, (Fr.ext (A := []) e).get hs (by simp), hp⟩
theorem Dw.ext {S S1 S2 : Store} (a : Dw S S1) (e : Ext S1 S2) : Dw S S2 := ⟨a.pool.ext e, a.fr.tr (Fr.ext e)⟩
theorem Dw.get {S S1 : Store} {k : Nat} {m : MO} (a : Dw S S1) (h : sg S k = some m) (hk : k ≠ 0) : sg S1 k = some m := a.fr.get h (by rw [List.mem_singleton]; exact hk)
def kindOf3 (p : Str) : Str := if p = "b" then "text" else "number"
def pathsD : D := .lst [.tup [.str "a", .str "number"], .tup [.str "b", .str "text"], .tup [.str "r.x", .str "number"]]
theorem pth3 {p : Str} (h : p ∈ nm3) : Pth p := by
  simp only [nm3, List.mem_cons, List.not_mem_nil, or_false] at h
  rcases h with rfl | rfl | rfl <;> exact ⟨by decide, by decide +kernel, by decide +kernel⟩
section
variable {S : Store} {ns : List Int}
theorem val_x {k : Str} (hk : k = "number" ∨ k = "text") (h : PoolAt S) : Ok (fn_law_value [.scr ns, .ref 0, .str k] S) fun d S' => Dw S S' ∧ Val d k := by
  unfold fn_law_value
  rw [run_eq]
  simp only [sem_law_value, startD]
  rcases hk with rfl | rfl
  · simp
    generalize hx : fn_law_take _ _ = x
    obtain ⟨_, S1, rfl, dr⟩ := Ok.g hx (draw (ns := ns) (z := 5) h)
    obtain ⟨r, rfl, hr⟩ := dr.ex
    simp
    exact ⟨dr.dw, .n _⟩
  · simp
    generalize hx : fn_law_take _ _ = x
    obtain ⟨_, S1, rfl, dr⟩ := Ok.g hx (draw (ns := ns) (z := 4) h)
    obtain ⟨r, rfl, hr⟩ := dr.ex
    obtain ⟨y, hy, hm⟩ := atI_mem (xs := [D.str "", .str "a", .str "ab", .str "b"]) (r := r) (by simp; omega)
    simp [hy]
    refine ⟨dr.dw, ?_⟩
    simp only [List.mem_cons, List.not_mem_nil, or_false] at hm
    rcases hm with rfl | rfl | rfl | rfl <;> exact .t _ (by decide) (by decide +kernel)
def ops6 : List D := [.str "<", .str "<=", .str "==", .str "!=", .str ">", .str ">="]
theorem ops_mem {d : D} (h : d ∈ ops6) : ∃ op, op ∈ opsL ∧ d = .str op := by
  simp only [ops6, List.mem_cons, List.not_mem_nil, or_false] at h
  rcases h with rfl | rfl | rfl | rfl | rfl | rfl <;> exact ⟨_, by decide, rfl⟩
theorem atom_x (h : PoolAt S) : Ok (fn_law_atom [.scr ns, .ref 0, pathsD] S) fun d S' => Dw S S' ∧ ∃ a : At, a.wf ∧ a.k63 ∧ d = a.en2 := by
  unfold fn_law_atom
  rw [run_eq]
  simp only [sem_law_atom, startD, pathsD]
  simp
  generalize hx : fn_law_take _ _ = x
  obtain ⟨_, S1, rfl, d1⟩ := Ok.g hx (draw (ns := ns) (z := 3) h)
  obtain ⟨r, rfl, hr⟩ := d1.ex
  obtain ⟨y, hy, hm⟩ := atI_mem (xs := [D.tup [.str "a", .str "number"], .tup [.str "b", .str "text"], .tup [.str "r.x", .str "number"]]) (r := r) (by simp; omega)
  obtain ⟨p, hp, rfl⟩ : ∃ p, p ∈ nm3 ∧ y = .tup [.str p, .str (kindOf3 p)] := by
    simp only [List.mem_cons, List.not_mem_nil, or_false] at hm
    rcases hm with rfl | rfl | rfl
    · exact ⟨"a", by decide, rfl⟩
    · exact ⟨"b", by decide, rfl⟩
    · exact ⟨"r.x", by decide, rfl⟩
  have hk : kindOf3 p = "number" ∨ kindOf3 p = "text" := by unfold kindOf3; split <;> simp
  have pp := pth3 hp
  simp [hy]
  generalize hx : fn_law_take _ _ = x
  obtain ⟨_, S2, rfl, d2⟩ := Ok.g hx (draw (ns := ns) (z := 6) d1.pool)
  obtain ⟨r2, rfl, hr2⟩ := d2.ex
  obtain ⟨o, ho, hom⟩ := atI_mem (xs := ops6) (r := r2) (by simp [ops6]; omega)
  obtain ⟨op, hop, rfl⟩ := ops_mem hom
  unfold ops6 at ho
  simp [ho]
  generalize hx : fn_law_take _ _ = x
  obtain ⟨_, S3, rfl, d3⟩ := Ok.g hx (draw (ns := ns) (z := 5) d2.pool)
  obtain ⟨r3, rfl, hr3⟩ := d3.ex
  have g3 := (d1.dw.tr d2.dw).tr d3.dw
  by_cases c0 : r3 = 0
  · simp [c0]
    exact ⟨g3, .emp p, .emp pp, trivial, rfl⟩
  have c := fun (o8 o11 : Option D) => comp_pure (it := ⟨nm3.map fun q => D.tup [.str q, .str (kindOf3 q)], none⟩) (p := ptT (psC (ptN 9) (psC (ptN 10) psN))) (t := mAnd (mTest (mOp eqD (mVar 10) (mVar 4))) (mTest (mOp neD (mVar 9) (mVar 3)))) (e := mVar 9)
    (ρ := [some (.scr ns), some (.ref 0), some pathsD, some (.str p), some (.str (kindOf3 p)), some (.str op), some (.int r3), none, none, none, none, none]) (S := S3) grd_none (fun q => D.tup [.str q, .str (kindOf3 q)]) D.str (fun q => decide (kindOf3 q = kindOf3 p) && !decide (q = p)) nm3 0
    (fun q hq => ⟨_, rfl, by
      by_cases e1 : kindOf3 q = kindOf3 p
      · simp [e1]
      · simp [e1], fun _ => by simp⟩) (s1000 (by decide))
  have c := c none none
  have en : (nm3.map fun q => D.tup [.str q, .str (kindOf3 q)]) = [.tup [.str "a", .str "number"], .tup [.str "b", .str "text"], .tup [.str "r.x", .str "number"]] := rfl
  rw [en] at c
  have hoth : ∀ q ∈ nm3.filter (fun q => decide (kindOf3 q = kindOf3 p) && !decide (q = p)), q ∈ nm3 ∧ q ≠ p := fun q hq => by
    obtain ⟨h1, h2⟩ := List.mem_filter.mp hq
    simp only [Bool.and_eq_true, Bool.not_eq_true', decide_eq_false_iff_not] at h2
    exact ⟨h1, h2.2⟩
  have hlen : (nm3.filter (fun q => decide (kindOf3 q = kindOf3 p) && !decide (q = p))).length ≤ 3 := List.length_filter_le _ _
  generalize nm3.filter (fun q => decide (kindOf3 q = kindOf3 p) && !decide (q = p)) = oth at c hoth hlen
  unfold pathsD at c
  have vx : ∀ S4, Dw S S4 → ∃ v S5, fn_law_value [.scr ns, .ref 0, .str (kindOf3 p)] S4 = .ok v S5 ∧ Dw S S5 ∧ Val v (kindOf3 p) := fun S4 g => by
    obtain ⟨v, S5, e, g5, hv⟩ := (val_x (ns := ns) hk g.pool).ex
    exact ⟨v, S5, e, g.tr g5, hv⟩
  simp [c0, wipeD, c]
  by_cases c1 : r3 = 1
  · subst c1
    cases oth with
    | nil =>
      obtain ⟨v, S5, e5, g5, hv⟩ := vx S3 g3
      simp [e5]
      exact ⟨g5, .cmp p op v, .cmp pp hop hv, trivial, rfl⟩
    | cons q qs =>
      have ag : ∀ S4, Dw S S4 → ∃ (r5 : Nat) (S5 : Store) (w : Str), fn_law_take [.scr ns, .ref 0, .int ((qs.length : Int) + 1)] S4 = .ok (.int r5) S5 ∧ Dw S S5 ∧ atI (D.str q :: qs.map D.str) (r5 : Int) = some (.str w) ∧ w ∈ nm3 ∧ w ≠ p := fun S4 g => by
        simp only [List.length_cons] at hlen
        obtain ⟨_, S5, e, d5⟩ := (draw (ns := ns) (z := (qs.length : Int) + 1) g.pool (by omega) (by omega)).ex
        obtain ⟨r5, rfl, hr5⟩ := d5.ex
        obtain ⟨z, hz, hzm⟩ := atI_mem (xs := (q :: qs).map D.str) (r := r5) (by rw [List.length_map, List.length_cons]; omega)
        obtain ⟨w, hw, rfl⟩ := List.mem_map.mp hzm
        exact ⟨r5, S5, w, e, g.tr d5.dw, hz, (hoth w hw).1, (hoth w hw).2⟩
      simp
      rcases hk with hk | hk
      · simp [hk]
        generalize hx : fn_law_take _ _ = x
        obtain ⟨_, S4, rfl, d4⟩ := Ok.g hx (draw (ns := ns) (z := 4) d3.pool)
        obtain ⟨r4, rfl, hr4⟩ := d4.ex
        obtain ⟨m, hm2, hmm⟩ := atI_mem (xs := [D.int 0, .int 0, .int 1, .int (-1)]) (r := r4) (by simp; omega)
        obtain ⟨m, rfl⟩ : ∃ i, m = .int i := by
          simp only [List.mem_cons, List.not_mem_nil, or_false] at hmm
          rcases hmm with rfl | rfl | rfl | rfl <;> exact ⟨_, rfl⟩
        obtain ⟨r5, S5, w, e5, g5, hz, hw, hwp⟩ := ag S4 (g3.tr d4.dw)
        simp [hm2, e5, hz]
        exact ⟨g5, .agn p op w m, .agn pp hop (pth3 hw) hwp, trivial, rfl⟩
      · obtain ⟨r5, S5, w, e5, g5, hz, hw, hwp⟩ := ag S3 g3
        simp [hk, e5, hz]
        exact ⟨g5, .agn p op w 0, .agn pp hop (pth3 hw) hwp, trivial, rfl⟩
  have c1' : ¬ (r3 : Int) = 1 := by omega
  simp [c1']
  by_cases c2 : r3 = 2
  · subst c2
    simp
    generalize hx : fn_law_take _ _ = x
    obtain ⟨_, S4, rfl, d4⟩ := Ok.g hx (draw (ns := ns) (z := 2) d3.pool)
    obtain ⟨r4, rfl, hr4⟩ := d4.ex
    have sm : smR (1 + (r4 : Int)) = true := by
      have : ∀ n : Nat, n < 2 → smR (1 + (n : Int)) = true := by decide +kernel
      exact this _ (by omega)
    simp [sm, wipeD]
    generalize hc : compL _ _ _ _ _ _ _ _ = c
    obtain ⟨ys, S5, rfl, l5, q5, g5⟩ := Ok.g hc (compE (fun S' => Dw S S') (fun d => Val d (kindOf3 p)) (fun _ _ => grd_none) (fun d hd => ⟨_, rfl, fun S' hS => by
      obtain ⟨v, S6, e6, g6, hv⟩ := vx S' hS
      simp [e6]
      exact ⟨g6, hv⟩⟩) (g3.tr d4.dw) (by rw [Nat.zero_add, List.length_map, List.length_range]; exact s1000 (by omega)))
    rw [List.length_map, List.length_range] at l5
    simp
    exact ⟨g5, .amg p ys, .amg pp (fun e => by rw [e] at l5; simp at l5; omega) (by omega) (fun v hv => ⟨_, q5 v hv⟩), trivial, rfl⟩
  · have c2' : ¬ (r3 : Int) = 2 := by omega
    obtain ⟨v, S5, e5, g5, hv⟩ := vx S3 g3
    simp [c2', e5]
    exact ⟨g5, .cmp p op v, .cmp pp hop hv, trivial, rfl⟩
end
end G
namespace G
open PySem L2
def Fm (d : D) : Prop := ∃ s : Sp, s.wf ∧ s.k63 ∧ s.ht ≤ 2 ∧ s.lv.length ≤ 2 ∧ d = s.en2
section
variable {S : Store} {ns : List Int}
theorem form_x (h : PoolAt S) : Ok (fn_law_form [.scr ns, .ref 0, pathsD] S) fun d S' => Dw S S' ∧ Fm d := by
  unfold fn_law_form
  rw [run_eq]
  simp only [sem_law_form, startD]
  simp
  generalize hx : fn_law_take _ _ = x
  obtain ⟨_, S1, rfl, d1⟩ := Ok.g hx (draw (ns := ns) (z := 9) h)
  obtain ⟨r, rfl, hr⟩ := d1.ex
  simp
  generalize hx : fn_law_atom _ _ = x
  obtain ⟨_, S2, rfl, g2, a, aw, ak, rfl⟩ := Ok.g hx (atom_x (ns := ns) d1.pool)
  have g := d1.dw.tr g2
  have one : ∀ {s : Sp}, s.lv = [a] → s.wf ∧ s.k63 := fun {s} e => ⟨fun b hb => by rw [e, List.mem_singleton] at hb; rw [hb]; exact aw, fun b hb => by rw [e, List.mem_singleton] at hb; rw [hb]; exact ak⟩
  by_cases c5 : (r : Int) = 5
  · simp [c5]
    exact ⟨g, .not (.lf a), (one rfl).1, (one rfl).2, by simp [Sp.ht], by simp [Sp.lv], rfl⟩
  by_cases c6 : (r : Int) = 6
  · simp [c6]
    generalize hx : fn_law_take _ _ = x
    obtain ⟨_, S3, rfl, d3⟩ := Ok.g hx (draw (ns := ns) (z := 2) g2.pool)
    obtain ⟨r3, rfl, hr3⟩ := d3.ex
    obtain ⟨y, hy, hm⟩ := atI_mem (xs := [D.str "and", .str "or"]) (r := r3) (by simp; omega)
    simp [hy]
    generalize hx : fn_law_atom _ _ = x
    obtain ⟨_, S4, rfl, g4, b, bw, bk, rfl⟩ := Ok.g hx (atom_x (ns := ns) d3.pool)
    simp
    refine ⟨(g.tr d3.dw).tr g4, ?_⟩
    have two : ∀ {s : Sp}, s.lv = [a, b] → s.wf ∧ s.k63 := fun {s} e => ⟨fun c hc => by
        rw [e] at hc
        simp only [List.mem_cons, List.not_mem_nil, or_false] at hc
        rcases hc with rfl | rfl
        · exact aw
        · exact bw, fun c hc => by
        rw [e] at hc
        simp only [List.mem_cons, List.not_mem_nil, or_false] at hc
        rcases hc with rfl | rfl
        · exact ak
        · exact bk⟩
    simp only [List.mem_cons, List.not_mem_nil, or_false] at hm
    rcases hm with rfl | rfl
    · exact ⟨.and (.lf a) (.lf b), (two rfl).1, (two rfl).2, by simp [Sp.ht], by simp [Sp.lv], rfl⟩
    · exact ⟨.or (.lf a) (.lf b), (two rfl).1, (two rfl).2, by simp [Sp.ht], by simp [Sp.lv], rfl⟩
  by_cases c7 : (r : Int) = 7
  · simp [c7]
    generalize hx : fn_law_take _ _ = x
    obtain ⟨_, S3, rfl, d3⟩ := Ok.g hx (draw (ns := ns) (z := 3) g2.pool)
    obtain ⟨r3, rfl, hr3⟩ := d3.ex
    obtain ⟨y, hy, hm⟩ := atI_mem (xs := [D.tup [.str "sure", a.en2], .tup [.str "always"], .tup [.str "not", .tup [.str "sure", a.en2]]]) (r := r3) (by simp; omega)
    simp [hy]
    refine ⟨g.tr d3.dw, ?_⟩
    simp only [List.mem_cons, List.not_mem_nil, or_false] at hm
    rcases hm with rfl | rfl | rfl
    · exact ⟨.sure (.lf a), (one rfl).1, (one rfl).2, by simp [Sp.ht], by simp [Sp.lv], rfl⟩
    · exact ⟨.lf (.cst "always"), fun b hb => by rw [List.mem_singleton.mp (show b ∈ [At.cst "always"] from hb)]; exact .cst (by decide), fun b hb => by rw [List.mem_singleton.mp (show b ∈ [At.cst "always"] from hb)]; exact (rfl : ("always" : Str) = "always"), by simp [Sp.ht], by simp [Sp.lv], rfl⟩
    · exact ⟨.not (.sure (.lf a)), (one rfl).1, (one rfl).2, by simp [Sp.ht], by simp [Sp.lv], rfl⟩
  simp [c5, c6, c7]
  exact ⟨g, .lf a, (one rfl).1, (one rfl).2, by simp [Sp.ht], by simp [Sp.lv], rfl⟩
theorem way_x {d : D} (h : d ∈ [D.str "up", .str "down"]) : ∃ b, d = .str (wayS b) := by
  simp only [List.mem_cons, List.not_mem_nil, or_false] at h
  rcases h with rfl | rfl
  · exact ⟨true, rfl⟩
  · exact ⟨false, rfl⟩
theorem order_x (h : PoolAt S) : Ok (fn_law_order [.scr ns, .ref 0, pathsD] S) fun d S' => Dw S S' ∧ ∃ o, Gd o ∧ d = stD o := by
  unfold fn_law_order
  rw [run_eq]
  simp only [sem_law_order, startD, pathsD]
  simp
  generalize hx : fn_law_take _ _ = x
  obtain ⟨_, S1, rfl, d1⟩ := Ok.g hx (draw (ns := ns) (z := 3) h)
  obtain ⟨r, rfl, hr⟩ := d1.ex
  obtain ⟨y, hy, hm⟩ := atI_mem (xs := [D.tup [.str "a", .str "number"], .tup [.str "b", .str "text"], .tup [.str "r.x", .str "number"]]) (r := r) (by simp; omega)
  obtain ⟨p, hp, rfl⟩ : ∃ p, p ∈ nm3 ∧ y = .tup [.str p, .str (kindOf3 p)] := by
    simp only [List.mem_cons, List.not_mem_nil, or_false] at hm
    rcases hm with rfl | rfl | rfl
    · exact ⟨"a", by decide, rfl⟩
    · exact ⟨"b", by decide, rfl⟩
    · exact ⟨"r.x", by decide, rfl⟩
  simp [hy, t2_0]
  generalize hx : fn_law_take _ _ = x
  obtain ⟨_, S2, rfl, d2⟩ := Ok.g hx (draw (ns := ns) (z := 2) d1.pool)
  obtain ⟨r2, rfl, hr2⟩ := d2.ex
  obtain ⟨y, hy2, hm2⟩ := atI_mem (xs := [D.str "up", .str "down"]) (r := r2) (by simp; omega)
  obtain ⟨b, rfl⟩ := way_x hm2
  have h0 : 0 < S2.length := by
    obtain ⟨m, hs, _⟩ := d2.pool
    exact sg_lt hs
  have p3 : PoolAt (S2 ++ [.lst [prtD (p, b)]]) := d2.pool.ext .one
  have g3 : Dw S (S2 ++ [.lst [prtD (p, b)]]) := (d1.dw.tr d2.dw).ext .one
  have c := comp_pure (it := ⟨nm3.map fun q => D.tup [.str q, .str (kindOf3 q)], none⟩) (p := ptT (psC (ptN 6) (psC (ptN 7) psN))) (t := mTest (mOp neD (mVar 6) (mVar 3))) (e := mVar 6)
    (ρ := [some (.scr ns), some (.ref 0), some pathsD, some (.str p), some (.ref S2.length), none, none, none]) (S := S2 ++ [.lst [prtD (p, b)]]) grd_none (fun q => D.tup [.str q, .str (kindOf3 q)]) D.str (fun q => !decide (q = p)) nm3 0
    (fun q hq => ⟨_, rfl, by simp, fun _ => by simp⟩) (s1000 (by decide))
  have en : (nm3.map fun q => D.tup [.str q, .str (kindOf3 q)]) = [.tup [.str "a", .str "number"], .tup [.str "b", .str "text"], .tup [.str "r.x", .str "number"]] := rfl
  rw [en] at c
  have hoth : ∀ q ∈ nm3.filter (fun q => !decide (q = p)), q ∈ nm3 ∧ q ≠ p := fun q hq => by
    obtain ⟨h1, h2⟩ := List.mem_filter.mp hq
    exact ⟨h1, by simpa using h2⟩
  have hlen : (nm3.filter (fun q => !decide (q = p))).length ≤ 3 := List.length_filter_le _ _
  generalize nm3.filter (fun q => !decide (q = p)) = oth at c hoth hlen
  unfold pathsD prtD at c
  unfold prtD at p3 g3
  have fin1 : ∀ S4, Dw (S2 ++ [.lst [prtD (p, b)]]) S4 → tupleD [.ref S2.length] S4 = .ok (stD [(p, b)]) S4 := fun S4 g => tupleR (g.get sg_new (by omega))
  simp only [prtD] at fin1
  have gd1 : Gd [(p, b)] := ⟨by simp [nms], fun x hx => by simp [nms] at hx; rw [hx]; exact hp⟩
  simp [hy2, wipeD, c]
  cases oth with
  | nil =>
    have e := fin1 _ (.rf p3)
    simp [e]
    exact ⟨g3, _, gd1, rfl⟩
  | cons q qs =>
    simp
    generalize hx : fn_law_take _ _ = x
    obtain ⟨_, S4, rfl, d4⟩ := Ok.g hx (draw (ns := ns) (z := 4) p3)
    obtain ⟨r4, rfl, hr4⟩ := d4.ex
    by_cases c4 : r4 = 0
    · subst c4
      simp only [List.length_cons] at hlen
      simp
      generalize hx : fn_law_take _ _ = x
      obtain ⟨_, S5, rfl, d5⟩ := Ok.g hx (draw (ns := ns) (z := (qs.length : Int) + 1) d4.pool (by omega) (by omega))
      obtain ⟨r5, rfl, hr5⟩ := d5.ex
      obtain ⟨z, hz, hzm⟩ := atI_mem (xs := (q :: qs).map D.str) (r := r5) (by rw [List.length_map, List.length_cons]; omega)
      obtain ⟨w, hw, rfl⟩ := List.mem_map.mp hzm
      have hww := hoth w hw
      simp only [List.map_cons] at hz
      simp [hz]
      generalize hx : fn_law_take _ _ = x
      obtain ⟨_, S6, rfl, d6⟩ := Ok.g hx (draw (ns := ns) (z := 2) d5.pool)
      obtain ⟨r6, rfl, hr6⟩ := d6.ex
      obtain ⟨y, hy6, hm6⟩ := atI_mem (xs := [D.str "up", .str "down"]) (r := r6) (by simp; omega)
      obtain ⟨b6, rfl⟩ := way_x hm6
      have g6 := (d4.dw.tr d5.dw).tr d6.dw
      have at6 := g6.get sg_new (show S2.length ≠ 0 by omega)
      have z1 : 1 < sizeLine := Nat.lt_of_lt_of_le (show 1 < 1000 by omega) (s1000 (by omega))
      have at7 : sg (sp S6 S2.length (.lst [.tup [.str p, .str (wayS b)], .tup [.str w, .str (wayS b6)]])) S2.length = some (.lst [.tup [.str p, .str (wayS b)], .tup [.str w, .str (wayS b6)]]) := sg_sp (sg_lt at6)
      have t7 := tupleR at7
      have at4 := d4.dw.get sg_new (show S2.length ≠ 0 by omega)
      simp [hy6, at4, at6, z1, t7]
      refine ⟨⟨?_, ?_⟩, [(p, b), (w, b6)], ⟨?_, ?_⟩, rfl⟩
      · obtain ⟨m, hs, hp⟩ := g6.pool
        exact ⟨m, (sg_ne (by omega)).trans hs, hp⟩
      · refine ⟨by rw [sp_len]; exact Nat.le_trans g3.fr.le g6.fr.le, fun i hi hA => ?_⟩
        have hlt : i < S2.length := Nat.lt_of_lt_of_le hi (Nat.le_trans d1.dw.fr.le d2.dw.fr.le)
        rw [sg_ne (by omega)]
        exact (g3.fr.tr g6.fr).eq i hi hA
      · simp [nms, hww.2.symm]
      · intro x hx
        simp [nms] at hx
        rcases hx with rfl | rfl
        · exact hp
        · exact hww.1
    · have e := fin1 _ d4.dw
      have c4' : ¬ (r4 : Int) = 0 := by omega
      simp [c4, c4', e]
      exact ⟨g3.tr d4.dw, _, gd1, rfl⟩
end
end G
namespace G
open PySem L2
inductive Rw where
  | srt (o : List Prt)
  | flp
  | fst
  | dis (ps : List Str)
  | keep (s : Sp)
def Rw.d : Rw → D
  | .srt o => .tup [.str "sort", stD o]
  | .flp => .tup [.str "flip"]
  | .fst => .tup [.str "first"]
  | .dis ps => .tup [.str "distinct", .tup (ps.map D.str)]
  | .keep s => .tup [.str "keep", s.en2]
def Rw.g : Rw → D
  | .keep s => .tup [.str "keep", s.t]
  | r => r.d
def Rw.sx : Rw → Sx
  | .srt o => .srt o
  | .flp => .flp
  | _ => .oth
def Rw.ok : Rw → Prop
  | .srt o => Gd o
  | .dis ps => ∀ p ∈ ps, p ∈ nm3
  | .keep s => s.wf ∧ s.k63 ∧ s.ht ≤ 2 ∧ s.lv.length ≤ 2
  | _ => True
theorem Rw.sxd (r : Rw) : SxD r.d r.sx := by
  cases r with
  | srt o => exact .srt
  | flp => exact .flp
  | fst => exact .oth (by decide) (by decide)
  | dis ps => exact .oth (by decide) (by decide)
  | keep s => exact .oth (by decide) (by decide)
theorem Rw.sxg (r : Rw) : SxD r.g r.sx := by
  cases r with
  | keep s => exact .oth (by decide) (by decide)
  | srt o => exact .srt
  | flp => exact .flp
  | fst => exact .oth (by decide) (by decide)
  | dis ps => exact .oth (by decide) (by decide)
theorem Rw.gd {r : Rw} (h : r.ok) : r.sx.gd := by
  cases r with
  | srt o => exact h
  | _ => trivial
theorem sxr_d (rs : List Rw) : SxR (rs.map Rw.d) (rs.map Rw.sx) := by
  refine ⟨by simp, fun i d x hd hx => ?_⟩
  rw [List.getElem?_map] at hd hx
  cases e : rs[i]? with
  | none => rw [e] at hd; cases hd
  | some r =>
    rw [e] at hd hx
    cases hd
    cases hx
    exact r.sxd
theorem sxr_g (rs : List Rw) : SxR (rs.map Rw.g) (rs.map Rw.sx) := by
  refine ⟨by simp, fun i d x hd hx => ?_⟩
  rw [List.getElem?_map] at hd hx
  cases e : rs[i]? with
  | none => rw [e] at hd; cases hd
  | some r =>
    rw [e] at hd hx
    cases hd
    cases hx
    exact r.sxg
theorem gds {rs : List Rw} (h : ∀ r ∈ rs, r.ok) : ∀ x ∈ rs.map Rw.sx, x.gd := fun x hx => by
  obtain ⟨r, hr, rfl⟩ := List.mem_map.mp hx
  exact Rw.gd (h r hr)
section
variable {S : Store} {ns : List Int}
theorem step_x (h : PoolAt S) : Ok (fn_law_step [.scr ns, .ref 0, pathsD] S) fun d S' => Dw S S' ∧ ∃ r : Rw, r.ok ∧ d = r.d := by
  unfold fn_law_step
  rw [run_eq]
  simp only [sem_law_step, startD]
  simp
  generalize hx : fn_law_take _ _ = x
  obtain ⟨_, S1, rfl, d1⟩ := Ok.g hx (draw (ns := ns) (z := 9) h)
  obtain ⟨r, rfl, hr⟩ := d1.ex
  by_cases c3 : (r : Int) < 3
  · simp [c3]
    generalize hx : fn_law_form _ _ = x
    obtain ⟨_, S2, rfl, g2, s, h1, h2, h3, h4, rfl⟩ := Ok.g hx (form_x (ns := ns) d1.pool)
    simp
    exact ⟨d1.dw.tr g2, .keep s, ⟨h1, h2, h3, h4⟩, rfl⟩
  by_cases c5 : (r : Int) < 5
  · simp [c3, c5]
    generalize hx : fn_law_order _ _ = x
    obtain ⟨_, S2, rfl, g2, o, ho, rfl⟩ := Ok.g hx (order_x (ns := ns) d1.pool)
    simp
    exact ⟨d1.dw.tr g2, .srt o, ho, rfl⟩
  by_cases c7 : (r : Int) < 7
  · simp [c3, c5, c7]
    generalize hx : fn_law_order _ _ = x
    obtain ⟨_, S2, rfl, g2, o, ho, rfl⟩ := Ok.g hx (order_x (ns := ns) d1.pool)
    have ol := ho.len
    have c := comp_pure (it := ⟨o.map prtD, none⟩) (p := ptT (psC (ptN 5) (psC (ptN 6) psN))) (t := mYes) (e := mVar 5) (ρ := [some (.scr ns), some (.ref 0), some pathsD, some (.int r), some (stD o), none, none]) (S := S2) grd_none prtD (fun p => .str p.1) (fun _ => true) o 0
      (fun p hp => ⟨_, rfl, rfl, fun _ => by simp⟩) (by rw [Nat.zero_add]; exact s1000 (by omega))
    rw [List.filter_eq_self.mpr (fun _ _ => rfl), show o.map (fun p => D.str p.1) = (nms o).map D.str from by unfold nms; rw [List.map_map]; rfl] at c
    unfold stD at c
    simp [stD, wipeD, c]
    generalize hx : fn_law_take _ _ = x
    obtain ⟨_, S3, rfl, d3⟩ := Ok.g hx (draw (ns := ns) (z := 4) g2.pool)
    obtain ⟨r3, rfl, hr3⟩ := d3.ex
    obtain ⟨y, hy, hm⟩ := atI_mem (xs := [D.int 2, .int 2, .int 2, .int 0]) (r := r3) (by simp; omega)
    obtain ⟨k, rfl⟩ : ∃ k : Nat, y = .int k := by
      simp only [List.mem_cons, List.not_mem_nil, or_false] at hm
      rcases hm with rfl | rfl | rfl | rfl
      · exact ⟨2, rfl⟩
      · exact ⟨2, rfl⟩
      · exact ⟨2, rfl⟩
      · exact ⟨0, rfl⟩
    simp [hy, cut_take]
    refine ⟨(d1.dw.tr g2).tr d3.dw, .dis ((nms o).take k), fun p hp => ho.mem p (List.mem_of_mem_take hp), ?_⟩
    simp [Rw.d, List.map_take]
  have : r = 7 ∨ r = 8 := by omega
  rcases this with rfl | rfl
  · simp [t2_0]
    exact ⟨d1.dw, .fst, trivial, rfl⟩
  · simp [t2_1]
    exact ⟨d1.dw, .flp, trivial, rfl⟩
theorem given_ok {a : Nat} {rs : List Rw} (hS : sg S a = some (.lst (rs.map Rw.d))) (hr : ∀ r ∈ rs, r.ok) (hz : rs.length ≤ 1000) : Ok (fn_law_given [.ref a] S) fun d S' => d = .lst (rs.map Rw.g) ∧ Ext S S' := by
  unfold fn_law_given
  rw [run_eq]
  simp only [sem_law_given, startD]
  simp [hS, wipeD]
  generalize hc : compL _ _ _ _ _ _ _ _ = c
  obtain ⟨ys, S2, rfl, hI⟩ := Ok.g hc (compI (fun j ys S' => ys = (rs.map Rw.g).take j ∧ Ext S S') (fun j ys S' hI => grd_some ((Fr.ext (A := []) hI.2).get hS (by simp))) (fun j d hj => by
    have hjl : j < rs.length := by
      have := (List.getElem?_eq_some_iff.mp hj).1
      simpa using this
    obtain rfl : d = (rs[j]).d := by
      rw [List.getElem?_map, List.getElem?_eq_getElem hjl] at hj
      exact (Option.some.inj hj).symm
    have hro := hr rs[j] (List.getElem_mem hjl)
    have et : ∀ ys, ys = (rs.map Rw.g).take j → ys ++ [(rs[j]).g] = (rs.map Rw.g).take (j + 1) := fun ys e => by
      rw [e, List.take_succ, List.getElem?_map, List.getElem?_eq_getElem hjl]
      rfl
    generalize rs[j] = r at hro et
    refine ⟨_, rfl, fun ys S' hI => ?_⟩
    cases r with
    | keep s =>
      obtain ⟨h1, h2, h3, h4⟩ := hro
      simp [Rw.d, t2_0, t2_1]
      generalize hx : fn_law_test _ _ _ = x
      obtain ⟨_, S3, rfl, rfl, e3⟩ := Ok.g hx (test_ok s 20 S' (by omega) ⟨by omega, by omega⟩ h1 h2)
      simp
      exact ⟨et ys hI.1, hI.2.tr e3⟩
    | srt o =>
      simp [Rw.d, t2_0]
      exact ⟨et ys hI.1, hI.2⟩
    | flp =>
      simp [Rw.d, t1_0]
      exact ⟨et ys hI.1, hI.2⟩
    | fst =>
      simp [Rw.d, t1_0]
      exact ⟨et ys hI.1, hI.2⟩
    | dis ps =>
      simp [Rw.d, t2_0]
      exact ⟨et ys hI.1, hI.2⟩) ⟨rfl, .rf _⟩ (by rw [Nat.zero_add, List.length_map]; exact s1000 hz))
  rw [List.length_map, List.take_of_length_le (by rw [List.length_map]; exact Nat.le_refl _)] at hI
  simp
  exact hI
end
end G
namespace G
open PySem L2
/-! ### the given steps are themselves, by == -/
theorem nm_so {p : Str} (h : p ∈ nm3) : PyData.strOk p = true := (pth3 h).so
theorem way_so (b : Bool) : PyData.strOk (wayS b) = true := by cases b <;> decide +kernel
theorem Rw.pl {r : Rw} (h : r.ok) : (Pl 3 r.g) ∨ ∃ s : Sp, s.wf ∧ s.ht ≤ 2 ∧ r.g = .tup [.str "keep", s.t] := by
  have one : ∀ {t : Str}, PyData.strOk t = true → Pl 3 (.tup [.str t]) := fun ht => .tup fun d hd => by
    rw [List.mem_singleton] at hd
    subst hd
    exact .str ht
  cases r with
  | keep s => exact .inr ⟨s, h.1, h.2.2.1, rfl⟩
  | flp => exact .inl (one (by decide +kernel))
  | fst => exact .inl (one (by decide +kernel))
  | srt o =>
    refine .inl (.tup fun d hd => ?_)
    simp only [List.mem_cons, List.not_mem_nil, or_false] at hd
    rcases hd with rfl | rfl
    · exact .str (by decide +kernel)
    · refine .tup fun e he => ?_
      obtain ⟨p, hp, rfl⟩ := List.mem_map.mp he
      refine .tup fun e he => ?_
      simp only [List.mem_cons, List.not_mem_nil, or_false] at he
      rcases he with rfl | rfl
      · exact .str (nm_so (h.mem _ (List.mem_map_of_mem hp)))
      · exact .str (way_so _)
  | dis ps =>
    refine .inl (.tup fun d hd => ?_)
    simp only [List.mem_cons, List.not_mem_nil, or_false] at hd
    rcases hd with rfl | rfl
    · exact .str (by decide +kernel)
    · refine .tup fun e he => ?_
      obtain ⟨p, hp, rfl⟩ := List.mem_map.mp he
      exact .str (nm_so (h p hp))
section
open Classical
variable {S : Store}
theorem rc_self {s : Sp} (n : Nat) (h : s.ht < 20) (w : s.wf) : rcX "Test" (fn_Test_eq 20) S (n + 1) s.t s.t = some true := by
  have h1 := eq_ok (S := S) 20 s s h h w w
  rw [decide_eq_true rfl] at h1
  rw [s.t_eq] at h1 ⊢
  unfold rcX
  have okr : okR "Test" S (tst s.knd s.dat (s.ps.map Sp.t)) = true := rfl
  simp only [lsOf, okr, and_self, if_true]
  unfold ownB ar
  simp only [List.length_cons, List.length_nil, if_true]
  rw [h1]
  simp
theorem all_self {e : D → D → Option Bool} : ∀ {xs : List D}, (∀ x ∈ xs, e x x = some true) → allO e xs xs = some true
  | [], _ => rfl
  | x :: xs, h => by
    unfold allO
    rw [h x (by simp)]
    exact all_self fun y hy => h y (by simp [hy])
theorem toPys_none : ∀ {ds : List D} {d : D}, d ∈ ds → toPy d = none → toPys ds = none
  | e :: ds, d, h, hn => by
    unfold toPys
    rcases List.mem_cons.mp h with rfl | h
    · rw [hn]
    · rw [toPys_none h hn]
      cases toPy e <;> rfl
theorem keep_py {s : Sp} : toPy (.tup [.str "keep", s.t]) = none := by
  have e : toPy s.t = none := by rw [s.t_eq]; rfl
  have z := toPys_none (ds := [.str "keep", s.t]) (by simp) e
  unfold toPy
  rw [z]
  rfl
theorem pl_self {n : Nat} {d : D} (h : Pl n d) (hn : n ≤ 64) : eqB S d d = some true := by
  rw [Pl.eqB h h hn hn]
  simp
theorem el_self {r : Rw} (h : r.ok) : elO "Test" (rcX "Test" (fn_Test_eq 20) S 3) S r.g r.g = some true := by
  rcases Rw.pl h with hp | ⟨s, sw, sh, e⟩
  · unfold elO
    rw [pl_self hp (by omega)]
  · rw [e]
    have e0 : eqB S (.tup [.str "keep", s.t]) (.tup [.str "keep", s.t]) = none := by
      unfold eqB
      have : toPyS S (.tup [.str "keep", s.t]) = none := keep_py
      rw [this]
      rfl
    have e1 : elO "Test" (rcX "Test" (fn_Test_eq 20) S 2) S (.str "keep") (.str "keep") = some true := by
      unfold elO
      rw [pl_self (Pl.str (n := 0) (by decide +kernel)) (by omega)]
    have e2 : elO "Test" (rcX "Test" (fn_Test_eq 20) S 2) S s.t s.t = some true := by
      unfold elO
      rw [show eqB S s.t s.t = none from by rw [s.t_eq]; exact eqB_ins, rc_self 1 (by omega) sw]
    have e3 : rcX "Test" (fn_Test_eq 20) S 3 (.tup [.str "keep", s.t]) (.tup [.str "keep", s.t]) = some true := by
      unfold rcX
      simp only [lsOf]
      refine all_self fun x hx => ?_
      simp only [List.mem_cons, List.not_mem_nil, or_false] at hx
      rcases hx with rfl | rfl
      · exact e1
      · exact e2
    unfold elO
    rw [e0, e3]
theorem ne_self {rs : List Rw} (h : ∀ r ∈ rs, r.ok) : neO "Test" (fn_Test_eq 20) 4 (.lst (rs.map Rw.g)) (.lst (rs.map Rw.g)) S = .ok (.bl false) S := by
  by_cases hk : ∃ r ∈ rs, ¬ Pl 3 r.g
  · obtain ⟨r, hr, hn⟩ := hk
    rcases Rw.pl (h r hr) with hp | ⟨s, sw, sh, e⟩
    · exact absurd hp hn
    · have z := toPys_none (ds := rs.map Rw.g) (List.mem_map_of_mem hr) (by rw [e]; exact keep_py)
      have e0 : eqB S (.lst (rs.map Rw.g)) (.lst (rs.map Rw.g)) = none := by
        unfold eqB
        have : toPyS S (.lst (rs.map Rw.g)) = none := by
          show toPy (.lst (rs.map Rw.g)) = none
          unfold toPy
          rw [z]
          rfl
        rw [this]
        rfl
      refine neO_own (k := true) e0 ?_
      unfold rcX
      simp only [lsOf, if_true]
      refine all_self fun x hx => ?_
      obtain ⟨r, hr, rfl⟩ := List.mem_map.mp hx
      exact el_self (h r hr)
  · have hp : ∀ r ∈ rs, Pl 3 r.g := fun r hr => Classical.byContradiction fun hn => hk ⟨r, hr, hn⟩
    exact neO_base (k := true) (pl_self (Pl.lst (n := 3) fun d hd => by
      obtain ⟨r, hr, rfl⟩ := List.mem_map.mp hd
      exact hp r hr) (by omega))
end
end G
namespace G
open PySem L2
theorem put_last {S : Store} {n : Nat} {xs : List D} {x v : D} (h : sg S n = some (.lst (xs ++ [x]))) : putD (.ref n) (.int (-1)) v S = some (sp S n (.lst (xs ++ [v]))) := by
  unfold putD
  dsimp only
  rw [show S[n]? = some (.lst (xs ++ [x])) from h]
  have e : ixN (xs ++ [x]).length (-1) = some xs.length := by
    unfold ixN
    rw [List.length_append, List.length_singleton]
    rw [if_neg (by decide), if_pos (by omega)]
    congr 1
    omega
  dsimp only
  rw [e]
  dsimp only
  rw [List.set_append_right _ _ (Nat.le_refl _), Nat.sub_self]
  rfl
theorem st_pl {o : List Prt} (h : Gd o) : Pl 3 (stD o) := .tup fun e he => by
  obtain ⟨p, hp, rfl⟩ := List.mem_map.mp he
  refine .tup fun e he => ?_
  simp only [List.mem_cons, List.not_mem_nil, or_false] at he
  rcases he with rfl | rfl
  · exact .str (nm_so (h.mem _ (List.mem_map_of_mem hp)))
  · exact .str (way_so _)
theorem st_dat {o : List Prt} (h : o.length ≤ 1000) : Dat 2 (stD o) := .tup (by rw [List.length_map]; omega) fun e he => by
  obtain ⟨p, hp, rfl⟩ := List.mem_map.mp he
  refine .tup (by simp) fun e he => ?_
  simp only [List.mem_cons, List.not_mem_nil, or_false] at he
  rcases he with rfl | rfl
  · exact .str _
  · exact .str _
theorem add_st {S : Store} {f o : List Prt} (hz : f.length + o.length ≤ sizeLine) : addD (stD f) (stD o) S = .ok (stD (f ++ o)) S := by
  unfold stD addD
  dsimp only
  rw [List.length_map, List.length_map, if_pos hz, List.map_append]
theorem sortT_ok {S : Store} {l : List Str} (h : l.length < 64) : sortedTD [.lst (l.map D.str)] S = .ok (.lst ((srtS (ddS l)).map D.str)) S := by
  unfold sortedTD
  show (match stsO (l.map D.str) with
    | some ns => if ns.length < 64 then Res.ok (D.lst ((srtS (ddS ns)).map D.str)) S else Res.stk
    | none => Res.stk) = _
  rw [sts_map]
  dsimp only
  rw [if_pos h]
theorem sortS_ok {S : Store} {l : List Str} (h : l.length < 64) : sortedSD [.lst (l.map D.str)] S = .ok (.lst ((srtS l).map D.str)) S := by
  unfold sortedSD
  show (match stsO (l.map D.str) with
    | some ns => if ns.length < 64 then Res.ok (D.lst ((srtS ns).map D.str)) S else Res.stk
    | none => Res.stk) = _
  rw [sts_map]
  dsimp only
  rw [if_pos h]
theorem it_st {S : Store} {o : List Prt} : itD (stD o) S = .ok ⟨o.map prtD, none⟩ S := rfl
theorem len_st {S : Store} {o : List Prt} (h : o.length ≤ 1000) : lenD [stD o] S = .ok (.int (o.length : Nat)) S := by
  have : lenO S (stD o) = some o.length := by
    show some (o.map prtD).length = _
    rw [List.length_map]
  unfold lenD
  dsimp only
  rw [this]
  rfl
theorem cut_st {S : Store} {o f : List Prt} : slD (stD (o ++ f)) none (some (o.length : Nat)) S = .ok (stD o) S := by
  show Res.ok (D.tup (cutD ((o ++ f).map prtD) none (some (o.length : Nat)))) S = _
  rw [cut_take, List.map_append, List.take_left' (by rw [List.length_map])]
  rfl
theorem same_srt {o f : List Prt} (ho : Gd o) (hf : Gd f) : srtS (nms (o ++ notin (nms o) f)) = srtS (ddS (nms (f ++ o))) := by
  refine srtS_eq ((srtS_perm _).trans ?_) (srtS_pw _)
  refine (List.perm_ext_iff_of_nodup (ho.app hf).nd (ddS_nd _)).mpr fun x => ?_
  rw [ddS_mem]
  have e : nms (o ++ notin (nms o) f) = nms o ++ nms (notin (nms o) f) := by simp [nms]
  have e2 : nms (f ++ o) = nms f ++ nms o := by simp [nms]
  rw [e, e2, List.mem_append, List.mem_append]
  constructor
  · rintro (h | h)
    · exact .inr h
    · exact .inl (nms_notin_sub h).1
  · rintro (h | h)
    · by_cases hx : x ∈ nms o
      · exact .inl hx
      · refine .inr ?_
        obtain ⟨p, hp, rfl⟩ := List.mem_map.mp h
        exact List.mem_map_of_mem (List.mem_filter.mpr ⟨hp, by simpa using hx⟩)
    · exact .inl h
inductive SaI (ns : List Int) (a : Nat) (o3 : Option D) (S : Store) (j : Nat) : Sl → Store → Prop
  | mk {rs : List Rw} {o5 o6 o7 o8 o9 o10 o11 o12 o13 o14 : Option D} {S' : Store} (l : rs.length = j) (ok : ∀ r ∈ rs, r.ok) (p : PoolAt S') (at_ : sg S' a = some (.lst (rs.map Rw.d))) :
    SaI ns a o3 S j [some (.scr ns), some (.ref 0), some pathsD, o3, some (.ref a), o5, o6, o7, o8, o9, o10, o11, o12, o13, o14] S'
inductive SbI (ns : List Int) (a : Nat) (rs : List Rw) (o3 o5 : Option D) (j : Nat) : Sl → Store → Prop
  | mk {o8 o9 o10 o11 o12 o13 o14 : Option D} {S' : Store} (p : PoolAt S') (at_ : sg S' a = some (.lst (rs.map Rw.d))) :
    SbI ns a rs o3 o5 j [some (.scr ns), some (.ref 0), some pathsD, o3, some (.ref a), o5, some (.lst (rs.map Rw.g)), some (.lst (rs.map Rw.g)), o8, o9, o10, o11, o12, o13, o14] S'
inductive OuI (ns : List Int) (j : Nat) : Sl → Store → Prop
  | mk {o3 o4 o5 o6 o7 o8 o9 o10 o11 o12 o13 o14 : Option D} {S' : Store} (p : PoolAt S') :
    OuI ns j [some (.scr ns), some (.ref 0), some pathsD, o3, o4, o5, o6, o7, o8, o9, o10, o11, o12, o13, o14] S'
theorem law_k {ns : List Int} : Ok (fn_law [.scr ns] []) (fun d _ => d = .bl true) := by
  have p0 : PoolAt [.lst [.int 0, .int 0, .int 0, .int 0]] := ⟨_, rfl, 0, 0, 0, 0, rfl, by decide, by decide⟩
  have sm : smR (4 : Int) = true := by decide +kernel
  unfold fn_law
  rw [run_eq]
  simp only [sem_law, startD]
  simp [sm]
  generalize hv : forL _ _ _ _ _ _ = v
  obtain ⟨ρ4, S4, rfl, I4⟩ := OkN.g hv (forI (OuI ns) (fun _ _ _ _ => grd_none) (fun j d hj ρ S hI => by
    cases hI with
    | @mk o3 o4 o5 o6 o7 o8 o9 o10 o11 o12 o13 o14 _ p =>
    have hS0 : 0 < S.length := by
      obtain ⟨m, hs, _⟩ := p
      exact sg_lt hs
    have p1 : PoolAt (S ++ [.lst []]) := p.ext .one
    refine ⟨_, rfl, ?_⟩
    simp
    generalize hx : fn_law_take _ _ = x
    obtain ⟨_, S1, rfl, d1⟩ := Ok.g hx (draw (ns := ns) (z := 6) p1)
    obtain ⟨m, rfl, hm⟩ := d1.ex
    have at1 := d1.dw.get sg_new (show S.length ≠ 0 by omega)
    have smm : smR (m : Int) = true := by
      have : ∀ n : Nat, n < 6 → smR (n : Int) = true := by decide +kernel
      exact this _ (by omega)
    simp [smm]
    generalize hv : forL _ _ _ _ _ _ = v
    obtain ⟨ρ5, S5, rfl, I5⟩ := OkN.g hv (forI (SaI ns S.length (some d) S) (fun _ _ _ _ => grd_none) (fun k d2 hk ρ S' hI => by
      cases hI with
      | @mk rs o5 o6 o7 o8 o9 o10 o11 o12 o13 o14 _ l ok p at_ =>
      have hkm : k < m := by
        have := (List.getElem?_eq_some_iff.mp hk).1
        simpa using this
      refine ⟨_, rfl, ?_⟩
      simp
      generalize hx : fn_law_take _ _ = x
      obtain ⟨_, S2, rfl, d2⟩ := Ok.g hx (draw (ns := ns) (z := 6) p)
      obtain ⟨w, rfl, hw⟩ := d2.ex
      have at2 := d2.dw.get at_ (show S.length ≠ 0 by omega)
      simp
      generalize hx : fn_law_order _ _ = x
      obtain ⟨_, S3, rfl, g3, o, ho, rfl⟩ := Ok.g hx (order_x (ns := ns) d2.pool)
      have at3 := g3.get at2 (show S.length ≠ 0 by omega)
      have hz : rs.length < sizeLine := Nat.lt_of_lt_of_le (show rs.length < 1000 by omega) (s1000 (by omega))
      have pa : ∀ (S : Store) (mo : MO) (n : Nat), n ≠ 0 → PoolAt S → PoolAt (sp S n mo) := fun S mo n hn ⟨m, hs, hp⟩ => ⟨m, (sg_ne (by omega)).trans hs, hp⟩
      have at4 : sg (sp S3 S.length (.lst (rs.map Rw.d ++ [.tup [.str "sort", stD o]]))) S.length = some (.lst (rs.map Rw.d ++ [.tup [.str "sort", stD o]])) := sg_sp (sg_lt at3)
      have p4 : PoolAt (sp S3 S.length (.lst (rs.map Rw.d ++ [.tup [.str "sort", stD o]]))) := pa _ _ _ (by omega) g3.pool
      have fin : ∀ (r : Rw) (S' : Store) (o5 o6 o7 o8 o9 o10 o11 o12 o13 o14 : Option D), r.ok → PoolAt S' → sg S' S.length = some (.lst (rs.map Rw.d ++ [r.d])) → SaI ns S.length (some d) S (k + 1) [some (.scr ns), some (.ref 0), some pathsD, some d, some (.ref S.length), o5, o6, o7, o8, o9, o10, o11, o12, o13, o14] S' := fun r S' o5 o6 o7 o8 o9 o10 o11 o12 o13 o14 hr hp ha =>
        .mk (rs := rs ++ [r]) (by simp [l]) (fun q hq => by
          rcases List.mem_append.mp hq with hq | hq
          · exact ok q hq
          · rw [List.mem_singleton] at hq
            subst hq
            exact hr) hp (by rw [ha, List.map_append]; rfl)
      simp [at2, at3, hz]
      have pl4 := put_last (v := .tup [.str "flip"]) at4
      have pf : PoolAt (sp S3 S.length (.lst (rs.map Rw.d ++ [.tup [.str "flip"]]))) := pa _ _ _ (by omega) g3.pool
      have af := sg_sp (m := .lst (rs.map Rw.d ++ [.tup [.str "flip"]])) (sg_lt at3)
      by_cases w3 : (w : Int) = 3
      · simp [w3, pl4]
        exact fin .flp _ _ _ _ _ _ _ _ _ _ _ trivial pf af
      by_cases w4 : (w : Int) = 4
      · simp [w4, pl4]
        exact fin .flp _ _ _ _ _ _ _ _ _ _ _ trivial pf af
      by_cases w5 : (w : Int) = 5
      · simp [w3, w4, w5]
        generalize hx : fn_law_step _ _ = x
        obtain ⟨_, S6, rfl, g6, r, hr, rfl⟩ := Ok.g hx (step_x (ns := ns) p4)
        have at6 := g6.get at4 (show S.length ≠ 0 by omega)
        have pl6 := put_last (v := r.d) at6
        simp [pl6]
        exact fin r _ _ _ _ _ _ _ _ _ _ _ hr (pa _ _ _ (by omega) g6.pool) (sg_sp (sg_lt at6))
      · simp [w3, w4, w5]
        exact fin (.srt o) _ _ _ _ _ _ _ _ _ _ _ ho p4 at4) (.mk (rs := []) rfl (fun r hr => by cases hr) d1.pool at1))
    cases I5 with
    | @mk rs o5 o6 o7 o8 o9 o10 o11 o12 o13 o14 _ l ok p5 at5 =>
    have hl5 : rs.length ≤ 5 := by
      rw [l, List.length_map, List.length_range]
      omega
    have gd := gds ok
    simp
    generalize hx : fn_law_given _ _ = x
    obtain ⟨_, S6, rfl, rfl, e6⟩ := Ok.g hx (given_ok at5 ok (by omega))
    have p6 := p5.ext e6
    have at6 := (Fr.ext (A := []) e6).get at5 (by simp)
    have sm6 : smR ((rs.length : Int) + 1) = true := by
      have : ∀ n : Nat, n < 6 → smR ((n : Int) + 1) = true := by decide +kernel
      exact this _ (by omega)
    simp [at6, sm6]
    refine for_gen (SbI ns S.length rs (some d) o5) (fun o => Stp (OuI ns (j + 1)) (fun _ => False) o) (fun k d3 hk ρ S' hI => ?_) (fun ρ S' hI => by
      cases hI with
      | mk p at_ => exact ⟨grd_none, by rw [stp_nx]; exact .mk p⟩) (.mk p6 at6)
    cases hI with
    | @mk o8 o9 o10 o11 o12 o13 o14 _ p at_ =>
    have hkl : k < rs.length + 1 := by
      have := (List.getElem?_eq_some_iff.mp hk).1
      simpa using this
    obtain rfl : d3 = .int (k : Nat) := by
      rw [List.getElem?_map, List.getElem?_range hkl] at hk
      exact (Option.some.inj hk).symm
    refine ⟨grd_none, _, rfl, ?_⟩
    simp
    generalize hx : fn_law_standing _ _ = x
    obtain ⟨_, S7, rfl, rfl, f7⟩ := Ok.g hx (law_standing_ok at_ (sxr_d rs) gd (i := k))
    have gf : Gd (stand ((rs.map Rw.sx).take k)) := stand_gd fun x hx => gd x (List.mem_of_mem_take hx)
    have s1 := standing_lst (S := S7) (i := k) (sxr_g rs) gd
    have s2 := standing_tup (S := S7) (i := k) (sxr_g rs) gd
    have fl := gf.len
    generalize hf : stand ((rs.map Rw.sx).take k) = f at gf s1 s2 fl
    have lk := like_ok (S := S7) 2 (Dat.sm (st_dat (o := f) (by omega))) 20 (by omega)
    have ne := ne_self (S := S7) ok
    simp [s1, s2, lk, ne]
    have p7 : PoolAt S7 := by
      obtain ⟨m, hs, hp⟩ := p
      exact ⟨m, f7.get hs (by simp), hp⟩
    have at7 := f7.get at_ (by simp)
    by_cases hk3 : (3 : Int) < (k : Int)
    · simp [hk3]
      exact .mk p7
    have hkk : k ≤ rs.length := by omega
    have okt : ∀ (r : Rw), r ∈ rs.take k → r.ok := fun r hr => ok r (List.mem_of_mem_take hr)
    have s3 : fn_standing [.lst ((rs.map Rw.g).take k ++ [.tup [.str "flip"], .tup [.str "flip"]]), .int ((k : Int) + 2)] S7 = .ok (stD f) S7 := by
      have z := standing_lst (S := S7) (i := k + 2) (sxr_g (rs.take k ++ [.flp, .flp])) (gds (rs := rs.take k ++ [.flp, .flp]) fun r hr => by
        rcases List.mem_append.mp hr with hr | hr
        · exact okt r hr
        · simp only [List.mem_cons, List.not_mem_nil, or_false] at hr
          rcases hr with rfl | rfl <;> trivial)
      have e1 : (rs.take k ++ [Rw.flp, Rw.flp]).map Rw.g = (rs.map Rw.g).take k ++ [.tup [.str "flip"], .tup [.str "flip"]] := by
        rw [List.map_append, List.map_take]
        rfl
      have e2 : ((rs.take k ++ [Rw.flp, Rw.flp]).map Rw.sx).take (k + 2) = (rs.map Rw.sx).take k ++ [.flp, .flp] := by
        rw [List.take_of_length_le (by simp; omega), List.map_append, List.map_take]
        rfl
      rw [e1, e2, stand_two, hf] at z
      exact z
    have s4 : ∀ (S8 : Store) (o : List Prt), Gd o → fn_standing [.lst ((rs.map Rw.g).take k ++ [.tup [.str "sort", stD o]]), .int ((k : Int) + 1)] S8 = .ok (stD (o ++ notin (nms o) f)) S8 := fun S8 o ho => by
      have z := standing_lst (S := S8) (i := k + 1) (sxr_g (rs.take k ++ [.srt o])) (gds (rs := rs.take k ++ [.srt o]) fun r hr => by
        rcases List.mem_append.mp hr with hr | hr
        · exact okt r hr
        · rw [List.mem_singleton] at hr
          subst hr
          exact ho)
      have e1 : (rs.take k ++ [Rw.srt o]).map Rw.g = (rs.map Rw.g).take k ++ [.tup [.str "sort", stD o]] := by
        rw [List.map_append, List.map_take]
        rfl
      have e2 : ((rs.take k ++ [Rw.srt o]).map Rw.sx).take (k + 1) = (rs.map Rw.sx).take k ++ [.srt o] := by
        rw [List.take_of_length_le (by simp; omega), List.map_append, List.map_take]
        rfl
      rw [e1, e2, stand_snoc, hf] at z
      exact z
    have hgl : ((rs.map Rw.g).take k).length ≤ 5 := by
      rw [List.length_take, List.length_map]
      omega
    have z2 : min k rs.length + 2 ≤ sizeLine := s1000 (by omega)
    have z1 : min k rs.length + 1 ≤ sizeLine := s1000 (by omega)
    simp [hk3, cut_take, z2, s3, lk]
    generalize hx : fn_law_order _ _ = x
    obtain ⟨_, S8, rfl, g8, o, ho, rfl⟩ := Ok.g hx (order_x (ns := ns) p7)
    have at8 := g8.get at7 (show S.length ≠ 0 by omega)
    have ol := ho.len
    have gt := Gd.app ho gf
    have tl := gt.len
    have s5 := s4 S8 o ho
    have nm : ∀ l : List Prt, l.map (fun p => D.str p.1) = (nms l).map D.str := fun l => by unfold nms; rw [List.map_map]; rfl
    simp [cut_take, z1, s5, add_st (S := S8) (f := f) (o := o) (s1000 (by omega)), it_st, wipeD]
    generalize hc : compL _ _ _ _ _ _ _ _ = c
    try rw [← List.map_append] at hc
    obtain ⟨_, Sx, rfl, rfl, hS⟩ := Ok.g hc (compM (xs := f ++ o) prtD (fun p => .str p.1) grd_none (fun p hp => ⟨_, rfl, by simp⟩) (by rw [Nat.zero_add]; exact s1000 (by rw [List.length_append]; omega)))
    rw [hS, nm]
    have st1 := sortT_ok (S := S8) (l := nms (f ++ o)) (by unfold nms; rw [List.length_map, List.length_append]; omega)
    have ln := len_st (S := S8) (o := o) (by omega)
    have cs := cut_st (S := S8) (o := o) (f := notin (nms o) f)
    have eqo : eqB S8 (stD o) (stD o) = some true := pl_self (st_pl ho) (by omega)
    have lo : lenO S8 (stD o) = some o.length := by
      show some (o.map prtD).length = _
      rw [List.length_map]
    simp [st1, lo, cs, eqo, it_st, wipeD]
    generalize hc : compL _ _ _ _ _ _ _ _ = c
    try rw [← List.map_append] at hc
    obtain ⟨_, Sy, rfl, rfl, hS2⟩ := Ok.g hc (compM (xs := o ++ notin (nms o) f) prtD (fun p => .str p.1) grd_none (fun p hp => ⟨_, rfl, by simp⟩) (by rw [Nat.zero_add]; exact s1000 (by omega)))
    rw [hS2, nm]
    have st2 := rSS_some (S := S8) (l := nms (o ++ notin (nms o) f)) (by have e : (nms (o ++ notin (nms o) f)).length = (o ++ notin (nms o) f).length := List.length_map _; omega)
    have sm2 := same_srt ho gf
    have eqn : eqB S8 (.lst ((srtS (ddS (nms (f ++ o)))).map D.str)) (.lst ((srtS (ddS (nms (f ++ o)))).map D.str)) = some true := pl_self (n := 1) (.lst fun e he => by
      obtain ⟨x, hx, rfl⟩ := List.mem_map.mp he
      rw [← sm2] at hx
      exact .str (nm_so (gt.mem x ((srtS_perm _).mem_iff.mp hx)))) (by omega)
    rw [sm2] at st2
    simp [st2, eqn]
    exact .mk g8.pool at8) (.mk p0))
  cases I4 with
  | mk p =>
  have st := standing_lst (S := S4) (ds := []) (l := []) (i := 0) ⟨rfl, fun i d x hd => by simp at hd⟩ (fun x hx => by cases hx)
  have st : fn_standing [.lst [], .int 0] S4 = .ok (.tup []) S4 := st
  have eq0 : eqB S4 (.tup []) (.tup []) = some true := pl_self (Pl.tup (n := 0) fun d hd => by cases hd) (by omega)
  simp [st, eq0]
end G
namespace G
open PySem L2
/-! ### the end -/
def LawOk : Prop := ∀ ns : List Int, ns.length ≤ 63 → ∃ S, fn_law [.scr ns] [] = .ok (.bl true) S
abbrev clNames : List Str := ["BadTest", "Test"]
theorem all_mk {l : PySem.W.OpenLaw} {w : World} {K : PySem.W.Frag} {h : Heap} {mg : Str → Option Value} {fa : Addr} (X : K.In h) (G : h.Ns mainGlobals mg) (hfa : mg "law" = some (.ref fa))
    {C_BadTest : Addr}
    (aC_BadTest : PySem.W.nsIn K mainGlobals "BadTest" = some (some (.ref C_BadTest)))
    {C_Test : Addr}
    (aC_Test : PySem.W.nsIn K mainGlobals "Test" = some (some (.ref C_Test)))
    (q_Test : clsB K C_Test = true)
    (m1_Test : PySem.W.makesIn K C_Test = true)
    (m2_Test : PySem.W.keepIn K (.ref C_Test) = true)
    (n_Test__data : PySem.W.findIn K (.ref C_Test) "_data" = some none)
    (n_Test__kind : PySem.W.findIn K (.ref C_Test) "_kind" = some none)
    (n_Test__parts : PySem.W.findIn K (.ref C_Test) "_parts" = some none)
    {nm_BadTest : _} {qn_BadTest : _} {N_BadTest : _} {bs_BadTest : _} {bm_BadTest : _} {sn_BadTest : _} {sub_BadTest : _} {ab_BadTest : _} {col_BadTest : _} {dd_BadTest : _} {k0_BadTest : _} {k1_BadTest : _} {k2_BadTest : _} {k3_BadTest : _} {k5_BadTest : _}
    (x1_BadTest : K.lookup C_BadTest = some (excClassObj nm_BadTest qn_BadTest C_BadTest N_BadTest bs_BadTest bm_BadTest true sn_BadTest sub_BadTest ab_BadTest col_BadTest dd_BadTest k0_BadTest k1_BadTest k2_BadTest k3_BadTest k5_BadTest "ValueError.__new__"))
    (x2_BadTest : PySem.HandSPX.refsVE bm_BadTest = true)
    (x3_BadTest : oexB K C_BadTest = true)
    (xf_BadTest_why : PySem.W.findIn K (.ref C_BadTest) "why" = some none)
    (on_Test : PySem.W.findIn K (.ref C_Test) "__ne__" = some (some (.builtin "object.__ne__")))
    (ot_Test : PySem.W.mroIn K C_Test (.type "object") = some true)
    {kd_TURNED_WAYS : Addr} {ke_TURNED_WAYS : Array DictEntry} {kn_TURNED_WAYS : Nat} (kx_TURNED_WAYS : PySem.W.nsIn K mainGlobals "TURNED_WAYS" = some (some (.ref kd_TURNED_WAYS))) (ky_TURNED_WAYS : K.lookup kd_TURNED_WAYS = some ⟨.type "dict", none, .dict ke_TURNED_WAYS kn_TURNED_WAYS, #[]⟩) (kz_TURNED_WAYS : PySem.W.KeysLit w.params ke_TURNED_WAYS.toList) (kt_TURNED_WAYS : KTab ke_TURNED_WAYS.toList [("up", .str "down"), ("down", .str "up")]) (ku_TURNED_WAYS : (kd_TURNED_WAYS == sysModules) = false)
    (so_Test : PySem.W.selfFirst K C_Test = true)
    (ib_Test : insB K C_Test = true)
    (nb_Test : noneB K C_Test = true)
    (ko_Test_Test : PySem.W.kitOne K (.ref C_Test) (.ref C_Test) = some true)
    {f0 : Addr} {od0 an0 : Option Addr} {sl0 : Array (Option Value)} {oc0 kV0 dc0 pm0 cd0 ct0 : Value}
    (a0 : PySem.W.findIn K (.ref C_Test) "__eq__" = some (some (.ref f0)))
    (i0 : PySem.W.isFn K (.ref f0) = true)
    (l0 : K.lookup f0 = some ⟨oc0, od0, .func (PySem.W.fnOf "__eq__" "Test.__eq__" (defArgs s_Test_eq) (defBody s_Test_eq) (defScope s_Test_eq) .none kV0 dc0 pm0 an0 cd0 ct0), sl0⟩)
    (c0 : PySem.W.codeIn K cd0 "Test.__eq__" = true)
    (k0 : PySem.W.keepIn K (.ref f0) = true)
    {f1 : Addr} {od1 an1 : Option Addr} {sl1 : Array (Option Value)} {oc1 kV1 dc1 pm1 cd1 ct1 : Value}
    (a1 : PySem.W.findIn K (.ref C_BadTest) "__init__" = some (some (.ref f1)))
    (i1 : PySem.W.typeIn K (.ref f1) = some (.type "function"))
    (l1 : K.lookup f1 = some ⟨oc1, od1, .func (PySem.W.fnOf "__init__" "BadTest.__init__" (defArgs s_BadTest_init) (defBody s_BadTest_init) (defScope s_BadTest_init) .none kV1 dc1 pm1 an1 cd1 ct1), sl1⟩)
    (c1 : PySem.W.codeIn K cd1 "BadTest.__init__" = true)
    (k1 : PySem.W.keepIn K (.ref f1) = true)
    {f2 : Addr} {od2 an2 : Option Addr} {sl2 : Array (Option Value)} {oc2 kV2 dc2 pm2 cd2 ct2 : Value}
    (a2 : PySem.W.findIn K (.ref C_Test) "__init__" = some (some (.ref f2)))
    (i2 : PySem.W.isFn K (.ref f2) = true)
    (l2 : K.lookup f2 = some ⟨oc2, od2, .func (PySem.W.fnOf "__init__" "Test.__init__" (defArgs s_Test_init) (defBody s_Test_init) (defScope s_Test_init) .none kV2 dc2 pm2 an2 cd2 ct2), sl2⟩)
    (c2 : PySem.W.codeIn K cd2 "Test.__init__" = true)
    (k2 : PySem.W.keepIn K (.ref f2) = true)
    {f3 : Addr} {od3 an3 : Option Addr} {sl3 : Array (Option Value)} {oc3 kV3 dc3 pm3 cd3 ct3 : Value}
    (a3 : PySem.W.findIn K (.ref C_Test) "atoms" = some (some (.ref f3)))
    (i3 : PySem.W.isFn K (.ref f3) = true)
    (l3 : K.lookup f3 = some ⟨oc3, od3, .func (PySem.W.fnOf "atoms" "Test.atoms" (defArgs s_Test_atoms) (defBody s_Test_atoms) (defScope s_Test_atoms) .none kV3 dc3 pm3 an3 cd3 ct3), sl3⟩)
    (c3 : PySem.W.codeIn K cd3 "Test.atoms" = true)
    (k3 : PySem.W.keepIn K (.ref f3) = true)
    {f4 : Addr} {od4 an4 : Option Addr} {sl4 : Array (Option Value)} {oc4 kV4 dc4 pm4 cd4 ct4 : Value}
    (a4 : PySem.W.findIn K (.ref C_Test) "levels" = some (some (.ref f4)))
    (i4 : PySem.W.isFn K (.ref f4) = true)
    (l4 : K.lookup f4 = some ⟨oc4, od4, .func (PySem.W.fnOf "levels" "Test.levels" (defArgs s_Test_levels) (defBody s_Test_levels) (defScope s_Test_levels) .none kV4 dc4 pm4 an4 cd4 ct4), sl4⟩)
    (c4 : PySem.W.codeIn K cd4 "Test.levels" = true)
    (k4 : PySem.W.keepIn K (.ref f4) = true)
    {f5 : Addr} {od5 an5 : Option Addr} {sl5 : Array (Option Value)} {oc5 kV5 dc5 pm5 cd5 ct5 : Value}
    (a5 : PySem.W.nsIn K mainGlobals "limited" = some (some (.ref f5)))
    (l5 : K.lookup f5 = some ⟨oc5, od5, .func (PySem.W.fnOf "limited" "limited" (defArgs s_limited) (defBody s_limited) (defScope s_limited) .none kV5 dc5 pm5 an5 cd5 ct5), sl5⟩)
    (c5 : PySem.W.codeIn K cd5 "limited" = true)
    (k5 : PySem.W.keepIn K (.ref f5) = true)
    {f6 : Addr} {od6 an6 : Option Addr} {sl6 : Array (Option Value)} {oc6 kV6 dc6 pm6 cd6 ct6 : Value}
    (a6 : PySem.W.nsIn K mainGlobals "combine" = some (some (.ref f6)))
    (l6 : K.lookup f6 = some ⟨oc6, od6, .func (PySem.W.fnOf "combine" "combine" (defArgs s_combine) (defBody s_combine) (defScope s_combine) .none kV6 dc6 pm6 an6 cd6 ct6), sl6⟩)
    (c6 : PySem.W.codeIn K cd6 "combine" = true)
    (k6 : PySem.W.keepIn K (.ref f6) = true)
    {f7 : Addr} {od7 an7 : Option Addr} {sl7 : Array (Option Value)} {oc7 kV7 dc7 pm7 cd7 ct7 : Value}
    (a7 : PySem.W.findIn K (.ref C_Test) "__and__" = some (some (.ref f7)))
    (i7 : PySem.W.isFn K (.ref f7) = true)
    (l7 : K.lookup f7 = some ⟨oc7, od7, .func (PySem.W.fnOf "__and__" "Test.__and__" (defArgs s_Test_and) (defBody s_Test_and) (defScope s_Test_and) .none kV7 dc7 pm7 an7 cd7 ct7), sl7⟩)
    (c7 : PySem.W.codeIn K cd7 "Test.__and__" = true)
    (k7 : PySem.W.keepIn K (.ref f7) = true)
    {f8 : Addr} {od8 an8 : Option Addr} {sl8 : Array (Option Value)} {oc8 kV8 dc8 pm8 cd8 ct8 : Value}
    (a8 : PySem.W.findIn K (.ref C_Test) "__invert__" = some (some (.ref f8)))
    (i8 : PySem.W.isFn K (.ref f8) = true)
    (l8 : K.lookup f8 = some ⟨oc8, od8, .func (PySem.W.fnOf "__invert__" "Test.__invert__" (defArgs s_Test_invert) (defBody s_Test_invert) (defScope s_Test_invert) .none kV8 dc8 pm8 an8 cd8 ct8), sl8⟩)
    (c8 : PySem.W.codeIn K cd8 "Test.__invert__" = true)
    (k8 : PySem.W.keepIn K (.ref f8) = true)
    {f9 : Addr} {od9 an9 : Option Addr} {sl9 : Array (Option Value)} {oc9 kV9 dc9 pm9 cd9 ct9 : Value}
    (a9 : PySem.W.findIn K (.ref C_Test) "__or__" = some (some (.ref f9)))
    (i9 : PySem.W.isFn K (.ref f9) = true)
    (l9 : K.lookup f9 = some ⟨oc9, od9, .func (PySem.W.fnOf "__or__" "Test.__or__" (defArgs s_Test_or) (defBody s_Test_or) (defScope s_Test_or) .none kV9 dc9 pm9 an9 cd9 ct9), sl9⟩)
    (c9 : PySem.W.codeIn K cd9 "Test.__or__" = true)
    (k9 : PySem.W.keepIn K (.ref f9) = true)
    {f10 : Addr} {od10 an10 : Option Addr} {sl10 : Array (Option Value)} {oc10 kV10 dc10 pm10 cd10 ct10 : Value}
    (a10 : PySem.W.nsIn K mainGlobals "is_integer" = some (some (.ref f10)))
    (l10 : K.lookup f10 = some ⟨oc10, od10, .func (PySem.W.fnOf "is_integer" "is_integer" (defArgs s_is_integer) (defBody s_is_integer) (defScope s_is_integer) .none kV10 dc10 pm10 an10 cd10 ct10), sl10⟩)
    (c10 : PySem.W.codeIn K cd10 "is_integer" = true)
    (k10 : PySem.W.keepIn K (.ref f10) = true)
    {f11 : Addr} {od11 an11 : Option Addr} {sl11 : Array (Option Value)} {oc11 kV11 dc11 pm11 cd11 ct11 : Value}
    (a11 : PySem.W.nsIn K mainGlobals "is_name" = some (some (.ref f11)))
    (l11 : K.lookup f11 = some ⟨oc11, od11, .func (PySem.W.fnOf "is_name" "is_name" (defArgs s_is_name) (defBody s_is_name) (defScope s_is_name) .none kV11 dc11 pm11 an11 cd11 ct11), sl11⟩)
    (c11 : PySem.W.codeIn K cd11 "is_name" = true)
    (k11 : PySem.W.keepIn K (.ref f11) = true)
    {f12 : Addr} {od12 an12 : Option Addr} {sl12 : Array (Option Value)} {oc12 kV12 dc12 pm12 cd12 ct12 : Value}
    (a12 : PySem.W.nsIn K mainGlobals "is_path" = some (some (.ref f12)))
    (l12 : K.lookup f12 = some ⟨oc12, od12, .func (PySem.W.fnOf "is_path" "is_path" (defArgs s_is_path) (defBody s_is_path) (defScope s_is_path) .none kV12 dc12 pm12 an12 cd12 ct12), sl12⟩)
    (c12 : PySem.W.codeIn K cd12 "is_path" = true)
    (k12 : PySem.W.keepIn K (.ref f12) = true)
    {f13 : Addr} {od13 an13 : Option Addr} {sl13 : Array (Option Value)} {oc13 kV13 dc13 pm13 cd13 ct13 : Value}
    (a13 : PySem.W.nsIn K mainGlobals "need_operator" = some (some (.ref f13)))
    (l13 : K.lookup f13 = some ⟨oc13, od13, .func (PySem.W.fnOf "need_operator" "need_operator" (defArgs s_need_operator) (defBody s_need_operator) (defScope s_need_operator) .none kV13 dc13 pm13 an13 cd13 ct13), sl13⟩)
    (c13 : PySem.W.codeIn K cd13 "need_operator" = true)
    (k13 : PySem.W.keepIn K (.ref f13) = true)
    {f14 : Addr} {od14 an14 : Option Addr} {sl14 : Array (Option Value)} {oc14 kV14 dc14 pm14 cd14 ct14 : Value}
    (a14 : PySem.W.nsIn K mainGlobals "need_path" = some (some (.ref f14)))
    (l14 : K.lookup f14 = some ⟨oc14, od14, .func (PySem.W.fnOf "need_path" "need_path" (defArgs s_need_path) (defBody s_need_path) (defScope s_need_path) .none kV14 dc14 pm14 an14 cd14 ct14), sl14⟩)
    (c14 : PySem.W.codeIn K cd14 "need_path" = true)
    (k14 : PySem.W.keepIn K (.ref f14) = true)
    {f15 : Addr} {od15 an15 : Option Addr} {sl15 : Array (Option Value)} {oc15 dc15 pm15 cd15 ct15 : Value}
    {kD15 : Addr} {ku15 : Value}
    (a15 : PySem.W.nsIn K mainGlobals "against" = some (some (.ref f15)))
    (l15 : K.lookup f15 = some ⟨oc15, od15, .func (PySem.W.fnOf "against" "against" (defArgs s_against) (defBody s_against) (defScope s_against) .none (.ref kD15) dc15 pm15 an15 cd15 ct15), sl15⟩)
    (kn15 : PySem.W.nsIn K kD15 "more" = some (some ku15))
    (kr15 : RelV (.int 0) ku15)
    (c15 : PySem.W.codeIn K cd15 "against" = true)
    (k15 : PySem.W.keepIn K (.ref f15) = true)
    {f16 : Addr} {od16 an16 : Option Addr} {sl16 : Array (Option Value)} {oc16 kV16 dc16 pm16 cd16 ct16 : Value}
    (a16 : PySem.W.nsIn K mainGlobals "always" = some (some (.ref f16)))
    (l16 : K.lookup f16 = some ⟨oc16, od16, .func (PySem.W.fnOf "always" "always" (defArgs s_always) (defBody s_always) (defScope s_always) .none kV16 dc16 pm16 an16 cd16 ct16), sl16⟩)
    (c16 : PySem.W.codeIn K cd16 "always" = true)
    (k16 : PySem.W.keepIn K (.ref f16) = true)
    {f17 : Addr} {od17 an17 : Option Addr} {sl17 : Array (Option Value)} {oc17 kV17 dc17 pm17 cd17 ct17 : Value}
    (a17 : PySem.W.nsIn K mainGlobals "is_sequence" = some (some (.ref f17)))
    (l17 : K.lookup f17 = some ⟨oc17, od17, .func (PySem.W.fnOf "is_sequence" "is_sequence" (defArgs s_is_sequence) (defBody s_is_sequence) (defScope s_is_sequence) .none kV17 dc17 pm17 an17 cd17 ct17), sl17⟩)
    (c17 : PySem.W.codeIn K cd17 "is_sequence" = true)
    (k17 : PySem.W.keepIn K (.ref f17) = true)
    {f18 : Addr} {od18 an18 : Option Addr} {sl18 : Array (Option Value)} {oc18 kV18 dc18 pm18 cd18 ct18 : Value}
    (a18 : PySem.W.nsIn K mainGlobals "is_text" = some (some (.ref f18)))
    (l18 : K.lookup f18 = some ⟨oc18, od18, .func (PySem.W.fnOf "is_text" "is_text" (defArgs s_is_text) (defBody s_is_text) (defScope s_is_text) .none kV18 dc18 pm18 an18 cd18 ct18), sl18⟩)
    (c18 : PySem.W.codeIn K cd18 "is_text" = true)
    (k18 : PySem.W.keepIn K (.ref f18) = true)
    {f19 : Addr} {od19 an19 : Option Addr} {sl19 : Array (Option Value)} {oc19 kV19 dc19 pm19 cd19 ct19 : Value}
    (a19 : PySem.W.nsIn K mainGlobals "kind_of" = some (some (.ref f19)))
    (l19 : K.lookup f19 = some ⟨oc19, od19, .func (PySem.W.fnOf "kind_of" "kind_of" (defArgs s_kind_of) (defBody s_kind_of) (defScope s_kind_of) .none kV19 dc19 pm19 an19 cd19 ct19), sl19⟩)
    (c19 : PySem.W.codeIn K cd19 "kind_of" = true)
    (k19 : PySem.W.keepIn K (.ref f19) = true)
    {f20 : Addr} {od20 an20 : Option Addr} {sl20 : Array (Option Value)} {oc20 kV20 dc20 pm20 cd20 ct20 : Value}
    (a20 : PySem.W.nsIn K mainGlobals "among" = some (some (.ref f20)))
    (l20 : K.lookup f20 = some ⟨oc20, od20, .func (PySem.W.fnOf "among" "among" (defArgs s_among) (defBody s_among) (defScope s_among) .none kV20 dc20 pm20 an20 cd20 ct20), sl20⟩)
    (c20 : PySem.W.codeIn K cd20 "among" = true)
    (k20 : PySem.W.keepIn K (.ref f20) = true)
    {f21 : Addr} {od21 an21 : Option Addr} {sl21 : Array (Option Value)} {oc21 kV21 dc21 pm21 cd21 ct21 : Value}
    (a21 : PySem.W.nsIn K mainGlobals "compare" = some (some (.ref f21)))
    (l21 : K.lookup f21 = some ⟨oc21, od21, .func (PySem.W.fnOf "compare" "compare" (defArgs s_compare) (defBody s_compare) (defScope s_compare) .none kV21 dc21 pm21 an21 cd21 ct21), sl21⟩)
    (c21 : PySem.W.codeIn K cd21 "compare" = true)
    (k21 : PySem.W.keepIn K (.ref f21) = true)
    {f22 : Addr} {od22 an22 : Option Addr} {sl22 : Array (Option Value)} {oc22 kV22 dc22 pm22 cd22 ct22 : Value}
    (a22 : PySem.W.nsIn K mainGlobals "empty" = some (some (.ref f22)))
    (l22 : K.lookup f22 = some ⟨oc22, od22, .func (PySem.W.fnOf "empty" "empty" (defArgs s_empty) (defBody s_empty) (defScope s_empty) .none kV22 dc22 pm22 an22 cd22 ct22), sl22⟩)
    (c22 : PySem.W.codeIn K cd22 "empty" = true)
    (k22 : PySem.W.keepIn K (.ref f22) = true)
    {f23 : Addr} {od23 an23 : Option Addr} {sl23 : Array (Option Value)} {oc23 kV23 dc23 pm23 cd23 ct23 : Value}
    (a23 : PySem.W.nsIn K mainGlobals "sure" = some (some (.ref f23)))
    (l23 : K.lookup f23 = some ⟨oc23, od23, .func (PySem.W.fnOf "sure" "sure" (defArgs s_sure) (defBody s_sure) (defScope s_sure) .none kV23 dc23 pm23 an23 cd23 ct23), sl23⟩)
    (c23 : PySem.W.codeIn K cd23 "sure" = true)
    (k23 : PySem.W.keepIn K (.ref f23) = true)
    {f24 : Addr} {od24 an24 : Option Addr} {sl24 : Array (Option Value)} {oc24 kV24 dc24 pm24 cd24 ct24 : Value}
    (a24 : PySem.W.nsIn K mainGlobals "_law_test" = some (some (.ref f24)))
    (l24 : K.lookup f24 = some ⟨oc24, od24, .func (PySem.W.fnOf "_law_test" "_law_test" (defArgs s_law_test) (defBody s_law_test) (defScope s_law_test) .none kV24 dc24 pm24 an24 cd24 ct24), sl24⟩)
    (c24 : PySem.W.codeIn K cd24 "_law_test" = true)
    (k24 : PySem.W.keepIn K (.ref f24) = true)
    {f25 : Addr} {od25 an25 : Option Addr} {sl25 : Array (Option Value)} {oc25 kV25 dc25 pm25 cd25 ct25 : Value}
    (a25 : PySem.W.nsIn K mainGlobals "_law_given" = some (some (.ref f25)))
    (l25 : K.lookup f25 = some ⟨oc25, od25, .func (PySem.W.fnOf "_law_given" "_law_given" (defArgs s_law_given) (defBody s_law_given) (defScope s_law_given) .none kV25 dc25 pm25 an25 cd25 ct25), sl25⟩)
    (c25 : PySem.W.codeIn K cd25 "_law_given" = true)
    (k25 : PySem.W.keepIn K (.ref f25) = true)
    {f26 : Addr} {od26 an26 : Option Addr} {sl26 : Array (Option Value)} {oc26 kV26 dc26 pm26 cd26 ct26 : Value}
    (a26 : PySem.W.nsIn K mainGlobals "_law_like" = some (some (.ref f26)))
    (l26 : K.lookup f26 = some ⟨oc26, od26, .func (PySem.W.fnOf "_law_like" "_law_like" (defArgs s_law_like) (defBody s_law_like) (defScope s_law_like) .none kV26 dc26 pm26 an26 cd26 ct26), sl26⟩)
    (c26 : PySem.W.codeIn K cd26 "_law_like" = true)
    (k26 : PySem.W.keepIn K (.ref f26) = true)
    {f27 : Addr} {od27 an27 : Option Addr} {sl27 : Array (Option Value)} {oc27 kV27 dc27 pm27 cd27 ct27 : Value}
    (a27 : PySem.W.nsIn K mainGlobals "_law_take" = some (some (.ref f27)))
    (l27 : K.lookup f27 = some ⟨oc27, od27, .func (PySem.W.fnOf "_law_take" "_law_take" (defArgs s_law_take) (defBody s_law_take) (defScope s_law_take) .none kV27 dc27 pm27 an27 cd27 ct27), sl27⟩)
    (c27 : PySem.W.codeIn K cd27 "_law_take" = true)
    (k27 : PySem.W.keepIn K (.ref f27) = true)
    {f28 : Addr} {od28 an28 : Option Addr} {sl28 : Array (Option Value)} {oc28 kV28 dc28 pm28 cd28 ct28 : Value}
    (a28 : PySem.W.nsIn K mainGlobals "_law_order" = some (some (.ref f28)))
    (l28 : K.lookup f28 = some ⟨oc28, od28, .func (PySem.W.fnOf "_law_order" "_law_order" (defArgs s_law_order) (defBody s_law_order) (defScope s_law_order) .none kV28 dc28 pm28 an28 cd28 ct28), sl28⟩)
    (c28 : PySem.W.codeIn K cd28 "_law_order" = true)
    (k28 : PySem.W.keepIn K (.ref f28) = true)
    {f29 : Addr} {od29 an29 : Option Addr} {sl29 : Array (Option Value)} {oc29 kV29 dc29 pm29 cd29 ct29 : Value}
    (a29 : PySem.W.nsIn K mainGlobals "_law_standing" = some (some (.ref f29)))
    (l29 : K.lookup f29 = some ⟨oc29, od29, .func (PySem.W.fnOf "_law_standing" "_law_standing" (defArgs s_law_standing) (defBody s_law_standing) (defScope s_law_standing) .none kV29 dc29 pm29 an29 cd29 ct29), sl29⟩)
    (c29 : PySem.W.codeIn K cd29 "_law_standing" = true)
    (k29 : PySem.W.keepIn K (.ref f29) = true)
    {f30 : Addr} {od30 an30 : Option Addr} {sl30 : Array (Option Value)} {oc30 kV30 dc30 pm30 cd30 ct30 : Value}
    (a30 : PySem.W.nsIn K mainGlobals "_law_value" = some (some (.ref f30)))
    (l30 : K.lookup f30 = some ⟨oc30, od30, .func (PySem.W.fnOf "_law_value" "_law_value" (defArgs s_law_value) (defBody s_law_value) (defScope s_law_value) .none kV30 dc30 pm30 an30 cd30 ct30), sl30⟩)
    (c30 : PySem.W.codeIn K cd30 "_law_value" = true)
    (k30 : PySem.W.keepIn K (.ref f30) = true)
    {f31 : Addr} {od31 an31 : Option Addr} {sl31 : Array (Option Value)} {oc31 kV31 dc31 pm31 cd31 ct31 : Value}
    (a31 : PySem.W.nsIn K mainGlobals "_law_atom" = some (some (.ref f31)))
    (l31 : K.lookup f31 = some ⟨oc31, od31, .func (PySem.W.fnOf "_law_atom" "_law_atom" (defArgs s_law_atom) (defBody s_law_atom) (defScope s_law_atom) .none kV31 dc31 pm31 an31 cd31 ct31), sl31⟩)
    (c31 : PySem.W.codeIn K cd31 "_law_atom" = true)
    (k31 : PySem.W.keepIn K (.ref f31) = true)
    {f32 : Addr} {od32 an32 : Option Addr} {sl32 : Array (Option Value)} {oc32 kV32 dc32 pm32 cd32 ct32 : Value}
    (a32 : PySem.W.nsIn K mainGlobals "_law_form" = some (some (.ref f32)))
    (l32 : K.lookup f32 = some ⟨oc32, od32, .func (PySem.W.fnOf "_law_form" "_law_form" (defArgs s_law_form) (defBody s_law_form) (defScope s_law_form) .none kV32 dc32 pm32 an32 cd32 ct32), sl32⟩)
    (c32 : PySem.W.codeIn K cd32 "_law_form" = true)
    (k32 : PySem.W.keepIn K (.ref f32) = true)
    {f33 : Addr} {od33 an33 : Option Addr} {sl33 : Array (Option Value)} {oc33 kV33 dc33 pm33 cd33 ct33 : Value}
    (a33 : PySem.W.nsIn K mainGlobals "_law_step" = some (some (.ref f33)))
    (l33 : K.lookup f33 = some ⟨oc33, od33, .func (PySem.W.fnOf "_law_step" "_law_step" (defArgs s_law_step) (defBody s_law_step) (defScope s_law_step) .none kV33 dc33 pm33 an33 cd33 ct33), sl33⟩)
    (c33 : PySem.W.codeIn K cd33 "_law_step" = true)
    (k33 : PySem.W.keepIn K (.ref f33) = true)
    {f34 : Addr} {od34 an34 : Option Addr} {sl34 : Array (Option Value)} {oc34 kV34 dc34 pm34 cd34 ct34 : Value}
    (a34 : PySem.W.nsIn K mainGlobals "order_turned" = some (some (.ref f34)))
    (l34 : K.lookup f34 = some ⟨oc34, od34, .func (PySem.W.fnOf "order_turned" "order_turned" (defArgs s_order_turned) (defBody s_order_turned) (defScope s_order_turned) .none kV34 dc34 pm34 an34 cd34 ct34), sl34⟩)
    (c34 : PySem.W.codeIn K cd34 "order_turned" = true)
    (k34 : PySem.W.keepIn K (.ref f34) = true)
    {f35 : Addr} {od35 an35 : Option Addr} {sl35 : Array (Option Value)} {oc35 kV35 dc35 pm35 cd35 ct35 : Value}
    (a35 : PySem.W.nsIn K mainGlobals "standing" = some (some (.ref f35)))
    (l35 : K.lookup f35 = some ⟨oc35, od35, .func (PySem.W.fnOf "standing" "standing" (defArgs s_standing) (defBody s_standing) (defScope s_standing) .none kV35 dc35 pm35 an35 cd35 ct35), sl35⟩)
    (c35 : PySem.W.codeIn K cd35 "standing" = true)
    (k35 : PySem.W.keepIn K (.ref f35) = true)
    {f36 : Addr} {od36 an36 : Option Addr} {sl36 : Array (Option Value)} {oc36 kV36 dc36 pm36 cd36 ct36 : Value}
    (a36 : PySem.W.nsIn K mainGlobals "law" = some (some (.ref f36)))
    (l36 : K.lookup f36 = some ⟨oc36, od36, .func (PySem.W.fnOf "law" "law" (defArgs s_law) (defBody s_law) (defScope s_law) .none kV36 dc36 pm36 an36 cd36 ct36), sl36⟩)
    (c36 : PySem.W.codeIn K cd36 "law" = true)
    (k36 : PySem.W.keepIn K (.ref f36) = true)
    (z_all : PySem.W.nsIn K mainGlobals "all" = some none)
    (z_any : PySem.W.nsIn K mainGlobals "any" = some none)
    (z_bool : PySem.W.nsIn K mainGlobals "bool" = some none)
    (z_dict : PySem.W.nsIn K mainGlobals "dict" = some none)
    (z_int : PySem.W.nsIn K mainGlobals "int" = some none)
    (z_isinstance : PySem.W.nsIn K mainGlobals "isinstance" = some none)
    (z_len : PySem.W.nsIn K mainGlobals "len" = some none)
    (z_list : PySem.W.nsIn K mainGlobals "list" = some none)
    (z_max : PySem.W.nsIn K mainGlobals "max" = some none)
    (z_range : PySem.W.nsIn K mainGlobals "range" = some none)
    (z_set : PySem.W.nsIn K mainGlobals "set" = some none)
    (z_sorted : PySem.W.nsIn K mainGlobals "sorted" = some none)
    (z_str : PySem.W.nsIn K mainGlobals "str" = some none)
    (z_tuple : PySem.W.nsIn K mainGlobals "tuple" = some none)
    {tu_CHARS : Value} (x_CHARS : PySem.W.nsIn K mainGlobals "CHARS" = some (some tu_CHARS)) (v_CHARS : ∃ v, RelV v tu_CHARS ∧ absD v = some (.str " !\"#$&'()*+,-./0123456789:;<=>?@ABCDEFGHIJKLMNOPQRSTUVWXYZ[\\]^_`abcdefghijklmnopqrstuvwxyz{|}~"))
    {tu_DIGITS : Value} (x_DIGITS : PySem.W.nsIn K mainGlobals "DIGITS" = some (some tu_DIGITS)) (v_DIGITS : ∃ v, RelV v tu_DIGITS ∧ absD v = some (.str "0123456789"))
    {tp_KEPT_WORDS : Addr} {to_KEPT_WORDS : Option Addr} {ti_KEPT_WORDS : Array Value} {tn_KEPT_WORDS : Nat} {ts_KEPT_WORDS : Array (Option Value)} (x_KEPT_WORDS : PySem.W.nsIn K mainGlobals "KEPT_WORDS" = some (some (.ref tp_KEPT_WORDS))) (y_KEPT_WORDS : K.lookup tp_KEPT_WORDS = some ⟨.type "tuple", to_KEPT_WORDS, .seq ti_KEPT_WORDS tn_KEPT_WORDS, ts_KEPT_WORDS⟩) (v_KEPT_WORDS : AbsL ti_KEPT_WORDS.toList [.str "and", .str "or", .str "not", .str "sure", .str "in", .str "is", .str "empty", .str "begins", .str "always", .str "never", .str "unsure"]) (w_KEPT_WORDS : ti_KEPT_WORDS.size ≤ sizeLine)
    {tu_LETTERS : Value} (x_LETTERS : PySem.W.nsIn K mainGlobals "LETTERS" = some (some tu_LETTERS)) (v_LETTERS : ∃ v, RelV v tu_LETTERS ∧ absD v = some (.str "abcdefghijklmnopqrstuvwxyz"))
    {tu_MOST_ATOMS : Value} (x_MOST_ATOMS : PySem.W.nsIn K mainGlobals "MOST_ATOMS" = some (some tu_MOST_ATOMS)) (v_MOST_ATOMS : ∃ v, RelV v tu_MOST_ATOMS ∧ absD v = some (.int 48))
    {tu_MOST_LEVELS : Value} (x_MOST_LEVELS : PySem.W.nsIn K mainGlobals "MOST_LEVELS" = some (some tu_MOST_LEVELS)) (v_MOST_LEVELS : ∃ v, RelV v tu_MOST_LEVELS ∧ absD v = some (.int 24))
    {tu_MOST_PIECES : Value} (x_MOST_PIECES : PySem.W.nsIn K mainGlobals "MOST_PIECES" = some (some tu_MOST_PIECES)) (v_MOST_PIECES : ∃ v, RelV v tu_MOST_PIECES ∧ absD v = some (.int 4))
    {tu_MOST_VALUES : Value} (x_MOST_VALUES : PySem.W.nsIn K mainGlobals "MOST_VALUES" = some (some tu_MOST_VALUES)) (v_MOST_VALUES : ∃ v, RelV v tu_MOST_VALUES ∧ absD v = some (.int 8))
    {tp_OPERATORS : Addr} {to_OPERATORS : Option Addr} {ti_OPERATORS : Array Value} {tn_OPERATORS : Nat} {ts_OPERATORS : Array (Option Value)} (x_OPERATORS : PySem.W.nsIn K mainGlobals "OPERATORS" = some (some (.ref tp_OPERATORS))) (y_OPERATORS : K.lookup tp_OPERATORS = some ⟨.type "tuple", to_OPERATORS, .seq ti_OPERATORS tn_OPERATORS, ts_OPERATORS⟩) (v_OPERATORS : AbsL ti_OPERATORS.toList [.str "<", .str "<=", .str "==", .str "!=", .str ">", .str ">="]) (w_OPERATORS : ti_OPERATORS.size ≤ sizeLine)
    {tp_SLOT_NUMBERS : Addr} {to_SLOT_NUMBERS : Option Addr} {ti_SLOT_NUMBERS : Array Value} {tn_SLOT_NUMBERS : Nat} {ts_SLOT_NUMBERS : Array (Option Value)} (x_SLOT_NUMBERS : PySem.W.nsIn K mainGlobals "SLOT_NUMBERS" = some (some (.ref tp_SLOT_NUMBERS))) (y_SLOT_NUMBERS : K.lookup tp_SLOT_NUMBERS = some ⟨.type "tuple", to_SLOT_NUMBERS, .seq ti_SLOT_NUMBERS tn_SLOT_NUMBERS, ts_SLOT_NUMBERS⟩) (v_SLOT_NUMBERS : AbsL ti_SLOT_NUMBERS.toList [.str "1", .str "2", .str "3"]) (w_SLOT_NUMBERS : ti_SLOT_NUMBERS.size ≤ sizeLine)
    : ∃ fd : FuncData, (∀ (s : Shared) (v : Value), BindsTo s fd ⟨[v], []⟩ [("_law_script", v)]) ∧ ∀ base : Heap, K.In base → base.Ns mainGlobals mg → FnOk l.prog w K mg base (L2.CX l.prog w) 65 fa fd ["_law_script"] (spOf K (clOf clNames K) 1 fn_law) := by
  have e := hfa.symm.trans (PySem.W.mg_of X G a36)
  cases e
  have h_BadTest : clOf clNames K "BadTest" = some C_BadTest := clOf_at aC_BadTest (by decide)
  have g_BadTest : mg "BadTest" = some (.ref C_BadTest) := PySem.W.mg_of X G aC_BadTest
  have h_Test : clOf clNames K "Test" = some C_Test := clOf_at aC_Test (by decide)
  have g_Test : mg "Test" = some (.ref C_Test) := PySem.W.mg_of X G aC_Test
  have T : Gb w K (clOf clNames K) mg := ⟨kcon_of (PySem.W.mg_of X G kx_TURNED_WAYS) ⟨ky_TURNED_WAYS, kz_TURNED_WAYS, ku_TURNED_WAYS⟩ kt_TURNED_WAYS, fun C h => by rw [h_Test] at h; cases h; exact on_Test, fun C h => by rw [h_Test] at h; cases h; exact ot_Test, PySem.W.mg_none_of X G z_all, PySem.W.mg_none_of X G z_any, PySem.W.mg_none_of X G z_bool, PySem.W.mg_none_of X G z_dict, PySem.W.mg_none_of X G z_int, PySem.W.mg_none_of X G z_isinstance, PySem.W.mg_none_of X G z_len, PySem.W.mg_none_of X G z_list, PySem.W.mg_none_of X G z_max, PySem.W.mg_none_of X G z_range, PySem.W.mg_none_of X G z_set, PySem.W.mg_none_of X G z_sorted, PySem.W.mg_none_of X G z_str, PySem.W.mg_none_of X G z_tuple, glob_sc (PySem.W.mg_of X G x_CHARS) v_CHARS, glob_sc (PySem.W.mg_of X G x_DIGITS) v_DIGITS, glob_tup (PySem.W.mg_of X G x_KEPT_WORDS) y_KEPT_WORDS v_KEPT_WORDS w_KEPT_WORDS, glob_sc (PySem.W.mg_of X G x_LETTERS) v_LETTERS, glob_sc (PySem.W.mg_of X G x_MOST_ATOMS) v_MOST_ATOMS, glob_sc (PySem.W.mg_of X G x_MOST_LEVELS) v_MOST_LEVELS, glob_sc (PySem.W.mg_of X G x_MOST_PIECES) v_MOST_PIECES, glob_sc (PySem.W.mg_of X G x_MOST_VALUES) v_MOST_VALUES, glob_tup (PySem.W.mg_of X G x_OPERATORS) y_OPERATORS v_OPERATORS w_OPERATORS, glob_tup (PySem.W.mg_of X G x_SLOT_NUMBERS) y_SLOT_NUMBERS v_SLOT_NUMBERS w_SLOT_NUMBERS, at_cons h_Test (clsB_ok q_Test) n_Test__data at_nil, at_cons h_Test (clsB_ok q_Test) n_Test__kind at_nil, at_cons h_Test (clsB_ok q_Test) n_Test__parts at_nil, fun C h => by rw [h_Test] at h; cases h; exact so_Test, ⟨C_Test, g_Test, nb_Test, (isc_cons h_Test (clsB_ok q_Test) ib_Test ko_Test_Test isc_nil)⟩⟩
  refine ⟨PySem.W.fnOf "law" "law" (defArgs s_law) (defBody s_law) (defScope s_law) .none kV36 dc36 pm36 an36 cd36 ct36, fun s v => .of_eq rfl, fun base _ _ => ?_⟩
  have G_Test_eq := mk_Test_eq (P := l.prog) (w := w) (base := base) (fun_mk (st := s_Test_eq) l0 c0 k0) h_Test (clsB_ok q_Test) ⟨a0, i0, k0⟩ T 20
  have G_BadTest_init := mk_BadTest_init (P := l.prog) (w := w) (base := base) (fun_mk (st := s_BadTest_init) l1 c1 k1) h_BadTest g_BadTest (oexB_ok ⟨_, _, _, _, _, _, _, _, _, _, _, _, _, _, _, x1_BadTest, x2_BadTest⟩ x3_BadTest) a1 i1 xf_BadTest_why
  have G_Test_init := mk_Test_init (P := l.prog) (w := w) (base := base) (fun_mk (st := s_Test_init) l2 c2 k2) h_Test g_Test ⟨m1_Test, a2, i2, m2_Test⟩ T
  have G_Test_atoms := mk_Test_atoms (P := l.prog) (w := w) (base := base) (fun_mk (st := s_Test_atoms) l3 c3 k3) h_Test (clsB_ok q_Test) ⟨a3, i3, k3⟩ T 30
  have G_Test_levels := mk_Test_levels (P := l.prog) (w := w) (base := base) (fun_mk (st := s_Test_levels) l4 c4 k4) h_Test (clsB_ok q_Test) ⟨a4, i4, k4⟩ T 30
  have G_limited : Fn l.prog w K mg base (clOf clNames K) "limited" 31 1 fn_limited := mk_limited (fun_mk (st := s_limited) l5 c5 k5) (PySem.W.mg_of X G a5) T G_BadTest_init G_Test_atoms G_Test_levels
  have G_combine : Fn l.prog w K mg base (clOf clNames K) "combine" 32 3 fn_combine := mk_combine (fun_mk (st := s_combine) l6 c6 k6) (PySem.W.mg_of X G a6) T G_BadTest_init G_Test_init G_limited
  have G_Test_and := mk_Test_and (P := l.prog) (w := w) (base := base) (fun_mk (st := s_Test_and) l7 c7 k7) h_Test (clsB_ok q_Test) ⟨a7, i7, k7⟩ T G_combine
  have G_Test_invert := mk_Test_invert (P := l.prog) (w := w) (base := base) (fun_mk (st := s_Test_invert) l8 c8 k8) h_Test (clsB_ok q_Test) ⟨a8, i8, k8⟩ T G_Test_init G_limited
  have G_Test_or := mk_Test_or (P := l.prog) (w := w) (base := base) (fun_mk (st := s_Test_or) l9 c9 k9) h_Test (clsB_ok q_Test) ⟨a9, i9, k9⟩ T G_combine
  have G_is_integer : Fn l.prog w K mg base (clOf clNames K) "is_integer" 1 1 fn_is_integer := mk_is_integer (fun_mk (st := s_is_integer) l10 c10 k10) (PySem.W.mg_of X G a10) T
  have G_is_name : Fn l.prog w K mg base (clOf clNames K) "is_name" 1 1 fn_is_name := mk_is_name (fun_mk (st := s_is_name) l11 c11 k11) (PySem.W.mg_of X G a11) T
  have G_is_path : Fn l.prog w K mg base (clOf clNames K) "is_path" 2 1 fn_is_path := mk_is_path (fun_mk (st := s_is_path) l12 c12 k12) (PySem.W.mg_of X G a12) T G_is_name
  have G_need_operator : Fn l.prog w K mg base (clOf clNames K) "need_operator" 3 1 fn_need_operator := mk_need_operator (fun_mk (st := s_need_operator) l13 c13 k13) (PySem.W.mg_of X G a13) T G_BadTest_init
  have G_need_path : Fn l.prog w K mg base (clOf clNames K) "need_path" 3 1 fn_need_path := mk_need_path (fun_mk (st := s_need_path) l14 c14 k14) (PySem.W.mg_of X G a14) T G_BadTest_init G_is_path
  have G_against : FnK l.prog w K mg base (clOf clNames K) "against" 4 3 "more" (.int 0) fn_against := mk_against (funD_mk (st := s_against) l15 c15 k15 kn15 kr15) (PySem.W.mg_of X G a15) T G_BadTest_init G_Test_init G_is_integer G_is_path G_need_operator G_need_path
  have G_always : Fn l.prog w K mg base (clOf clNames K) "always" 3 0 fn_always := mk_always (fun_mk (st := s_always) l16 c16 k16) (PySem.W.mg_of X G a16) T G_Test_init
  have G_is_sequence : Fn l.prog w K mg base (clOf clNames K) "is_sequence" 1 1 fn_is_sequence := mk_is_sequence (fun_mk (st := s_is_sequence) l17 c17 k17) (PySem.W.mg_of X G a17) T
  have G_is_text : Fn l.prog w K mg base (clOf clNames K) "is_text" 1 1 fn_is_text := mk_is_text (fun_mk (st := s_is_text) l18 c18 k18) (PySem.W.mg_of X G a18) T
  have G_kind_of : Fn l.prog w K mg base (clOf clNames K) "kind_of" 2 1 fn_kind_of := mk_kind_of (fun_mk (st := s_kind_of) l19 c19 k19) (PySem.W.mg_of X G a19) T G_is_integer G_is_text
  have G_among : Fn l.prog w K mg base (clOf clNames K) "among" 4 2 fn_among := mk_among (fun_mk (st := s_among) l20 c20 k20) (PySem.W.mg_of X G a20) T G_BadTest_init G_Test_init G_is_sequence G_kind_of G_need_path
  have G_compare : Fn l.prog w K mg base (clOf clNames K) "compare" 4 3 fn_compare := mk_compare (fun_mk (st := s_compare) l21 c21 k21) (PySem.W.mg_of X G a21) T G_BadTest_init G_Test_init G_kind_of G_need_operator G_need_path
  have G_empty : Fn l.prog w K mg base (clOf clNames K) "empty" 4 1 fn_empty := mk_empty (fun_mk (st := s_empty) l22 c22 k22) (PySem.W.mg_of X G a22) T G_Test_init G_need_path
  have G_sure : Fn l.prog w K mg base (clOf clNames K) "sure" 32 1 fn_sure := mk_sure (fun_mk (st := s_sure) l23 c23 k23) (PySem.W.mg_of X G a23) T G_BadTest_init G_Test_init G_limited
  have G_law_test : Fn l.prog w K mg base (clOf clNames K) "_law_test" 53 1 (fn_law_test 20) := mk_law_test (fun_mk (st := s_law_test) l24 c24 k24) (PySem.W.mg_of X G a24) T G_Test_and G_Test_invert G_Test_or G_against G_always G_among G_compare G_empty G_sure 20
  have G_law_given : Fn l.prog w K mg base (clOf clNames K) "_law_given" 54 1 fn_law_given := mk_law_given (fun_mk (st := s_law_given) l25 c25 k25) (PySem.W.mg_of X G a25) T G_law_test
  have G_law_like : Fn l.prog w K mg base (clOf clNames K) "_law_like" 20 2 (fn_law_like 20) := mk_law_like (fun_mk (st := s_law_like) l26 c26 k26) (PySem.W.mg_of X G a26) T 20
  have G_law_take : Fn l.prog w K mg base (clOf clNames K) "_law_take" 1 3 fn_law_take := mk_law_take (fun_mk (st := s_law_take) l27 c27 k27) (PySem.W.mg_of X G a27) T
  have G_law_order : Fn l.prog w K mg base (clOf clNames K) "_law_order" 2 3 fn_law_order := mk_law_order (fun_mk (st := s_law_order) l28 c28 k28) (PySem.W.mg_of X G a28) T G_law_take
  have G_law_standing : Fn l.prog w K mg base (clOf clNames K) "_law_standing" 1 2 fn_law_standing := mk_law_standing (fun_mk (st := s_law_standing) l29 c29 k29) (PySem.W.mg_of X G a29) T
  have G_law_value : Fn l.prog w K mg base (clOf clNames K) "_law_value" 2 3 fn_law_value := mk_law_value (fun_mk (st := s_law_value) l30 c30 k30) (PySem.W.mg_of X G a30) T G_law_take
  have G_law_atom : Fn l.prog w K mg base (clOf clNames K) "_law_atom" 3 3 fn_law_atom := mk_law_atom (fun_mk (st := s_law_atom) l31 c31 k31) (PySem.W.mg_of X G a31) T G_law_take G_law_value
  have G_law_form : Fn l.prog w K mg base (clOf clNames K) "_law_form" 4 3 fn_law_form := mk_law_form (fun_mk (st := s_law_form) l32 c32 k32) (PySem.W.mg_of X G a32) T G_law_atom G_law_take
  have G_law_step : Fn l.prog w K mg base (clOf clNames K) "_law_step" 5 3 fn_law_step := mk_law_step (fun_mk (st := s_law_step) l33 c33 k33) (PySem.W.mg_of X G a33) T G_law_form G_law_order G_law_take
  have G_order_turned : Fn l.prog w K mg base (clOf clNames K) "order_turned" 1 1 fn_order_turned := mk_order_turned (fun_mk (st := s_order_turned) l34 c34 k34) (PySem.W.mg_of X G a34) T
  have G_standing : Fn l.prog w K mg base (clOf clNames K) "standing" 2 2 fn_standing := mk_standing (fun_mk (st := s_standing) l35 c35 k35) (PySem.W.mg_of X G a35) T G_order_turned
  exact ok_law (fun_mk (st := s_law) l36 c36 k36) T G_Test_eq G_law_given G_law_like G_law_order G_law_standing G_law_step G_law_take G_standing
theorem rep_start {K : PySem.W.Frag} {cl : Str → Option Addr} {H : Hp} {a : Addr} {ns : List Int} (hS : SqL K H a (ns.map V.int)) (lo : LawOk) (hl : ns.length ≤ 63) : spOf K cl 1 fn_law [.ref a] H (fun v _ => v = .bl true) (fun _ _ _ => False) := by
  obtain ⟨S, e⟩ := lo ns hl
  refine ⟨⟨H, fun _ => none, fun _ => 0, 0⟩, [], [.scr ns], ⟨rfl, fun _ _ h => h, fun i mo h => by simp at h, fun i j m m' h => by simp at h, fun a o h => by cases h⟩, .cons (.scr hS) .nil, ?_⟩
  show Post K cl (Rep K cl) _ (fn_law [.scr ns] []) _ _
  rw [e]
  intro W' H' v _ _ r
  cases r
  rfl
theorem walk {l : PySem.W.OpenLaw} {q : Program} {loose : List Str} {XP : (Str → Option Value) → Heap → Prop} {YP : World → Heap → Prop} {d : DefRec} {K : Params → PySem.W.Frag} (lo : LawOk) (hn : l.most = some 63) (hdf : d.params.defaults = [])
    (hY : ∀ (w : World) (h : Heap), YP w h → (K w.params).In h)
    (F : ∀ (w : World) (mg : Str → Option Value) (fa : Addr) (h : Heap), (K w.params).In h → h.Ns mainGlobals mg → mg d.name = some (.ref fa) →
      ∃ fd : FuncData, (∀ (s : Shared) (u : Value), BindsTo s fd ⟨[u], []⟩ [("_law_script", u)]) ∧ ∀ base : Heap, (K w.params).In base → base.Ns mainGlobals mg → FnOk l.prog w (K w.params) mg base (L2.CX l.prog w) 65 fa fd ["_law_script"] (spOf (K w.params) (clOf clNames (K w.params)) 1 fn_law)) :
    PySem.W.WalkO q loose XP YP l.row.toRowW d [] (fun f vs => PySem.call f vs) :=
  L2.walk_of (n := 63) (k := 65) (x := "_law_script") (CX := fun w => L2.CX l.prog w) (sp := fun w => spOf (K w.params) (clOf clNames (K w.params)) 1 fn_law) hn (by decide) hdf ⟨rfl, by decide, by decide⟩ hY F
    (fun _ _ a ns hl _ hS => rep_start hS lo hl) fun w H s e s' z => by
      obtain ⟨_, _, _, _, _, _, _, _, _, _, _, _, z⟩ := z
      exact z
end G
namespace G
open PySem L2
theorem law_ok : LawOk := fun ns _ => by
  obtain ⟨d, S, e, rfl⟩ := (law_k (ns := ns)).ex
  exact ⟨S, e⟩
end G
open PySem PySem.W PyProof.Rows in
set_option maxRecDepth 100000 in
set_option maxHeartbeats 0 in
theorem PySem.Challenge.cw_sparedwork_k63_orders_that_stand_ahead_holds : PySem.Challenge.rw_sparedwork_k63_orders_that_stand_ahead.Holds := by
  w_on; o_law; k_head; (case hw => w_witness2)
  k_fill
  refine G.walk (l := PySem.Challenge.rw_sparedwork_k63_orders_that_stand_ahead) G.law_ok rfl rfl (fun w h Y => PySem.W.kIn_of Y) ?F
  case F =>
    intro w mg fa h KX NS hmg
    refine' G.all_mk KX NS hmg ?aC_BadTest ?aC_Test ?q_Test ?m1_Test ?m2_Test ?n_Test__data ?n_Test__kind ?n_Test__parts ?x1_BadTest ?x2_BadTest ?x3_BadTest ?xf_BadTest_why ?on_Test ?ot_Test ?kx_TURNED_WAYS ?ky_TURNED_WAYS ?kz_TURNED_WAYS ?kt_TURNED_WAYS ?ku_TURNED_WAYS ?so_Test ?ib_Test ?nb_Test ?ko_Test_Test ?a0 ?i0 ?l0 ?c0 ?k0 ?a1 ?i1 ?l1 ?c1 ?k1 ?a2 ?i2 ?l2 ?c2 ?k2 ?a3 ?i3 ?l3 ?c3 ?k3 ?a4 ?i4 ?l4 ?c4 ?k4 ?a5 ?l5 ?c5 ?k5 ?a6 ?l6 ?c6 ?k6 ?a7 ?i7 ?l7 ?c7 ?k7 ?a8 ?i8 ?l8 ?c8 ?k8 ?a9 ?i9 ?l9 ?c9 ?k9 ?a10 ?l10 ?c10 ?k10 ?a11 ?l11 ?c11 ?k11 ?a12 ?l12 ?c12 ?k12 ?a13 ?l13 ?c13 ?k13 ?a14 ?l14 ?c14 ?k14 ?a15 ?l15 ?kn15 ?kr15 ?c15 ?k15 ?a16 ?l16 ?c16 ?k16 ?a17 ?l17 ?c17 ?k17 ?a18 ?l18 ?c18 ?k18 ?a19 ?l19 ?c19 ?k19 ?a20 ?l20 ?c20 ?k20 ?a21 ?l21 ?c21 ?k21 ?a22 ?l22 ?c22 ?k22 ?a23 ?l23 ?c23 ?k23 ?a24 ?l24 ?c24 ?k24 ?a25 ?l25 ?c25 ?k25 ?a26 ?l26 ?c26 ?k26 ?a27 ?l27 ?c27 ?k27 ?a28 ?l28 ?c28 ?k28 ?a29 ?l29 ?c29 ?k29 ?a30 ?l30 ?c30 ?k30 ?a31 ?l31 ?c31 ?k31 ?a32 ?l32 ?c32 ?k32 ?a33 ?l33 ?c33 ?k33 ?a34 ?l34 ?c34 ?k34 ?a35 ?l35 ?c35 ?k35 ?a36 ?l36 ?c36 ?k36 ?z_all ?z_any ?z_bool ?z_dict ?z_int ?z_isinstance ?z_len ?z_list ?z_max ?z_range ?z_set ?z_sorted ?z_str ?z_tuple ?x_CHARS ?v_CHARS ?x_DIGITS ?v_DIGITS ?x_KEPT_WORDS ?y_KEPT_WORDS ?v_KEPT_WORDS ?w_KEPT_WORDS ?x_LETTERS ?v_LETTERS ?x_MOST_ATOMS ?v_MOST_ATOMS ?x_MOST_LEVELS ?v_MOST_LEVELS ?x_MOST_PIECES ?v_MOST_PIECES ?x_MOST_VALUES ?v_MOST_VALUES ?x_OPERATORS ?y_OPERATORS ?v_OPERATORS ?w_OPERATORS ?x_SLOT_NUMBERS ?y_SLOT_NUMBERS ?v_SLOT_NUMBERS ?w_SLOT_NUMBERS
    (case aC_BadTest => k_is)
    (case aC_Test => k_is)
    (case q_Test => kernel_rfl)
    (case m1_Test => k_is)
    (case m2_Test => k_is)
    (case n_Test__data => k_is)
    (case n_Test__kind => k_is)
    (case n_Test__parts => k_is)
    (case x1_BadTest => k_is)
    (case x2_BadTest => kernel_rfl)
    (case x3_BadTest => kernel_rfl)
    (case xf_BadTest_why => k_is)
    (case on_Test => k_is)
    (case ot_Test => k_is)
    (case kx_TURNED_WAYS => k_is)
    (case ky_TURNED_WAYS => k_is)
    (case kz_TURNED_WAYS => exact ⟨⟨_, _, rfl, rfl⟩, ⟨⟨_, _, rfl, rfl⟩, trivial⟩⟩)
    (case kt_TURNED_WAYS => exact (.cons rfl ⟨.str "down", ⟨_, rfl⟩, rfl⟩ (.cons rfl ⟨.str "up", ⟨_, rfl⟩, rfl⟩ .nil)))
    (case ku_TURNED_WAYS => decide)
    (case so_Test => kernel_rfl)
    (case ib_Test => kernel_rfl)
    (case nb_Test => kernel_rfl)
    (case ko_Test_Test => kernel_rfl)
    (case a0 => k_is)
    (case i0 => k_is)
    (case l0 => k_is)
    (case c0 => k_is)
    (case k0 => k_is)
    (case a1 => k_is)
    (case i1 => k_is)
    (case l1 => k_is)
    (case c1 => k_is)
    (case k1 => k_is)
    (case a2 => k_is)
    (case i2 => k_is)
    (case l2 => k_is)
    (case c2 => k_is)
    (case k2 => k_is)
    (case a3 => k_is)
    (case i3 => k_is)
    (case l3 => k_is)
    (case c3 => k_is)
    (case k3 => k_is)
    (case a4 => k_is)
    (case i4 => k_is)
    (case l4 => k_is)
    (case c4 => k_is)
    (case k4 => k_is)
    (case a5 => k_is)
    (case l5 => k_is)
    (case c5 => k_is)
    (case k5 => k_is)
    (case a6 => k_is)
    (case l6 => k_is)
    (case c6 => k_is)
    (case k6 => k_is)
    (case a7 => k_is)
    (case i7 => k_is)
    (case l7 => k_is)
    (case c7 => k_is)
    (case k7 => k_is)
    (case a8 => k_is)
    (case i8 => k_is)
    (case l8 => k_is)
    (case c8 => k_is)
    (case k8 => k_is)
    (case a9 => k_is)
    (case i9 => k_is)
    (case l9 => k_is)
    (case c9 => k_is)
    (case k9 => k_is)
    (case a10 => k_is)
    (case l10 => k_is)
    (case c10 => k_is)
    (case k10 => k_is)
    (case a11 => k_is)
    (case l11 => k_is)
    (case c11 => k_is)
    (case k11 => k_is)
    (case a12 => k_is)
    (case l12 => k_is)
    (case c12 => k_is)
    (case k12 => k_is)
    (case a13 => k_is)
    (case l13 => k_is)
    (case c13 => k_is)
    (case k13 => k_is)
    (case a14 => k_is)
    (case l14 => k_is)
    (case c14 => k_is)
    (case k14 => k_is)
    (case a15 => k_is)
    (case l15 => k_is)
    (case kn15 => k_is)
    (case kr15 => first | exact ⟨_, rfl⟩ | exact rfl)
    (case c15 => k_is)
    (case k15 => k_is)
    (case a16 => k_is)
    (case l16 => k_is)
    (case c16 => k_is)
    (case k16 => k_is)
    (case a17 => k_is)
    (case l17 => k_is)
    (case c17 => k_is)
    (case k17 => k_is)
    (case a18 => k_is)
    (case l18 => k_is)
    (case c18 => k_is)
    (case k18 => k_is)
    (case a19 => k_is)
    (case l19 => k_is)
    (case c19 => k_is)
    (case k19 => k_is)
    (case a20 => k_is)
    (case l20 => k_is)
    (case c20 => k_is)
    (case k20 => k_is)
    (case a21 => k_is)
    (case l21 => k_is)
    (case c21 => k_is)
    (case k21 => k_is)
    (case a22 => k_is)
    (case l22 => k_is)
    (case c22 => k_is)
    (case k22 => k_is)
    (case a23 => k_is)
    (case l23 => k_is)
    (case c23 => k_is)
    (case k23 => k_is)
    (case a24 => k_is)
    (case l24 => k_is)
    (case c24 => k_is)
    (case k24 => k_is)
    (case a25 => k_is)
    (case l25 => k_is)
    (case c25 => k_is)
    (case k25 => k_is)
    (case a26 => k_is)
    (case l26 => k_is)
    (case c26 => k_is)
    (case k26 => k_is)
    (case a27 => k_is)
    (case l27 => k_is)
    (case c27 => k_is)
    (case k27 => k_is)
    (case a28 => k_is)
    (case l28 => k_is)
    (case c28 => k_is)
    (case k28 => k_is)
    (case a29 => k_is)
    (case l29 => k_is)
    (case c29 => k_is)
    (case k29 => k_is)
    (case a30 => k_is)
    (case l30 => k_is)
    (case c30 => k_is)
    (case k30 => k_is)
    (case a31 => k_is)
    (case l31 => k_is)
    (case c31 => k_is)
    (case k31 => k_is)
    (case a32 => k_is)
    (case l32 => k_is)
    (case c32 => k_is)
    (case k32 => k_is)
    (case a33 => k_is)
    (case l33 => k_is)
    (case c33 => k_is)
    (case k33 => k_is)
    (case a34 => k_is)
    (case l34 => k_is)
    (case c34 => k_is)
    (case k34 => k_is)
    (case a35 => k_is)
    (case l35 => k_is)
    (case c35 => k_is)
    (case k35 => k_is)
    (case a36 => k_is)
    (case l36 => k_is)
    (case c36 => k_is)
    (case k36 => k_is)
    (case z_all => k_is)
    (case z_any => k_is)
    (case z_bool => k_is)
    (case z_dict => k_is)
    (case z_int => k_is)
    (case z_isinstance => k_is)
    (case z_len => k_is)
    (case z_list => k_is)
    (case z_max => k_is)
    (case z_range => k_is)
    (case z_set => k_is)
    (case z_sorted => k_is)
    (case z_str => k_is)
    (case z_tuple => k_is)
    (case x_CHARS => k_is)
    (case v_CHARS => exact ⟨.str " !\"#$&'()*+,-./0123456789:;<=>?@ABCDEFGHIJKLMNOPQRSTUVWXYZ[\\]^_`abcdefghijklmnopqrstuvwxyz{|}~", ⟨_, rfl⟩, rfl⟩)
    (case x_DIGITS => k_is)
    (case v_DIGITS => exact ⟨.str "0123456789", ⟨_, rfl⟩, rfl⟩)
    (case x_KEPT_WORDS => k_is)
    (case y_KEPT_WORDS => k_is)
    (case v_KEPT_WORDS => exact (.cons ⟨.str "and", ⟨_, rfl⟩, rfl⟩ (.cons ⟨.str "or", ⟨_, rfl⟩, rfl⟩ (.cons ⟨.str "not", ⟨_, rfl⟩, rfl⟩ (.cons ⟨.str "sure", ⟨_, rfl⟩, rfl⟩ (.cons ⟨.str "in", ⟨_, rfl⟩, rfl⟩ (.cons ⟨.str "is", ⟨_, rfl⟩, rfl⟩ (.cons ⟨.str "empty", ⟨_, rfl⟩, rfl⟩ (.cons ⟨.str "begins", ⟨_, rfl⟩, rfl⟩ (.cons ⟨.str "always", ⟨_, rfl⟩, rfl⟩ (.cons ⟨.str "never", ⟨_, rfl⟩, rfl⟩ (.cons ⟨.str "unsure", ⟨_, rfl⟩, rfl⟩ .nil))))))))))))
    (case w_KEPT_WORDS => decide)
    (case x_LETTERS => k_is)
    (case v_LETTERS => exact ⟨.str "abcdefghijklmnopqrstuvwxyz", ⟨_, rfl⟩, rfl⟩)
    (case x_MOST_ATOMS => k_is)
    (case v_MOST_ATOMS => exact ⟨.int 48, ⟨_, rfl⟩, rfl⟩)
    (case x_MOST_LEVELS => k_is)
    (case v_MOST_LEVELS => exact ⟨.int 24, ⟨_, rfl⟩, rfl⟩)
    (case x_MOST_PIECES => k_is)
    (case v_MOST_PIECES => exact ⟨.int 4, ⟨_, rfl⟩, rfl⟩)
    (case x_MOST_VALUES => k_is)
    (case v_MOST_VALUES => exact ⟨.int 8, ⟨_, rfl⟩, rfl⟩)
    (case x_OPERATORS => k_is)
    (case y_OPERATORS => k_is)
    (case v_OPERATORS => exact (.cons ⟨.str "<", ⟨_, rfl⟩, rfl⟩ (.cons ⟨.str "<=", ⟨_, rfl⟩, rfl⟩ (.cons ⟨.str "==", ⟨_, rfl⟩, rfl⟩ (.cons ⟨.str "!=", ⟨_, rfl⟩, rfl⟩ (.cons ⟨.str ">", ⟨_, rfl⟩, rfl⟩ (.cons ⟨.str ">=", ⟨_, rfl⟩, rfl⟩ .nil)))))))
    (case w_OPERATORS => decide)
    (case x_SLOT_NUMBERS => k_is)
    (case y_SLOT_NUMBERS => k_is)
    (case v_SLOT_NUMBERS => exact (.cons ⟨.str "1", ⟨_, rfl⟩, rfl⟩ (.cons ⟨.str "2", ⟨_, rfl⟩, rfl⟩ (.cons ⟨.str "3", ⟨_, rfl⟩, rfl⟩ .nil))))
    (case w_SLOT_NUMBERS => decide)
#print axioms PySem.Challenge.cw_sparedwork_k63_orders_that_stand_ahead_holds
