import PyProof.Rows.All
import Wide.All
import OpenK.AllK
import Wide.FinOn
import HandS.ForMost
import HandS.ForExc
import HandS.Flow
import HandS.TupAny
import HandS.IsInst
import HandS.CallSlots
import HandS.Wide
import HandS.TupLe
import HandS.Replace
import HandS.Dict
import HandS.Text
import HandS.RaiseMore
import HandS.ExcInit
import HandS.ExcField
import HandS.ExcIs
import HandS.TryOnly
import HandS.TryMany
import KE.GoesNew
import HandS.Conv
import HandS.SortInts
import HandS.Small
import PyProof.DictCopy
import KE.KExcIs
import HandS.DictSubView
import HandS.SetFor
import HandS.More
import HandS.Remove
import HandS.DictComp
import HandS.Defaults
import KE.GoesEnum
import HandS.OwnEq
import PyProof.NeKinds
import PyProof.InstNe
import KE.KFmtOwn
import HandS.RevTup
import HandS.Rev
import HandS.Star
import KE.GoesRaise
import HandS.Strs
import KE.KRevSl
import HandS.Style
import HandS.StrSplit
import PyProof.ReprRoads
import PySem.Challenge.RW_sparedwork_k05_whole_truths_of_tests
set_option Elab.async false
set_option linter.all false
set_option maxRecDepth 100000
set_option maxHeartbeats 4000000
set_option autoImplicit false
/-! The layer of shallow semantics: data D, a store of live objects, and for each construct a rule
    whose reading is a plain function of the slots and the store. -/
namespace G
open PySem L2

inductive D where
  | non
  | bl (b : Bool)
  | int (i : Int)
  | str (x : Str)
  | tup (xs : List D)
  | lst (xs : List D)
  | dct (kvs : List (Key × D))
  | ins (c : Str) (fs : List (Str × D))
  | ref (n : Nat)
  | scr (ns : List Int)
  | exv (c : Str) (fs : List (Str × D))

/-- a live object -/
inductive MO where
  | lst (xs : List D)
  | dct (kvs : List (Key × D))
  | ldc (kvs : List (Key × D))
  | ins (c : Str) (fs : List (Str × D))
  | dead
abbrev Store := List MO
/-- an exception in flight: its class, its fields -/
structure Exc where
  cls : Str
  fs : List (Str × D)
inductive Res (α : Type) where
  | ok (a : α) (S : Store)
  | exc (x : Exc) (S : Store)
  | stk
def Res.bind {α β : Type} (r : Res α) (f : α → Store → Res β) : Res β := match r with
  | .ok a S => f a S
  | .exc x S => .exc x S
  | .stk => .stk
/-- an equation that simp takes by its proof, not by unfolding -/
theorem nrfl {α : Sort _} {a b : α} (h : a = b) : a = b := h
@[simp] theorem bind_ok {α β : Type} {a : α} {S : Store} {f : α → Store → Res β} : (Res.ok a S).bind f = f a S := nrfl rfl
@[simp] theorem bind_exc {α β : Type} {x : Exc} {S : Store} {f : α → Store → Res β} : (Res.exc x S).bind f = .exc x S := nrfl rfl
@[simp] theorem bind_stk {α β : Type} {f : α → Store → Res β} : (Res.stk : Res α).bind f = .stk := nrfl rfl
abbrev Sl := List (Option D)
abbrev M (α : Type) := Sl → Store → Res α
/-- a world: the frozen objects, the hidden ones, where the live ones stand -/
structure Wd where
  G : Hp
  P : Hp
  ι : Nat → Addr
  n : Nat
structure Le (W W' : Wd) : Prop where
  g : ∀ a o, W.G a = some o → W'.G a = some o
  i : ∀ j, j < W.n → W'.ι j = W.ι j
  n : W.n ≤ W'.n
  p : W'.P = W.P
theorem Le.rf (W : Wd) : Le W W := ⟨fun _ _ h => h, fun _ _ => rfl, Nat.le_refl _, rfl⟩
theorem Le.tr {A B C : Wd} (x : Le A B) (y : Le B C) : Le A C :=
  ⟨fun a o h => y.g a o (x.g a o h), fun j h => (y.i j (Nat.lt_of_lt_of_le h x.n)).trans (x.i j h), Nat.le_trans x.n y.n, y.p.trans x.p⟩
/-- of what a value leans on -/
structure Ls (W W' : Wd) : Prop where
  g : ∀ a o, W.G a = some o → W'.G a = some o
  i : ∀ j, j < W.n → W'.ι j = W.ι j
  n : W.n ≤ W'.n
theorem Le.s {W W' : Wd} (l : Le W W') : Ls W W' := ⟨l.g, l.i, l.n⟩
theorem Ls.tr {A B C : Wd} (x : Ls A B) (y : Ls B C) : Ls A C :=
  ⟨fun a o h => y.g a o (x.g a o h), fun j h => (y.i j (Nat.lt_of_lt_of_le h x.n)).trans (x.i j h), Nat.le_trans x.n y.n⟩

section
variable (K : PySem.W.Frag) (cl : Str → Option Addr)
mutual
inductive Rep (W : Wd) : V → D → Prop
  | non : Rep W .non .non
  | bl (b : Bool) : Rep W (.bl b) (.bl b)
  | int (i : Int) : Rep W (.int i) (.int i)
  | str (x : Str) : Rep W (.str x) (.str x)
  | tup {a : Addr} {vs : List V} {ds : List D} : SqT K W.G a vs → Reps W vs ds → Rep W (.ref a) (.tup ds)
  | lst {a : Addr} {vs : List V} {ds : List D} : W.G a = some (.lst vs) → Reps W vs ds → Rep W (.ref a) (.lst ds)
  | scr {a : Addr} {ns : List Int} : SqL K W.G a (ns.map V.int) → Rep W (.ref a) (.scr ns)
  | dct {a : Addr} {o : Obj} {vs : List (Key × V)} {ds : List (Key × D)} : W.G a = some (.frz o (.dK vs)) → RepK W vs ds → Rep W (.ref a) (.dct ds)
  | ins {a C dx : Addr} {c : Str} {vs : List (Str × V)} {ds : List (Str × D)} : W.G a = some (.ins C dx vs) → cl c = some C → RepF W vs ds → Rep W (.ref a) (.ins c ds)
  | ref {n : Nat} : n < W.n → Rep W (.ref (W.ι n)) (.ref n)
  | exv0 {a C : Addr} {c : Str} : cl "#a" = some a → cl "#c" = some C → cl "#d" = none → cl c = some C → Rep W (.ref a) (.exv c [])
  | exv1 {a C d : Addr} {c : Str} {vs : List (Str × V)} {ds : List (Str × D)} : cl "#a" = some a → cl "#c" = some C → cl "#d" = some d → cl c = some C → W.G d = some (.xd vs) → ds ≠ [] → RepF W vs ds → Rep W (.ref a) (.exv c ds)
inductive Reps (W : Wd) : List V → List D → Prop
  | nil : Reps W [] []
  | cons {v : V} {d : D} {vs : List V} {ds : List D} : Rep W v d → Reps W vs ds → Reps W (v :: vs) (d :: ds)
inductive RepK (W : Wd) : List (Key × V) → List (Key × D) → Prop
  | nil : RepK W [] []
  | cons {k : Key} {v : V} {d : D} {vs : List (Key × V)} {ds : List (Key × D)} : Rep W v d → RepK W vs ds → RepK W ((k, v) :: vs) ((k, d) :: ds)
inductive RepF (W : Wd) : List (Str × V) → List (Str × D) → Prop
  | nil : RepF W [] []
  | cons {k : Str} {v : V} {d : D} {vs : List (Str × V)} {ds : List (Str × D)} : Rep W v d → RepF W vs ds → RepF W ((k, v) :: vs) ((k, d) :: ds)
end
end

section
variable {K : PySem.W.Frag} {cl : Str → Option Addr} {W W' : Wd}
theorem sqT_up {A B : Hp} {a : Addr} {xs : List V} (g : ∀ a o, A a = some o → B a = some o) (h : SqT K A a xs) : SqT K B a xs := by
  rcases h with (h | ⟨o, h⟩) | h
  · exact .inl (.inl (g _ _ h))
  · exact .inl (.inr ⟨o, g _ _ h⟩)
  · exact .inr h
theorem sqL_up {A B : Hp} {a : Addr} {xs : List V} (g : ∀ a o, A a = some o → B a = some o) (h : SqL K A a xs) : SqL K B a xs := by
  rcases h with (h | ⟨o, h⟩) | h
  · exact .inl (.inl (g _ _ h))
  · exact .inl (.inr ⟨o, g _ _ h⟩)
  · exact .inr h
mutual
theorem Rep.ups (l : Ls W W') : ∀ {v : V} {d : D}, Rep K cl W v d → Rep K cl W' v d
  | _, _, .non => .non
  | _, _, .bl b => .bl b
  | _, _, .int i => .int i
  | _, _, .str x => .str x
  | _, _, .tup h t => .tup (sqT_up l.g h) (Reps.ups l t)
  | _, _, .lst h t => .lst (l.g _ _ h) (Reps.ups l t)
  | _, _, .scr h => .scr (sqL_up l.g h)
  | _, _, .dct h t => .dct (l.g _ _ h) (RepK.ups l t)
  | _, _, .ins h c t => .ins (l.g _ _ h) c (RepF.ups l t)
  | _, _, .ref (n := n) h => by
    rw [← l.i n h]
    exact .ref (Nat.lt_of_lt_of_le h l.n)
  | _, _, .exv0 h1 h2 h3 h4 => .exv0 h1 h2 h3 h4
  | _, _, .exv1 h1 h2 h3 h4 h5 h6 t => .exv1 h1 h2 h3 h4 (l.g _ _ h5) h6 (RepF.ups l t)
theorem Reps.ups (l : Ls W W') : ∀ {v : List V} {d : List D}, Reps K cl W v d → Reps K cl W' v d
  | _, _, .nil => .nil
  | _, _, .cons h t => .cons (Rep.ups l h) (Reps.ups l t)
theorem RepK.ups (l : Ls W W') : ∀ {v : List (Key × V)} {d : List (Key × D)}, RepK K cl W v d → RepK K cl W' v d
  | _, _, .nil => .nil
  | _, _, .cons h t => .cons (Rep.ups l h) (RepK.ups l t)
theorem RepF.ups (l : Ls W W') : ∀ {v : List (Str × V)} {d : List (Str × D)}, RepF K cl W v d → RepF K cl W' v d
  | _, _, .nil => .nil
  | _, _, .cons h t => .cons (Rep.ups l h) (RepF.ups l t)
end
theorem Rep.up (l : Le W W') {v : V} {d : D} (h : Rep K cl W v d) : Rep K cl W' v d := h.ups l.s
theorem Reps.up (l : Le W W') {v : List V} {d : List D} (h : Reps K cl W v d) : Reps K cl W' v d := h.ups l.s
theorem RepK.up (l : Le W W') {v : List (Key × V)} {d : List (Key × D)} (h : RepK K cl W v d) : RepK K cl W' v d := h.ups l.s
theorem RepF.up (l : Le W W') {v : List (Str × V)} {d : List (Str × D)} (h : RepF K cl W v d) : RepF K cl W' v d := h.ups l.s
theorem Reps.len : ∀ {v : List V} {d : List D}, Reps K cl W v d → v.length = d.length
  | _, _, .nil => rfl
  | _, _, .cons _ t => by simp [Reps.len t]
theorem Reps.at : ∀ {v : List V} {d : List D} {i : Nat} {x : D}, Reps K cl W v d → d[i]? = some x → ∃ y, v[i]? = some y ∧ Rep K cl W y x
  | _, _, _, _, .nil, e => by simp at e
  | _, _, 0, _, .cons h _, e => by simp at e; subst e; exact ⟨_, rfl, h⟩
  | _, _, i + 1, x, .cons _ t, e => by
    obtain ⟨y, h1, h2⟩ := Reps.at (i := i) (x := x) t (by simpa using e)
    exact ⟨y, by simpa using h1, h2⟩
theorem Reps.at' : ∀ {v : List V} {d : List D} {i : Nat} {y : V}, Reps K cl W v d → v[i]? = some y → ∃ x, d[i]? = some x ∧ Rep K cl W y x
  | _, _, _, _, .nil, e => by simp at e
  | _, _, 0, _, .cons h _, e => by simp at e; subst e; exact ⟨_, rfl, h⟩
  | _, _, i + 1, x, .cons _ t, e => by
    obtain ⟨y, h1, h2⟩ := Reps.at' (i := i) (y := x) t (by simpa using e)
    exact ⟨y, by simpa using h1, h2⟩
theorem Reps.app : ∀ {v w : List V} {d e : List D}, Reps K cl W v d → Reps K cl W w e → Reps K cl W (v ++ w) (d ++ e)
  | _, _, _, _, .nil, q => q
  | _, _, _, _, .cons h t, q => .cons h (Reps.app t q)
theorem Reps.set {x : V} {y : D} (r : Rep K cl W x y) : ∀ {v : List V} {d : List D} (i : Nat), Reps K cl W v d → Reps K cl W (v.set i x) (d.set i y)
  | _, _, _, .nil => .nil
  | _, _, 0, .cons _ t => .cons r t
  | _, _, i + 1, .cons q t => .cons q (Reps.set r i t)
theorem Reps.take : ∀ {v : List V} {d : List D} (n : Nat), Reps K cl W v d → Reps K cl W (v.take n) (d.take n)
  | _, _, 0, _ => by simp; exact .nil
  | _, _, n + 1, .nil => by simp; exact .nil
  | _, _, n + 1, .cons h t => .cons h (Reps.take n t)
theorem Reps.drop : ∀ {v : List V} {d : List D} (n : Nat), Reps K cl W v d → Reps K cl W (v.drop n) (d.drop n)
  | _, _, 0, h => h
  | _, _, n + 1, .nil => by simp; exact .nil
  | _, _, n + 1, .cons h t => Reps.drop n t
end

section
variable (K : PySem.W.Frag) (cl : Str → Option Addr)
def MRep (W : Wd) (H : Hp) (a : Addr) : MO → Prop
  | .lst ds => ∃ vs, H a = some (.lst vs) ∧ Reps K cl W vs ds
  | .dct ds => ∃ vs, H a = some (.dK vs) ∧ RepK K cl W vs ds
  | .ldc ds => ∃ o vs, H a = some (.frz o (.dK vs)) ∧ RepK K cl W vs ds
  | .ins c ds => ∃ C dx vs, cl c = some C ∧ H a = some (.ins C dx vs) ∧ RepF K cl W vs ds
  | .dead => True
structure R (W : Wd) (H : Hp) (S : Store) : Prop where
  n : W.n = S.length
  sub : ∀ a o, W.G a = some o → H a = some o
  live : ∀ (i : Nat) (mo : MO), S[i]? = some mo → mo ≠ .dead → W.G (W.ι i) = none ∧ MRep K cl W H (W.ι i) mo
  inj : ∀ (i j : Nat) (m m' : MO), S[i]? = some m → S[j]? = some m' → m ≠ .dead → m' ≠ .dead → W.ι i = W.ι j → i = j
  priv : ∀ a o, W.P a = some o → H a = some o ∧ W.G a = none ∧ ∀ (i : Nat) (mo : MO), S[i]? = some mo → mo ≠ .dead → W.ι i ≠ a
def XRep (W : Wd) (cls : Value) (dd : Option Addr) (x : Exc) : Prop :=
  ∃ C, cl x.cls = some C ∧ cls = .ref C ∧ ((x.fs = [] ∧ dd = none) ∨ ∃ d vs, dd = some d ∧ W.G d = some (.xd vs) ∧ x.fs ≠ [] ∧ RepF K cl W vs x.fs)
structure Envs (W : Wd) (σ : St) (ρ : Sl) : Prop where
  len : σ.length = ρ.length
  at' : ∀ (i : Nat) (d : D), ρ[i]? = some (some d) → ∃ v, σ[i]? = some (some v) ∧ Rep K cl W v d
end

section
variable {K : PySem.W.Frag} {cl : Str → Option Addr} {W W' : Wd} {H : Hp} {S : Store} {σ : St} {ρ : Sl}
theorem Envs.ups (l : Ls W W') (e : Envs K cl W σ ρ) : Envs K cl W' σ ρ := ⟨e.len, fun i d h => let ⟨v, h1, h2⟩ := e.at' i d h; ⟨v, h1, h2.ups l⟩⟩
theorem Envs.up (l : Le W W') (e : Envs K cl W σ ρ) : Envs K cl W' σ ρ := e.ups l.s
theorem Envs.set {v : V} {d : D} (e : Envs K cl W σ ρ) (i : Nat) (r : Rep K cl W v d) : Envs K cl W (σ.set i (some v)) (ρ.set i (some d)) := by
  refine ⟨by simpa using e.len, fun j x h => ?_⟩
  by_cases hj : i = j
  · subst hj
    by_cases hi : i < ρ.length
    · rw [List.getElem?_set_self hi] at h
      have h := Option.some.inj (Option.some.inj h)
      subst h
      exact ⟨v, List.getElem?_set_self (by rw [e.len]; exact hi), r⟩
    · rw [List.getElem?_eq_none (by simpa using hi)] at h
      cases h
  · rw [List.getElem?_set_ne hj] at h ⊢
    exact e.at' j x h
theorem Envs.unset (e : Envs K cl W σ ρ) (i : Nat) (o : Option V) : Envs K cl W (σ.set i o) (ρ.set i none) := by
  refine ⟨by simpa using e.len, fun j x h => ?_⟩
  by_cases hj : i = j
  · subst hj
    by_cases hi : i < ρ.length
    · rw [List.getElem?_set_self hi] at h
      cases h
    · rw [List.getElem?_eq_none (by simpa using hi)] at h
      cases h
  · rw [List.getElem?_set_ne hj] at h ⊢
    exact e.at' j x h
theorem MRep.ups {a : Addr} {mo : MO} (l : Ls W W') (h : MRep K cl W H a mo) : MRep K cl W' H a mo := by
  cases mo with
  | lst ds => obtain ⟨vs, h1, h2⟩ := h; exact ⟨vs, h1, h2.ups l⟩
  | dct ds => obtain ⟨vs, h1, h2⟩ := h; exact ⟨vs, h1, h2.ups l⟩
  | ldc ds => obtain ⟨o, vs, h1, h2⟩ := h; exact ⟨o, vs, h1, h2.ups l⟩
  | ins c ds => obtain ⟨C, dx, vs, h0, h1, h2⟩ := h; exact ⟨C, dx, vs, h0, h1, h2.ups l⟩
  | dead => trivial
theorem MRep.up {a : Addr} {mo : MO} (l : Le W W') (h : MRep K cl W H a mo) : MRep K cl W' H a mo := h.ups l.s
theorem MRep.some {a : Addr} {mo : MO} (h : MRep K cl W H a mo) (nd : mo ≠ .dead) : ∃ o, H a = some o := by
  cases mo with
  | lst ds => obtain ⟨vs, h1, h2⟩ := h; exact ⟨_, h1⟩
  | dct ds => obtain ⟨vs, h1, h2⟩ := h; exact ⟨_, h1⟩
  | ldc ds => obtain ⟨o, vs, h1, h2⟩ := h; exact ⟨_, h1⟩
  | ins c ds => obtain ⟨C, dx, vs, h0, h1, h2⟩ := h; exact ⟨_, h1⟩
  | dead => exact absurd rfl nd
theorem MRep.at {a : Addr} {mo : MO} {H' : Hp} (h : MRep K cl W H a mo) (e : H' a = H a) : MRep K cl W H' a mo := by
  cases mo with
  | lst ds => obtain ⟨vs, h1, h2⟩ := h; exact ⟨vs, e.trans h1, h2⟩
  | dct ds => obtain ⟨vs, h1, h2⟩ := h; exact ⟨vs, e.trans h1, h2⟩
  | ldc ds => obtain ⟨o, vs, h1, h2⟩ := h; exact ⟨o, vs, e.trans h1, h2⟩
  | ins c ds => obtain ⟨C, dx, vs, h0, h1, h2⟩ := h; exact ⟨C, dx, vs, h0, e.trans h1, h2⟩
  | dead => trivial

/-- a new object, known to nobody -/
theorem R.junk {p : Addr} {o : HO} (r : R K cl W H S) (hp : H p = none) : R K cl W (upd H p o) S := by
  refine ⟨r.n, fun a u h => ?_, fun i mo h nd => ?_, r.inj, fun a u h => ?_⟩
  · rw [upd_ne (ne_of_none (r.sub a u h) hp)]
    exact r.sub a u h
  · obtain ⟨h1, h2⟩ := r.live i mo h nd
    obtain ⟨u, hu⟩ := h2.some nd
    exact ⟨h1, h2.at (upd_ne (ne_of_none hu hp))⟩
  · obtain ⟨h1, h2, h3⟩ := r.priv a u h
    exact ⟨by rw [upd_ne (ne_of_none h1 hp)]; exact h1, h2, h3⟩
def Wd.fz (W : Wd) (p : Addr) (o : HO) : Wd := { W with G := upd W.G p o }
theorem Le.fz {p : Addr} {o : HO} (h : W.G p = none) : Le W (W.fz p o) := ⟨fun a u e => by
  show upd W.G p o a = some u
  rw [upd_ne (ne_of_none e h)]
  exact e, fun _ _ => rfl, Nat.le_refl _, rfl⟩
/-- a tracked object that is no live one is frozen -/
theorem R.fzAt {p : Addr} {o : HO} (r : R K cl W H S) (hp : H p = some o) (hg : W.G p = none) (nl : ∀ (i : Nat) (mo : MO), S[i]? = some mo → mo ≠ .dead → W.ι i ≠ p) (np : W.P p = none) : R K cl (W.fz p o) H S := by
  refine ⟨r.n, fun a u h => ?_, fun i mo h nd => ?_, r.inj, fun a u h => ?_⟩
  · by_cases e : a = p
    · subst e
      rw [show (W.fz a o).G a = some o from upd_same] at h
      exact hp.trans h
    · rw [show (W.fz p o).G a = W.G a from upd_ne e] at h
      exact r.sub a u h
  · obtain ⟨h1, h2⟩ := r.live i mo h nd
    exact ⟨(upd_ne (nl i mo h nd)).trans h1, h2.up (Le.fz hg)⟩
  · obtain ⟨h1, h2, h3⟩ := r.priv a u h
    exact ⟨h1, (upd_ne (ne_of_none h np)).trans h2, h3⟩
/-- a new frozen object -/
theorem R.fz {p : Addr} {o : HO} (r : R K cl W H S) (hp : H p = none) : R K cl (W.fz p o) (upd H p o) S ∧ Le W (W.fz p o) := by
  have hg : W.G p = none := by
    cases e : W.G p with
    | none => rfl
    | some u => rw [r.sub p u e] at hp; cases hp
  have hq : W.P p = none := by
    cases e : W.P p with
    | none => rfl
    | some u => rw [(r.priv p u e).1] at hp; cases hp
  refine ⟨(r.junk hp).fzAt upd_same hg (fun i mo h nd => ?_) hq, Le.fz hg⟩
  obtain ⟨u, hu⟩ := (r.live i mo h nd).2.some nd
  exact ne_of_none hu hp
def Wd.lv (W : Wd) (p : Addr) : Wd := { W with ι := fun j => if j = W.n then p else W.ι j, n := W.n + 1 }
theorem Le.lv (W : Wd) (p : Addr) : Le W (W.lv p) := ⟨fun _ _ h => h, fun j h => by
  show (if j = W.n then p else W.ι j) = W.ι j
  rw [if_neg (Nat.ne_of_lt h)], Nat.le_succ _, rfl⟩
theorem Wd.lv_at (W : Wd) (p : Addr) : (W.lv p).ι W.n = p := if_pos rfl
/-- a new live object -/
theorem R.new {p : Addr} {o : HO} {mo : MO} (r : R K cl W H S) (hp : H p = none) (hm : MRep K cl W (upd H p o) p mo) : R K cl (W.lv p) (upd H p o) (S ++ [mo]) := by
  have hg : W.G p = none := by
    cases e : W.G p with
    | none => rfl
    | some u => rw [r.sub p u e] at hp; cases hp
  have old : ∀ (i : Nat) (m : MO), (S ++ [mo])[i]? = some m → (i < S.length ∧ S[i]? = some m) ∨ (i = S.length ∧ m = mo) := fun i m h => by
    by_cases hi : i < S.length
    · rw [List.getElem?_append_left hi] at h
      exact .inl ⟨hi, h⟩
    · rw [List.getElem?_append_right (by omega)] at h
      have hk : i - S.length = 0 := by
        cases q : i - S.length with
        | zero => rfl
        | succ k => rw [q] at h; simp at h
      rw [hk] at h
      simp at h
      exact .inr ⟨by omega, h.symm⟩
  have ιo : ∀ i, i < S.length → (W.lv p).ι i = W.ι i := fun i h => (Le.lv W p).i i (by rw [r.n]; exact h)
  have ιn : (W.lv p).ι S.length = p := by rw [← r.n]; exact W.lv_at p
  refine ⟨?_, (r.junk hp).sub, fun i m h nd => ?_, fun i j m m' h h' nd nd' e => ?_, fun a u q => ?_⟩
  · show W.n + 1 = _
    rw [List.length_append, r.n]
    rfl
  · rcases old i m h with ⟨hi, h⟩ | ⟨rfl, rfl⟩
    · obtain ⟨h1, h2⟩ := (r.junk (o := o) hp).live i m h nd
      rw [ιo i hi]
      exact ⟨h1, h2.up (Le.lv W p)⟩
    · rw [ιn]
      exact ⟨hg, hm.up (Le.lv W p)⟩
  · rcases old i m h with ⟨hi, h⟩ | ⟨rfl, rfl⟩
    · obtain ⟨u, hu⟩ := (r.live i m h nd).2.some nd
      rcases old j m' h' with ⟨hj, h'⟩ | ⟨rfl, rfl⟩
      · rw [ιo i hi, ιo j hj] at e
        exact r.inj i j m m' h h' nd nd' e
      · rw [ιo i hi, ιn] at e
        exact absurd e (ne_of_none hu hp)
    · rcases old j m' h' with ⟨hj, h'⟩ | ⟨rfl, rfl⟩
      · obtain ⟨u, hu⟩ := (r.live j m' h' nd').2.some nd'
        rw [ιo j hj, ιn] at e
        exact absurd e.symm (ne_of_none hu hp)
      · rfl
  · obtain ⟨g1, g2, g3⟩ := (r.junk (o := o) hp).priv a u q
    refine ⟨g1, g2, fun i m h nd => ?_⟩
    rcases old i m h with ⟨hi, h⟩ | ⟨rfl, rfl⟩
    · rw [ιo i hi]
      exact g3 i m h nd
    · rw [ιn]
      exact (ne_of_none (r.priv a u q).1 hp).symm
/-- a live object is changed -/
theorem R.put {i : Nat} {o : HO} {m mo : MO} (r : R K cl W H S) (h : S[i]? = some m) (nd : m ≠ .dead) (hm : MRep K cl W (upd H (W.ι i) o) (W.ι i) mo) : R K cl W (upd H (W.ι i) o) (S.set i mo) := by
  obtain ⟨h1, h2⟩ := r.live i m h nd
  have hi : i < S.length := (List.getElem?_eq_some_iff.mp h).1
  have hi2 : ∀ (j : Nat) (k : MO), (S.set i mo)[j]? = some k → k ≠ .dead → ∃ m', S[j]? = some m' ∧ m' ≠ .dead := fun j k e nk => by
    by_cases hj : i = j
    · subst hj
      exact ⟨m, h, nd⟩
    · rw [List.getElem?_set_ne hj] at e
      exact ⟨k, e, nk⟩
  refine ⟨by rw [List.length_set]; exact r.n, fun a u e => ?_, fun j k e nk => ?_, fun j k m1 m2 e1 e2 n1 n2 q => ?_, fun a u q => ?_⟩
  · rw [upd_ne (ne_of_none e h1)]
    exact r.sub a u e
  · by_cases hj : i = j
    · subst hj
      rw [List.getElem?_set_self hi] at e
      cases e
      exact ⟨h1, hm⟩
    · rw [List.getElem?_set_ne hj] at e
      obtain ⟨g1, g2⟩ := r.live j k e nk
      exact ⟨g1, g2.at (upd_ne fun q => hj (r.inj i j m k h e nd nk q.symm))⟩
  · by_cases hj : i = j
    · by_cases hk : i = k
      · exact hj.symm.trans hk
      · rw [List.getElem?_set_ne hk] at e2
        subst hj
        exact r.inj i k m m2 h e2 nd n2 q
    · rw [List.getElem?_set_ne hj] at e1
      by_cases hk : i = k
      · subst hk
        exact r.inj j i m1 m e1 h n1 nd q
      · rw [List.getElem?_set_ne hk] at e2
        exact r.inj j k m1 m2 e1 e2 n1 n2 q
  · obtain ⟨g1, g2, g3⟩ := r.priv a u q
    refine ⟨by rw [upd_ne (fun z => g3 i m h nd z.symm)]; exact g1, g2, fun j k e nk => ?_⟩
    obtain ⟨m', e', n'⟩ := hi2 j k e nk
    exact g3 j m' e' n'
/-- a hidden object: made, changed, shown -/
def Wd.hid (W : Wd) (p : Addr) (o : HO) : Wd := { W with P := upd W.P p o }
theorem Ls.hid {p : Addr} {o : HO} : Ls W (W.hid p o) := ⟨fun _ _ h => h, fun _ _ => rfl, Nat.le_refl _⟩
theorem Ls.shw {p : Addr} {o : HO} : Ls (W.hid p o) W := ⟨fun _ _ h => h, fun _ _ => rfl, Nat.le_refl _⟩
theorem R.hide {p : Addr} {o : HO} (r : R K cl W H S) (hp : H p = none) : R K cl (W.hid p o) (upd H p o) S := by
  have r' := r.junk (o := o) hp
  have hg : W.G p = none := by
    cases e : W.G p with
    | none => rfl
    | some u => rw [r.sub p u e] at hp; cases hp
  refine ⟨r'.n, r'.sub, fun i mo h nd => ⟨(r'.live i mo h nd).1, (r'.live i mo h nd).2.ups (Ls.hid (p := p) (o := o))⟩, r'.inj, fun a u h => ?_⟩
  by_cases e : a = p
  · subst e
    rw [show (W.hid a o).P a = some o from upd_same] at h
    cases h
    refine ⟨upd_same, hg, fun i mo h nd => ?_⟩
    obtain ⟨u, hu⟩ := (r.live i mo h nd).2.some nd
    exact ne_of_none hu hp
  · rw [show (W.hid p o).P a = W.P a from upd_ne e] at h
    exact r'.priv a u h
theorem R.turn {p : Addr} {o o' : HO} (r : R K cl (W.hid p o) H S) : R K cl (W.hid p o') (upd H p o') S := by
  obtain ⟨h1, h2, h3⟩ := r.priv p o upd_same
  refine ⟨r.n, fun a u h => ?_, fun i mo h nd => ?_, r.inj, fun a u h => ?_⟩
  · rw [upd_ne (ne_of_none h h2)]
    exact r.sub a u h
  · obtain ⟨g1, g2⟩ := r.live i mo h nd
    exact ⟨g1, MRep.at (g2.ups (Ls.shw.tr Ls.hid)) (upd_ne (h3 i mo h nd))⟩
  · by_cases e : a = p
    · subst e
      rw [show (W.hid a o').P a = some o' from upd_same] at h
      cases h
      exact ⟨upd_same, h2, h3⟩
    · rw [show (W.hid p o').P a = W.P a from upd_ne e] at h
      obtain ⟨g1, g2, g3⟩ := r.priv a u (by rw [show (W.hid p o).P a = W.P a from upd_ne e]; exact h)
      exact ⟨by rw [upd_ne e]; exact g1, g2, g3⟩
theorem R.unhide {p : Addr} {o : HO} (r : R K cl (W.hid p o) H S) (hq : W.P p = none) : R K cl W H S ∧ H p = some o ∧ W.G p = none ∧ ∀ (i : Nat) (mo : MO), S[i]? = some mo → mo ≠ .dead → W.ι i ≠ p := by
  obtain ⟨h1, h2, h3⟩ := r.priv p o upd_same
  refine ⟨⟨r.n, r.sub, fun i mo h nd => ⟨(r.live i mo h nd).1, (r.live i mo h nd).2.ups (Ls.shw (p := p) (o := o))⟩, r.inj, fun a u h => ?_⟩, h1, h2, h3⟩
  exact r.priv a u (by rw [show (W.hid p o).P a = W.P a from upd_ne (ne_of_none h hq)]; exact h)
end

/-! ### readings -/
section
variable (K : PySem.W.Frag) (cl : Str → Option Addr)
def Post {α β : Type} (rel : Wd → β → α → Prop) (W : Wd) (r : Res α) (Q : β → Hp → Prop) (E : XK) : Prop := match r with
  | .ok d S => ∀ W' H' v, Le W W' → R K cl W' H' S → rel W' v d → Q v H'
  | .exc x S => ∀ W' H' c dd, Le W W' → R K cl W' H' S → XRep K cl W' c dd x → E c dd H'
  | .stk => False
def Tg {α β : Type} (rel : Wd → β → α → Prop) (E : WX) (m : M α) : St → Hp → (β → Hp → Prop) → Prop := fun σ H Q =>
  ∃ W ρ S, R K cl W H S ∧ Envs K cl W σ ρ ∧ Post K cl rel W (m ρ S) Q (fun c d H' => E c d σ H')
abbrev relB : Wd → Bool → Bool → Prop := fun _ b c => b = c
abbrev relO : Wd → Option Int → Option Int → Prop := fun _ b c => b = c
abbrev T (E : WX) (m : M D) : TE := Tg K cl (Rep K cl) E m
abbrev TB (E : WX) (m : M Bool) : TT := Tg K cl relB E m
abbrev TL (E : WX) (m : M (List D)) : TA := Tg K cl (Reps K cl) E m
abbrev TP (E : WX) (m : M (Option Int)) : TO := Tg K cl relO E m
end
section
variable {K : PySem.W.Frag} {cl : Str → Option Addr} {W W' : Wd} {H : Hp} {S : Store} {σ : St} {ρ : Sl} {α β γ δ : Type} {rel : Wd → β → α → Prop} {rel2 : Wd → δ → γ → Prop}
theorem Post.up {r : Res α} {Q : β → Hp → Prop} {E : XK} (l : Le W W') (p : Post K cl rel W r Q E) : Post K cl rel W' r Q E := by
  cases r with
  | ok d S => exact fun W2 H2 v l2 => p W2 H2 v (l.tr l2)
  | exc x S => exact fun W2 H2 c dd l2 => p W2 H2 c dd (l.tr l2)
  | stk => exact p
theorem Post.now {d : α} {Q : β → Hp → Prop} {E : XK} {v : β} (p : Post K cl rel W (.ok d S) Q E) (r : R K cl W H S) (h : rel W v d) : Q v H := p W H v (.rf W) r h
/-- the first part runs, then the rest -/
theorem step {m : M α} {f : α → Store → Res γ} {Q : δ → Hp → Prop} {Q1 : β → Hp → Prop} {E : WX} (hr : R K cl W H S) (he : Envs K cl W σ ρ) (p : Post K cl rel2 W ((m ρ S).bind f) Q (fun c d H' => E c d σ H'))
    (k : ∀ W' H' v d S', Le W W' → R K cl W' H' S' → Envs K cl W' σ ρ → rel W' v d → Post K cl rel2 W' (f d S') Q (fun c d H' => E c d σ H') → Q1 v H') : Tg K cl rel E m σ H Q1 := by
  refine ⟨W, ρ, S, hr, he, ?_⟩
  cases e : m ρ S with
  | ok d S1 =>
    rw [e] at p
    exact fun W1 H1 v l1 r1 q1 => k W1 H1 v d S1 l1 r1 (he.up l1) q1 (Post.up l1 p)
  | exc x S1 =>
    rw [e] at p
    exact p
  | stk =>
    rw [e] at p
    exact p.elim
end
section
variable {X : Cx}
theorem pe_imp {e : Expr} {t t' : TE} (h : PE X e t) (k : ∀ σ H Q, t' σ H Q → t σ H Q) : PE X e t' := ⟨fun pins s σ H Q I q => h.run pins s σ H Q I (k σ H Q q)⟩
theorem pt_imp {e : Expr} {t t' : TT} (h : PT X e t) (k : ∀ σ H Q, t' σ H Q → t σ H Q) : PT X e t' := ⟨fun pins s σ H Q I q => h.run pins s σ H Q I (k σ H Q q)⟩
theorem pw_imp {e : Expr} {t t' : TT} (h : PW X e t) (k : ∀ σ H Q, t' σ H Q → t σ H Q) : PW X e t' := ⟨fun wh pins s σ H Q I q => h.run wh pins s σ H Q I (k σ H Q q)⟩
theorem pa_imp {e : List Expr} {t t' : TA} (h : PA X e t) (k : ∀ σ H Q, t' σ H Q → t σ H Q) : PA X e t' := ⟨fun pos pins s σ H Q I q => h.run pos pins s σ H Q I (k σ H Q q)⟩
theorem po_imp {e : Option Expr} {t t' : TO} (h : PO X e t) (k : ∀ σ H Q, t' σ H Q → t σ H Q) : PO X e t' := ⟨fun pins s σ H Q I q => h.run pins s σ H Q I (k σ H Q q)⟩
theorem ps_imp {e : Stmt} {t t' : TS} (h : PS X e t) (k : ∀ D σ H, t' D σ H → t D σ H) : PS X e t' := ⟨fun pins s σ H D I q => h.run pins s σ H D I (k D σ H q)⟩
theorem pss_imp {e : List Stmt} {t t' : TS} (h : PSs X e t) (k : ∀ D σ H, t' D σ H → t D σ H) : PSs X e t' := ⟨fun pins s σ H D I q => h.run pins s σ H D I (k D σ H q)⟩
theorem pe_either {e : Expr} {t t' : TE} (h : PE X e t) (h' : PE X e t') : PE X e (fun σ H Q => t σ H Q ∨ t' σ H Q) := ⟨fun pins s σ H Q I q => q.elim (h.run pins s σ H Q I) (h'.run pins s σ H Q I)⟩
end
end G
namespace G
open PySem L2

/-! ### the combinators of expressions -/
def mVar (i : Nat) : M D := fun ρ S => match ρ[i]? with
  | some (some d) => .ok d S
  | _ => .stk
def mC (d : D) : M D := fun _ S => .ok d S
def mOp (g : D → D → Store → Res D) (a b : M D) : M D := fun ρ S => (a ρ S).bind fun x S1 => (b ρ S1).bind fun y S2 => g x y S2
def mUn (g : D → Store → Res D) (a : M D) : M D := fun ρ S => (a ρ S).bind fun x S1 => g x S1
def mNil : M (List D) := fun _ S => .ok [] S
def mCons (a : M D) (b : M (List D)) : M (List D) := fun ρ S => (a ρ S).bind fun x S1 => (b ρ S1).bind fun y S2 => .ok (x :: y) S2
def mFn (g : List D → Store → Res D) (a : M (List D)) : M D := fun ρ S => (a ρ S).bind fun x S1 => g x S1
def mIte (c : M Bool) (a b : M D) : M D := fun ρ S => (c ρ S).bind fun k S1 => if k = true then a ρ S1 else b ρ S1
/-- tests -/
def asB (d : D) (S : Store) : Res Bool := match d with
  | .bl b => .ok b S
  | _ => .stk
def mTest (a : M D) : M Bool := fun ρ S => (a ρ S).bind fun x S1 => asB x S1
def lsOf (S : Store) (d : D) : Option (List D) := match d with
  | .lst xs => some xs
  | .ref n => (match S[n]? with
    | some (.lst xs) => some xs
    | _ => none)
  | _ => none
def truD (d : D) (S : Store) : Res Bool := match d with
  | .non => .ok false S
  | .bl b => .ok b S
  | .int i => .ok (i != 0) S
  | .str y => if y.length ≤ sizeLine then .ok ((y.length : Int) != 0) S else .stk
  | .tup xs => .ok (!xs.isEmpty) S
  | .lst xs => .ok (!xs.isEmpty) S
  | .dct _ => .stk
  | .ins _ _ => .stk
  | .scr _ => .stk
  | .exv _ _ => .stk
  | .ref n => (match S[n]? with
    | some (.lst xs) => .ok (!xs.isEmpty) S
    | some (.dct xs) => .ok (!xs.isEmpty) S
    | _ => .stk)
def mTru (a : M D) : M Bool := fun ρ S => (a ρ S).bind fun x S1 => truD x S1
def mAnd (a b : M Bool) : M Bool := fun ρ S => (a ρ S).bind fun k S1 => if k = true then b ρ S1 else .ok false S1
def mOr (a b : M Bool) : M Bool := fun ρ S => (a ρ S).bind fun k S1 => if k = true then .ok true S1 else b ρ S1
def mNot (a : M Bool) : M Bool := fun ρ S => (a ρ S).bind fun k S1 => .ok (!k) S1
/-- values by truth -/
def mAndV (a b : M D) : M D := fun ρ S => (a ρ S).bind fun x S1 => (truD x S1).bind fun k S2 => if k = true then b ρ S2 else .ok x S2
def mOrV (a b : M D) : M D := fun ρ S => (a ρ S).bind fun x S1 => (truD x S1).bind fun k S2 => if k = true then .ok x S2 else b ρ S2
def mNotV (a : M D) : M D := fun ρ S => (a ρ S).bind fun x S1 => (truD x S1).bind fun k S2 => .ok (.bl (!k)) S2
def mChain (g g' : D → D → Store → Res D) (a b c : M D) : M D := fun ρ S => (a ρ S).bind fun x S1 => (b ρ S1).bind fun y S2 => (g x y S2).bind fun z S3 => (asB z S3).bind fun k S4 =>
  if k = true then (c ρ S4).bind fun w S5 => g' y w S5 else .ok (.bl false) S4
def mNoPart : M (Option Int) := fun _ S => .ok none S
def mPart (a : M D) : M (Option Int) := fun ρ S => (a ρ S).bind fun x S1 => match x with
  | .int i => .ok (some i) S1
  | _ => .stk
def mSl (g : D → Option Int → Option Int → Store → Res D) (a : M D) (l h : M (Option Int)) : M D := fun ρ S => (a ρ S).bind fun x S1 => (l ρ S1).bind fun lo S2 => (h ρ S2).bind fun hi S3 => g x lo hi S3
def tupD (xs : List D) (S : Store) : Res D := if xs.length ≤ sizeLine then .ok (.tup xs) S else .stk
def lstD (xs : List D) (S : Store) : Res D := if xs.length ≤ sizeLine then .ok (.lst xs) S else .stk
def lstL (xs : List D) (S : Store) : Res D := if xs.length ≤ sizeLine then .ok (.ref S.length) (S ++ [.lst xs]) else .stk

/-! ### soundness of operations by values -/
section
variable (K : PySem.W.Frag) (cl : Str → Option Addr)
def OpS (r : R2) (g : D → D → Store → Res D) : Prop := ∀ (W : Wd) (H : Hp) (S : Store) (x y : V) (dx dy : D) (Q : VK) (E : XK),
  R K cl W H S → Rep K cl W x dx → Rep K cl W y dy → Post K cl (Rep K cl) W (g dx dy S) Q E → r x y H Q
def UnS (r : V → Hp → VK → Prop) (g : D → Store → Res D) : Prop := ∀ (W : Wd) (H : Hp) (S : Store) (x : V) (dx : D) (Q : VK) (E : XK),
  R K cl W H S → Rep K cl W x dx → Post K cl (Rep K cl) W (g dx S) Q E → r x H Q
def FnS (r : List V → Hp → VK → Prop) (g : List D → Store → Res D) : Prop := ∀ (W : Wd) (H : Hp) (S : Store) (x : List V) (dx : List D) (Q : VK) (E : XK),
  R K cl W H S → Reps K cl W x dx → Post K cl (Rep K cl) W (g dx S) Q E → r x H Q
def MtS (r : V → List V → Hp → VK → Prop) (g : D → List D → Store → Res D) : Prop := ∀ (W : Wd) (H : Hp) (S : Store) (x : V) (dx : D) (y : List V) (dy : List D) (Q : VK) (E : XK),
  R K cl W H S → Rep K cl W x dx → Reps K cl W y dy → Post K cl (Rep K cl) W (g dx dy S) Q E → r x y H Q
def SlS (r : V → Option Int → Option Int → Hp → VK → Prop) (g : D → Option Int → Option Int → Store → Res D) : Prop := ∀ (W : Wd) (H : Hp) (S : Store) (x : V) (dx : D) (lo hi : Option Int) (Q : VK) (E : XK),
  R K cl W H S → Rep K cl W x dx → Post K cl (Rep K cl) W (g dx lo hi S) Q E → r x lo hi H Q
end

section
variable {X : Cx} {cl : Str → Option Addr} {E : WX} {a b c : Expr} {es : List Expr} {m m1 m2 m3 : M D} {ms : M (List D)} {mb mb2 : M Bool} {pos : Pos}
/-- the slots -/
theorem t_var (i : Nat) {x : Str} (hN : X.N[i]? = some x := by rfl) (hv : Vis X.env.scope x := by first | exact Or.inl rfl | exact Or.inr (Or.inl rfl) | exact Or.inr (Or.inr rfl))
    (hd : (x == ("__debug__" : Str)) = false := by decide) (hcd : (x == ("__classdict__" : Str)) = false := by decide) : PE X (.Name x pos) (T X.K cl E (mVar i)) :=
  pe_imp (pe_var hN hv hd hcd) fun σ H Q ⟨W, ρ, S, hr, he, p⟩ => by
    unfold mVar at p
    split at p
    · rename_i d e
      obtain ⟨v, h1, h2⟩ := he.at' i d e
      exact ⟨v, h1, p.now hr h2⟩
    · exact p.elim
theorem t_int {i : Int} {j : Nat} : PE X (.Constant (.int i) j pos) (T X.K cl E (mC (.int i))) := pe_imp pe_int fun σ H Q ⟨W, ρ, S, hr, he, p⟩ => p.now hr (.int i)
theorem t_bl {i : Bool} {j : Nat} : PE X (.Constant (.bool i) j pos) (T X.K cl E (mC (.bl i))) := pe_imp pe_bl fun σ H Q ⟨W, ρ, S, hr, he, p⟩ => p.now hr (.bl i)
theorem t_str {i : Str} {j : Nat} : PE X (.Constant (.str i) j pos) (T X.K cl E (mC (.str i))) := pe_imp pe_str fun σ H Q ⟨W, ρ, S, hr, he, p⟩ => p.now hr (.str i)
theorem t_non {j : Nat} : PE X (.Constant .none j pos) (T X.K cl E (mC .non)) := pe_imp pe_non fun σ H Q ⟨W, ρ, S, hr, he, p⟩ => p.now hr .non
/-- a constant of the module -/
theorem t_glob {x : Str} {v : V} {u : Value} {d : D} (hm : X.mg x = some u) (r : RelV v u) (rp : ∀ W, Rep X.K cl W v d) (hg : Gl X x := by rfl) (hd : (x == ("__debug__" : Str)) = false := by decide) :
    PE X (.Name x pos) (T X.K cl E (mC d)) := pe_imp (pe_glob hg hm r hd) fun σ H Q ⟨W, ρ, S, hr, he, p⟩ => p.now hr (rp W)
theorem t_op {op : Operator} {r : R2} {g : D → D → Store → Res D} (ho : OpR X (binaryOp op) r) (hs : OpS X.K cl r g) (ha : PE X a (T X.K cl E m1)) (hb : PE X b (T X.K cl E m2)) :
    PE X (.BinOp a op b pos) (T X.K cl E (mOp g m1 m2)) :=
  pe_imp (pe_op ho ha hb) fun σ H Q ⟨W, ρ, S, hr, he, p⟩ => step hr he p fun W1 H1 x dx S1 l1 r1 e1 rx p1 => step r1 e1 p1 fun W2 H2 y dy S2 l2 r2 e2 ry p2 =>
    hs _ _ _ _ _ _ _ _ _ r2 (rx.up l2) ry p2
theorem t_cmp {op : CmpOp} {r : R2} {g : D → D → Store → Res D} (ho : OpR X (compareOp op) r) (hs : OpS X.K cl r g) (ha : PE X a (T X.K cl E m1)) (hb : PE X b (T X.K cl E m2))
    (hm : behindInMarks op b = false := by first | exact nomark _ | rfl) : PE X (.Compare a [op] [b] pos) (T X.K cl E (mOp g m1 m2)) :=
  pe_imp (pe_cmpR ho ha hb hm) fun σ H Q ⟨W, ρ, S, hr, he, p⟩ => step hr he p fun W1 H1 x dx S1 l1 r1 e1 rx p1 => step r1 e1 p1 fun W2 H2 y dy S2 l2 r2 e2 ry p2 =>
    hs _ _ _ _ _ _ _ _ _ r2 (rx.up l2) ry p2
theorem post_asB {d : D} {S : Store} {W : Wd} {Q : Bool → Hp → Prop} {E : XK} {K : PySem.W.Frag} (p : Post K cl relB W (asB d S) Q E) : ∃ k, d = .bl k := by
  cases d <;> first | exact ⟨_, rfl⟩ | exact p.elim
/-- a result, its bool read off -/
theorem post_test {K : PySem.W.Frag} {W : Wd} {r : Res D} {Q : Bool → Hp → Prop} {E : XK} (p : Post K cl relB W (r.bind fun x S1 => asB x S1) Q E) : Post K cl (Rep K cl) W r (fun x H' => ∃ k, x = .bl k ∧ Q k H') E := by
  cases r with
  | ok d S =>
    intro W' H' v l r' rep
    obtain ⟨k, rfl⟩ := post_asB p
    cases rep
    exact ⟨k, rfl, p W' H' k l r' rfl⟩
  | exc x S => exact p
  | stk => exact p
theorem tt_cmp {op : CmpOp} {r : R2} {g : D → D → Store → Res D} (ho : OpR X (compareOp op) r) (hs : OpS X.K cl r g) (ha : PE X a (T X.K cl E m1)) (hb : PE X b (T X.K cl E m2))
    (hm : behindInMarks op b = false := by first | exact nomark _ | rfl) : PT X (.Compare a [op] [b] pos) (TB X.K cl E (mTest (mOp g m1 m2))) :=
  pt_imp (pt_cmpR ho ha hb hm) fun σ H Q ⟨W, ρ, S, hr, he, p⟩ => by
    have p : Post X.K cl (Rep X.K cl) W (mOp g m1 m2 ρ S) _ _ := post_test p
    exact step hr he p fun W1 H1 x dx S1 l1 r1 e1 rx p1 => step r1 e1 p1 fun W2 H2 y dy S2 l2 r2 e2 ry p2 => hs _ _ _ _ _ _ _ _ _ r2 (rx.up l2) ry p2
theorem tt_chain {op op' : CmpOp} {r r' : R2} {g g' : D → D → Store → Res D} (ho : OpR X (compareOp op) r) (hs : OpS X.K cl r g) (ho' : OpR X (compareOp op') r') (hs' : OpS X.K cl r' g')
    (ha : PE X a (T X.K cl E m1)) (hb : PE X b (T X.K cl E m2)) (hc : PE X c (T X.K cl E m3)) (hm : lastMarks [op, op'] [b, c] = false := by with_unfolding_all rfl) :
    PT X (.Compare a [op, op'] [b, c] pos) (TB X.K cl E (mTest (mChain g g' m1 m2 m3))) :=
  pt_imp (pt_chain ho ho' ha hb hc hm) fun σ H Q ⟨W, ρ, S, hr, he, p⟩ => by
    have p : Post X.K cl (Rep X.K cl) W (mChain g g' m1 m2 m3 ρ S) (fun x H' => ∃ k, x = V.bl k ∧ Q k H') _ := post_test p
    exact step hr he p fun W1 H1 x dx S1 l1 r1 e1 rx p1 => step r1 e1 p1 fun W2 H2 y dy S2 l2 r2 e2 ry p2 => by
      cases e : g dx dy S2 with
      | stk => rw [e] at p2; exact p2.elim
      | exc q S3 =>
        rw [e] at p2
        refine hs W2 H2 S2 x y dx dy _ (fun c d H' => E c d σ H') r2 (rx.up l2) ry ?_
        rw [e]
        exact p2
      | ok z S3 =>
        rw [e] at p2
        refine hs W2 H2 S2 x y dx dy _ (fun _ _ _ => True) r2 (rx.up l2) ry ?_
        rw [e]
        intro W3 H3 v l3 r3 rep
        cases z with
        | bl k =>
          cases rep
          refine ⟨k, rfl, ?_⟩
          cases k with
          | true =>
            show T X.K cl E m3 σ H3 _
            exact step r3 (e2.up l3) (p2.up l3) fun W4 H4 w dw S4 l4 r4 e4 rw' p4 => hs' _ _ _ _ _ _ _ _ _ r4 (ry.up (l3.tr l4)) rw' p4
          | false => exact Post.now (p2.up l3) r3 (.bl false)
        | _ => exact p2.elim
theorem tru_of {K : PySem.W.Frag} {W : Wd} {H : Hp} {S : Store} {x : V} {d : D} {γ δ : Type} {rel2 : Wd → δ → γ → Prop} {f : Bool → Store → Res γ} {Q : δ → Hp → Prop} {E : XK} (r : R K cl W H S) (rx : Rep K cl W x d) (p : Post K cl rel2 W ((truD d S).bind f) Q E) :
    ∃ k, TruV K x H k ∧ Post K cl rel2 W (f k S) Q E := by
  cases rx with
  | non => exact ⟨false, rfl, p⟩
  | bl b => exact ⟨b, rfl, p⟩
  | int i => exact ⟨_, rfl, p⟩
  | str y =>
    unfold truD at p
    dsimp only at p
    by_cases hy : y.length ≤ sizeLine
    · rw [if_pos hy] at p
      exact ⟨_, ⟨hy, rfl⟩, p⟩
    · rw [if_neg hy] at p
      exact p.elim
  | tup h t => exact ⟨_, .inr (.inl ⟨_, sqT_up r.sub h, rfl⟩), by cases t <;> exact p⟩
  | lst h t => exact ⟨_, .inl ⟨_, SqL.of (r.sub _ _ h), rfl⟩, by cases t <;> exact p⟩
  | scr h => exact p.elim
  | dct h t => exact p.elim
  | ins h c t => exact p.elim
  | exv0 => exact p.elim
  | exv1 => exact p.elim
  | ref hn =>
    rename_i n
    unfold truD at p
    dsimp only at p
    cases e : S[n]? with
    | none => simp only [e] at p; exact p.elim
    | some mo =>
      simp only [e] at p
      cases mo with
      | lst xs =>
        obtain ⟨_, vs, h1, h2⟩ := r.live n _ e (by intro q; cases q)
        exact ⟨_, .inl ⟨vs, SqL.of h1, rfl⟩, by cases h2 <;> exact p⟩
      | dct xs =>
        obtain ⟨_, vs, h1, h2⟩ := r.live n _ e (by intro q; cases q)
        exact ⟨_, .inr (.inr ⟨vs, h1, rfl⟩), by cases h2 <;> exact p⟩
      | ldc xs => exact p.elim
      | ins c fs => exact p.elim
      | dead => exact p.elim
theorem tt_tru (ha : PE X a (T X.K cl E m)) (he : ∀ whole, isTrue a X.env whole = (do let v ← whole; standAt a.pos; holding [v] (truthy v)) := by intro _; rfl) : PT X a (TB X.K cl E (mTru m)) :=
  pt_imp (pt_truth ha he) fun σ H Q ⟨W, ρ, S, hr, he, p⟩ => step hr he p fun W1 H1 x dx S1 l1 r1 e1 rx p1 => by
    have p1 : Post X.K cl relB W1 ((truD dx S1).bind fun k S => .ok k S) Q (fun c d H' => E c d σ H') := by cases q : truD dx S1 <;> (rw [q] at p1; exact p1)
    obtain ⟨k, h, p2⟩ := tru_of r1 rx p1
    exact ⟨k, h, p2.now r1 rfl⟩
theorem tw_and1 (ha : PT X a (TB X.K cl E mb)) : PW X (.BoolOp .And [a] pos) (TB X.K cl E mb) := pw_and1 ha
theorem tw_or1 (ha : PT X a (TB X.K cl E mb)) : PW X (.BoolOp .Or [a] pos) (TB X.K cl E mb) := pw_or1 ha
theorem tw_and {rest : List Expr} (ha : PT X a (TB X.K cl E mb)) (hb : PW X (.BoolOp .And (b :: rest) pos) (TB X.K cl E mb2)) : PW X (.BoolOp .And (a :: b :: rest) pos) (TB X.K cl E (mAnd mb mb2)) :=
  pw_imp (pw_and ha hb) fun σ H Q ⟨W, ρ, S, hr, he, p⟩ => step hr he p fun W1 H1 x dx S1 l1 r1 e1 rx p1 => by
    obtain rfl : x = dx := rx
    cases x with
    | true => exact ⟨W1, ρ, S1, r1, e1, p1⟩
    | false => exact p1.now r1 rfl
theorem tw_or {rest : List Expr} (ha : PT X a (TB X.K cl E mb)) (hb : PW X (.BoolOp .Or (b :: rest) pos) (TB X.K cl E mb2)) : PW X (.BoolOp .Or (a :: b :: rest) pos) (TB X.K cl E (mOr mb mb2)) :=
  pw_imp (pw_or ha hb) fun σ H Q ⟨W, ρ, S, hr, he, p⟩ => step hr he p fun W1 H1 x dx S1 l1 r1 e1 rx p1 => by
    obtain rfl : x = dx := rx
    cases x with
    | true => exact p1.now r1 rfl
    | false => exact ⟨W1, ρ, S1, r1, e1, p1⟩
theorem tt_not (ha : PT X a (TB X.K cl E mb)) : PT X (.UnaryOp .Not a pos) (TB X.K cl E (mNot mb)) :=
  pt_imp (pt_not ha) fun σ H Q ⟨W, ρ, S, hr, he, p⟩ => step hr he p fun W1 H1 x dx S1 l1 r1 e1 rx p1 => by
    obtain rfl : x = dx := rx
    exact p1.now r1 rfl
theorem t_one {op : BoolOp} (ha : PE X a (T X.K cl E m)) : PE X (.BoolOp op [a] pos) (T X.K cl E m) := pe_one ha
theorem t_and {rest : List Expr} (ha : PE X a (T X.K cl E m1)) (hb : PE X (.BoolOp .And (b :: rest) pos) (T X.K cl E m2)) : PE X (.BoolOp .And (a :: b :: rest) pos) (T X.K cl E (mAndV m1 m2)) :=
  pe_imp (pe_andT ha hb) fun σ H Q ⟨W, ρ, S, hr, he, p⟩ => step hr he p fun W1 H1 x dx S1 l1 r1 e1 rx p1 => by
    obtain ⟨k, h, p2⟩ := tru_of r1 rx p1
    refine ⟨k, h, ?_⟩
    cases k with
    | true => exact ⟨W1, ρ, S1, r1, e1, p2⟩
    | false => exact p2.now r1 rx
theorem t_or {rest : List Expr} (ha : PE X a (T X.K cl E m1)) (hb : PE X (.BoolOp .Or (b :: rest) pos) (T X.K cl E m2)) : PE X (.BoolOp .Or (a :: b :: rest) pos) (T X.K cl E (mOrV m1 m2)) :=
  pe_imp (pe_orT ha hb) fun σ H Q ⟨W, ρ, S, hr, he, p⟩ => step hr he p fun W1 H1 x dx S1 l1 r1 e1 rx p1 => by
    obtain ⟨k, h, p2⟩ := tru_of r1 rx p1
    refine ⟨k, h, ?_⟩
    cases k with
    | true => exact p2.now r1 rx
    | false => exact ⟨W1, ρ, S1, r1, e1, p2⟩
theorem t_not (ha : PE X a (T X.K cl E m)) : PE X (.UnaryOp .Not a pos) (T X.K cl E (mNotV m)) :=
  pe_imp (pe_notT ha) fun σ H Q ⟨W, ρ, S, hr, he, p⟩ => step hr he p fun W1 H1 x dx S1 l1 r1 e1 rx p1 => by
    obtain ⟨k, h, p2⟩ := tru_of r1 rx p1
    exact ⟨k, h, p2.now r1 (.bl _)⟩
theorem t_ite (hc : PT X c (TB X.K cl E mb)) (ha : PE X a (T X.K cl E m1)) (hb : PE X b (T X.K cl E m2)) : PE X (.IfExp c a b pos) (T X.K cl E (mIte mb m1 m2)) :=
  pe_imp (pe_ifExp hc ha hb) fun σ H Q ⟨W, ρ, S, hr, he, p⟩ => step hr he p fun W1 H1 x dx S1 l1 r1 e1 rx p1 => by
    obtain rfl : x = dx := rx
    cases x with
    | true => exact ⟨W1, ρ, S1, r1, e1, p1⟩
    | false => exact ⟨W1, ρ, S1, r1, e1, p1⟩
/-- argument lists -/
theorem ta_nil : PA X [] (TL X.K cl E mNil) := pa_imp pa_nil fun σ H Q ⟨W, ρ, S, hr, he, p⟩ => p.now hr .nil
theorem ta_cons (ha : PE X a (T X.K cl E m)) (hb : PA X es (TL X.K cl E ms)) (hs : starEach (a :: es) X.env = (false, eval a X.env) :: starEach es X.env := by rfl) : PA X (a :: es) (TL X.K cl E (mCons m ms)) :=
  pa_imp (pa_cons ha hb hs) fun σ H Q ⟨W, ρ, S, hr, he, p⟩ => step hr he p fun W1 H1 x dx S1 l1 r1 e1 rx p1 => step r1 e1 p1 fun W2 H2 y dy S2 l2 r2 e2 ry p2 => p2.now r2 (.cons (rx.up l2) ry)
theorem t_tup {x1 : _} (h : PA X es (TL X.K cl E ms)) : PE X (.Tuple es x1 pos) (T X.K cl E (mFn tupD ms)) :=
  pe_imp (pe_tup h) fun σ H Q ⟨W, ρ, S, hr, he, p⟩ => step hr he p fun W1 H1 x dx S1 l1 r1 e1 rx p1 => by
    unfold tupD at p1
    by_cases hz : dx.length ≤ sizeLine
    · rw [if_pos hz] at p1
      refine ⟨by rw [rx.len]; exact hz, fun q hq => ?_⟩
      obtain ⟨r2, l2⟩ := r1.fz (o := .tup x) hq
      exact p1 _ _ _ l2 r2 (.tup (SqT.of upd_same) (rx.up l2))
    · rw [if_neg hz] at p1
      exact p1.elim
theorem t_lst (h : PA X es (TL X.K cl E ms)) : PE X (.List es pos) (T X.K cl E (mFn lstD ms)) :=
  pe_imp (pe_lst h) fun σ H Q ⟨W, ρ, S, hr, he, p⟩ => step hr he p fun W1 H1 x dx S1 l1 r1 e1 rx p1 => by
    unfold lstD at p1
    by_cases hz : dx.length ≤ sizeLine
    · rw [if_pos hz] at p1
      refine ⟨by rw [rx.len]; exact hz, fun q hq => ?_⟩
      obtain ⟨r2, l2⟩ := r1.fz (o := .lst x) hq
      exact p1 _ _ _ l2 r2 (.lst upd_same (rx.up l2))
    · rw [if_neg hz] at p1
      exact p1.elim
/-- a list that will change -/
theorem t_lstL (h : PA X es (TL X.K cl E ms)) : PE X (.List es pos) (T X.K cl E (mFn lstL ms)) :=
  pe_imp (pe_lst h) fun σ H Q ⟨W, ρ, S, hr, he, p⟩ => step hr he p fun W1 H1 x dx S1 l1 r1 e1 rx p1 => by
    unfold lstL at p1
    by_cases hz : dx.length ≤ sizeLine
    · rw [if_pos hz] at p1
      refine ⟨by rw [rx.len]; exact hz, fun q hq => ?_⟩
      refine p1 (W1.lv q) _ _ (Le.lv W1 q) (r1.new hq ⟨x, upd_same, rx⟩) ?_
      have e : (W1.lv q).ι S1.length = q := by rw [← r1.n]; exact W1.lv_at q
      have z := Rep.ref (K := X.K) (cl := cl) (W := W1.lv q) (n := S1.length) (by show _ < W1.n + 1; rw [r1.n]; exact Nat.lt_succ_self _)
      rw [e] at z
      exact z
    · rw [if_neg hz] at p1
      exact p1.elim
theorem tp_none : PO X none (TP X.K cl E mNoPart) := po_imp po_none fun σ H Q ⟨W, ρ, S, hr, he, p⟩ => p.now hr rfl
theorem tp_some (h : PE X a (T X.K cl E m)) : PO X (some a) (TP X.K cl E (mPart m)) := po_imp (po_some h) fun σ H Q ⟨W, ρ, S, hr, he, p⟩ => step hr he p fun W1 H1 x dx S1 l1 r1 e1 rx p1 => by
  cases rx with
  | int i => exact ⟨i, rfl, p1.now r1 rfl⟩
  | _ => exact p1.elim
theorem t_sl {r : V → Option Int → Option Int → Hp → VK → Prop} {g : D → Option Int → Option Int → Store → Res D} {lo hi : Option Expr} {ml mh : M (Option Int)} {p2 : Pos} (hr : SlR X r) (hs : SlS X.K cl r g)
    (ha : PE X a (T X.K cl E m)) (hl : PO X lo (TP X.K cl E ml)) (hh : PO X hi (TP X.K cl E mh)) : PE X (.Subscript a (.Slice lo hi none p2) pos) (T X.K cl E (mSl g m ml mh)) :=
  pe_imp (pe_slice hr ha hl hh) fun σ H Q ⟨W, ρ, S, hr, he, p⟩ => step hr he p fun W1 H1 x dx S1 l1 r1 e1 rx p1 => step r1 e1 p1 fun W2 H2 y dy S2 l2 r2 e2 ry p2 => step r2 e2 p2 fun W3 H3 z dz S3 l3 r3 e3 rz p3 => by
    obtain rfl : y = dy := ry
    obtain rfl : z = dz := rz
    exact hs _ _ _ _ _ _ _ _ _ r3 (rx.up (l2.tr l3)) p3
theorem t_ix {r : R2} {g : D → D → Store → Res D} (ho : IxR X r) (hs : OpS X.K cl r g) (ha : PE X a (T X.K cl E m1)) (hb : PE X b (T X.K cl E m2)) (hp : PlainIx b := by exact fun _ _ => rfl) : PE X (.Subscript a b pos) (T X.K cl E (mOp g m1 m2)) :=
  pe_imp (pe_ix ho ha hb hp) fun σ H Q ⟨W, ρ, S, hr, he, p⟩ => step hr he p fun W1 H1 x dx S1 l1 r1 e1 rx p1 => step r1 e1 p1 fun W2 H2 y dy S2 l2 r2 e2 ry p2 => hs _ _ _ _ _ _ _ _ _ r2 (rx.up l2) ry p2
theorem t_un {op : UnaryOp} {r : V → Hp → VK → Prop} {g : D → Store → Res D} (ho : UnR X (unaryOp op) r) (hs : UnS X.K cl r g) (ha : PE X a (T X.K cl E m)) (hn : op ≠ .Not := by decide) : PE X (.UnaryOp op a pos) (T X.K cl E (mUn g m)) :=
  pe_imp (pe_un ho ha) fun σ H Q ⟨W, ρ, S, hr, he, p⟩ => step hr he p fun W1 H1 x dx S1 l1 r1 e1 rx p1 => hs _ _ _ _ _ _ _ r1 rx p1
end
end G
namespace G
open PySem L2

section
variable {X : Cx}
theorem opr_or {f : Value → Value → Sem Value} {r r' : R2} (h : OpR X f r) (h' : OpR X f r') : OpR X f (fun x y H Q => r x y H Q ∨ r' x y H Q) := fun pins s σ H x y v u Q I rx ry q =>
  q.elim (h pins s σ H x y v u Q I rx ry) (h' pins s σ H x y v u Q I rx ry)
end

def ofO (o : Option D) (S : Store) : Res D := match o with
  | some d => .ok d S
  | none => .stk
def ofB (o : Option Bool) (S : Store) : Res D := match o with
  | some d => .ok (.bl d) S
  | none => .stk

section
variable {K : PySem.W.Frag} {cl : Str → Option Addr} {W : Wd} {H : Hp} {S : Store}
/-- what is read as a list -/
theorem ls_of {v : V} {d : D} {xs : List D} (r : R K cl W H S) (h : Rep K cl W v d) (e : lsOf S d = some xs) : ∃ a vs, v = .ref a ∧ H a = some (.lst vs) ∧ Reps K cl W vs xs := by
  cases h with
  | lst g t =>
    have e := Option.some.inj e
    subst e
    exact ⟨_, _, rfl, r.sub _ _ g, t⟩
  | ref hn =>
    rename_i n
    unfold lsOf at e
    dsimp only at e
    cases q : S[n]? with
    | none => rw [q] at e; cases e
    | some mo =>
      rw [q] at e
      cases mo with
      | lst ys =>
        have e := Option.some.inj e
        subst e
        obtain ⟨_, vs, h1, h2⟩ := r.live n _ q (by intro z; cases z)
        exact ⟨_, vs, rfl, h1, h2⟩
      | _ => cases e
  | _ => cases e
theorem newT {vs : List V} {ds : List D} {Q : VK} {E : XK} (r : R K cl W H S) (t : Reps K cl W vs ds) (p : Post K cl (Rep K cl) W (.ok (.tup ds) S) Q E) : ∀ q, H q = none → Q (.ref q) (upd H q (.tup vs)) := fun q hq =>
  let ⟨r2, l2⟩ := r.fz (o := .tup vs) hq
  p _ _ _ l2 r2 (.tup (SqT.of upd_same) (t.up l2))
theorem newL {vs : List V} {ds : List D} {Q : VK} {E : XK} (r : R K cl W H S) (t : Reps K cl W vs ds) (p : Post K cl (Rep K cl) W (.ok (.lst ds) S) Q E) : ∀ q, H q = none → Q (.ref q) (upd H q (.lst vs)) := fun q hq =>
  let ⟨r2, l2⟩ := r.fz (o := .lst vs) hq
  p _ _ _ l2 r2 (.lst upd_same (t.up l2))
theorem atI_rep {vs : List V} {ds : List D} {i : Int} {d : D} (t : Reps K cl W vs ds) (h : atI ds i = some d) : ∃ v, atI vs i = some v ∧ Rep K cl W v d := by
  unfold atI at h ⊢
  rw [t.len]
  cases e : ixN ds.length i with
  | none => rw [e] at h; cases h
  | some j =>
    rw [e] at h
    exact t.at h
theorem atI_map {α β : Type} (f : α → β) {xs : List α} {i : Int} {x : α} (h : atI xs i = some x) : atI (xs.map f) i = some (f x) := by
  unfold atI at h ⊢
  rw [List.length_map]
  cases e : ixN xs.length i with
  | none => rw [e] at h; cases h
  | some j =>
    rw [e] at h
    have h : xs[j]? = some x := h
    show (xs.map f)[j]? = some (f x)
    rw [List.getElem?_map, h]
    rfl
end

/-! ### arithmetic -/
def addD (a b : D) (S : Store) : Res D := match a, b with
  | .int i, .int j => .ok (.int (i + j)) S
  | .str x, .str y => if x.length + y.length ≤ sizeLine then .ok (.str (x ++ y)) S else .stk
  | .tup x, .tup y => if x.length + y.length ≤ sizeLine then .ok (.tup (x ++ y)) S else .stk
  | a, b => (match lsOf S a, lsOf S b with
    | some x, some y => if x.length + y.length ≤ sizeLine then .ok (.lst (x ++ y)) S else .stk
    | _, _ => .stk)
def rAddA (K : PySem.W.Frag) : R2 := fun x y H Q => rI0 (fun i j => .int (i + j)) x y H Q ∨ (∃ i j, x = .str i ∧ y = .str j ∧ i.length + j.length ≤ sizeLine ∧ Q (.str (i ++ j)) H) ∨ rCatA K x y H Q ∨ rCat x y H Q
theorem op_addA {X : Cx} : OpR X (binaryOp .Add) (rAddA X.K) := opr_or op_add (opr_or op_add_str (opr_or op_catA op_cat))
theorem addL_s {K : PySem.W.Frag} {cl : Str → Option Addr} {W : Wd} {H : Hp} {S : Store} {x y : V} {a b : D} {Q : VK} {E : XK} (r : R K cl W H S) (rx : Rep K cl W x a) (ry : Rep K cl W y b)
    (p : Post K cl (Rep K cl) W (match lsOf S a, lsOf S b with
    | some x, some y => if x.length + y.length ≤ sizeLine then .ok (.lst (x ++ y)) S else .stk
    | _, _ => .stk) Q E) : rCat x y H Q := by
  cases e1 : lsOf S a with
  | none => rw [e1] at p; exact p.elim
  | some xs =>
    cases e2 : lsOf S b with
    | none => rw [e1, e2] at p; exact p.elim
    | some ys =>
      rw [e1, e2] at p
      dsimp only at p
      obtain ⟨l1, vs1, rfl, h1, t1⟩ := ls_of r rx e1
      obtain ⟨l2, vs2, rfl, h2, t2⟩ := ls_of r ry e2
      by_cases hz : xs.length + ys.length ≤ sizeLine
      · rw [if_pos hz] at p
        exact ⟨_, _, _, _, rfl, rfl, h1, h2, by rw [t1.len, t2.len]; exact hz, newL r (t1.app t2) p⟩
      · rw [if_neg hz] at p
        exact p.elim
theorem add_s {K : PySem.W.Frag} {cl : Str → Option Addr} : OpS K cl (rAddA K) addD := by
  intro W H S x y a b Q E r rx ry p
  unfold addD at p
  split at p
  · cases rx; cases ry
    exact .inl ⟨_, _, rfl, rfl, p.now r (.int _)⟩
  · cases rx; cases ry
    split at p
    · rename_i hz
      exact .inr (.inl ⟨_, _, rfl, rfl, hz, p.now r (.str _)⟩)
    · exact p.elim
  · cases rx with | tup h1 t1 =>
    cases ry with | tup h2 t2 =>
    split at p
    · rename_i hz
      refine .inr (.inr (.inl ⟨_, _, _, _, rfl, rfl, sqT_up r.sub h1, sqT_up r.sub h2, by rw [t1.len, t2.len]; exact hz, fun e => ?_, fun _ e => ?_, fun _ _ => newT r (t1.app t2) p⟩))
      · subst e
        cases t1
        exact p.now r (.tup h2 t2)
      · subst e
        cases t2
        rw [List.append_nil] at p
        exact p.now r (.tup h1 t1)
    · exact p.elim
  · exact .inr (.inr (.inr (addL_s r rx ry p)))
def subD (a b : D) (S : Store) : Res D := match a, b with
  | .int i, .int j => .ok (.int (i - j)) S
  | _, _ => .stk
theorem sub_s {K : PySem.W.Frag} {cl : Str → Option Addr} : OpS K cl (rI0 fun i j => .int (i - j)) subD := by
  intro W H S x y a b Q E r rx ry p
  unfold subD at p
  split at p
  · cases rx; cases ry
    exact ⟨_, _, rfl, rfl, p.now r (.int _)⟩
  · exact p.elim
def sm64 (i : Int) : Bool := decide (-18446744073709551616 < i) && decide (i < 18446744073709551616)
theorem sm64_of {i : Int} (h : sm64 i = true) : -(2 ^ 64) < i ∧ i < 2 ^ 64 := by
  unfold sm64 at h
  rw [Bool.and_eq_true, decide_eq_true_eq, decide_eq_true_eq] at h
  omega
/-- within the bounds of a range -/
def smR (i : Int) : Bool := decide (-4611686018427387904 ≤ i) && decide (i < 4611686018427387904)
theorem smR_of {i : Int} (h : smR i = true) : -(2 ^ 62) ≤ i ∧ i < 2 ^ 62 := by
  unfold smR at h
  rw [Bool.and_eq_true, decide_eq_true_eq, decide_eq_true_eq] at h
  omega
def mulD (a b : D) (S : Store) : Res D := match a, b with
  | .int i, .int j => if (sm64 i || sm64 j) = true then .ok (.int (i * j)) S else .stk
  | a, .int k => (match lsOf S a with
    | some xs => if 0 ≤ k ∧ smR k = true ∧ xs.length * k.toNat ≤ sizeLine then .ok (.lst (List.replicate k.toNat xs).flatten) S else .stk
    | none => .stk)
  | _, _ => .stk
def rMulA : R2 := fun x y H Q => rI CMul (fun i j => .int (i * j)) x y H Q ∨ rRep x y H Q
theorem op_mulA {X : Cx} : OpR X (binaryOp .Mult) rMulA := opr_or op_mul op_rep
theorem Reps.rep {K : PySem.W.Frag} {cl : Str → Option Addr} {W : Wd} {vs : List V} {ds : List D} (t : Reps K cl W vs ds) : ∀ n : Nat, Reps K cl W (List.replicate n vs).flatten (List.replicate n ds).flatten
  | 0 => .nil
  | n + 1 => by
    rw [List.replicate_succ, List.replicate_succ, List.flatten_cons, List.flatten_cons]
    exact t.app (Reps.rep t n)
theorem mul_s {K : PySem.W.Frag} {cl : Str → Option Addr} : OpS K cl rMulA mulD := by
  intro W H S x y a b Q E r rx ry p
  unfold mulD at p
  split at p
  · cases rx; cases ry
    split at p
    · rename_i hz
      refine .inl ⟨_, _, rfl, rfl, ?_, p.now r (.int _)⟩
      rcases Bool.or_eq_true _ _ |>.mp hz with h | h
      · exact .inl (sm64_of h)
      · exact .inr (sm64_of h)
    · exact p.elim
  · rename_i k _
    cases ry
    split at p
    · rename_i xs e1
      obtain ⟨l1, vs1, rfl, h1, t1⟩ := ls_of r rx e1
      split at p
      · rename_i hz
        exact .inr ⟨_, _, _, rfl, rfl, h1, by have := (smR_of hz.2.1).1; omega, by have := (smR_of hz.2.1).2; omega, by rw [t1.len]; exact hz.2.2, newL r (t1.rep _) p⟩
      · exact p.elim
    · exact p.elim
  · exact p.elim
def fdivD (a b : D) (S : Store) : Res D := match a, b with
  | .int i, .int j => if 0 < j ∧ j.natAbs.log2 < 9000 then .ok (.int (i / j)) S else .stk
  | _, _ => .stk
theorem fdiv_s {K : PySem.W.Frag} {cl : Str → Option Addr} : OpS K cl (rI CDivW fun i j => .int (i / j)) fdivD := by
  intro W H S x y a b Q E r rx ry p
  unfold fdivD at p
  split at p
  · cases rx; cases ry
    split at p
    · rename_i hz
      exact ⟨_, _, rfl, rfl, hz, p.now r (.int _)⟩
    · exact p.elim
  · exact p.elim
def modD (a b : D) (S : Store) : Res D := match a, b with
  | .int i, .int j => if 0 < j then .ok (.int (i % j)) S else .stk
  | _, _ => .stk
theorem mod_s {K : PySem.W.Frag} {cl : Str → Option Addr} : OpS K cl (rI (fun _ j => 0 < j) fun i j => .int (i % j)) modD := by
  intro W H S x y a b Q E r rx ry p
  unfold modD at p
  split at p
  · cases rx; cases ry
    split at p
    · rename_i hz
      exact ⟨_, _, rfl, rfl, hz, p.now r (.int _)⟩
    · exact p.elim
  · exact p.elim
def powD (a b : D) (S : Store) : Res D := match a, b with
  | .int i, .int j => if 0 ≤ j ∧ j ≤ 1000000 ∧ i.natAbs < 2 ^ 64 then .ok (.int (i ^ j.toNat)) S else .stk
  | _, _ => .stk
theorem pow_s {K : PySem.W.Frag} {cl : Str → Option Addr} : OpS K cl (rI CPow fun i j => .int (i ^ j.toNat)) powD := by
  intro W H S x y a b Q E r rx ry p
  unfold powD at p
  split at p
  · cases rx; cases ry
    split at p
    · rename_i hz
      exact ⟨_, _, rfl, rfl, hz, p.now r (.int _)⟩
    · exact p.elim
  · exact p.elim
def negD (a : D) (S : Store) : Res D := match a with
  | .int i => .ok (.int (-i)) S
  | _ => .stk
theorem neg_s {K : PySem.W.Frag} {cl : Str → Option Addr} : UnS K cl (rU fun i => .int (-i)) negD := by
  intro W H S x a Q E r rx p
  unfold negD at p
  split at p
  · cases rx
    exact ⟨_, rfl, p.now r (.int _)⟩
  · exact p.elim

/-! ### comparisons -/
def scV : D → Option V
  | .non => some .non
  | .bl b => some (.bl b)
  | .int i => some (.int i)
  | .str x => some (.str x)
  | _ => none
def scVs : List D → Option (List V)
  | [] => some []
  | d :: ds => (match scV d, scVs ds with
    | some v, some vs => some (v :: vs)
    | _, _ => none)
mutual
def toPy : D → Option PyData
  | .non => some .none
  | .bl b => some (.bool b)
  | .int i => some (.int i)
  | .str x => some (.str x)
  | .tup xs => (toPys xs).map PyData.tuple
  | .lst xs => (toPys xs).map PyData.list
  | .dct _ => none
  | .exv _ _ => none
  | .ins _ _ => none
  | .ref _ => none
  | .scr _ => none
def toPys : List D → Option (List PyData)
  | [] => some []
  | d :: ds => (match toPy d, toPys ds with
    | some v, some vs => some (v :: vs)
    | _, _ => none)
end
def toPyS (S : Store) (d : D) : Option PyData := match d with
  | .ref n => (match S[n]? with
    | some (.lst xs) => (toPys xs).map PyData.list
    | _ => none)
  | d => toPy d
section
variable {K : PySem.W.Frag} {cl : Str → Option Addr} {W : Wd} {H : Hp} {S : Store}
theorem sc_of {v w : V} {d : D} (h : Rep K cl W v d) (e : scV d = some w) : v = w := by
  cases h <;> first | exact Option.some.inj e | cases e
theorem sc_flat {w : V} {d : D} (e : scV d = some w) : flatV w = true := by
  cases d <;> first | (have e := Option.some.inj e; subst e; rfl) | cases e
theorem scs_of : ∀ {vs ws : List V} {ds : List D}, Reps K cl W vs ds → scVs ds = some ws → vs = ws ∧ ws.all flatV = true
  | _, _, _, .nil, e => by
    have e := Option.some.inj e
    subst e
    exact ⟨rfl, rfl⟩
  | _, _, _, .cons (d := d) (ds := ds) h t, e => by
    unfold scVs at e
    cases e1 : scV d with
    | none => rw [e1] at e; cases e
    | some v =>
      cases e2 : scVs ds with
      | none => rw [e1, e2] at e; cases e
      | some vs =>
        rw [e1, e2] at e
        have e := Option.some.inj e
        subst e
        obtain ⟨h1, h2⟩ := scs_of t e2
        exact ⟨by rw [sc_of h e1, h1], by rw [List.all_cons, sc_flat e1, h2]; rfl⟩
mutual
theorem dp_of (r : ∀ a o, W.G a = some o → H a = some o) : ∀ {v : V} {d : D} {q : PyData}, Rep K cl W v d → toPy d = some q → Dp K H v q
  | _, _, _, .non, e => by cases e; exact .non
  | _, _, _, .bl b, e => by cases e; exact .bl b
  | _, _, _, .int b, e => by cases e; exact .int b
  | _, _, _, .str b, e => by cases e; exact .str b
  | _, _, _, .tup (ds := ds) h t, e => by
    unfold toPy at e
    cases e1 : toPys ds with
    | none => rw [e1] at e; cases e
    | some qs =>
      rw [e1] at e
      cases e
      exact .tup (sqT_up r h) (dps_of r t e1)
  | _, _, _, .lst (ds := ds) h t, e => by
    unfold toPy at e
    cases e1 : toPys ds with
    | none => rw [e1] at e; cases e
    | some qs =>
      rw [e1] at e
      cases e
      exact .lst (SqL.of (r _ _ h)) (dps_of r t e1)
  | _, _, _, .dct _ _, e => by cases e
  | _, _, _, .ins _ _ _, e => by cases e
  | _, _, _, .ref _, e => by cases e
  | _, _, _, .scr _, e => by cases e
  | _, _, _, .exv0 _ _ _ _, e => by cases e
  | _, _, _, .exv1 _ _ _ _ _ _ _, e => by cases e
theorem dps_of (r : ∀ a o, W.G a = some o → H a = some o) : ∀ {v : List V} {d : List D} {q : List PyData}, Reps K cl W v d → toPys d = some q → DpAll K H v q
  | _, _, _, .nil, e => by cases e; exact .nil
  | _, _, _, .cons (d := d) (ds := ds) h t, e => by
    unfold toPys at e
    cases e1 : toPy d with
    | none => rw [e1] at e; cases e
    | some v =>
      cases e2 : toPys ds with
      | none => rw [e1, e2] at e; cases e
      | some vs =>
        rw [e1, e2] at e
        cases e
        exact .cons (dp_of r h e1) (dps_of r t e2)
end
theorem dpS_of {v : V} {d : D} {q : PyData} (r : R K cl W H S) (h : Rep K cl W v d) (e : toPyS S d = some q) : Dp K H v q := by
  cases d with
  | ref n =>
    unfold toPyS at e
    dsimp only at e
    cases q1 : S[n]? with
    | none => rw [q1] at e; cases e
    | some mo =>
      rw [q1] at e
      cases mo with
      | lst ys =>
        cases h with | ref hn =>
        obtain ⟨_, vs, h1, h2⟩ := r.live n _ q1 (by intro z; cases z)
        cases e1 : toPys ys with
        | none => simp only [e1] at e; cases e
        | some qs =>
          simp only [e1] at e
          cases e
          exact .lst (SqL.of h1) (dps_of r.sub h2 e1)
      | _ => cases e
  | _ => exact dp_of r.sub h e
end
def eqB (S : Store) (a b : D) : Option Bool := match scV a, scV b with
  | some x, some y => if scal x y = true then some (decide (x = y)) else some (eqV x y)
  | _, _ => (match toPyS S a, toPyS S b with
    | some p, some q => if (SeqAt.shaped p && SeqAt.shaped q) = true then some (PyData.eqv p q) else none
    | _, _ => none)
def eqD (a b : D) (S : Store) : Res D := ofB (eqB S a b) S
def neD (a b : D) (S : Store) : Res D := ofB ((eqB S a b).map not) S
def rEqA (K : PySem.W.Frag) : R2 := fun x y H Q => rEq x y H Q ∨ rEqD K x y H Q
def rNeA (K : PySem.W.Frag) : R2 := fun x y H Q => rNe x y H Q ∨ rNeD K x y H Q
theorem op_eqA {X : Cx} {k : Nat} (hr : Room k X.A) : OpR X (compareOp .Eq) (rEqA X.K) := opr_or op_eq (op_eqD hr.units)
theorem op_neA {X : Cx} {k : Nat} (hr : Room k X.A) : OpR X (compareOp .NotEq) (rNeA X.K) := opr_or op_ne (op_neD hr.units)
section
variable {K : PySem.W.Frag} {cl : Str → Option Addr} {W : Wd} {H : Hp} {S : Store}
theorem eq_cases {x y : V} {a b : D} {k : Bool} (r : R K cl W H S) (rx : Rep K cl W x a) (ry : Rep K cl W y b) (e : eqB S a b = some k) :
    (scal x y = true ∧ k = decide (x = y)) ∨ ∃ d e, Dp K H x d ∧ Dp K H y e ∧ SeqAt.shaped d = true ∧ SeqAt.shaped e = true ∧ k = PyData.eqv d e := by
  unfold eqB at e
  split at e
  · rename_i u w e1 e2
    have h1 := sc_of rx e1
    have h2 := sc_of ry e2
    subst h1 h2
    split at e
    · rename_i hs
      exact .inl ⟨hs, (Option.some.inj e).symm⟩
    · rename_i hs
      right
      cases rx <;> first | (cases e1; done) | (cases ry <;> first | (cases e2; done) | (exfalso; exact hs rfl) | exact ⟨_, _, .bl _, .int _, rfl, rfl, (Option.some.inj e).symm⟩ | exact ⟨_, _, .int _, .bl _, rfl, rfl, (Option.some.inj e).symm⟩)
  · split at e
    · rename_i p q e1 e2
      split at e
      · rename_i hs
        rw [Bool.and_eq_true] at hs
        exact .inr ⟨p, q, dpS_of r rx e1, dpS_of r ry e2, hs.1, hs.2, (Option.some.inj e).symm⟩
      · cases e
    · cases e
theorem eq_s : OpS K cl (rEqA K) eqD := by
  intro W H S x y a b Q E r rx ry p
  unfold eqD at p
  cases e : eqB S a b with
  | none => rw [e] at p; exact p.elim
  | some k =>
    rw [e] at p
    have q : Q (.bl k) H := p.now r (.bl k)
    rcases eq_cases r rx ry e with ⟨h, rfl⟩ | ⟨d', e', h1, h2, h3, h4, rfl⟩
    · exact .inl ⟨h, q⟩
    · exact .inr ⟨d', e', h1, h2, h3, h4, q⟩
theorem ne_s : OpS K cl (rNeA K) neD := by
  intro W H S x y a b Q E r rx ry p
  unfold neD at p
  cases e : eqB S a b with
  | none => rw [e] at p; exact p.elim
  | some k =>
    rw [e] at p
    have q : Q (.bl (!k)) H := p.now r (.bl _)
    rcases eq_cases r rx ry e with ⟨h, rfl⟩ | ⟨d', e', h1, h2, h3, h4, rfl⟩
    · exact .inl ⟨h, q⟩
    · exact .inr ⟨d', e', h1, h2, h3, h4, q⟩
end
def ltD (a b : D) (S : Store) : Res D := match a, b with
  | .int i, .int j => .ok (.bl (decide (i < j))) S
  | .str x, .str y => .ok (.bl (decide (x.cps.toList < y.cps.toList))) S
  | _, _ => .stk
def rLtA : R2 := fun x y H Q => rI0 (fun i j => .bl (decide (i < j))) x y H Q ∨ (∃ i j, x = .str i ∧ y = .str j ∧ Q (.bl (decide (i.cps.toList < j.cps.toList))) H)
theorem op_ltA {X : Cx} : OpR X (compareOp .Lt) rLtA := opr_or op_lt op_lt_str
theorem lt_s {K : PySem.W.Frag} {cl : Str → Option Addr} : OpS K cl rLtA ltD := by
  intro W H S x y a b Q E r rx ry p
  unfold ltD at p
  split at p
  · cases rx; cases ry
    exact .inl ⟨_, _, rfl, rfl, p.now r (.bl _)⟩
  · cases rx; cases ry
    exact .inr ⟨_, _, rfl, rfl, p.now r (.bl _)⟩
  · exact p.elim
def leD (a b : D) (S : Store) : Res D := match a, b with
  | .int i, .int j => .ok (.bl (decide (i ≤ j))) S
  | .str x, .str y => .ok (.bl (!decide (y.cps.toList < x.cps.toList))) S
  | _, _ => .stk
def rLeA : R2 := fun x y H Q => rI0 (fun i j => .bl (decide (i ≤ j))) x y H Q ∨ (∃ i j, x = .str i ∧ y = .str j ∧ Q (.bl (!decide (j.cps.toList < i.cps.toList))) H)
theorem op_leA {X : Cx} : OpR X (compareOp .LtE) rLeA := opr_or op_le op_le_str
theorem le_s {K : PySem.W.Frag} {cl : Str → Option Addr} : OpS K cl rLeA leD := by
  intro W H S x y a b Q E r rx ry p
  unfold leD at p
  split at p
  · cases rx; cases ry
    exact .inl ⟨_, _, rfl, rfl, p.now r (.bl _)⟩
  · cases rx; cases ry
    exact .inr ⟨_, _, rfl, rfl, p.now r (.bl _)⟩
  · exact p.elim
def gtD (a b : D) (S : Store) : Res D := match a, b with
  | .int i, .int j => .ok (.bl (decide (j < i))) S
  | _, _ => .stk
theorem gt_s {K : PySem.W.Frag} {cl : Str → Option Addr} : OpS K cl (rI0 fun i j => .bl (decide (j < i))) gtD := by
  intro W H S x y a b Q E r rx ry p
  unfold gtD at p
  split at p
  · cases rx; cases ry
    exact ⟨_, _, rfl, rfl, p.now r (.bl _)⟩
  · exact p.elim
def geD (a b : D) (S : Store) : Res D := match a, b with
  | .int i, .int j => .ok (.bl (decide (j ≤ i))) S
  | _, _ => .stk
theorem ge_s {K : PySem.W.Frag} {cl : Str → Option Addr} : OpS K cl (rI0 fun i j => .bl (decide (j ≤ i))) geD := by
  intro W H S x y a b Q E r rx ry p
  unfold geD at p
  split at p
  · cases rx; cases ry
    exact ⟨_, _, rfl, rfl, p.now r (.bl _)⟩
  · exact p.elim
/-- is None, is not None -/
def isNb : D → Bool
  | .non => true
  | _ => false
def isND (a b : D) (S : Store) : Res D := match a, b with
  | a, .non => .ok (.bl (isNb a)) S
  | .bl x, .bl y => .ok (.bl (decide (x = y))) S
  | _, _ => .stk
def rIsA : R2 := fun x y H Q => (y = .non ∧ Q (.bl (decide (x = .non))) H) ∨ (∃ a b, x = .bl a ∧ y = .bl b ∧ Q (.bl (decide (a = b))) H)
theorem op_isA {X : Cx} : OpR X (compareOp .Is) rIsA := opr_or op_isN op_is_bl
theorem isN_rep {K : PySem.W.Frag} {cl : Str → Option Addr} {W : Wd} {x : V} {a : D} (rx : Rep K cl W x a) : decide (x = .non) = isNb a := by
  cases rx <;> first | rfl | exact decide_eq_false (by intro z; cases z)
theorem isN_s {K : PySem.W.Frag} {cl : Str → Option Addr} : OpS K cl rIsA isND := by
  intro W H S x y a b Q E r rx ry p
  unfold isND at p
  split at p
  · cases ry
    exact .inl ⟨rfl, by rw [isN_rep rx]; exact p.now r (.bl _)⟩
  · cases rx; cases ry
    exact .inr ⟨_, _, rfl, rfl, p.now r (.bl _)⟩
  · exact p.elim
/-- in: flat items; one sign of a text -/
def inB (S : Store) (x y : D) : Option Bool := match y with
  | .str z => (match x with
    | .str ⟨⟨[c]⟩⟩ => some (decide (c ∈ z.cps.toList))
    | _ => none)
  | .tup ds => (match scV x, scVs ds with
    | some v, some vs => some (inV v vs)
    | _, _ => none)
  | y => (match lsOf S y with
    | some ds => (match scV x, scVs ds with
      | some v, some vs => some (inV v vs)
      | _, _ => none)
    | none => none)
def inD (a b : D) (S : Store) : Res D := ofB (inB S a b) S
def notInD (a b : D) (S : Store) : Res D := ofB ((inB S a b).map not) S
def rInA (K : PySem.W.Frag) : R2 := fun x y H Q => (∃ (c : Nat) (z : Str), x = .str ⟨#[c]⟩ ∧ y = .str z ∧ Q (.bl (decide (c ∈ z.cps.toList))) H) ∨ rIn K false x y H Q
def rNotInA (K : PySem.W.Frag) : R2 := fun x y H Q => (∃ (c : Nat) (z : Str), x = .str ⟨#[c]⟩ ∧ y = .str z ∧ Q (.bl (!decide (c ∈ z.cps.toList))) H) ∨ rIn K true x y H Q
theorem op_inA {X : Cx} : OpR X (compareOp .In) (rInA X.K) := opr_or op_in_sign op_in_seq
theorem op_notInA {X : Cx} : OpR X (compareOp .NotIn) (rNotInA X.K) := opr_or op_notIn_sign op_notIn_seq
theorem in_cases {K : PySem.W.Frag} {cl : Str → Option Addr} {W : Wd} {H : Hp} {S : Store} {x y : V} {a b : D} {k : Bool} (r : R K cl W H S) (rx : Rep K cl W x a) (ry : Rep K cl W y b) (e : inB S a b = some k) :
    (∃ (c : Nat) (z : Str), x = .str ⟨#[c]⟩ ∧ y = .str z ∧ k = decide (c ∈ z.cps.toList)) ∨ ∃ p xs, y = .ref p ∧ (SqL K H p xs ∨ SqT K H p xs) ∧ flatV x = true ∧ xs.all flatV = true ∧ k = inV x xs := by
  unfold inB at e
  split at e
  · cases ry
    split at e
    · cases rx
      exact .inl ⟨_, _, rfl, rfl, (Option.some.inj e).symm⟩
    · cases e
  · cases ry with | tup h t =>
    split at e
    · rename_i v vs e1 e2
      obtain ⟨rfl, h2⟩ := scs_of t e2
      obtain rfl := sc_of rx e1
      exact .inr ⟨_, _, rfl, .inr (sqT_up r.sub h), sc_flat e1, h2, (Option.some.inj e).symm⟩
    · cases e
  · split at e
    · rename_i ds e0
      obtain ⟨p, us, rfl, h, t⟩ := ls_of r ry e0
      split at e
      · rename_i v vs e1 e2
        obtain ⟨rfl, h2⟩ := scs_of t e2
        obtain rfl := sc_of rx e1
        exact .inr ⟨_, _, rfl, .inl (SqL.of h), sc_flat e1, h2, (Option.some.inj e).symm⟩
      · cases e
    · cases e
theorem in_s {K : PySem.W.Frag} {cl : Str → Option Addr} : OpS K cl (rInA K) inD := by
  intro W H S x y a b Q E r rx ry p
  unfold inD at p
  cases e : inB S a b with
  | none => rw [e] at p; exact p.elim
  | some k =>
    rw [e] at p
    have q : Q (.bl k) H := p.now r (.bl k)
    rcases in_cases r rx ry e with ⟨c, z, h1, h2, rfl⟩ | ⟨u, xs, h1, h2, h3, h4, rfl⟩
    · exact .inl ⟨c, z, h1, h2, q⟩
    · exact .inr ⟨u, xs, h1, h2, h3, h4, q⟩
theorem notIn_s {K : PySem.W.Frag} {cl : Str → Option Addr} : OpS K cl (rNotInA K) notInD := by
  intro W H S x y a b Q E r rx ry p
  unfold notInD at p
  cases e : inB S a b with
  | none => rw [e] at p; exact p.elim
  | some k =>
    rw [e] at p
    have q : Q (.bl (!k)) H := p.now r (.bl _)
    rcases in_cases r rx ry e with ⟨c, z, h1, h2, rfl⟩ | ⟨u, xs, h1, h2, h3, h4, rfl⟩
    · exact .inl ⟨c, z, h1, h2, q⟩
    · exact .inr ⟨u, xs, h1, h2, h3, h4, q⟩

/-! ### subscripts -/
def ixO (S : Store) (a b : D) : Option D := match a, b with
  | .tup ds, .int i => atI ds i
  | .str z, .int i => if z.length ≤ sizeLine then (atI z.cps.toList i).map (fun c => .str ⟨#[c]⟩) else none
  | .scr ns, .int i => (atI ns i).map D.int
  | a, .int i => (match lsOf S a with
    | some ds => atI ds i
    | none => none)
  | _, _ => none
def ixD (a b : D) (S : Store) : Res D := ofO (ixO S a b) S
theorem ix_s {K : PySem.W.Frag} {cl : Str → Option Addr} : OpS K cl (rIx K) ixD := by
  intro W H S x y a b Q E r rx ry p
  unfold ixD at p
  cases e : ixO S a b with
  | none => rw [e] at p; exact p.elim
  | some d =>
    rw [e] at p
    unfold ixO at e
    split at e
    · cases ry
      cases rx with | tup h t =>
      obtain ⟨v, h1, h2⟩ := atI_rep t e
      exact .inr (.inl ⟨_, _, _, v, rfl, rfl, sqT_up r.sub h, h1, p.now r h2⟩)
    · cases ry; cases rx
      split at e
      · rename_i hz
        cases q : atI _ _ with
        | none => rw [q] at e; cases e
        | some c =>
          rw [q] at e
          cases e
          exact .inr (.inr ⟨_, _, c, rfl, rfl, hz, q, p.now r (.str _)⟩)
      · cases e
    · cases ry
      cases rx with | scr h =>
      cases q : atI _ _ with
      | none => rw [q] at e; cases e
      | some c =>
        rw [q] at e
        cases e
        exact .inl ⟨_, _, _, _, rfl, rfl, sqL_up r.sub h, atI_map V.int q, p.now r (.int _)⟩
    · cases ry
      split at e
      · rename_i ds e0
        obtain ⟨p', us, rfl, h, t⟩ := ls_of r rx e0
        obtain ⟨v, h1, h2⟩ := atI_rep t e
        exact .inl ⟨_, _, _, v, rfl, rfl, SqL.of h, h1, p.now r h2⟩
      · cases e
    · cases e
theorem ints_rep {K : PySem.W.Frag} {cl : Str → Option Addr} {W : Wd} : ∀ ns : List Int, Reps K cl W (ns.map V.int) (ns.map D.int)
  | [] => .nil
  | n :: ns => .cons (.int n) (ints_rep ns)
def cutD (xs : List D) (lo hi : Option Int) : List D := (xs.drop (HT.sIx xs.length 0 lo)).take (HT.sIx xs.length xs.length hi - HT.sIx xs.length 0 lo)
theorem cut_rep {K : PySem.W.Frag} {cl : Str → Option Addr} {W : Wd} {vs : List V} {ds : List D} (t : Reps K cl W vs ds) (lo hi : Option Int) : Reps K cl W (cutV vs lo hi) (cutD ds lo hi) := by
  unfold cutV cutD
  rw [t.len]
  exact (t.drop _).take _
def slD (a : D) (lo hi : Option Int) (S : Store) : Res D := match a with
  | .tup ds => .ok (.tup (cutD ds lo hi)) S
  | .str z => if z.length ≤ sizeLine then .ok (.str (cutS z lo hi)) S else .stk
  | .scr ns => .ok (.lst (cutD (ns.map D.int) lo hi)) S
  | a => (match lsOf S a with
    | some ds => .ok (.lst (cutD ds lo hi)) S
    | none => .stk)
def rSlAll (K : PySem.W.Frag) : V → Option Int → Option Int → Hp → VK → Prop := fun x lo hi H Q => rSlA K x lo hi H Q ∨ rSlS x lo hi H Q ∨ rSlL K x lo hi H Q
theorem sl_all {X : Cx} : SlR X (rSlAll X.K) := sl_tupA.or (sl_str.or sl_list)
theorem cut_all {xs : List D} {lo hi : Option Int} (h : HT.sIx xs.length 0 lo = 0 ∧ HT.sIx xs.length xs.length hi = xs.length) : cutD xs lo hi = xs := by
  unfold cutD
  rw [h.1, h.2]
  simp
theorem sl_s {K : PySem.W.Frag} {cl : Str → Option Addr} : SlS K cl (rSlAll K) slD := by
  intro W H S x a lo hi Q E r rx p
  unfold slD at p
  split at p
  · cases rx with | tup h t =>
    refine .inl ⟨_, _, rfl, sqT_up r.sub h, fun e => ?_, fun _ => newT r (cut_rep t lo hi) p⟩
    rw [t.len] at e
    rw [cut_all e] at p
    exact p.now r (.tup h t)
  · cases rx
    split at p
    · rename_i hz
      exact .inr (.inl ⟨_, rfl, hz, p.now r (.str _)⟩)
    · exact p.elim
  · cases rx with | scr h =>
    exact .inr (.inr ⟨_, _, rfl, sqL_up r.sub h, newL r (cut_rep (ints_rep _) lo hi) p⟩)
  · split at p
    · rename_i ds e0
      obtain ⟨p', us, rfl, h, t⟩ := ls_of r rx e0
      exact .inr (.inr ⟨_, _, rfl, SqL.of h, newL r (cut_rep t lo hi) p⟩)
    · exact p.elim

/-! ### built-ins by values -/
def lenO (S : Store) (d : D) : Option Nat := match d with
  | .str y => if y.length ≤ sizeLine then some y.length else none
  | .tup ds => some ds.length
  | .scr ns => some ns.length
  | d => (match lsOf S d with
    | some ds => some ds.length
    | none => none)
def lenD (as : List D) (S : Store) : Res D := match as with
  | [d] => ofO ((lenO S d).map fun n => .int n) S
  | _ => .stk
theorem len_s {K : PySem.W.Frag} {cl : Str → Option Addr} : FnS K cl (fun xs H Q => ∃ x n, xs = [x] ∧ LenV K x H n ∧ Q (.int n) H) lenD := by
  intro W H S x a Q E r rx p
  unfold lenD at p
  split at p
  · rename_i d
    cases rx with | cons rx rn =>
    cases rn
    cases e : lenO S d with
    | none => rw [e] at p; exact p.elim
    | some n =>
      rw [e] at p
      refine ⟨_, n, rfl, ?_, p.now r (.int _)⟩
      unfold lenO at e
      split at e
      · cases rx
        split at e
        · rename_i hz
          exact ⟨hz, (Option.some.inj e).symm⟩
        · cases e
      · cases rx with | tup h t =>
        exact .inr ⟨_, sqT_up r.sub h, by rw [t.len]; exact (Option.some.inj e).symm⟩
      · cases rx with | scr h =>
        exact .inl ⟨_, sqL_up r.sub h, by rw [List.length_map]; exact (Option.some.inj e).symm⟩
      · split at e
        · rename_i ds e0
          obtain ⟨p', us, rfl, h, t⟩ := ls_of r rx e0
          exact .inl ⟨_, SqL.of h, by rw [t.len]; exact (Option.some.inj e).symm⟩
        · cases e
  · exact p.elim
def intD (as : List D) (S : Store) : Res D := match as with
  | [.int i] => .ok (.int i) S
  | [.bl k] => .ok (.int (if k then 1 else 0)) S
  | _ => .stk
theorem int_s {K : PySem.W.Frag} {cl : Str → Option Addr} : FnS K cl (fun xs H Q => (∃ i, xs = [.int i] ∧ Q (.int i) H) ∨ ∃ k, xs = [.bl k] ∧ Q (.int (if k then 1 else 0)) H) intD := by
  intro W H S x a Q E r rx p
  unfold intD at p
  split at p
  · cases rx with | cons rx rn =>
    cases rn; cases rx
    exact .inl ⟨_, rfl, p.now r (.int _)⟩
  · cases rx with | cons rx rn =>
    cases rn; cases rx
    exact .inr ⟨_, rfl, p.now r (.int _)⟩
  · exact p.elim
def boolD (as : List D) (S : Store) : Res D := match as with
  | [.int i] => .ok (.bl (i != 0)) S
  | [.bl k] => .ok (.bl k) S
  | _ => .stk
theorem bool_s {K : PySem.W.Frag} {cl : Str → Option Addr} : FnS K cl (fun xs H Q => (∃ i, xs = [.int i] ∧ Q (.bl (i != 0)) H) ∨ ∃ k, xs = [.bl k] ∧ Q (.bl k) H) boolD := by
  intro W H S x a Q E r rx p
  unfold boolD at p
  split at p
  · cases rx with | cons rx rn =>
    cases rn; cases rx
    exact .inl ⟨_, rfl, p.now r (.bl _)⟩
  · cases rx with | cons rx rn =>
    cases rn; cases rx
    exact .inr ⟨_, rfl, p.now r (.bl _)⟩
  · exact p.elim
/-- the items of a list or tuple -/
def sqOf (S : Store) (d : D) : Option (List D) := match d with
  | .tup ds => some ds
  | d => lsOf S d
theorem sq_of' {K : PySem.W.Frag} {cl : Str → Option Addr} {W : Wd} {H : Hp} {S : Store} {v : V} {d : D} {xs : List D} (r : R K cl W H S) (h : Rep K cl W v d) (e : sqOf S d = some xs) :
    ∃ a vs, v = .ref a ∧ (SqL K H a vs ∨ SqT K H a vs) ∧ Reps K cl W vs xs := by
  unfold sqOf at e
  split at e
  · cases h with | tup h t =>
    cases e
    exact ⟨_, _, rfl, .inr (sqT_up r.sub h), t⟩
  · obtain ⟨p', us, rfl, h, t⟩ := ls_of r h e
    exact ⟨_, _, rfl, .inl (SqL.of h), t⟩
def tupleD (as : List D) (S : Store) : Res D := match as with
  | [d] => ofO ((sqOf S d).map D.tup) S
  | _ => .stk
theorem tuple_s {K : PySem.W.Frag} {cl : Str → Option Addr} : FnS K cl (fun xs H Q => ∃ p ys, xs = [.ref p] ∧ ((SqL K H p ys ∧ ∀ l, H l = none → Q (.ref l) (upd H l (.tup ys))) ∨ (SqT K H p ys ∧ Q (.ref p) H))) tupleD := by
  intro W H S x a Q E r rx p
  unfold tupleD at p
  split at p
  · rename_i d
    cases rx with | cons rx rn =>
    cases rn
    cases e : sqOf S d with
    | none => rw [e] at p; exact p.elim
    | some ds =>
      rw [e] at p
      unfold sqOf at e
      split at e
      · cases rx with | tup h t =>
        cases e
        exact ⟨_, _, rfl, .inr ⟨sqT_up r.sub h, p.now r (.tup h t)⟩⟩
      · obtain ⟨p', us, rfl, h, t⟩ := ls_of r rx e
        exact ⟨_, _, rfl, .inl ⟨SqL.of h, newT r t p⟩⟩
  · exact p.elim
def listD (as : List D) (S : Store) : Res D := match as with
  | [d] => ofO ((sqOf S d).map D.lst) S
  | _ => .stk
theorem list_s {K : PySem.W.Frag} {cl : Str → Option Addr} : FnS K cl (fun xs H Q => ∃ p ys, xs = [.ref p] ∧ (SqL K H p ys ∨ SqT K H p ys) ∧ ∀ l, H l = none → Q (.ref l) (upd H l (.lst ys))) listD := by
  intro W H S x a Q E r rx p
  unfold listD at p
  split at p
  · rename_i d
    cases rx with | cons rx rn =>
    cases rn
    cases e : sqOf S d with
    | none => rw [e] at p; exact p.elim
    | some ds =>
      rw [e] at p
      obtain ⟨a, vs, rfl, h, t⟩ := sq_of' r rx e
      exact ⟨_, _, rfl, h, newL r t p⟩
  · exact p.elim
/-- all, any of a list of flags -/
def blO : D → Option Bool
  | .bl b => some b
  | _ => none
def blsO : List D → Option (List Bool)
  | [] => some []
  | d :: ds => (match blO d, blsO ds with
    | some b, some bs => some (b :: bs)
    | _, _ => none)
theorem bls_of {K : PySem.W.Frag} {cl : Str → Option Addr} {W : Wd} : ∀ {vs : List V} {ds : List D} {bs : List Bool}, Reps K cl W vs ds → blsO ds = some bs → vs = bs.map V.bl
  | _, _, _, .nil, e => by cases e; rfl
  | _, _, _, .cons (d := d) (ds := ds) h t, e => by
    unfold blsO at e
    cases e1 : blO d with
    | none => rw [e1] at e; cases e
    | some v =>
      cases e2 : blsO ds with
      | none => rw [e1, e2] at e; cases e
      | some vs =>
        rw [e1, e2] at e
        cases e
        rw [bls_of t e2]
        cases h <;> first | (cases e1; rfl) | cases e1
def allD (as : List D) (S : Store) : Res D := match as with
  | [d] => ofO (((lsOf S d).bind blsO).map fun bs => .bl (bs.all id)) S
  | _ => .stk
def anyD (as : List D) (S : Store) : Res D := match as with
  | [d] => ofO (((lsOf S d).bind blsO).map fun bs => .bl (bs.any id)) S
  | _ => .stk
theorem all_s {K : PySem.W.Frag} {cl : Str → Option Addr} : FnS K cl (rAll K) allD := by
  intro W H S x a Q E r rx p
  unfold allD at p
  split at p
  · rename_i d
    cases rx with | cons rx rn =>
    cases rn
    cases e : lsOf S d with
    | none => rw [e] at p; exact p.elim
    | some ds =>
      cases e2 : blsO ds with
      | none => simp only [e, e2, Option.bind] at p; exact p.elim
      | some bs =>
        simp only [e, e2, Option.bind] at p
        obtain ⟨a, vs, rfl, h, t⟩ := ls_of r rx e
        rw [bls_of t e2] at h
        exact ⟨_, bs, rfl, SqL.of h, p.now r (.bl _)⟩
  · exact p.elim
theorem any_s {K : PySem.W.Frag} {cl : Str → Option Addr} : FnS K cl (rAny K) anyD := by
  intro W H S x a Q E r rx p
  unfold anyD at p
  split at p
  · rename_i d
    cases rx with | cons rx rn =>
    cases rn
    cases e : lsOf S d with
    | none => rw [e] at p; exact p.elim
    | some ds =>
      cases e2 : blsO ds with
      | none => simp only [e, e2, Option.bind] at p; exact p.elim
      | some bs =>
        simp only [e, e2, Option.bind] at p
        obtain ⟨a, vs, rfl, h, t⟩ := ls_of r rx e
        rw [bls_of t e2] at h
        exact ⟨_, bs, rfl, SqL.of h, p.now r (.bl _)⟩
  · exact p.elim
section
variable {X : Cx} {cl : Str → Option Addr} {E : WX} {ms : M (List D)} {pos p : Pos} {x : Str} {e : Expr} {es : List Expr} {id T' : String} {r : List V → Hp → VK → Prop} {g : List D → Store → Res D}
theorem t_callB (hc : CallR X (.builtin id) r) (hs : FnS X.K cl r g) (hm : X.mg x = none) (hv : bootBuiltins x = some (.builtin id)) (ha : PA X (e :: es) (TL X.K cl E ms)) (hg : Gl X x := by rfl) (hn : x ≠ "__name__" := by decide) (hdb : (x == ("__debug__" : Str)) = false := by decide)
    (he : starEach (e :: es) X.env = (false, eval e X.env) :: starEach es X.env := by rfl) (hpl : (backTo pos (starEach es X.env)).any (·.1) = false := by rfl) : PE X (.Call (.Name x p) (e :: es) [] pos) (T X.K cl E (mFn g ms)) :=
  pe_imp (pe_callB hc hg hm hv ha hn hdb he hpl) fun σ H Q ⟨W, ρ, S, hr, he, p⟩ => step hr he p fun W1 H1 x dx S1 l1 r1 e1 rx p1 => hs _ _ _ _ _ _ _ r1 rx p1
theorem t_callTy (hc : CallR X (.type T') r) (hs : FnS X.K cl r g) (hm : X.mg x = none) (hv : bootBuiltins x = some (.type T')) (ha : PA X (e :: es) (TL X.K cl E ms)) (hg : Gl X x := by rfl) (hn : x ≠ "__name__" := by decide) (hdb : (x == ("__debug__" : Str)) = false := by decide)
    (he : starEach (e :: es) X.env = (false, eval e X.env) :: starEach es X.env := by rfl) (hpl : (backTo pos (starEach es X.env)).any (·.1) = false := by rfl) : PE X (.Call (.Name x p) (e :: es) [] pos) (T X.K cl E (mFn g ms)) :=
  pe_imp (pe_callTy hc hg hm hv ha hn hdb he hpl) fun σ H Q ⟨W, ρ, S, hr, he, p⟩ => step hr he p fun W1 H1 x dx S1 l1 r1 e1 rx p1 => hs _ _ _ _ _ _ _ r1 rx p1
end
end G
namespace G
open PySem L2

inductive Out where
  | nx (ρ : Sl) (S : Store)
  | rt (d : D) (S : Store)
  | bk (ρ : Sl) (S : Store)
  | ct (ρ : Sl) (S : Store)
  | exc (x : Exc) (ρ : Sl) (S : Store)
  | stk
abbrev MS := Sl → Store → Out
def sB {α : Type} (r : Res α) (ρ : Sl) (f : α → Store → Out) : Out := match r with
  | .ok a S => f a S
  | .exc x S => .exc x ρ S
  | .stk => .stk
@[simp] theorem sB_ok {α : Type} {a : α} {S : Store} {ρ : Sl} {f : α → Store → Out} : sB (.ok a S) ρ f = f a S := nrfl rfl
@[simp] theorem sB_exc {α : Type} {a : Exc} {S : Store} {ρ : Sl} {f : α → Store → Out} : sB (.exc a S) ρ f = .exc a ρ S := nrfl rfl
@[simp] theorem sB_stk {α : Type} {ρ : Sl} {f : α → Store → Out} : sB .stk ρ f = .stk := nrfl rfl
section
variable (K : PySem.W.Frag) (cl : Str → Option Addr)
def PostS (W : Wd) (o : Out) (A : Ends) (E : WX) : Prop := match o with
  | .nx ρ S => ∀ W' H' σ, Le W W' → R K cl W' H' S → Envs K cl W' σ ρ → A.nx σ H'
  | .rt d S => ∀ W' H' v, Le W W' → R K cl W' H' S → Rep K cl W' v d → A.rt v H'
  | .bk ρ S => ∀ W' H' σ, Le W W' → R K cl W' H' S → Envs K cl W' σ ρ → A.bk σ H'
  | .ct ρ S => ∀ W' H' σ, Le W W' → R K cl W' H' S → Envs K cl W' σ ρ → A.ct σ H'
  | .exc x ρ S => ∀ W' H' σ c dd, Le W W' → R K cl W' H' S → Envs K cl W' σ ρ → XRep K cl W' c dd x → E c dd σ H'
  | .stk => False
def Ts (E : WX) (m : MS) : TS := fun A σ H => ∃ W ρ S, R K cl W H S ∧ Envs K cl W σ ρ ∧ PostS K cl W (m ρ S) A E
/-- a target: names -/
abbrev Pt := D → Sl → Option Sl
/-- two rows of slots that are alike but at sl -/
def Off (sl : List Nat) (σ σ' : St) : Prop := σ.length = σ'.length ∧ ∀ i : Nat, i ∉ sl → σ'[i]? = σ[i]?
def Tp (sl : List Nat) (p : Pt) : TG := fun v σ H Q => ∃ W ρ S d ρ', R K cl W H S ∧ Envs K cl W σ ρ ∧ Rep K cl W v d ∧ p d ρ = some ρ' ∧ ∀ σ', Envs K cl W σ' ρ' → Off sl σ σ' → Q σ' H
def Tps (sl : List Nat) (p : List D → Sl → Option Sl) : TGs := fun v σ H Q => ∃ W ρ S d ρ', R K cl W H S ∧ Envs K cl W σ ρ ∧ Reps K cl W v d ∧ p d ρ = some ρ' ∧ ∀ σ', Envs K cl W σ' ρ' → Off sl σ σ' → Q σ' H
end
def ptN (i : Nat) : Pt := fun d ρ => some (ρ.set i (some d))
def ptT (p : List D → Sl → Option Sl) : Pt := fun d ρ => match d with
  | .tup ds => p ds ρ
  | _ => none
def psN : List D → Sl → Option Sl := fun d ρ => match d with
  | [] => some ρ
  | _ => none
def psC (p : Pt) (q : List D → Sl → Option Sl) : List D → Sl → Option Sl := fun d ρ => match d with
  | x :: xs => (match p x ρ with
    | some ρ' => q xs ρ'
    | none => none)
  | [] => none

/-! ### the combinators of statements -/
def sPass : MS := fun ρ S => .nx ρ S
def sSet (i : Nat) (m : M D) : MS := fun ρ S => sB (m ρ S) ρ fun d S1 => .nx (ρ.set i (some d)) S1
def sAsg (p : Pt) (m : M D) : MS := fun ρ S => sB (m ρ S) ρ fun d S1 => match p d ρ with
  | some ρ' => .nx ρ' S1
  | none => .stk
def sExpr (m : M D) : MS := fun ρ S => sB (m ρ S) ρ fun _ S1 => .nx ρ S1
def sRet (m : M D) : MS := fun ρ S => sB (m ρ S) ρ fun d S1 => .rt d S1
def sIf (c : M Bool) (a b : MS) : MS := fun ρ S => sB (c ρ S) ρ fun k S1 => if k = true then a ρ S1 else b ρ S1
def sSeq (a b : MS) : MS := fun ρ S => match a ρ S with
  | .nx ρ1 S1 => b ρ1 S1
  | o => o
def sAug (i : Nat) (g : D → D → Store → Res D) (m : M D) : MS := fun ρ S => match ρ[i]? with
  | some (some x) => sB (m ρ S) ρ fun y S1 => sB (g x y S1) ρ fun z S2 => .nx (ρ.set i (some z)) S2
  | _ => .stk
/-- o[i] = e, a list -/
def putD (o i v : D) (S : Store) : Option Store := match o, i with
  | .ref n, .int k => (match S[n]? with
    | some (.lst xs) => (match ixN xs.length k with
      | some j => some (S.set n (.lst (xs.set j v)))
      | none => none)
    | _ => none)
  | _, _ => none
def sPut (o i e : M D) : MS := fun ρ S => sB (e ρ S) ρ fun v S1 => sB (o ρ S1) ρ fun x S2 => sB (i ρ S2) ρ fun y S3 => match putD x y v S3 with
  | some S4 => .nx ρ S4
  | none => .stk
structure Itb where
  xs : List D
  lv : Option Nat
/-- what is walked stands as it was -/
def Grd (it : Itb) (S : Store) : Prop := match it.lv with
  | none => True
  | some n => S[n]? = some (.lst it.xs)
open Classical in
noncomputable def forL (it : Itb) (p : Pt) (b : MS) : List D → MS
  | [], ρ, S => if Grd it S then .nx ρ S else .stk
  | d :: ds, ρ, S => if Grd it S then (match p d ρ with
    | some ρ1 => (match b ρ1 S with
      | .nx ρ2 S2 => forL it p b ds ρ2 S2
      | .ct ρ2 S2 => forL it p b ds ρ2 S2
      | .bk ρ2 S2 => .nx ρ2 S2
      | .rt v S2 => .rt v S2
      | .exc x ρ2 S2 => .exc x ρ2 S2
      | .stk => .stk)
    | none => .stk) else .stk
noncomputable def sFor (m : M Itb) (p : Pt) (b : MS) : MS := fun ρ S => sB (m ρ S) ρ fun it S1 => forL it p b it.xs ρ S1
def whileF (c : M Bool) (b : MS) : Nat → MS
  | 0, _, _ => .stk
  | n + 1, ρ, S => sB (c ρ S) ρ fun k S1 => if k = true then (match b ρ S1 with
      | .nx ρ2 S2 => whileF c b n ρ2 S2
      | .ct ρ2 S2 => whileF c b n ρ2 S2
      | .bk ρ2 S2 => .nx ρ2 S2
      | .rt v S2 => .rt v S2
      | .exc x ρ2 S2 => .exc x ρ2 S2
      | .stk => .stk) else .nx ρ S1
/-- the slots of a comprehension's own names forgotten -/
def wipeD (ρ : Sl) : List Nat → Sl
  | [] => ρ
  | v :: vs => (wipeD ρ vs).set v none
def Res.nox {α : Type} (r : Res α) : Res α := match r with
  | .ok a S => .ok a S
  | _ => .stk
@[simp] theorem nox_ok {α : Type} {a : α} {S : Store} : (Res.ok a S).nox = .ok a S := nrfl rfl
@[simp] theorem nox_exc {α : Type} {a : Exc} {S : Store} : (Res.exc a S : Res α).nox = .stk := nrfl rfl
@[simp] theorem nox_stk {α : Type} : (Res.stk : Res α).nox = .stk := nrfl rfl
open Classical in
noncomputable def compL (it : Itb) (p : Pt) (t : M Bool) (e : M D) (ρ : Sl) : List D → Nat → Store → Res (List D)
  | [], _, S => if Grd it S then .ok [] S else .stk
  | d :: ds, n, S => if Grd it S then (match p d ρ with
    | some ρ1 => (t ρ1 S).nox.bind fun k S1 => if k = true then (e ρ1 S1).nox.bind fun x S2 => if n < sizeLine then (compL it p t e ρ ds (n + 1) S2).bind fun xs S3 => .ok (x :: xs) S3 else .stk
        else compL it p t e ρ ds n S1
    | none => .stk) else .stk
noncomputable def mComp (m : M Itb) (p : Pt) (t : M Bool) (e : M D) (vs : List Nat) (mk : List D → Store → Res D) : M D := fun ρ S => (m ρ S).bind fun it S1 => (compL it p t e (wipeD ρ vs) it.xs 0 S1).bind fun xs S2 => mk xs S2
def mYes : M Bool := fun _ S => .ok true S
def frzD (xs : List D) (S : Store) : Res D := .ok (.lst xs) S
section
variable {K : PySem.W.Frag} {cl : Str → Option Addr} {W W' : Wd} {H : Hp} {S : Store} {σ : St} {ρ : Sl} {α β : Type} {rel : Wd → β → α → Prop} {A : Ends} {E : WX}
theorem PostS.up {o : Out} (l : Le W W') (p : PostS K cl W o A E) : PostS K cl W' o A E := by
  cases o with
  | nx ρ S => exact fun W2 H2 v l2 => p W2 H2 v (l.tr l2)
  | rt ρ S => exact fun W2 H2 v l2 => p W2 H2 v (l.tr l2)
  | bk ρ S => exact fun W2 H2 v l2 => p W2 H2 v (l.tr l2)
  | ct ρ S => exact fun W2 H2 v l2 => p W2 H2 v (l.tr l2)
  | exc x ρ S => exact fun W2 H2 v c dd l2 => p W2 H2 v c dd (l.tr l2)
  | stk => exact p
theorem stepS {m : M α} {f : α → Store → Out} {Q1 : β → Hp → Prop} (hr : R K cl W H S) (he : Envs K cl W σ ρ) (p : PostS K cl W (sB (m ρ S) ρ f) A E)
    (k : ∀ W' H' v d S', Le W W' → R K cl W' H' S' → Envs K cl W' σ ρ → rel W' v d → PostS K cl W' (f d S') A E → Q1 v H') : Tg K cl rel E m σ H Q1 := by
  refine ⟨W, ρ, S, hr, he, ?_⟩
  cases e : m ρ S with
  | ok d S1 =>
    rw [e] at p
    exact fun W1 H1 v l1 r1 q1 => k W1 H1 v d S1 l1 r1 (he.up l1) q1 (PostS.up l1 p)
  | exc x S1 =>
    rw [e] at p
    exact fun W1 H1 c dd l1 r1 x1 => p W1 H1 σ c dd l1 r1 (he.up l1) x1
  | stk =>
    rw [e] at p
    exact p.elim
end
section
variable {X : Cx} {cl : Str → Option Addr} {E : WX} {e tg : Expr} {es : List Expr} {m m1 m2 m3 : M D} {mb : M Bool} {s1 s2 : MS} {st : Stmt} {sts : List Stmt} {pos pos' : Pos}
theorem s_nil : PSs X [] (Ts X.K cl E sPass) := pss_imp pss_nil fun A σ H ⟨W, ρ, S, hr, he, p⟩ => p W H σ (.rf W) hr he
theorem s_one (h : PS X st (Ts X.K cl E s1)) : PSs X [st] (Ts X.K cl E s1) := pss_one h
theorem s_cons (h : PS X st (Ts X.K cl E s1)) (h2 : PSs X sts (Ts X.K cl E s2)) : PSs X (st :: sts) (Ts X.K cl E (sSeq s1 s2)) :=
  pss_imp (pss_cons h h2) fun A σ H ⟨W, ρ, S, hr, he, p⟩ => by
    refine ⟨W, ρ, S, hr, he, ?_⟩
    unfold sSeq at p
    cases q : s1 ρ S with
    | nx ρ1 S1 =>
      rw [q] at p
      exact fun W1 H1 σ1 l1 r1 e1 => ⟨W1, ρ1, S1, r1, e1, PostS.up l1 p⟩
    | rt d S1 => rw [q] at p; exact p
    | bk d S1 => rw [q] at p; exact p
    | ct d S1 => rw [q] at p; exact p
    | exc x d S1 => rw [q] at p; exact p
    | stk => rw [q] at p; exact p
theorem s_expr (h : PE X e (T X.K cl E m)) (hs : swapsWith e none pos.line X.env = pure false := by rfl) : PS X (.Expr e pos) (Ts X.K cl E (sExpr m)) :=
  ps_imp (ps_expr h hs) fun A σ H ⟨W, ρ, S, hr, he, p⟩ => stepS hr he p fun W1 H1 v d S1 l1 r1 e1 rv p1 => p1 W1 H1 σ (.rf W1) r1 e1
theorem s_ret (h : PE X e (T X.K cl E m)) : PS X (.Return (some e) pos) (Ts X.K cl E (sRet m)) :=
  ps_imp (ps_ret h) fun A σ H ⟨W, ρ, S, hr, he, p⟩ => stepS hr he p fun W1 H1 v d S1 l1 r1 e1 rv p1 => p1 W1 H1 v (.rf W1) r1 rv
theorem s_if {c : Expr} {a b : List Stmt} (hc : PT X c (TB X.K cl E mb)) (ha : PSs X a (Ts X.K cl E s1)) (hb : PSs X b (Ts X.K cl E s2)) : PS X (.If c a b pos) (Ts X.K cl E (sIf mb s1 s2)) :=
  ps_imp (ps_if hc ha hb) fun A σ H ⟨W, ρ, S, hr, he, p⟩ => stepS hr he p fun W1 H1 v d S1 l1 r1 e1 rv p1 => by
    obtain rfl : v = d := rv
    cases v with
    | true => exact ⟨W1, ρ, S1, r1, e1, p1⟩
    | false => exact ⟨W1, ρ, S1, r1, e1, p1⟩
theorem s_set (i : Nat) {x : Str} (hN : X.N.Nodup) (he : PE X e (T X.K cl E m)) (hi : X.N[i]? = some x := by rfl) (hx : Loc X.env.scope x := by first | exact Or.inl rfl | exact Or.inr rfl)
    (hs : swapsWith e (some (.Name x pos')) pos.line X.env = pure false := by rfl) (hf : X.fn x = true ∨ X.env.scope.names.lookup x = some .local := by first | exact .inl rfl | exact .inr rfl) :
    PS X (.Assign [.Name x pos'] e pos) (Ts X.K cl E (sSet i m)) :=
  ps_imp (ps_set hN hi hx he hs hf) fun A σ H ⟨W, ρ, S, hr, he, p⟩ => stepS hr he p fun W1 H1 v d S1 l1 r1 e1 rv p1 => p1 W1 H1 _ (.rf W1) r1 (e1.set i rv)
/-- targets -/
theorem g_name (i : Nat) {x : Str} (hN : X.N.Nodup) (hi : X.N[i]? = some x := by rfl) (hx : Loc X.env.scope x := by first | exact Or.inl rfl | exact Or.inr rfl)
    (hf : X.fn x = true ∨ X.env.scope.names.lookup x = some .local := by first | exact .inl rfl | exact .inr rfl) : PG X (.Name x pos) (Tp X.K cl [i] (ptN i)) :=
  ⟨fun pins s σ H v u Q I r ⟨W, ρ, S, d, ρ', hr, he, rv, ep, q⟩ => (pg_name hN hi hx hf).run pins s σ H v u Q I r (by
    cases ep
    exact q _ (he.set i rv) ⟨by simp, fun j hj => List.getElem?_set_ne (fun z => hj (by simp [z]))⟩)⟩
theorem Off.rf (σ : St) : Off [] σ σ := ⟨rfl, fun _ _ => rfl⟩
theorem Off.tr {a b : List Nat} {σ σ1 σ2 : St} (x : Off a σ σ1) (y : Off b σ1 σ2) : Off (a ++ b) σ σ2 := ⟨x.1.trans y.1, fun i hi => by
  rw [List.mem_append, not_or] at hi
  exact (y.2 i hi.2).trans (x.2 i hi.1)⟩
theorem gs_nil : PGs X [] (Tps X.K cl [] psN) := ⟨fun pins s σ H v u Q I r ⟨W, ρ, S, d, ρ', hr, he, rv, ep, q⟩ => pgs_nil.run pins s σ H v u Q I r (by
    cases rv with
    | nil =>
      cases ep
      exact ⟨rfl, q _ he (.rf _)⟩
    | cons _ _ => cases ep)⟩
theorem gs_cons {a b : List Nat} {p : Pt} {ps : List D → Sl → Option Sl} (h1 : PG X e (Tp X.K cl a p)) (h2 : PGs X es (Tps X.K cl b ps)) (hs : (assignEach (e :: es) X.env).map (·.2) = assign e X.env :: (assignEach es X.env).map (·.2) := by rfl) :
    PGs X (e :: es) (Tps X.K cl (a ++ b) (psC p ps)) := ⟨fun pins s σ H v u Q I r ⟨W, ρ, S, d, ρ', hr, he, rv, ep, q⟩ => (pgs_cons h1 h2 hs).run pins s σ H v u Q I r (by
    cases rv with
    | nil => cases ep
    | @cons x dx vs ds r1 r2 =>
      unfold psC at ep
      cases e1 : p dx ρ with
      | none => simp only [e1] at ep; cases ep
      | some ρ1 =>
        simp only [e1] at ep
        exact ⟨_, _, rfl, W, ρ, S, dx, ρ1, hr, he, r1, e1, fun σ1 he1 o1 => ⟨W, ρ1, S, ds, ρ', hr, he1, r2, ep, fun σ2 he2 o2 => q σ2 he2 (o1.tr o2)⟩⟩)⟩
theorem g_tup {k n : Nat} {a : List Nat} {ps : List D → Sl → Option Sl} (hc : X.calm = true) (h : PGs X es (Tps X.K cl a ps)) (hl : ∀ ds ρ ρ', ps ds ρ = some ρ' → ds.length = n)
    (hn : (assignEach es X.env).length = n := by rfl) (hst : (assignEach es X.env).findIdx? (·.1) = none := by rfl) : PG X (.Tuple es k pos) (Tp X.K cl a (ptT ps)) :=
  ⟨fun pins s σ H v u Q I r ⟨W, ρ, S, d, ρ', hr, he, rv, ep, q⟩ => (pg_tup hc h hn hst).run pins s σ H v u Q I r (by
    cases rv with
    | tup h1 t =>
      exact ⟨_, _, rfl, sqT_up hr.sub h1, by rw [t.len]; exact hl _ _ _ ep, W, ρ, S, _, ρ', hr, he, t, ep, q⟩
    | _ => cases ep)⟩
theorem ps_len0 : ∀ ds ρ ρ', psN ds ρ = some ρ' → ds.length = 0 := fun ds ρ ρ' h => by
  cases ds with
  | nil => rfl
  | cons _ _ => cases h
theorem ps_lenS {n : Nat} {p : Pt} {ps : List D → Sl → Option Sl} (hl : ∀ ds ρ ρ', ps ds ρ = some ρ' → ds.length = n) : ∀ ds ρ ρ', psC p ps ds ρ = some ρ' → ds.length = n + 1 := fun ds ρ ρ' h => by
  cases ds with
  | nil => cases h
  | cons d ds =>
    unfold psC at h
    cases e1 : p d ρ with
    | none => simp only [e1] at h; cases h
    | some ρ1 =>
      simp only [e1] at h
      rw [List.length_cons, hl _ _ _ h]
theorem s_asg {a : List Nat} {p : Pt} (he : PE X e (T X.K cl E m)) (hg : PG X tg (Tp X.K cl a p)) (hs : swapsWithSole [tg] e pos.line X.env = pure false := by rfl) (hw : swappedStores [tg] e X.env = pure none := by rfl) (h1 : (assignEach [tg] X.env).map (·.2) = [assign tg X.env] := by rfl) :
    PS X (.Assign [tg] e pos) (Ts X.K cl E (sAsg p m)) :=
  ps_imp (ps_asg he hg hs hw h1) fun A σ H ⟨W, ρ, S, hr, he, q⟩ => stepS hr he q fun W1 H1 v d S1 l1 r1 e1 rv p1 => by
    cases e2 : p d ρ with
    | none => simp only [e2] at p1; exact p1.elim
    | some ρ1 =>
      simp only [e2] at p1
      exact ⟨W1, ρ, S1, d, ρ1, r1, e1, rv, e2, fun σ1 he1 _ => p1 W1 H1 σ1 (.rf W1) r1 he1⟩
/-- x op= e, by a rule on values -/
theorem s_aug (i : Nat) {x : Str} {op : Operator} {r : TIp} {g : D → D → Store → Res D} (hN : X.N.Nodup) (ho : PIp X op r) (hg : OpS X.K cl r g) (he : PE X e (T X.K cl E m)) (hi : X.N[i]? = some x := by rfl) (hx : Loc X.env.scope x := by first | exact Or.inl rfl | exact Or.inr rfl)
    (hf : X.fn x = true ∨ X.env.scope.names.lookup x = some .local := by first | exact .inl rfl | exact .inr rfl) : PS X (.AugAssign (.Name x pos') op e pos) (Ts X.K cl E (sAug i g m)) :=
  ps_imp (ps_aug hN hi hx he ho hf) fun A σ H ⟨W, ρ, S, hr, he, p⟩ => by
    unfold sAug at p
    split at p
    · rename_i dx ex
      obtain ⟨v, h1, h2⟩ := he.at' i dx ex
      refine ⟨v, h1, stepS hr he p fun W1 H1 y dy S1 l1 r1 e1 ry p1 => ?_⟩
      refine hg W1 H1 S1 v y dx dy _ (fun c d H' => E c d σ H') r1 (h2.up l1) ry ?_
      cases q : g dx dy S1 with
      | ok z S2 =>
        rw [q] at p1
        exact fun W2 H2 w l2 r2 rw' => p1 W2 H2 _ l2 r2 ((e1.up l2).set i rw')
      | exc z S2 =>
        rw [q] at p1
        exact fun W2 H2 c dd l2 r2 x2 => p1 W2 H2 σ c dd l2 r2 (e1.up l2) x2
      | stk =>
        rw [q] at p1
        exact p1.elim
    · exact p.elim
theorem ip_subI {X : Cx} : PIp X .Sub (rI0 fun i j => .int (i - j)) := fun pins s σ H x y v u Q I rx ry h => ip_sub pins s σ H x y v u Q I rx ry h
theorem s_put {o i : Expr} {tpos : Pos} (ho : PE X o (T X.K cl E m1)) (hi : PE X i (T X.K cl E m2)) (he : PE X e (T X.K cl E m3))
    (hs : swapsWithSole [.Subscript o i tpos] e pos.line X.env = pure false := by rfl) (hw : swappedStores [.Subscript o i tpos] e X.env = pure none := by rfl)
    (ha : ∀ v, assign (.Subscript o i tpos) X.env v = (do
      let a ← holding [v] (eval o X.env)
      let b ← holding [v, a] (eval i X.env)
      standAt tpos
      holding [v, a, b] (setItem a b v)
      release [v, a, b] []) := by intro _; rfl) : PS X (.Assign [.Subscript o i tpos] e pos) (Ts X.K cl E (sPut m1 m2 m3)) :=
  ps_imp (ps_asg he (pg_sub ho hi set_list ha) hs hw) fun A σ H ⟨W, ρ, S, hr, he, p⟩ => stepS hr he p fun W1 H1 v dv S1 l1 r1 e1 rv p1 =>
    stepS r1 e1 p1 fun W2 H2 x dx S2 l2 r2 e2 rx p2 => stepS r2 e2 p2 fun W3 H3 y dy S3 l3 r3 e3 ry p3 => by
      cases q : putD dx dy dv S3 with
      | none => simp only [q] at p3; exact p3.elim
      | some S4 =>
        simp only [q] at p3
        unfold putD at q
        split at q
        · rename_i n k
          cases ry
          cases (rx.up l3) with | ref hn =>
          split at q
          · rename_i xs e4
            split at q
            · rename_i j ej
              cases q
              obtain ⟨_, vs, h1, h2⟩ := r3.live n _ e4 (by intro z; cases z)
              have rv' := rv.up (l2.tr l3)
              refine ⟨_, _, _, j, rfl, rfl, h1, by rw [h2.len]; exact ej, ?_⟩
              exact p3 W3 _ σ (.rf W3) (r3.put e4 (by intro z; cases z) ⟨_, upd_same, Reps.set rv' j h2⟩) e3
            · cases q
          · cases q
        · cases q

/-! ### loops -/
section
variable (K : PySem.W.Frag) (cl : Str → Option Addr)
def ItS (W0 : Wd) (J : It) (it : Itb) : Prop := ∀ W H S, Ls W0 W → R K cl W H S → Grd it S →
  (∀ (i : Nat) (d : D), it.xs[i]? = some d → J.go i H ∧ ∀ x H', J.yld i H x H' → ∃ W', Le W W' ∧ R K cl W' H' S ∧ Rep K cl W' x d) ∧ J.stop it.xs.length H
abbrev TIt (E : WX) (m : M Itb) : TI := Tg K cl (ItS K cl) E m
end
theorem pi_imp {iter : Expr} {t t' : TI} (h : PI X tg iter t) (k : ∀ σ H Q, t' σ H Q → t σ H Q) : PI X tg iter t' := ⟨fun pins s σ H Q I q => h.run pins s σ H Q I (k σ H Q q)⟩
theorem pi_either {iter : Expr} {t t' : TI} (h : PI X tg iter t) (h' : PI X tg iter t') : PI X tg iter (fun σ H Q => t σ H Q ∨ t' σ H Q) := ⟨fun pins s σ H Q I q => q.elim (h.run pins s σ H Q I) (h'.run pins s σ H Q I)⟩
theorem s_for {iter : Expr} {body : List Stmt} {mi : M Itb} {a : List Nat} {p : Pt} (hp : PassesOwn (model X.prog X.w) X.A X.env X.xe) (hc : X.calm = true) (hi : PI X tg iter (TIt X.K cl E mi)) (hg : PG X tg (Tp X.K cl a p)) (hb : PSs X body (Ts X.K cl E s1))
    (hs : ∀ x, foldedSetIterable iter X.env x = pure x := by intro _; rfl) : PS X (.For tg iter body [] pos) (Ts X.K cl E (sFor mi p s1)) :=
  ps_imp (ps_for hp hc hi hg hb hs) fun A σ H ⟨W, ρ, S, hr, he, q⟩ => stepS hr he q fun W1 H1 J it S1 l1 r1 e1 hJ p1 => by
    refine ⟨fun i m σ' H' => m = it.xs.length - i ∧ i ≤ it.xs.length ∧ ∃ W' ρ' S', Le W1 W' ∧ R X.K cl W' H' S' ∧ Envs X.K cl W' σ' ρ' ∧ PostS X.K cl W' (forL it p s1 (it.xs.drop i) ρ' S') A E,
      ⟨_, rfl, Nat.zero_le _, W1, ρ, S1, .rf W1, r1, e1, p1⟩, ?_⟩
    rintro i m σ2 H2 ⟨rfl, hi, W2, ρ2, S2, l2, r2, e2, p2⟩
    by_cases hlt : i < it.xs.length
    · have ed : it.xs.drop i = it.xs[i] :: it.xs.drop (i + 1) := List.drop_eq_getElem_cons hlt
      have ei : it.xs[i]? = some it.xs[i] := List.getElem?_eq_getElem hlt
      generalize hd : it.xs[i] = d at ed ei
      rw [ed] at p2
      unfold forL at p2
      by_cases hG : Grd it S2
      · rw [if_pos hG] at p2
        obtain ⟨g1, _⟩ := hJ W2 H2 S2 l2.s r2 hG
        obtain ⟨go, yld⟩ := g1 i d ei
        refine .inr ⟨go, fun σ' H' => ∃ W' ρ' S', Le W1 W' ∧ R X.K cl W' H' S' ∧ Envs X.K cl W' σ' ρ' ∧ PostS X.K cl W' (forL it p s1 (it.xs.drop (i + 1)) ρ' S') A E, fun σ' H' n => ⟨it.xs.length - (i + 1), by omega, rfl, hlt, n⟩, fun x H3 y => ?_⟩
        obtain ⟨W3, l3, r3, rx⟩ := yld x H3 y
        cases e4 : p d ρ2 with
        | none => simp only [e4] at p2; exact p2.elim
        | some ρ3 =>
          simp only [e4] at p2
          refine ⟨W3, ρ2, S2, d, ρ3, r3, e2.up l3, rx, e4, fun σ3 e3 _ => ⟨W3, ρ3, S2, r3, e3, ?_⟩⟩
          cases q5 : s1 ρ3 S2 with
          | nx ρ5 S5 =>
            simp only [q5] at p2
            exact fun W5 H5 σ5 l5 r5 e5 => ⟨W5, ρ5, S5, (l2.tr l3).tr l5, r5, e5, p2.up (l3.tr l5)⟩
          | ct ρ5 S5 =>
            simp only [q5] at p2
            exact fun W5 H5 σ5 l5 r5 e5 => ⟨W5, ρ5, S5, (l2.tr l3).tr l5, r5, e5, p2.up (l3.tr l5)⟩
          | bk ρ5 S5 =>
            simp only [q5] at p2
            exact fun W5 H5 σ5 l5 r5 e5 => p2 W5 H5 σ5 (l3.tr l5) r5 e5
          | rt v S5 =>
            simp only [q5] at p2
            exact fun W5 H5 v5 l5 r5 e5 => p2 W5 H5 v5 (l3.tr l5) r5 e5
          | exc v ρ5 S5 =>
            simp only [q5] at p2
            exact fun W5 H5 v5 c dd l5 r5 e5 => p2 W5 H5 v5 c dd (l3.tr l5) r5 e5
          | stk =>
            simp only [q5] at p2
            exact p2.elim
      · rw [if_neg hG] at p2
        exact p2.elim
    · have ei : i = it.xs.length := by omega
      subst ei
      rw [List.drop_length] at p2
      unfold forL at p2
      by_cases hG : Grd it S2
      · rw [if_pos hG] at p2
        exact .inl ⟨(hJ W2 H2 S2 l2.s r2 hG).2, p2 W2 H2 σ2 (.rf W2) r2 e2⟩
      · rw [if_neg hG] at p2
        exact p2.elim
theorem s_while (n : Nat) {c : Expr} {body : List Stmt} (hp : PassesOwn (model X.prog X.w) X.A X.env X.xe) (hc : PT X c (TB X.K cl E mb)) (hb : PSs X body (Ts X.K cl E s1)) : PS X (.While c body [] pos) (Ts X.K cl E (whileF mb s1 n)) :=
  ps_imp (ps_while hp hc hb) fun A σ H ⟨W, ρ, S, hr, he, q⟩ => by
    refine ⟨fun m σ' H' => ∃ W' ρ' S', R X.K cl W' H' S' ∧ Envs X.K cl W' σ' ρ' ∧ PostS X.K cl W' (whileF mb s1 m ρ' S') A E, ⟨n, W, ρ, S, hr, he, q⟩, ?_⟩
    rintro m σ2 H2 ⟨W2, ρ2, S2, r2, e2, p2⟩
    cases m with
    | zero => exact p2.elim
    | succ m =>
      refine stepS r2 e2 p2 fun W3 H3 v d S3 l3 r3 e3 rv p3 => ?_
      obtain rfl : v = d := rv
      cases v with
      | false => exact p3 W3 H3 σ2 (.rf W3) r3 e3
      | true =>
        refine ⟨fun σ' H' => ∃ W' ρ' S', R X.K cl W' H' S' ∧ Envs X.K cl W' σ' ρ' ∧ PostS X.K cl W' (whileF mb s1 m ρ' S') A E, fun σ' H' n => ⟨m, Nat.lt_succ_self _, n⟩, W3, ρ2, S3, r3, e3, ?_⟩
        simp only [if_true] at p3
        cases q5 : s1 ρ2 S3 with
        | nx ρ5 S5 =>
          simp only [q5] at p3
          exact fun W5 H5 σ5 l5 r5 e5 => ⟨W5, ρ5, S5, r5, e5, p3.up l5⟩
        | ct ρ5 S5 =>
          simp only [q5] at p3
          exact fun W5 H5 σ5 l5 r5 e5 => ⟨W5, ρ5, S5, r5, e5, p3.up l5⟩
        | bk ρ5 S5 =>
          simp only [q5] at p3
          exact p3
        | rt v S5 =>
          simp only [q5] at p3
          exact p3
        | exc v ρ5 S5 =>
          simp only [q5] at p3
          exact p3
        | stk =>
          simp only [q5] at p3
          exact p3.elim
end
end G
namespace G
open PySem L2
section
variable {K : PySem.W.Frag} {cl : Str → Option Addr} {W W' : Wd} {H : Hp} {S : Store} {σ : St} {ρ : Sl}
theorem rep_lv {p : Addr} (r : R K cl W H S) : Rep K cl (W.lv p) (.ref p) (.ref S.length) := by
  have e : (W.lv p).ι S.length = p := by rw [← r.n]; exact W.lv_at p
  have z := Rep.ref (K := K) (cl := cl) (W := W.lv p) (n := S.length) (by show _ < W.n + 1; rw [r.n]; exact Nat.lt_succ_self _)
  rw [e] at z
  exact z
/-- how a list that was just filled goes on -/
def MkS (K : PySem.W.Frag) (cl : Str → Option Addr) (mk : List D → Store → Res D) : Prop := ∀ (W : Wd) (H : Hp) (S : Store) (a : Addr) (vs : List V) (ds : List D) (Q : VK) (E : XK),
  R K cl W H S → H a = some (.lst vs) → W.G a = none → (∀ (i : Nat) (m : MO), S[i]? = some m → m ≠ .dead → W.ι i ≠ a) → W.P a = none → Reps K cl W vs ds → Post K cl (Rep K cl) W (mk ds S) Q E → Q (.ref a) H
theorem frz_s : MkS K cl frzD := fun W H S a vs ds Q E r ha hg nl np t p => p (W.fz a (.lst vs)) H _ (Le.fz hg) (r.fzAt ha hg nl np) (.lst upd_same (t.up (Le.fz hg)))
theorem Envs.wipe (e : Envs K cl W σ ρ) : ∀ vs : List Nat, Envs K cl W (L2.wipe σ vs) (wipeD ρ vs)
  | [] => e
  | v :: vs => (Envs.wipe e vs).unset v none
theorem wipe_ext {σ σ' : St} : ∀ {vs : List Nat}, σ.length = σ'.length → (∀ i : Nat, i ∉ vs → σ'[i]? = σ[i]?) → L2.wipe σ' vs = L2.wipe σ vs := fun {vs} hl h => by
  have at' : ∀ (vs : List Nat) (σ : St) (i : Nat), (L2.wipe σ vs)[i]? = if i ∈ vs then (if i < σ.length then some none else none) else σ[i]? := by
    intro vs
    induction vs with
    | nil => intro σ i; simp [L2.wipe]
    | cons v vs ih =>
      intro σ i
      unfold L2.wipe
      by_cases hv : v = i
      · subst hv
        rw [if_pos (by simp)]
        by_cases hi : v < σ.length
        · rw [List.getElem?_set_self (by rw [wipe_length]; exact hi), if_pos hi]
        · rw [List.getElem?_eq_none (by rw [List.length_set, wipe_length]; omega), if_neg hi]
      · rw [List.getElem?_set_ne hv, ih]
        have e : (i ∈ v :: vs) ↔ i ∈ vs := by simp [Ne.symm hv, fun z : i = v => hv z.symm]
        by_cases q : i ∈ vs
        · rw [if_pos q, if_pos (e.mpr q)]
        · rw [if_neg q, if_neg (fun z => q (e.mp z))]
  apply List.ext_getElem?
  intro i
  rw [at', at']
  by_cases q : i ∈ vs
  · rw [if_pos q, if_pos q, hl]
  · rw [if_neg q, if_neg q]
    exact h i q
def Wd.out (W : Wd) (P : Hp) : Wd := { W with P := P }
theorem Ls.out {P : Hp} : Ls W (W.out P) := ⟨fun _ _ h => h, fun _ _ => rfl, Nat.le_refl _⟩
end
abbrev F0 : WX := fun _ _ _ _ => False
section
variable {X : Cx} {cl : Str → Option Addr} {E : WX} {elt tg iter : Expr} {ifs : List Expr} {scope : Scope} {own : List (Str × Nat)} {pos : Pos} {mi : M Itb} {a : List Nat} {p : Pt} {mt : M Bool} {me : M D} {mk : List D → Store → Res D}
theorem tts_nil : PTs X [] (TB X.K cl E mYes) := ⟨fun pins s σ H Q I h => pts_nil.run pins s σ H Q I (by
  obtain ⟨W, ρ, S, hr, he, p⟩ := h
  exact p.now hr rfl)⟩
theorem tts_one {c : Expr} (h : PT X c (TB X.K cl E mt)) : PTs X [c] (TB X.K cl E mt) := pts_one h
/-- the reading of a comprehension -/
theorem lc_read {K : PySem.W.Frag} {σ : St} {H : Hp} {Q : VK} {vs : List Nat} (hk : MkS K cl mk) (ha : ∀ i ∈ a, i ∈ vs) (h : T K cl E (mComp mi p mt me vs mk) σ H Q) :
    tLc (TIt K cl E mi) (Tp K cl a p) (TB K cl F0 mt) (T K cl F0 me) vs σ H Q := by
  obtain ⟨W, ρ, S, hr, he, q⟩ := h
  refine step hr he q fun W1 H1 J it S1 l1 r1 e1 hJ p1 => ?_
  intro Dl hD
  have np : W1.P Dl = none := by
    cases e : W1.P Dl with
    | none => rfl
    | some u => rw [(r1.priv Dl u e).1] at hD; cases hD
  refine ⟨fun i m H' => m = it.xs.length - i ∧ i ≤ it.xs.length ∧ ∃ W' S' acc dacc, Le W1 W' ∧ R K cl (W'.hid Dl (.lst acc)) H' S' ∧ Reps K cl W' acc dacc ∧
      Post K cl (Rep K cl) W' ((compL it p mt me (wipeD ρ vs) (it.xs.drop i) dacc.length S').bind fun xs S2 => mk (dacc ++ xs) S2) Q (fun c d H' => E c d σ H'),
    ⟨_, rfl, Nat.zero_le _, W1, S1, [], [], .rf W1, r1.hide hD, .nil, p1⟩, ?_⟩
  rintro i m H2 ⟨rfl, hi, W2, S2, acc, dacc, l2, r2, t2, p2⟩
  by_cases hlt : i < it.xs.length
  · have ed : it.xs.drop i = it.xs[i] :: it.xs.drop (i + 1) := List.drop_eq_getElem_cons hlt
    have ei : it.xs[i]? = some it.xs[i] := List.getElem?_eq_getElem hlt
    generalize hd : it.xs[i] = d at ed ei
    rw [ed] at p2
    unfold compL at p2
    by_cases hG : Grd it S2
    · rw [if_pos hG] at p2
      obtain ⟨g1, _⟩ := hJ (W2.hid Dl (.lst acc)) H2 S2 (l2.s.tr Ls.hid) r2 hG
      obtain ⟨go, yld⟩ := g1 i d ei
      refine .inr ⟨go, fun H' => ∃ W' S' acc dacc, Le W1 W' ∧ R K cl (W'.hid Dl (.lst acc)) H' S' ∧ Reps K cl W' acc dacc ∧
          Post K cl (Rep K cl) W' ((compL it p mt me (wipeD ρ vs) (it.xs.drop (i + 1)) dacc.length S').bind fun xs S2 => mk (dacc ++ xs) S2) Q (fun c d H' => E c d σ H'), fun H' n => ⟨it.xs.length - (i + 1), by omega, rfl, hlt, n⟩, fun x H3 y => ?_⟩
      obtain ⟨W3, l3, r3, rx⟩ := yld x H3 y
      have back : ∀ W4 : Wd, Le (W2.hid Dl (.lst acc)) W4 → W4 = (W4.out W1.P).hid Dl (.lst acc) ∧ Le W2 (W4.out W1.P) := fun W4 l4 => by
        have eP : W4.P = upd W1.P Dl (.lst acc) := by rw [l4.p]; show upd W2.P Dl _ = _; rw [l2.p]
        refine ⟨?_, ⟨l4.g, l4.i, l4.n, l2.p.symm⟩⟩
        cases W4
        simp only [Wd.out, Wd.hid] at eP ⊢
        rw [eP]
      cases e4 : p d (wipeD ρ vs) with
      | none => simp only [e4] at p2; exact p2.elim
      | some ρ3 =>
        simp only [e4] at p2
        have ev : Envs K cl W3 (L2.wipe σ vs) (wipeD ρ vs) := ((e1.up l2).wipe vs).ups (Ls.hid.tr l3.s)
        refine ⟨W3, wipeD ρ vs, S2, d, ρ3, r3, ev, rx, e4, fun σ3 e3 off => ⟨?_, W3, ρ3, S2, r3, e3, ?_⟩⟩
        · have hw : L2.wipe σ3 vs = L2.wipe (L2.wipe σ vs) vs := wipe_ext off.1 fun j hj => off.2 j fun z => hj (ha j z)
          have hw2 : L2.wipe (L2.wipe σ vs) vs = L2.wipe σ vs := wipe_ext (wipe_length σ vs).symm fun j hj => by
            have : ∀ (vs : List Nat), j ∉ vs → (L2.wipe σ vs)[j]? = σ[j]? := by
              intro vs
              induction vs with
              | nil => intro _; rfl
              | cons v vs ih =>
                intro hj
                unfold L2.wipe
                rw [List.getElem?_set_ne (fun z => hj (by simp [z])), ih fun z => hj (by simp [z])]
            exact this vs hj
          exact hw.trans hw2
        · cases e5 : mt ρ3 S2 with
          | stk => rw [e5] at p2; exact p2.elim
          | exc z S5 => rw [e5] at p2; exact p2.elim
          | ok k S5 =>
            rw [e5] at p2
            intro W5 H5 b l5 r5 eb
            obtain rfl : b = k := eb
            cases b with
            | false =>
              obtain ⟨eq5, le5⟩ := back W5 (l3.tr l5)
              rw [eq5] at r5
              exact ⟨W5.out W1.P, S5, acc, dacc, l2.tr le5, r5, t2.up le5, Post.up le5 p2⟩
            | true =>
              refine ⟨W5, ρ3, S5, r5, e3.up l5, ?_⟩
              cases e6 : me ρ3 S5 with
              | stk => simp only [nox_ok, bind_ok, if_true, e6] at p2; exact p2.elim
              | exc z S6 => simp only [nox_ok, bind_ok, if_true, e6] at p2; exact p2.elim
              | ok dy S6 =>
                simp only [nox_ok, bind_ok, if_true, e6] at p2
                intro W6 H6 y6 l6 r6 ry
                obtain ⟨eq6, le6⟩ := back W6 ((l3.tr l5).tr l6)
                have r7 := r6
                rw [eq6] at r7
                by_cases hz : dacc.length < sizeLine
                · rw [if_pos hz] at p2
                  refine ⟨acc, (r7.priv Dl _ upd_same).1, by rw [t2.len]; exact hz, W6.out W1.P, S6, acc ++ [y6], dacc ++ [dy], l2.tr le6, r7.turn, (t2.up le6).app (.cons ?_ .nil), ?_⟩
                  · exact ry.ups Ls.out
                  · rw [List.length_append]
                    have p3 := Post.up le6 p2
                    revert p3
                    show _ → Post K cl (Rep K cl) _ ((compL it p mt me (wipeD ρ vs) (it.xs.drop (i + 1)) (dacc.length + 1) S6).bind fun xs S2 => mk (dacc ++ [dy] ++ xs) S2) _ _
                    cases compL it p mt me (wipeD ρ vs) (it.xs.drop (i + 1)) (dacc.length + 1) S6 with
                    | stk => exact fun z => z
                    | exc z S7 => exact fun z => z
                    | ok xs S7 =>
                      intro z
                      simp only [bind_ok] at z ⊢
                      rw [List.append_assoc]
                      exact z
                · rw [if_neg hz] at p2
                  exact p2.elim
    · rw [if_neg hG] at p2
      exact p2.elim
  · have ei : i = it.xs.length := by omega
    subst ei
    rw [List.drop_length] at p2
    unfold compL at p2
    by_cases hG : Grd it S2
    · rw [if_pos hG] at p2
      obtain ⟨g1, g2⟩ := hJ (W2.hid Dl (.lst acc)) H2 S2 (l2.s.tr Ls.hid) r2 hG
      have np2 : W2.P Dl = none := by rw [l2.p]; exact np
      obtain ⟨r3, h3, h4, h5⟩ := r2.unhide np2
      have p3 : Post K cl (Rep K cl) W2 (mk (dacc ++ []) S2) Q (fun c d H' => E c d σ H') := p2
      rw [List.append_nil] at p3
      exact .inl ⟨g2, hk W2 H2 S2 Dl acc dacc Q _ r3 h3 h4 h5 np2 t2 p3⟩
    · rw [if_neg hG] at p2
      exact p2.elim
theorem t_lc (own : List (Str × Nat)) (hk : MkS X.K cl mk) (hc : X.calm = true) (hN : X.N.Nodup) (hi : PI X tg iter (TIt X.K cl E mi)) (ok : BlkOk X.N X.env.scope scope own)
    (hg : ∀ (s : Shared) (H : Hp) (C : Addr) (ce : List (Str × Addr)) (fp : List Addr), PG (X.blk s H scope (compEnvC scope ce C X.env) fp) tg (Tp X.K cl a p))
    (ht : ∀ (s : Shared) (H : Hp) (C : Addr) (ce : List (Str × Addr)) (fp : List Addr), PTs (X.blk s H scope (compEnvC scope ce C X.env) fp) ifs (TB X.K cl F0 mt))
    (he : ∀ (s : Shared) (H : Hp) (C : Addr) (ce : List (Str × Addr)) (fp : List Addr), PE (X.blk s H scope (compEnvC scope ce C X.env) fp) elt (T X.K cl F0 me))
    (ha : ∀ i ∈ a, i ∈ own.map (·.2) := by decide) (hs : ∀ x, foldedSetIterable iter X.env x = pure x := by intro _; rfl) :
    PE X (.ListComp elt [⟨tg, iter, ifs, 0⟩] scope pos) (T X.K cl E (mComp mi p mt me (own.map (·.2)) mk)) :=
  pe_imp (pe_lc hc hN hi ok hg ht he hs) fun σ H Q h => lc_read hk ha h
/-- name = [..] on one line -/
theorem s_setLc (i : Nat) {y : Str} {py spos : Pos} (own : List (Str × Nat)) (hk : MkS X.K cl mk) (hc : X.calm = true) (hN : X.N.Nodup) (hi : PI X tg iter (TIt X.K cl E mi)) (ok : BlkOk X.N X.env.scope scope own)
    (hg : ∀ (s : Shared) (H : Hp) (C : Addr) (ce : List (Str × Addr)) (fp : List Addr), PG (X.blk s H scope (compEnvC scope ce C X.env) fp) tg (Tp X.K cl a p))
    (ht : ∀ (s : Shared) (H : Hp) (C : Addr) (ce : List (Str × Addr)) (fp : List Addr), PTs (X.blk s H scope (compEnvC scope ce C X.env) fp) ifs (TB X.K cl F0 mt))
    (he : ∀ (s : Shared) (H : Hp) (C : Addr) (ce : List (Str × Addr)) (fp : List Addr), PE (X.blk s H scope (compEnvC scope ce C X.env) fp) elt (T X.K cl F0 me))
    (hsw : swapsWith (.ListComp elt [⟨tg, iter, ifs, 0⟩] scope pos) (some (.Name y py)) spos.line X.env = pure true)
    (hy : X.N[i]? = some y := by rfl) (hyl : X.env.scope.names.lookup y = some .local := by rfl)
    (ha : ∀ i ∈ a, i ∈ own.map (·.2) := by decide) (hs : ∀ x, foldedSetIterable iter X.env x = pure x := by intro _; rfl) :
    PS X (.Assign [.Name y py] (.ListComp elt [⟨tg, iter, ifs, 0⟩] scope pos) spos) (Ts X.K cl E (sSet i (mComp mi p mt me (own.map (·.2)) mk))) :=
  ps_imp (ps_setLc hc hN hy hyl hsw hi ok hg ht he hs) fun A σ H ⟨W, ρ, S, hr, en, q⟩ => by
    refine lc_read hk ha ?_
    exact stepS hr en q fun W1 H1 v d S1 l1 r1 e1 rv p1 => p1 W1 H1 _ (.rf W1) r1 (e1.set i rv)

/-! ### what is walked -/
def itD (d : D) (S : Store) : Res Itb := match d with
  | .tup ds => .ok ⟨ds, none⟩ S
  | .lst ds => .ok ⟨ds, none⟩ S
  | .str z => .ok ⟨z.cps.toList.map fun c => .str ⟨#[c]⟩, none⟩ S
  | .ref n => (match S[n]? with
    | some (.lst ds) => .ok ⟨ds, some n⟩ S
    | _ => .stk)
  | _ => .stk
def mIt (m : M D) : M Itb := fun ρ S => (m ρ S).bind fun d S1 => itD d S1
theorem its_tup {K : PySem.W.Frag} {W0 : Wd} {b : Addr} {it : Itb} (h : ∀ W H S, Ls W0 W → R K cl W H S → Grd it S → ∃ vs, SqT K H b vs ∧ Reps K cl W vs it.xs) : ItS K cl W0 (Itt K b) it := fun W H S l r g => by
  obtain ⟨vs, h1, h2⟩ := h W H S l r g
  refine ⟨fun i d e => ?_, ⟨vs, h1, by rw [h2.len]; exact Nat.le_refl _⟩⟩
  obtain ⟨v, q1, q2⟩ := h2.at e
  refine ⟨⟨vs, v, h1, q1⟩, fun x H' ⟨eH, hx⟩ => ⟨W, .rf W, eH ▸ r, ?_⟩⟩
  have := hx vs h1
  rw [q1] at this
  cases this
  exact q2
theorem i_seq {m : M D} {e : Expr} (h : PE X e (T X.K cl E m)) : PI X tg e (TIt X.K cl E (mIt m)) :=
  pi_imp (pi_either (pi_tup h) (pi_either (pi_list h) (pi_str h))) fun σ H Q ⟨W, ρ, S, hr, he, q⟩ => by
    cases e0 : m ρ S with
    | stk => unfold mIt at q; rw [e0] at q; exact q.elim
    | exc x S1 =>
      unfold mIt at q
      rw [e0] at q
      refine .inl ⟨W, ρ, S, hr, he, ?_⟩
      rw [e0]
      exact q
    | ok d S1 =>
      unfold mIt at q
      rw [e0] at q
      replace q : Post X.K cl (ItS X.K cl) W (itD d S1) Q (fun c d H' => E c d σ H') := q
      unfold itD at q
      split at q
      · refine .inl ⟨W, ρ, S, hr, he, ?_⟩
        rw [e0]
        intro W1 H1 v l1 r1 rv
        cases rv with | tup h1 t =>
        refine ⟨_, rfl, ⟨_, sqT_up r1.sub h1⟩, q W1 H1 _ l1 r1 (its_tup fun W2 H2 S2 l2 r2 _ => ⟨_, sqT_up r2.sub (sqT_up l2.g h1), t.ups l2⟩)⟩
      · refine .inr (.inl ⟨W, ρ, S, hr, he, ?_⟩)
        rw [e0]
        intro W1 H1 v l1 r1 rv
        cases rv with | lst h1 t =>
        refine ⟨_, rfl, ⟨_, SqL.of (r1.sub _ _ h1)⟩, q W1 H1 _ l1 r1 ?_⟩
        intro W2 H2 S2 l2 r2 _
        have h2 := r2.sub _ _ (l2.g _ _ h1)
        refine ⟨fun i d e => ?_, ⟨_, SqL.of h2, by rw [t.len]; exact Nat.le_refl _⟩⟩
        obtain ⟨v, q1, q2⟩ := (t.ups l2).at e
        refine ⟨⟨_, v, SqL.of h2, q1⟩, fun x H' ⟨eH, hx⟩ => ⟨W2, .rf W2, eH ▸ r2, ?_⟩⟩
        have := hx _ (SqL.of h2)
        rw [q1] at this
        cases this
        exact q2
      · rename_i z
        refine .inr (.inr ⟨W, ρ, S, hr, he, ?_⟩)
        rw [e0]
        intro W1 H1 v l1 r1 rv
        cases rv
        refine ⟨_, rfl, q W1 H1 _ l1 r1 ?_⟩
        intro W2 H2 S2 l2 r2 _
        refine ⟨fun i d e => ?_, by show _ ≤ _; simp⟩
        rw [List.getElem?_map] at e
        cases ec : z.cps.toList[i]? with
        | none => rw [ec] at e; cases e
        | some c =>
          rw [ec] at e
          cases e
          refine ⟨?_, fun x H' ⟨eH, c', ec', ex⟩ => ⟨W2, .rf W2, eH ▸ r2, ?_⟩⟩
          · have := (List.getElem?_eq_some_iff.mp ec).1
            show i < z.cps.size
            simpa using this
          · rw [Array.getElem?_toList] at ec
            rw [ec] at ec'
            cases ec'
            rw [ex]
            exact .str _
      · rename_i n
        split at q
        · rename_i ds e1
          refine .inr (.inl ⟨W, ρ, S, hr, he, ?_⟩)
          rw [e0]
          intro W1 H1 v l1 r1 rv
          cases rv with | ref hn =>
          obtain ⟨g0, vs, h1, t⟩ := r1.live n _ e1 (by intro z; cases z)
          refine ⟨_, rfl, ⟨_, SqL.of h1⟩, q W1 H1 _ l1 r1 ?_⟩
          intro W2 H2 S2 l2 r2 hg
          have hg : S2[n]? = some (.lst ds) := hg
          obtain ⟨_, ws, h2, t2⟩ := r2.live n _ hg (by intro z; cases z)
          have ea : W2.ι n = W1.ι n := l2.i n hn
          rw [ea] at h2
          refine ⟨fun i d e => ?_, ⟨_, SqL.of h2, by rw [t2.len]; exact Nat.le_refl _⟩⟩
          obtain ⟨v, q1, q2⟩ := t2.at e
          refine ⟨⟨_, v, SqL.of h2, q1⟩, fun x H' ⟨eH, hx⟩ => ⟨W2, .rf W2, eH ▸ r2, ?_⟩⟩
          have := hx _ (SqL.of h2)
          rw [q1] at this
          cases this
          exact q2
        · exact q.elim
      · exact q.elim
def rng1 (as : List D) (S : Store) : Res Itb := match as with
  | [.int n] => if smR n = true then .ok ⟨(List.range n.toNat).map fun i => .int (i : Nat), none⟩ S else .stk
  | _ => .stk
def mRng (f : List D → Store → Res Itb) (m : M (List D)) : M Itb := fun ρ S => (m ρ S).bind fun d S1 => f d S1
theorem its_rng {K : PySem.W.Frag} {W0 : Wd} {lo : Int} {n : Nat} {xs : List D} (hx : xs = (List.range n).map fun i => D.int (lo + (i : Nat))) : ItS K cl W0 (Itr lo n) ⟨xs, none⟩ := fun W H S l r g => by
  subst hx
  refine ⟨fun i d e => ?_, by show n ≤ _; simp⟩
  have e : ((List.range n).map fun i => D.int (lo + (i : Nat)))[i]? = some d := e
  rw [List.getElem?_map] at e
  cases q : (List.range n)[i]? with
  | none => rw [q] at e; cases e
  | some j =>
    rw [q] at e
    cases e
    have hi : i < n := by have := (List.getElem?_eq_some_iff.mp q).1; simpa using this
    have hj : j = i := by rw [List.getElem?_range hi] at q; exact (Option.some.inj q).symm
    subst hj
    refine ⟨hi, fun x H' ⟨eH, ex⟩ => ⟨W, .rf W, eH ▸ r, ?_⟩⟩
    rw [ex]
    exact .int _
theorem i_range1 {e : Expr} {ms : M (List D)} {p pos : Pos} (hm : X.mg "range" = none) (ha : PA X [e] (TL X.K cl E ms)) (hg : Gl X "range" := by rfl) (hs : starEach [e] X.env = [(false, eval e X.env)] := by rfl) :
    PI X tg (.Call (.Name "range" p) [e] [] pos) (TIt X.K cl E (mRng rng1 ms)) :=
  pi_imp (pi_range1 hg hm ha hs) fun σ H Q ⟨W, ρ, S, hr, he, q⟩ => step hr he q fun W1 H1 x dx S1 l1 r1 e1 rx p1 => by
    unfold rng1 at p1
    split at p1
    · rename_i n
      cases rx with | cons ra rn =>
      cases rn; cases ra
      split at p1
      · rename_i hz
        refine ⟨n, rfl, (smR_of hz).1, (smR_of hz).2, p1.now r1 (its_rng ?_)⟩
        simp
      · exact p1.elim
    · exact p1.elim
end

/-! ### calls of defs -/
def ar (n : Nat) (g : List D → Store → Res D) (ds : List D) (S : Store) : Res D := if ds.length = n then g ds S else .stk
def spOf (K : PySem.W.Frag) (cl : Str → Option Addr) (n : Nat) (g : List D → Store → Res D) : Sp := fun vs H Q E => ∃ W S ds, R K cl W H S ∧ Reps K cl W vs ds ∧ Post K cl (Rep K cl) W (ar n g ds S) Q E
def startD (n : Nat) (ds : List D) : Sl := ds.map some ++ List.replicate (n - ds.length) none
def runB (n : Nat) (m : MS) (ds : List D) (S : Store) : Res D := match m (startD n ds) S with
  | .nx _ S => .ok .non S
  | .rt d S => .ok d S
  | .exc x _ S => .exc x S
  | .bk _ _ => .stk
  | .ct _ _ => .stk
  | .stk => .stk
theorem spOf_len {K : PySem.W.Frag} {cl : Str → Option Addr} {n : Nat} {g : List D → Store → Res D} {vs : List V} {H : Hp} {Q : VK} {E : XK} (h : spOf K cl n g vs H Q E) : vs.length = n := by
  obtain ⟨W, S, ds, r, t, p⟩ := h
  unfold ar at p
  by_cases hn : ds.length = n
  · rw [t.len]
    exact hn
  · rw [if_neg hn] at p
    exact p.elim
theorem envs_start {K : PySem.W.Frag} {cl : Str → Option Addr} {W : Wd} {N : List Str} {vs : List V} {ds : List D} (t : Reps K cl W vs ds) : Envs K cl W (L2.start N vs) (startD N.length ds) := by
  unfold L2.start startD
  refine ⟨by simp [t.len], fun i d h => ?_⟩
  by_cases hi : i < ds.length
  · rw [List.getElem?_append_left (by simpa using hi), List.getElem?_map] at h
    cases e : ds[i]? with
    | none => rw [e] at h; cases h
    | some x =>
      rw [e] at h
      cases h
      obtain ⟨v, h1, h2⟩ := t.at e
      refine ⟨v, ?_, h2⟩
      rw [List.getElem?_append_left (by rw [List.length_map, t.len]; exact hi), List.getElem?_map, h1]
      rfl
  · rw [List.getElem?_append_right (by simpa using hi), List.getElem?_replicate] at h
    split at h <;> cases h
section
variable {P : Program} {w : World} {K : PySem.W.Frag} {mg : Str → Option Value} {base : Heap} {cl : Str → Option Addr}
/-- a def, by the semantics of its body -/
theorem fn_sem {x qual : Str} {st : Stmt} {f : Addr} {fd : FuncData} {N ps : List Str} {k n : Nat} {m : MS} (F : Fun K x qual st f fd) (Sc : FnScope N ps (defScope st)) (hn : ps.length = n)
    (body : ∀ (cdv : Value) (A : Around) (outer : List Env) (s : Shared) (H : Hp) (E : XK), Room k (A.deeper (PyProof.Rows.envOfC qual (defScope st) s.heap.objs.size f cdv)) →
      PSs (cxOf (L2.CX P w) P w K mg base N qual (defScope st) f cdv A outer s H E) (defBody st) (Ts K cl (fun c d _ H => E c d H) m)) : FnOk P w K mg base (L2.CX P w) (k + 1) f fd ps (spOf K cl n (runB N.length m)) := by
  refine F.okX Sc (fun vs H Q E h => by rw [spOf_len h, hn]) fun cdv A outer s H vs Q E hr h => ⟨_, body cdv A outer s H E hr, ?_⟩
  obtain ⟨W, S, ds, r, t, p⟩ := h
  refine ⟨W, startD N.length ds, S, r, envs_start t, ?_⟩
  unfold ar at p
  by_cases hn : ds.length = n
  · rw [if_pos hn] at p
    unfold runB at p
    cases e : m (startD N.length ds) S with
    | nx ρ S1 =>
      simp only [e] at p
      exact fun W1 H1 σ l1 r1 e1 => p W1 H1 _ l1 r1 .non
    | rt d S1 => simp only [e] at p; exact p
    | bk ρ S1 => simp only [e] at p; exact p.elim
    | ct ρ S1 => simp only [e] at p; exact p.elim
    | exc x ρ S1 =>
      simp only [e] at p
      exact fun W1 H1 σ c dd l1 r1 e1 x1 => p W1 H1 c dd l1 r1 x1
    | stk => simp only [e] at p; exact p.elim
  · rw [if_neg hn] at p
    exact p.elim
theorem fn_stk {f : Addr} {fd : FuncData} {ps : List Str} {n : Nat} : FnOk P w K mg base (L2.CX P w) 0 f fd ps (spOf K cl n fun _ _ => .stk) := by
  have no : ∀ {vs : List V} {H : Hp} {Q : VK} {E : XK}, spOf K cl n (fun _ _ => .stk) vs H Q E → False := fun h => by
    obtain ⟨W, S, ds, r, t, p⟩ := h
    unfold ar at p
    split at p <;> exact p
  exact ⟨fun vs H Q E h => (no h).elim, fun A outer s H args us vs Q E hr e0 hb r hs => (no hs).elim⟩
end
section
variable {X : Cx} {cl : Str → Option Addr} {E : WX} {k n : Nat} {f : Addr} {fd : FuncData} {ps : List Str} {g : List D → Store → Res D} {x : Str} {p pos : Pos} {e : Expr} {es : List Expr} {ms : M (List D)}
theorem t_call (F : FnOk X.prog X.w X.K X.mg X.base (L2.CX X.prog X.w) k f fd ps (spOf X.K cl n g)) (hr : Room k X.A) (hm : X.mg x = some (.ref f)) (hk : PySem.W.keepIn X.K (.ref f) = true) (hb : Binds X.K fd ps []) (tk : Takes X E)
    (ha : PA X (e :: es) (TL X.K cl E ms)) (hg : Gl X x := by rfl) (hdb : (x == ("__debug__" : Str)) = false := by decide) (he : starEach (e :: es) X.env = (false, eval e X.env) :: starEach es X.env := by rfl) (hpl : (backTo pos (starEach es X.env)).any (·.1) = false := by rfl) :
    PE X (.Call (.Name x p) (e :: es) [] pos) (T X.K cl E (mFn (ar n g) ms)) :=
  pe_imp (pe_callS F hr hg hm hk hb (fun σ => passAt tk σ) ha hdb he hpl) fun σ H Q ⟨W, ρ, S, hr, he, q⟩ => step hr he q fun W1 H1 x dx S1 l1 r1 e1 rx p1 => ⟨W1, S1, dx, r1, rx, p1⟩
end
end G
namespace G
open PySem L2
abbrev wFuel : Nat := 1000000
theorem bt_len : bootBuiltins "len" = some (.builtin "len") := by decide +kernel
theorem bt_all : bootBuiltins "all" = some (.builtin "all") := by decide +kernel
theorem bt_any : bootBuiltins "any" = some (.builtin "any") := by decide +kernel
theorem bt_isinstance : bootBuiltins "isinstance" = some (.builtin "isinstance") := by decide +kernel
theorem bt_int : bootBuiltins "int" = some (.type "int") := by decide +kernel
theorem bt_bool : bootBuiltins "bool" = some (.type "bool") := by decide +kernel
theorem bt_str : bootBuiltins "str" = some (.type "str") := by decide +kernel
theorem bt_list : bootBuiltins "list" = some (.type "list") := by decide +kernel
theorem bt_tuple : bootBuiltins "tuple" = some (.type "tuple") := by decide +kernel
theorem bt_dict : bootBuiltins "dict" = some (.type "dict") := by decide +kernel
section
variable {X : Cx} {cl : Str → Option Addr} {E : WX} {e : Expr} {st : Stmt} {sts : List Stmt} {pos : Pos}
/-- a constant of the module, as the top left it -/
def GlobIs (K : PySem.W.Frag) (cl : Str → Option Addr) (mg : Str → Option Value) (x : Str) (d : D) : Prop := ∃ u v, mg x = some u ∧ RelV v u ∧ ∀ W, Rep K cl W v d
theorem t_glob' {x : Str} {d : D} (h : GlobIs X.K cl X.mg x d) (hg : Gl X x := by rfl) (hd : (x == ("__debug__" : Str)) = false := by decide) : PE X (.Name x pos) (T X.K cl E (mC d)) := by
  obtain ⟨u, v, hm, r, rp⟩ := h
  exact t_glob hm r rp hg hd
end
/-- a def of the module, by its semantics -/
structure Fn (P : Program) (w : World) (K : PySem.W.Frag) (mg : Str → Option Value) (base : Heap) (cl : Str → Option Addr) (x : Str) (k n : Nat) (g : List D → Store → Res D) : Prop where
  ex : ∃ f fd ps, FnOk P w K mg base (L2.CX P w) k f fd ps (spOf K cl n g) ∧ mg x = some (.ref f) ∧ PySem.W.keepIn K (.ref f) = true ∧ Binds K fd ps []
section
variable {X : Cx} {cl : Str → Option Addr} {E : WX} {k n : Nat} {g : List D → Store → Res D} {x : Str} {p pos : Pos} {e : Expr} {es : List Expr} {ms : M (List D)}
theorem t_callF (F : Fn X.prog X.w X.K X.mg X.base cl x k n g) (hr : Room k X.A) (tk : Takes X E) (ha : PA X (e :: es) (TL X.K cl E ms)) (hg : Gl X x := by rfl) (hdb : (x == ("__debug__" : Str)) = false := by decide)
    (he : starEach (e :: es) X.env = (false, eval e X.env) :: starEach es X.env := by rfl) (hpl : (backTo pos (starEach es X.env)).any (·.1) = false := by rfl) :
    PE X (.Call (.Name x p) (e :: es) [] pos) (T X.K cl E (mFn (ar n g) ms)) := by
  obtain ⟨f, fd, ps, h1, h2, h3, h4⟩ := F.ex
  exact t_call h1 hr h2 h3 h4 tk ha hg hdb he hpl
theorem t_callF0 (F : Fn X.prog X.w X.K X.mg X.base cl x k n g) (hr : Room k X.A) (tk : Takes X E) (hg : Gl X x := by rfl) (hdb : (x == ("__debug__" : Str)) = false := by decide) :
    PE X (.Call (.Name x p) [] [] pos) (T X.K cl E (mFn (ar n g) mNil)) := by
  obtain ⟨f, fd, ps, h1, h2, h3, h4⟩ := F.ex
  refine ⟨fun pins s σ H Q I ⟨W, ρ, S, hr', he', q⟩ => ?_⟩
  have hsp : spOf X.K cl n g [] H Q (WE E σ) := ⟨W, S, [], hr', .nil, q⟩
  refine wpAny_Call_Name_kw (ld_glob I hg h2 (PySem.W.callWith_K0 I.kIn h3 ?_) hdb)
  exact run_fnS (us := []) (vs := []) h1 hr h4 (passAt tk σ) I .nil hsp
end

/-! ### isinstance -/
inductive Kd where
  | non | bl | int | str | tup | lst | dct
def kd (S : Store) (d : D) : Option Kd := match d with
  | .non => some .non
  | .bl _ => some .bl
  | .int _ => some .int
  | .str _ => some .str
  | .tup _ => some .tup
  | .lst _ => some .lst
  | .dct _ => some .dct
  | .ref n => (match S[n]? with
    | some (.lst _) => some .lst
    | some (.dct _) => some .dct
    | _ => none)
  | _ => none
def Kd.ty : Kd → String
  | .non => "NoneType" | .bl => "bool" | .int => "int" | .str => "str" | .tup => "tuple" | .lst => "list" | .dct => "dict"
def isiD (f : Kd → Bool) (d : D) (S : Store) : Res D := ofB ((kd S d).map f) S
def k_int : Kd → Bool
  | .int => true | .bl => true | _ => false
def k_bool : Kd → Bool
  | .bl => true | _ => false
def k_str : Kd → Bool
  | .str => true | _ => false
def k_list : Kd → Bool
  | .lst => true | _ => false
def k_tuple : Kd → Bool
  | .tup => true | _ => false
def k_dict : Kd → Bool
  | .dct => true | _ => false
def k_list_tuple : Kd → Bool
  | .lst => true | .tup => true | _ => false
def IsK (T : String) (f : Kd → Bool) : Prop := ∀ k : Kd, kitB k.ty T = some (f k)
theorem is_int : IsK "int" k_int := fun k => by cases k <;> decide +kernel
theorem is_bool : IsK "bool" k_bool := fun k => by cases k <;> decide +kernel
theorem is_str : IsK "str" k_str := fun k => by cases k <;> decide +kernel
theorem is_list : IsK "list" k_list := fun k => by cases k <;> decide +kernel
theorem is_tuple : IsK "tuple" k_tuple := fun k => by cases k <;> decide +kernel
theorem is_dict : IsK "dict" k_dict := fun k => by cases k <;> decide +kernel
theorem kd_of {K : PySem.W.Frag} {cl : Str → Option Addr} {W : Wd} {H : Hp} {S : Store} {x : V} {d : D} {k : Kd} (r : R K cl W H S) (rx : Rep K cl W x d) (e : kd S d = some k) : TyX K H x (.type k.ty) := by
  cases rx with
  | non => cases e; exact .base .non
  | bl b => cases e; exact .base (.bl b)
  | int b => cases e; exact .base (.int b)
  | str b => cases e; exact .base (.str b)
  | tup h t =>
    cases e
    rcases h with (h | ⟨o, h⟩) | h
    · exact .base (.tup (r.sub _ _ h))
    · exact .fTuple (r.sub _ _ h)
    · obtain ⟨o, _, _, hk, hc, _⟩ := h
      exact .kTuple hk hc
  | lst h t => cases e; exact .base (.lst (r.sub _ _ h))
  | dct h t => cases e; exact .fDict (r.sub _ _ h)
  | ins h c t => cases e
  | exv0 => cases e
  | exv1 => cases e
  | scr h => cases e
  | @ref n hn =>
    unfold kd at e
    dsimp only at e
    cases q : S[n]? with
    | none => rw [q] at e; cases e
    | some mo =>
      rw [q] at e
      cases mo with
      | lst ys =>
        cases e
        obtain ⟨_, vs, h1, h2⟩ := r.live n _ q (by intro z; cases z)
        exact .base (.lst h1)
      | dct ys =>
        cases e
        obtain ⟨_, vs, h1, h2⟩ := r.live n _ q (by intro z; cases z)
        exact .base (.dK h1)
      | ldc ys => cases e
      | ins c fs => cases e
      | dead => cases e
section
variable {X : Cx} {cl : Str → Option Addr} {E : WX} {a b : Expr} {m : M D} {p p2 pos : Pos} {x : Str} {T' : String} {f : Kd → Bool}
theorem t_isi (hk : IsK T' f) (hm : X.mg "isinstance" = none) (hm2 : X.mg x = none) (hv : bootBuiltins x = some (.type T')) (ha : PE X a (T X.K cl E m)) (hg : Gl X "isinstance" := by rfl) (hg2 : Gl X x := by rfl) (hn : x ≠ "__name__" := by decide) (hdb : (x == ("__debug__" : Str)) = false := by decide)
    (hs : starEach [.Name x p2] X.env = (false, eval (.Name x p2) X.env) :: starEach [] X.env := by rfl)
    (he : starEach [a, .Name x p2] X.env = (false, eval a X.env) :: starEach [.Name x p2] X.env := by rfl) (hpl : (backTo pos (starEach [.Name x p2] X.env)).any (·.1) = false := by rfl) :
    PE X (.Call (.Name "isinstance" p) [a, .Name x p2] [] pos) (T X.K cl E (mUn (isiD f) m)) :=
  pe_imp (pe_callB call_isi hg hm bt_isinstance (pa_cons ha (pa_cons (pe_bltn (v := .ty T') hg2 hm2 hv rfl hn hdb) pa_nil hs) he) (by decide) (by decide) he hpl) fun σ H Q ⟨W, ρ, S, hr, en, q⟩ =>
    step hr en q fun W1 H1 v d S1 l1 r1 e1 rv p1 => by
      unfold isiD at p1
      cases e2 : kd S1 d with
      | none => rw [e2] at p1; exact p1.elim
      | some k =>
        rw [e2] at p1
        exact ⟨v, .ty T', _, _, f k, rfl, .ty T', kd_of r1 rv e2, kit_ty (hk k), p1.now r1 (.bl _)⟩
end

/-! ### methods of built-in types -/
def tyD (T : String) (S : Store) (d : D) : Bool := match d with
  | .str _ => T == "str"
  | .lst _ => T == "list"
  | .ref n => (match S[n]? with
    | some (.lst _) => T == "list"
    | some (.dct _) => T == "dict"
    | _ => false)
  | _ => false
def mMt (T : String) (g : D → List D → Store → Res D) (o : M D) (a : M (List D)) : M D := fun ρ S => (o ρ S).bind fun x S1 => if tyD T S1 x = true then (a ρ S1).bind fun y S2 => g x y S2 else .stk
theorem tyV_of {K : PySem.W.Frag} {cl : Str → Option Addr} {W : Wd} {H : Hp} {S : Store} {x : V} {d : D} {T : String} (r : R K cl W H S) (rx : Rep K cl W x d) (e : tyD T S d = true) : tyV K T x H := by
  cases rx with
  | str z => exact beq_iff_eq.mp e
  | lst h t => exact .inl ⟨beq_iff_eq.mp e, _, SqL.of (r.sub _ _ h)⟩
  | @ref n hn =>
    unfold tyD at e
    dsimp only at e
    cases q : S[n]? with
    | none => rw [q] at e; cases e
    | some mo =>
      rw [q] at e
      cases mo with
      | lst ys =>
        obtain ⟨_, vs, h1, h2⟩ := r.live n _ q (by intro z; cases z)
        exact .inl ⟨beq_iff_eq.mp e, _, SqL.of h1⟩
      | dct ys =>
        obtain ⟨_, vs, h1, h2⟩ := r.live n _ q (by intro z; cases z)
        exact .inr (.inr (.inl ⟨beq_iff_eq.mp e, .inl ⟨_, h1⟩⟩))
      | ldc ys => cases e
      | ins c fs => cases e
      | dead => cases e
  | _ => cases e
section
variable {X : Cx} {cl : Str → Option Addr} {E : WX} {o e : Expr} {es : List Expr} {m : M D} {ms : M (List D)} {name : Str} {apos cpos : Pos} {T' id : String} {r : V → List V → Hp → VK → Prop} {g : D → List D → Store → Res D}
theorem t_bm (pa : PlainAttrs T') (slot : Slot T' name id) (hty : typeOf (.builtin id) = pure (.type "method_descriptor")) (hm : MtR X id r) (hs : MtS X.K cl r g) (ho : PE X o (T X.K cl E m)) (ha : PA X (e :: es) (TL X.K cl E ms))
    (hbase : attributeBase o name X.env (eval o X.env) = eval o X.env := by rfl)
    (hfew : ((backTo cpos (starEach (e :: es) X.env)).all (fun x => !x.1) && (backToKw cpos (keywordEach [] X.env)).all (fun x => x.1.isSome) && decide ((e :: es).length + ([] : List Keyword).length + (if ([] : List Keyword).isEmpty then 0 else 1) < 30)) = true := by rfl)
    (hline : (apos.endLine == cpos.line) = true := by rfl) (hse : starEach (e :: es) X.env = (false, eval e X.env) :: starEach es X.env := by rfl) (hpl : (backTo cpos (starEach es X.env)).any (·.1) = false := by rfl) :
    PE X (.Call (.Attribute o name apos) (e :: es) [] cpos) (T X.K cl E (mMt T' g m ms)) :=
  pe_imp (pe_bm pa slot hty hm ho ha hbase hfew hline hse hpl) fun σ H Q ⟨W, ρ, S, hr, en, q⟩ => step hr en q fun W1 H1 v d S1 l1 r1 e1 rv p1 => by
    by_cases ht : tyD T' S1 d = true
    · rw [if_pos ht] at p1
      exact ⟨tyV_of r1 rv ht, step r1 e1 p1 fun W2 H2 ys ds S2 l2 r2 e2 ry p2 => hs _ _ _ _ _ _ _ _ _ r2 (rv.up l2) ry p2⟩
    · rw [if_neg ht] at p1
      exact p1.elim
end
/-- sep.join -/
def stO : D → Option Str
  | .str b => some b
  | _ => none
def stsO : List D → Option (List Str)
  | [] => some []
  | d :: ds => (match stO d, stsO ds with
    | some b, some bs => some (b :: bs)
    | _, _ => none)
theorem sts_of {K : PySem.W.Frag} {cl : Str → Option Addr} {W : Wd} : ∀ {vs : List V} {ds : List D} {bs : List Str}, Reps K cl W vs ds → stsO ds = some bs → vs = bs.map V.str
  | _, _, _, .nil, e => by cases e; rfl
  | _, _, _, .cons (d := d) (ds := ds) h t, e => by
    unfold stsO at e
    cases e1 : stO d with
    | none => rw [e1] at e; cases e
    | some v =>
      cases e2 : stsO ds with
      | none => rw [e1, e2] at e; cases e
      | some vs =>
        rw [e1, e2] at e
        cases e
        rw [sts_of t e2]
        cases h <;> first | (cases e1; rfl) | cases e1
def joinD (x : D) (ys : List D) (S : Store) : Res D := match x, ys with
  | .str a, [y] => (match (sqOf S y).bind stsO with
    | some bs => if (bs.map (·.length)).sum + bs.length * a.length ≤ 16777216 then .ok (.str (Txt.join a bs)) S else .stk
    | none => .stk)
  | _, _ => .stk
theorem join_s {K : PySem.W.Frag} {cl : Str → Option Addr} : MtS K cl (fun x xs H Q => ∃ a p, ∃ ys : List Str, x = .str a ∧ xs = [.ref p] ∧ (SqL K H p (ys.map V.str) ∨ SqT K H p (ys.map V.str)) ∧
    (ys.map (·.length)).sum + ys.length * a.length ≤ 16777216 ∧ Q (.str (Txt.join a ys)) H) joinD := by
  intro W H S x a y b Q E r rx ry p
  unfold joinD at p
  split at p
  · rename_i z d
    cases rx
    cases ry with | cons ry rn =>
    cases rn
    split at p
    · rename_i bs eb
      cases e1 : sqOf S d with
      | none => rw [e1] at eb; cases eb
      | some ds =>
        rw [e1] at eb
        obtain ⟨q, vs, rfl, h, t⟩ := sq_of' r ry e1
        have ev := sts_of t (show stsO ds = some bs from eb)
        subst ev
        split at p
        · rename_i hz
          exact ⟨_, _, bs, rfl, rfl, h, hz, p.now r (.str _)⟩
        · exact p.elim
    · exact p.elim
  · exact p.elim
/-- append -/
def appD (x : D) (ys : List D) (S : Store) : Res D := match x, ys with
  | .ref n, [y] => (match S[n]? with
    | some (.lst xs) => if xs.length < sizeLine then .ok .non (S.set n (.lst (xs ++ [y]))) else .stk
    | _ => .stk)
  | _, _ => .stk
theorem app_s {K : PySem.W.Frag} {cl : Str → Option Addr} : MtS K cl rAppend appD := by
  intro W H S x a y b Q E r rx ry p
  unfold appD at p
  split at p
  · rename_i n d
    cases rx with | ref hn =>
    cases ry with | cons ry rn =>
    cases rn
    split at p
    · rename_i xs e1
      obtain ⟨_, vs, h1, h2⟩ := r.live n _ e1 (by intro z; cases z)
      split at p
      · rename_i hz
        exact ⟨_, vs, _, rfl, rfl, h1, by rw [h2.len]; exact hz, p W _ _ (.rf W) (r.put e1 (by intro z; cases z) ⟨_, upd_same, h2.app (.cons ry .nil)⟩) .non⟩
      · exact p.elim
    · exact p.elim
  · exact p.elim
section
variable {X : Cx} {cl : Str → Option Addr} {E : WX} {o e a b : Expr} {es : List Expr} {m : M D} {ms : M (List D)} {px py pt pt2 pos : Pos} {kt k2 : Nat}
/-- x, y = a, b -/
def sPar (i j : Nat) (a : M (List D)) : MS := fun ρ S => sB (a ρ S) ρ fun ds S1 => match ds with
  | [v, w] => .nx ((ρ.set i (some v)).set j (some w)) S1
  | _ => .stk
end
end G
/-! zip of two and three lists or tuples, enumerate: over the walks that tell the new tuple -/
namespace G
open PySem L2
/-! a source: a tuple (true) or a list (false) -/
def SqK (k : Bool) (K : PySem.W.Frag) (H : Hp) (a : Addr) (xs : List V) : Prop := if k = true then SqT K H a xs else SqL K H a xs
def HsK (k : Bool) (h : Heap) (a : Addr) (its : Array Value) : Prop := if k = true then h.IsTuple a its else h.IsList a its
theorem inv_K {X : Cx} {pins : List (Addr × Obj)} {σ : L2.St} {H : Hp} {s : Shared} {k : Bool} {a : Addr} {xs : List V} (J : Inv X pins σ H s) (h : SqK k X.K H a xs) : ∃ us : List Value, Vals xs us ∧ HsK k s.heap a us.toArray ∧ a < s.heap.objs.size := by
  cases k
  · obtain ⟨us, rv, p, _⟩ := J.list h
    exact ⟨us, rv, p.isList, p.lt⟩
  · obtain ⟨us, rv, p, _⟩ := J.tuple h
    obtain ⟨o, e, _⟩ := id p
    exact ⟨us, rv, p, Heap.lt_size e⟩
section
variable {X : Cx} {cl : Str → Option Addr} {E : WX} {e e2 e3 : Expr} {ms : M (List D)} {p pos tpos : Pos} {elts : List Expr} {kk : Nat}
end
end G
/-! running the semantics by simp: from the left, never under a continuation -/
namespace G
open PySem L2
def oB (o : Out) (f : Sl → Store → Out) : Out := match o with
  | .nx ρ S => f ρ S
  | o => o
def fB (o : Out) (f : Sl → Store → Out) : Out := match o with
  | .nx ρ S => f ρ S
  | .ct ρ S => f ρ S
  | .bk ρ S => .nx ρ S
  | .rt d S => .rt d S
  | .exc x ρ S => .exc x ρ S
  | .stk => .stk
def rB (o : Out) : Res D := match o with
  | .nx _ S => .ok .non S
  | .rt d S => .ok d S
  | .exc x _ S => .exc x S
  | .bk _ _ => .stk
  | .ct _ _ => .stk
  | .stk => .stk
def vO (o : Option (Option D)) (S : Store) : Res D := match o with
  | some (some d) => .ok d S
  | _ => .stk
def pO (o : Option Sl) (S : Store) : Out := match o with
  | some ρ => .nx ρ S
  | none => .stk
def qO (o : Option Store) (ρ : Sl) : Out := match o with
  | some S => .nx ρ S
  | none => .stk
def gO (o : Option (Option D)) (f : D → Out) : Out := match o with
  | some (some d) => f d
  | _ => .stk
def prO (d : D) (S : Store) : Res (Option Int) := match d with
  | .int i => .ok (some i) S
  | _ => .stk
/-! the continuations, by name -/
section
variable (ρ : Sl)
def kOp (g : D → D → Store → Res D) (b : M D) (x : D) (S : Store) : Res D := (b ρ S).bind (g x)
def kC (x : D) (y : List D) (S : Store) : Res (List D) := .ok (x :: y) S
def kCons (b : M (List D)) (x : D) (S : Store) : Res (List D) := (b ρ S).bind (kC x)
def kIte (a b : M D) (k : Bool) (S : Store) : Res D := if k = true then a ρ S else b ρ S
def kAnd (b : M Bool) (k : Bool) (S : Store) : Res Bool := if k = true then b ρ S else .ok false S
def kOr (b : M Bool) (k : Bool) (S : Store) : Res Bool := if k = true then .ok true S else b ρ S
def kNot (k : Bool) (S : Store) : Res Bool := .ok (!k) S
def kAndV2 (b : M D) (x : D) (k : Bool) (S : Store) : Res D := if k = true then b ρ S else .ok x S
def kAndV (b : M D) (x : D) (S : Store) : Res D := (truD x S).bind (kAndV2 ρ b x)
def kOrV2 (b : M D) (x : D) (k : Bool) (S : Store) : Res D := if k = true then .ok x S else b ρ S
def kOrV (b : M D) (x : D) (S : Store) : Res D := (truD x S).bind (kOrV2 ρ b x)
def kNotV2 (k : Bool) (S : Store) : Res D := .ok (.bl (!k)) S
def kNotV (x : D) (S : Store) : Res D := (truD x S).bind kNotV2
def kCh4 (g' : D → D → Store → Res D) (c : M D) (y : D) (k : Bool) (S : Store) : Res D := if k = true then (c ρ S).bind (g' y) else .ok (.bl false) S
def kCh3 (g' : D → D → Store → Res D) (c : M D) (y z : D) (S : Store) : Res D := (asB z S).bind (kCh4 ρ g' c y)
def kCh2 (g g' : D → D → Store → Res D) (c : M D) (x y : D) (S : Store) : Res D := (g x y S).bind (kCh3 ρ g' c y)
def kCh (g g' : D → D → Store → Res D) (b c : M D) (x : D) (S : Store) : Res D := (b ρ S).bind (kCh2 ρ g g' c x)
def kSl2 (g : D → Option Int → Option Int → Store → Res D) (h : M (Option Int)) (x : D) (lo : Option Int) (S : Store) : Res D := (h ρ S).bind (g x lo)
def kSl (g : D → Option Int → Option Int → Store → Res D) (l h : M (Option Int)) (x : D) (S : Store) : Res D := (l ρ S).bind (kSl2 ρ g h x)
def kMt (t : String) (g : D → List D → Store → Res D) (a : M (List D)) (x : D) (S : Store) : Res D := if tyD t S x = true then (a ρ S).bind (g x) else .stk
noncomputable def kComp (p : Pt) (t : M Bool) (e : M D) (vs : List Nat) (mk : List D → Store → Res D) (it : Itb) (S : Store) : Res D := (compL it p t e (wipeD ρ vs) it.xs 0 S).bind mk
def kSet (n : Nat) (d : D) (S : Store) : Out := .nx (ρ.set n (some d)) S
def kAsg (p : Pt) (d : D) (S : Store) : Out := pO (p d ρ) S
def kExpr (_ : D) (S : Store) : Out := .nx ρ S
def kIf (a b : MS) (k : Bool) (S : Store) : Out := if k = true then a ρ S else b ρ S
def kAug2 (n : Nat) (g : D → D → Store → Res D) (x y : D) (S : Store) : Out := sB (g x y S) ρ (kSet ρ n)
def kAug (n : Nat) (g : D → D → Store → Res D) (m : M D) (S : Store) (x : D) : Out := sB (m ρ S) ρ (kAug2 ρ n g x)
def kPut3 (v x y : D) (S : Store) : Out := qO (putD x y v S) ρ
def kPut2 (i : M D) (v x : D) (S : Store) : Out := sB (i ρ S) ρ (kPut3 ρ v x)
def kPut (o i : M D) (v : D) (S : Store) : Out := sB (o ρ S) ρ (kPut2 ρ i v)
noncomputable def kFor (p : Pt) (b : MS) (it : Itb) (S : Store) : Out := forL it p b it.xs ρ S
def kWh (c : M Bool) (b : MS) (n : Nat) (k : Bool) (S : Store) : Out := if k = true then fB (b ρ S) (whileF c b n) else .nx ρ S
def kCp3 (x : D) (xs : List D) (S : Store) : Res (List D) := .ok (x :: xs) S
noncomputable def kCp2 (it : Itb) (p : Pt) (t : M Bool) (e : M D) (ds : List D) (n : Nat) (x : D) (S : Store) : Res (List D) := if n < sizeLine then (compL it p t e ρ ds (n + 1) S).bind (kCp3 x) else .stk
noncomputable def kCp (it : Itb) (p : Pt) (t : M Bool) (e : M D) (ds : List D) (n : Nat) (ρ1 : Sl) (k : Bool) (S : Store) : Res (List D) := if k = true then (e ρ1 S).nox.bind (kCp2 ρ it p t e ds n) else compL it p t e ρ ds n S
end
def rtO (d : D) (S : Store) : Out := .rt d S
section
variable {α β : Type} {ρ : Sl} {S S1 : Store} {d x y z : D} {ds es : List D} {i j : Int} {n : Nat}
@[simp] theorem oB_nx {f : Sl → Store → Out} : oB (.nx ρ S) f = f ρ S := nrfl rfl
@[simp] theorem oB_rt {f : Sl → Store → Out} : oB (.rt d S) f = .rt d S := nrfl rfl
@[simp] theorem oB_bk {f : Sl → Store → Out} : oB (.bk ρ S) f = .bk ρ S := nrfl rfl
@[simp] theorem oB_ct {f : Sl → Store → Out} : oB (.ct ρ S) f = .ct ρ S := nrfl rfl
@[simp] theorem oB_exc {f : Sl → Store → Out} {x : Exc} : oB (.exc x ρ S) f = .exc x ρ S := nrfl rfl
@[simp] theorem oB_stk {f : Sl → Store → Out} : oB .stk f = .stk := nrfl rfl
@[simp] theorem fB_nx {f : Sl → Store → Out} : fB (.nx ρ S) f = f ρ S := nrfl rfl
@[simp] theorem fB_ct {f : Sl → Store → Out} : fB (.ct ρ S) f = f ρ S := nrfl rfl
@[simp] theorem fB_bk {f : Sl → Store → Out} : fB (.bk ρ S) f = .nx ρ S := nrfl rfl
@[simp] theorem fB_rt {f : Sl → Store → Out} : fB (.rt d S) f = .rt d S := nrfl rfl
@[simp] theorem fB_exc {f : Sl → Store → Out} {x : Exc} : fB (.exc x ρ S) f = .exc x ρ S := nrfl rfl
@[simp] theorem fB_stk {f : Sl → Store → Out} : fB .stk f = .stk := nrfl rfl
@[simp] theorem rB_nx : rB (.nx ρ S) = .ok .non S := nrfl rfl
@[simp] theorem rB_rt : rB (.rt d S) = .ok d S := nrfl rfl
@[simp] theorem rB_exc {x : Exc} : rB (.exc x ρ S) = .exc x S := nrfl rfl
@[simp] theorem rB_stk : rB .stk = .stk := nrfl rfl
@[simp] theorem vO_some : vO (some (some d)) S = .ok d S := nrfl rfl
@[simp] theorem pO_some : pO (some ρ) S = .nx ρ S := nrfl rfl
@[simp] theorem qO_some : qO (some S) ρ = .nx ρ S := nrfl rfl
@[simp] theorem gO_some {f : D → Out} : gO (some (some d)) f = f d := nrfl rfl
@[simp] theorem prO_int : prO (.int i) S = .ok (some i) S := nrfl rfl
@[simp] theorem rtO_eq : rtO d S = .rt d S := nrfl rfl
@[simp] theorem e_var : mVar n ρ S = vO ρ[n]? S := by
  unfold mVar vO
  rfl
@[simp] theorem e_c : mC d ρ S = .ok d S := nrfl rfl
@[simp] theorem e_op {g : D → D → Store → Res D} {a b : M D} : mOp g a b ρ S = (a ρ S).bind (kOp ρ g b) := nrfl rfl
@[simp] theorem e_op2 {g : D → D → Store → Res D} {b : M D} : kOp ρ g b x S = (b ρ S).bind (g x) := nrfl rfl
@[simp] theorem e_un {g : D → Store → Res D} {a : M D} : mUn g a ρ S = (a ρ S).bind g := nrfl rfl
@[simp] theorem e_nil : mNil ρ S = .ok [] S := nrfl rfl
@[simp] theorem e_cons {a : M D} {b : M (List D)} : mCons a b ρ S = (a ρ S).bind (kCons ρ b) := nrfl rfl
@[simp] theorem e_cons2 {b : M (List D)} : kCons ρ b x S = (b ρ S).bind (kC x) := nrfl rfl
@[simp] theorem e_cons3 : kC x ds S = .ok (x :: ds) S := nrfl rfl
@[simp] theorem e_fn {g : List D → Store → Res D} {a : M (List D)} : mFn g a ρ S = (a ρ S).bind g := nrfl rfl
@[simp] theorem e_ite {c : M Bool} {a b : M D} : mIte c a b ρ S = (c ρ S).bind (kIte ρ a b) := nrfl rfl
@[simp] theorem e_ite2 {a b : M D} {k : Bool} : kIte ρ a b k S = if k = true then a ρ S else b ρ S := nrfl rfl
@[simp] theorem e_asB {b : Bool} : asB (.bl b) S = .ok b S := nrfl rfl
@[simp] theorem e_test {a : M D} : mTest a ρ S = (a ρ S).bind asB := nrfl rfl
@[simp] theorem e_tru {a : M D} : mTru a ρ S = (a ρ S).bind truD := nrfl rfl
@[simp] theorem e_and {a b : M Bool} : mAnd a b ρ S = (a ρ S).bind (kAnd ρ b) := nrfl rfl
@[simp] theorem e_and2 {b : M Bool} {k : Bool} : kAnd ρ b k S = if k = true then b ρ S else .ok false S := nrfl rfl
@[simp] theorem e_or {a b : M Bool} : mOr a b ρ S = (a ρ S).bind (kOr ρ b) := nrfl rfl
@[simp] theorem e_or2 {b : M Bool} {k : Bool} : kOr ρ b k S = if k = true then .ok true S else b ρ S := nrfl rfl
@[simp] theorem e_not {a : M Bool} : mNot a ρ S = (a ρ S).bind kNot := nrfl rfl
@[simp] theorem e_not2 {k : Bool} : kNot k S = .ok (!k) S := nrfl rfl
@[simp] theorem e_andV {a b : M D} : mAndV a b ρ S = (a ρ S).bind (kAndV ρ b) := nrfl rfl
@[simp] theorem e_andV2 {b : M D} : kAndV ρ b x S = (truD x S).bind (kAndV2 ρ b x) := nrfl rfl
@[simp] theorem e_andV3 {b : M D} {k : Bool} : kAndV2 ρ b x k S = if k = true then b ρ S else .ok x S := nrfl rfl
@[simp] theorem e_orV {a b : M D} : mOrV a b ρ S = (a ρ S).bind (kOrV ρ b) := nrfl rfl
@[simp] theorem e_orV2 {b : M D} : kOrV ρ b x S = (truD x S).bind (kOrV2 ρ b x) := nrfl rfl
@[simp] theorem e_orV3 {b : M D} {k : Bool} : kOrV2 ρ b x k S = if k = true then .ok x S else b ρ S := nrfl rfl
@[simp] theorem e_notV {a : M D} : mNotV a ρ S = (a ρ S).bind kNotV := nrfl rfl
@[simp] theorem e_notV2 : kNotV x S = (truD x S).bind kNotV2 := nrfl rfl
@[simp] theorem e_notV3 {k : Bool} : kNotV2 k S = .ok (.bl (!k)) S := nrfl rfl
@[simp] theorem e_chain {g g' : D → D → Store → Res D} {a b c : M D} : mChain g g' a b c ρ S = (a ρ S).bind (kCh ρ g g' b c) := nrfl rfl
@[simp] theorem e_chain2 {g g' : D → D → Store → Res D} {b c : M D} : kCh ρ g g' b c x S = (b ρ S).bind (kCh2 ρ g g' c x) := nrfl rfl
@[simp] theorem e_chain3 {g g' : D → D → Store → Res D} {c : M D} : kCh2 ρ g g' c x y S = (g x y S).bind (kCh3 ρ g' c y) := nrfl rfl
@[simp] theorem e_chain4 {g' : D → D → Store → Res D} {c : M D} : kCh3 ρ g' c y z S = (asB z S).bind (kCh4 ρ g' c y) := nrfl rfl
@[simp] theorem e_chain5 {g' : D → D → Store → Res D} {c : M D} {k : Bool} : kCh4 ρ g' c y k S = if k = true then (c ρ S).bind (g' y) else .ok (.bl false) S := nrfl rfl
@[simp] theorem e_noPart : mNoPart ρ S = .ok none S := nrfl rfl
@[simp] theorem e_part {a : M D} : mPart a ρ S = (a ρ S).bind prO := by
  unfold mPart
  rfl
@[simp] theorem e_sl {g : D → Option Int → Option Int → Store → Res D} {a : M D} {l h : M (Option Int)} : mSl g a l h ρ S = (a ρ S).bind (kSl ρ g l h) := nrfl rfl
@[simp] theorem e_sl2 {g : D → Option Int → Option Int → Store → Res D} {l h : M (Option Int)} : kSl ρ g l h x S = (l ρ S).bind (kSl2 ρ g h x) := nrfl rfl
@[simp] theorem e_sl3 {g : D → Option Int → Option Int → Store → Res D} {h : M (Option Int)} {lo : Option Int} : kSl2 ρ g h x lo S = (h ρ S).bind (g x lo) := nrfl rfl
@[simp] theorem e_mt {t : String} {g : D → List D → Store → Res D} {o : M D} {a : M (List D)} : mMt t g o a ρ S = (o ρ S).bind (kMt ρ t g a) := nrfl rfl
@[simp] theorem e_mt2 {t : String} {g : D → List D → Store → Res D} {a : M (List D)} : kMt ρ t g a x S = if tyD t S x = true then (a ρ S).bind (g x) else .stk := nrfl rfl
@[simp] theorem e_rng {f : List D → Store → Res Itb} {m : M (List D)} : mRng f m ρ S = (m ρ S).bind f := nrfl rfl
@[simp] theorem e_it {m : M D} : mIt m ρ S = (m ρ S).bind itD := nrfl rfl
@[simp] theorem e_yes : mYes ρ S = .ok true S := nrfl rfl
@[simp] theorem e_comp {m : M Itb} {p : Pt} {t : M Bool} {e : M D} {vs : List Nat} {mk : List D → Store → Res D} : mComp m p t e vs mk ρ S = (m ρ S).bind (kComp ρ p t e vs mk) := nrfl rfl
@[simp] theorem e_comp2 {p : Pt} {t : M Bool} {e : M D} {vs : List Nat} {mk : List D → Store → Res D} {it : Itb} : kComp ρ p t e vs mk it S = (compL it p t e (wipeD ρ vs) it.xs 0 S).bind mk := nrfl rfl
@[simp] theorem e_ar {g : List D → Store → Res D} : ar n g ds S = if ds.length = n then g ds S else .stk := nrfl rfl
theorem run_eq {m : MS} : runB n m ds S = rB (m (startD n ds) S) := by
  unfold runB rB
  rfl
@[simp] theorem e_frz : frzD ds S = .ok (.lst ds) S := nrfl rfl
/-! statements -/
@[simp] theorem x_pass : sPass ρ S = .nx ρ S := nrfl rfl
@[simp] theorem x_set {m : M D} : sSet n m ρ S = sB (m ρ S) ρ (kSet ρ n) := nrfl rfl
@[simp] theorem x_set2 : kSet ρ n d S = .nx (ρ.set n (some d)) S := nrfl rfl
@[simp] theorem x_asg {p : Pt} {m : M D} : sAsg p m ρ S = sB (m ρ S) ρ (kAsg ρ p) := by
  unfold sAsg
  rfl
@[simp] theorem x_asg2 {p : Pt} : kAsg ρ p d S = pO (p d ρ) S := nrfl rfl
@[simp] theorem x_expr {m : M D} : sExpr m ρ S = sB (m ρ S) ρ (kExpr ρ) := nrfl rfl
@[simp] theorem x_expr2 : kExpr ρ d S = .nx ρ S := nrfl rfl
@[simp] theorem x_ret {m : M D} : sRet m ρ S = sB (m ρ S) ρ rtO := nrfl rfl
@[simp] theorem x_if {c : M Bool} {a b : MS} : sIf c a b ρ S = sB (c ρ S) ρ (kIf ρ a b) := nrfl rfl
@[simp] theorem x_if2 {a b : MS} {k : Bool} : kIf ρ a b k S = if k = true then a ρ S else b ρ S := nrfl rfl
@[simp] theorem x_seq {a b : MS} : sSeq a b ρ S = oB (a ρ S) b := by
  unfold sSeq oB
  rfl
@[simp] theorem x_aug {g : D → D → Store → Res D} {m : M D} : sAug n g m ρ S = gO ρ[n]? (kAug ρ n g m S) := by
  unfold sAug gO
  rfl
@[simp] theorem x_aug2 {g : D → D → Store → Res D} {m : M D} : kAug ρ n g m S x = sB (m ρ S) ρ (kAug2 ρ n g x) := nrfl rfl
@[simp] theorem x_aug3 {g : D → D → Store → Res D} : kAug2 ρ n g x y S = sB (g x y S) ρ (kSet ρ n) := nrfl rfl
@[simp] theorem x_put {o i e : M D} : sPut o i e ρ S = sB (e ρ S) ρ (kPut ρ o i) := by
  unfold sPut
  rfl
@[simp] theorem x_put2 {o i : M D} : kPut ρ o i d S = sB (o ρ S) ρ (kPut2 ρ i d) := nrfl rfl
@[simp] theorem x_put3 {i : M D} : kPut2 ρ i d x S = sB (i ρ S) ρ (kPut3 ρ d x) := nrfl rfl
@[simp] theorem x_put4 : kPut3 ρ d x y S = qO (putD x y d S) ρ := nrfl rfl
@[simp] theorem x_for {m : M Itb} {p : Pt} {b : MS} : sFor m p b ρ S = sB (m ρ S) ρ (kFor ρ p b) := nrfl rfl
@[simp] theorem x_for2 {p : Pt} {b : MS} {it : Itb} : kFor ρ p b it S = forL it p b it.xs ρ S := nrfl rfl
theorem x_wh {c : M Bool} {b : MS} : whileF c b (n + 1) ρ S = sB (c ρ S) ρ (kWh ρ c b n) := nrfl rfl
@[simp] theorem x_wh2 {c : M Bool} {b : MS} {k : Bool} : kWh ρ c b n k S = if k = true then fB (b ρ S) (whileF c b n) else .nx ρ S := nrfl rfl
@[simp] theorem p_n : ptN n d ρ = some (ρ.set n (some d)) := nrfl rfl
@[simp] theorem p_t {p : List D → Sl → Option Sl} : ptT p (.tup ds) ρ = p ds ρ := nrfl rfl
@[simp] theorem p_nil : psN [] ρ = some ρ := nrfl rfl
@[simp] theorem p_cons {p : Pt} {q : List D → Sl → Option Sl} : psC p q (d :: ds) ρ = (p d ρ).bind (q ds) := by
  show (match p d ρ with | some ρ' => q ds ρ' | none => none) = _
  cases p d ρ <;> rfl
theorem for_nilG {it : Itb} {p : Pt} {b : MS} (hg : Grd it S) : forL it p b [] ρ S = .nx ρ S := by
  unfold forL
  exact if_pos hg
theorem for_consG {it : Itb} {p : Pt} {b : MS} {ρ1 : Sl} (hg : Grd it S) (h : p d ρ = some ρ1) : forL it p b (d :: ds) ρ S = fB (b ρ1 S) (forL it p b ds) := by
  rw [forL.eq_2, if_pos hg, h]
  unfold fB
  rfl
theorem for_nil {xs : List D} {p : Pt} {b : MS} : forL ⟨xs, none⟩ p b [] ρ S = .nx ρ S := by
  unfold forL
  exact if_pos trivial
theorem for_cons {xs : List D} {p : Pt} {b : MS} {ρ1 : Sl} (h : p d ρ = some ρ1) : forL ⟨xs, none⟩ p b (d :: ds) ρ S = fB (b ρ1 S) (forL ⟨xs, none⟩ p b ds) := by
  rw [forL.eq_2, if_pos (show Grd ⟨xs, none⟩ S from trivial), h]
  unfold fB
  rfl
theorem comp_nil {xs : List D} {p : Pt} {t : M Bool} {e : M D} : compL ⟨xs, none⟩ p t e ρ [] n S = .ok [] S := by
  unfold compL
  exact if_pos trivial
theorem comp_cons {xs : List D} {p : Pt} {t : M Bool} {e : M D} {ρ1 : Sl} (h : p d ρ = some ρ1) : compL ⟨xs, none⟩ p t e ρ (d :: ds) n S = (t ρ1 S).nox.bind (kCp ρ ⟨xs, none⟩ p t e ds n ρ1) := by
  rw [compL.eq_2, if_pos (show Grd ⟨xs, none⟩ S from trivial), h]
  rfl
@[simp] theorem c_cp {it : Itb} {p : Pt} {t : M Bool} {e : M D} {ρ1 : Sl} {k : Bool} : kCp ρ it p t e ds n ρ1 k S = if k = true then (e ρ1 S).nox.bind (kCp2 ρ it p t e ds n) else compL it p t e ρ ds n S := nrfl rfl
@[simp] theorem c_cp2 {it : Itb} {p : Pt} {t : M Bool} {e : M D} : kCp2 ρ it p t e ds n x S = if n < sizeLine then (compL it p t e ρ ds (n + 1) S).bind (kCp3 x) else .stk := nrfl rfl
@[simp] theorem c_cp3 : kCp3 x ds S = .ok (x :: ds) S := nrfl rfl
/-! values -/
@[simp] theorem r_some : ofO (some d) S = .ok d S := nrfl rfl
@[simp] theorem r_bl {b : Bool} : ofB (some b) S = .ok (.bl b) S := nrfl rfl
@[simp] theorem v_ls : lsOf S (.lst ds) = some ds := nrfl rfl
@[simp] theorem v_sq : sqOf S (.tup ds) = some ds := nrfl rfl
@[simp] theorem v_sq' : sqOf S (.lst ds) = some ds := nrfl rfl
@[simp] theorem v_add : addD (.int i) (.int j) S = .ok (.int (i + j)) S := nrfl rfl
@[simp] theorem v_addS {a b : Str} : addD (.str a) (.str b) S = if a.length + b.length ≤ sizeLine then .ok (.str (a ++ b)) S else .stk := nrfl rfl
@[simp] theorem v_addT : addD (.tup ds) (.tup es) S = if ds.length + es.length ≤ sizeLine then .ok (.tup (ds ++ es)) S else .stk := nrfl rfl
@[simp] theorem v_addL : addD (.lst ds) (.lst es) S = if ds.length + es.length ≤ sizeLine then .ok (.lst (ds ++ es)) S else .stk := nrfl rfl
@[simp] theorem v_sub : subD (.int i) (.int j) S = .ok (.int (i - j)) S := nrfl rfl
@[simp] theorem v_mul : mulD (.int i) (.int j) S = if (sm64 i || sm64 j) = true then .ok (.int (i * j)) S else .stk := nrfl rfl
@[simp] theorem v_mulL : mulD (.lst ds) (.int j) S = if 0 ≤ j ∧ smR j = true ∧ ds.length * j.toNat ≤ sizeLine then .ok (.lst (List.replicate j.toNat ds).flatten) S else .stk := nrfl rfl
@[simp] theorem v_fdiv : fdivD (.int i) (.int j) S = if 0 < j ∧ j.natAbs.log2 < 9000 then .ok (.int (i / j)) S else .stk := nrfl rfl
@[simp] theorem v_mod : modD (.int i) (.int j) S = if 0 < j then .ok (.int (i % j)) S else .stk := nrfl rfl
@[simp] theorem v_pow : powD (.int i) (.int j) S = if 0 ≤ j ∧ j ≤ 1000000 ∧ i.natAbs < 2 ^ 64 then .ok (.int (i ^ j.toNat)) S else .stk := nrfl rfl
@[simp] theorem v_neg : negD (.int i) S = .ok (.int (-i)) S := nrfl rfl
@[simp] theorem v_eq : eqD x y S = ofB (eqB S x y) S := nrfl rfl
@[simp] theorem v_ne : neD x y S = ofB ((eqB S x y).map not) S := nrfl rfl
@[simp] theorem q_int : eqB S (.int i) (.int j) = some (decide (i = j)) := by
  show some (decide (V.int i = V.int j)) = _
  simp
@[simp] theorem q_str {a b : Str} : eqB S (.str a) (.str b) = some (decide (a = b)) := by
  show some (decide (V.str a = V.str b)) = _
  simp
@[simp] theorem q_bl {a b : Bool} : eqB S (.bl a) (.bl b) = some (decide (a = b)) := by
  show some (decide (V.bl a = V.bl b)) = _
  simp
@[simp] theorem q_nn : eqB S .non .non = some true := nrfl rfl
@[simp] theorem q_ni : eqB S .non (.int i) = some false := nrfl rfl
@[simp] theorem q_in : eqB S (.int i) .non = some false := nrfl rfl
@[simp] theorem q_ns {a : Str} : eqB S .non (.str a) = some false := nrfl rfl
@[simp] theorem q_sn {a : Str} : eqB S (.str a) .non = some false := nrfl rfl
@[simp] theorem v_lt : ltD (.int i) (.int j) S = .ok (.bl (decide (i < j))) S := nrfl rfl
@[simp] theorem v_ltS {a b : Str} : ltD (.str a) (.str b) S = .ok (.bl (decide (a.cps.toList < b.cps.toList))) S := nrfl rfl
@[simp] theorem v_le : leD (.int i) (.int j) S = .ok (.bl (decide (i ≤ j))) S := nrfl rfl
@[simp] theorem v_gt : gtD (.int i) (.int j) S = .ok (.bl (decide (j < i))) S := nrfl rfl
@[simp] theorem v_ge : geD (.int i) (.int j) S = .ok (.bl (decide (j ≤ i))) S := nrfl rfl
@[simp] theorem v_isN : isND x .non S = .ok (.bl (isNb x)) S := nrfl (by cases x <;> rfl)
@[simp] theorem v_isB {a b : Bool} : isND (.bl a) (.bl b) S = .ok (.bl (decide (a = b))) S := nrfl rfl
@[simp] theorem n_non : isNb .non = true := nrfl rfl
@[simp] theorem n_int : isNb (.int i) = false := nrfl rfl
@[simp] theorem n_str {a : Str} : isNb (.str a) = false := nrfl rfl
@[simp] theorem n_bl {a : Bool} : isNb (.bl a) = false := nrfl rfl
@[simp] theorem n_tup : isNb (.tup ds) = false := nrfl rfl
@[simp] theorem n_lst : isNb (.lst ds) = false := nrfl rfl
@[simp] theorem n_ref : isNb (.ref n) = false := nrfl rfl
@[simp] theorem t_bl' {b : Bool} : truD (.bl b) S = .ok b S := nrfl rfl
@[simp] theorem t_non' : truD .non S = .ok false S := nrfl rfl
@[simp] theorem t_int' : truD (.int i) S = .ok (i != 0) S := nrfl rfl
@[simp] theorem t_tup' : truD (.tup ds) S = .ok (!ds.isEmpty) S := nrfl rfl
@[simp] theorem t_lst' : truD (.lst ds) S = .ok (!ds.isEmpty) S := nrfl rfl
@[simp] theorem v_ix : ixD x y S = ofO (ixO S x y) S := nrfl rfl
@[simp] theorem i_tup : ixO S (.tup ds) (.int i) = atI ds i := nrfl rfl
@[simp] theorem i_lst : ixO S (.lst ds) (.int i) = atI ds i := nrfl rfl
@[simp] theorem i_scr {ns : List Int} : ixO S (.scr ns) (.int i) = (atI ns i).map D.int := nrfl rfl
@[simp] theorem i_str {a : Str} : ixO S (.str a) (.int i) = if a.length ≤ sizeLine then (atI a.cps.toList i).map (fun c => .str ⟨#[c]⟩) else none := nrfl rfl
/-- the store by its own names -/
def sg (S : Store) (n : Nat) : Option MO := S[n]?
def sp (S : Store) (n : Nat) (m : MO) : Store := S.set n m
@[simp] theorem sp_len {m : MO} : (sp S n m).length = S.length := List.length_set
@[simp] theorem sg_sp {m : MO} (h : n < S.length) : sg (sp S n m) n = some m := List.getElem?_set_self h
theorem sg_ne {m : MO} {k : Nat} (h : n ≠ k) : sg (sp S n m) k = sg S k := List.getElem?_set_ne h
@[simp] theorem sp_sp {m m' : MO} : sp (sp S n m) n m' = sp S n m' := List.set_set ..
theorem sg_lt {m : MO} (h : sg S n = some m) : n < S.length := (List.getElem?_eq_some_iff.mp h).1
def rI (o : Option MO) (i : Int) : Option D := match o with
  | some (.lst ds) => atI ds i
  | _ => none
@[simp] theorem rI_some : rI (some (.lst ds)) i = atI ds i := nrfl rfl
@[simp] theorem i_ref' : ixO S (.ref n) (.int i) = rI (sg S n) i := by
  show (match lsOf S (.ref n) with | some ds => atI ds i | none => none) = _
  unfold lsOf rI sg
  dsimp only
  cases S[n]? with
  | none => rfl
  | some mo => cases mo <;> rfl
def rP (o : Option MO) (n : Nat) (i : Int) (x : D) (S : Store) : Option Store := match o with
  | some (.lst ds) => (match ixN ds.length i with
    | some k => some (sp S n (.lst (ds.set k x)))
    | none => none)
  | _ => none
def tyO (t : String) (o : Option MO) : Bool := match o with
  | some (.lst _) => t == "list"
  | some (.dct _) => t == "dict"
  | _ => false
@[simp] theorem tyO_lst {t : String} : tyO t (some (.lst ds)) = (t == "list") := nrfl rfl
@[simp] theorem ty_ref {t : String} : tyD t S (.ref n) = tyO t (sg S n) := by
  unfold tyD tyO sg
  rfl
@[simp] theorem ty_str {t : String} {a : Str} : tyD t S (.str a) = (t == "str") := nrfl rfl
@[simp] theorem ty_lst {t : String} : tyD t S (.lst ds) = (t == "list") := nrfl rfl
def rA (o : Option MO) (n : Nat) (y : D) (S : Store) : Res D := match o with
  | some (.lst xs) => if xs.length < sizeLine then .ok .non (sp S n (.lst (xs ++ [y]))) else .stk
  | _ => .stk
@[simp] theorem rA_some {xs : List D} : rA (some (.lst xs)) n y S = if xs.length < sizeLine then .ok .non (sp S n (.lst (xs ++ [y]))) else .stk := nrfl rfl
@[simp] theorem app_ref : appD (.ref n) [y] S = rA (sg S n) n y S := by
  unfold appD rA sg sp
  rfl
def rW (o : Option MO) (n : Nat) (S : Store) : Res Itb := match o with
  | some (.lst xs) => .ok ⟨xs, some n⟩ S
  | _ => .stk
@[simp] theorem rW_some {xs : List D} : rW (some (.lst xs)) n S = .ok ⟨xs, some n⟩ S := nrfl rfl
@[simp] theorem w_ref' : itD (.ref n) S = rW (sg S n) n S := by
  unfold itD rW sg
  rfl
@[simp] theorem put_ref' : putD (.ref n) (.int i) x S = rP (sg S n) n i x S := by
  unfold putD rP sg sp
  rfl
@[simp] theorem v_sl {lo hi : Option Int} : slD (.tup ds) lo hi S = .ok (.tup (cutD ds lo hi)) S := nrfl rfl
@[simp] theorem v_len : lenD [x] S = ofO ((lenO S x).map fun n => .int n) S := nrfl rfl
@[simp] theorem l_tup : lenO S (.tup ds) = some ds.length := nrfl rfl
@[simp] theorem l_lst : lenO S (.lst ds) = some ds.length := nrfl rfl
@[simp] theorem l_scr {ns : List Int} : lenO S (.scr ns) = some ns.length := nrfl rfl
@[simp] theorem l_str {a : Str} : lenO S (.str a) = if a.length ≤ sizeLine then some a.length else none := nrfl rfl
@[simp] theorem v_int : intD [.int i] S = .ok (.int i) S := nrfl rfl
@[simp] theorem v_bool {b : Bool} : boolD [.bl b] S = .ok (.bl b) S := nrfl rfl
@[simp] theorem v_tupleL : tupleD [.lst ds] S = .ok (.tup ds) S := nrfl rfl
@[simp] theorem v_tupleT : tupleD [.tup ds] S = .ok (.tup ds) S := nrfl rfl
@[simp] theorem v_listL : listD [.lst ds] S = .ok (.lst ds) S := nrfl rfl
@[simp] theorem v_listT : listD [.tup ds] S = .ok (.lst ds) S := nrfl rfl
@[simp] theorem v_tupD : tupD ds S = if ds.length ≤ sizeLine then .ok (.tup ds) S else .stk := nrfl rfl
@[simp] theorem v_lstD : lstD ds S = if ds.length ≤ sizeLine then .ok (.lst ds) S else .stk := nrfl rfl
@[simp] theorem v_lstL : lstL ds S = if ds.length ≤ sizeLine then .ok (.ref S.length) (S ++ [.lst ds]) else .stk := nrfl rfl
@[simp] theorem w_tup : itD (.tup ds) S = .ok ⟨ds, none⟩ S := nrfl rfl
@[simp] theorem w_lst : itD (.lst ds) S = .ok ⟨ds, none⟩ S := nrfl rfl
@[simp] theorem w_str {a : Str} : itD (.str a) S = .ok ⟨a.cps.toList.map fun c => .str ⟨#[c]⟩, none⟩ S := nrfl rfl
@[simp] theorem w_r1 : rng1 [.int i] S = if smR i = true then .ok ⟨(List.range i.toNat).map fun k => .int (k : Nat), none⟩ S else .stk := nrfl rfl
@[simp] theorem w_isi {f : Kd → Bool} : isiD f x S = ofB ((kd S x).map f) S := nrfl rfl
@[simp] theorem k_bl' {b : Bool} : kd S (.bl b) = some .bl := nrfl rfl
@[simp] theorem k_int' : kd S (.int i) = some .int := nrfl rfl
@[simp] theorem k_str' {a : Str} : kd S (.str a) = some .str := nrfl rfl
@[simp] theorem k_non' : kd S .non = some .non := nrfl rfl
@[simp] theorem k_tup' : kd S (.tup ds) = some .tup := nrfl rfl
@[simp] theorem k_lst' : kd S (.lst ds) = some .lst := nrfl rfl
end
end G
namespace G
open PySem L2
/-! ### texts: split, index; range with a step; a new dict; lists joined to a live one -/
theorem strs_rep {K : PySem.W.Frag} {cl : Str → Option Addr} {W : Wd} : ∀ ns : List Str, Reps K cl W (ns.map V.str) (ns.map D.str)
  | [] => .nil
  | n :: ns => .cons (.str n) (strs_rep ns)
def splitD (x : D) (ys : List D) (S : Store) : Res D := match x, ys with
  | .str a, [.str b] => if (b.length == 0) = false ∧ a.length + 2 ≤ sizeLine then .ok (.lst ((Txt.split a b).map D.str)) S else .stk
  | _, _ => .stk
theorem split_s {K : PySem.W.Frag} {cl : Str → Option Addr} : MtS K cl (fun x xs H Q => ∃ a b, x = .str a ∧ xs = [.str b] ∧ (b.length == 0) = false ∧ a.length + 2 ≤ sizeLine ∧ rNewStrs (Txt.split a b) H Q) splitD := by
  intro W H S x a y b Q E r rx ry p
  unfold splitD at p
  split at p
  · cases rx
    cases ry with | cons ry rn =>
    cases rn; cases ry
    split at p
    · rename_i hz
      exact ⟨_, _, rfl, rfl, hz.1, hz.2, newL r (strs_rep _) p⟩
    · exact p.elim
  · exact p.elim
section
variable {X : Cx} {tg : Expr} {cl : Str → Option Addr} {E : WX}
theorem upd_twice {H : Hp} {a : Addr} {o u : HO} : upd (upd H a o) a u = upd H a u := by
  funext b
  by_cases hb : b = a
  · subst hb; rw [upd_same, upd_same]
  · rw [upd_ne hb, upd_ne hb, upd_ne hb]
/-- a new thing is locked for good -/
theorem pe_frzD {e : Expr} {t : TE} (h : PE X e t) : PE X e (fun σ H Q => t σ H fun x H1 => ∃ d u, x = .ref d ∧ H1 d = some u ∧ Mut (some u) ∧ ∀ od, Q x (upd H1 d (.frz od u))) :=
  ⟨fun pins s σ H Q I hw => thn (h.run pins s σ H _ I hw) fun v s1 ⟨x, H1, I1, r, d, u, _, hd, mu, q⟩ => let ⟨od, I2⟩ := I1.lock hd mu; ⟨x, _, I2, r, q od⟩⟩
theorem t_dict0 {pos : Pos} : PE X (.Dict [] [] pos) (T X.K cl E (mC (.dct []))) :=
  pe_imp (pe_frzD pe_dnewK) fun σ H Q ⟨W, ρ, S, hr, he, q⟩ p hp => ⟨p, .dK [], rfl, upd_same, True.intro, fun od => by
    rw [upd_twice]
    obtain ⟨r2, l2⟩ := hr.fz (o := .frz od (.dK [])) hp
    exact q _ _ _ l2 r2 (.dct upd_same .nil)⟩
end
/-! a tuple of the module -/
def absD : V → Option D
  | .non => some .non
  | .bl b => some (.bl b)
  | .int i => some (.int i)
  | .str s => some (.str s)
  | _ => none
theorem abs_rep {K : PySem.W.Frag} {cl : Str → Option Addr} {W : Wd} {v : V} {d : D} (h : absD v = some d) : Rep K cl W v d := by
  cases v <;> cases h <;> constructor
inductive AbsL : List Value → List D → Prop
  | nil : AbsL [] []
  | cons {u : Value} {d : D} {us : List Value} {ds : List D} : (∃ v, RelV v u ∧ absD v = some d) → AbsL us ds → AbsL (u :: us) (d :: ds)
theorem AbsL.get {K : PySem.W.Frag} {cl : Str → Option Addr} {W : Wd} : ∀ {us : List Value} {ds : List D}, AbsL us ds → ∃ vs, Vals vs us ∧ Reps K cl W vs ds
  | _, _, .nil => ⟨[], .nil, .nil⟩
  | _, _, .cons ⟨v, h1, h2⟩ t => let ⟨vs, q1, q2⟩ := t.get; ⟨v :: vs, .cons h1 q1, .cons (abs_rep h2) q2⟩
theorem AbsL.str {s : Str} {n : Tok} {us : List Value} {ds : List D} (t : AbsL us ds) : AbsL (.str s n :: us) (.str s :: ds) := .cons ⟨.str s, ⟨n, rfl⟩, rfl⟩ t

/-! ### a call that leaves no objects behind: what is answered is frozen, new objects are forgotten -/
mutual
def belD (n : Nat) : D → Bool
  | .tup xs => belL n xs
  | .lst xs => belL n xs
  | .dct xs => belK n xs
  | .ins _ xs => belF n xs
  | .exv _ xs => belF n xs
  | .ref m => decide (m < n)
  | _ => true
def belL (n : Nat) : List D → Bool
  | [] => true
  | d :: ds => belD n d && belL n ds
def belK (n : Nat) : List (Key × D) → Bool
  | [] => true
  | (_, d) :: ds => belD n d && belK n ds
def belF (n : Nat) : List (Str × D) → Bool
  | [] => true
  | (_, d) :: ds => belD n d && belF n ds
end
def belM (n : Nat) : MO → Bool
  | .lst xs => belL n xs
  | .dct xs => belK n xs
  | .ldc xs => belK n xs
  | .ins _ xs => belF n xs
  | .dead => true
section
variable {K : PySem.W.Frag} {cl : Str → Option Addr} {W W' : Wd} {H : Hp} {S : Store} {n : Nat}
theorem set_live {m i : Nat} {mo : MO} (h : (S.set m .dead)[i]? = some mo) (nd : mo ≠ .dead) : S[i]? = some mo ∧ i ≠ m := by
  by_cases e : m = i
  · subst e
    by_cases hm : m < S.length
    · rw [List.getElem?_set_self hm] at h
      exact absurd (Option.some.inj h).symm nd
    · rw [List.getElem?_eq_none (by simpa using hm)] at h
      cases h
  · rw [List.getElem?_set_ne e] at h
    exact ⟨h, fun q => e q.symm⟩
theorem R.kill (r : R K cl W H S) (m : Nat) : R K cl W H (S.set m .dead) := by
  refine ⟨by simpa using r.n, r.sub, fun i mo h nd => r.live i mo (set_live h nd).1 nd, fun i j m m' h h' nd nd' e => r.inj i j m m' (set_live h nd).1 (set_live h' nd').1 nd nd' e, fun a o h => ?_⟩
  obtain ⟨h1, h2, h3⟩ := r.priv a o h
  exact ⟨h1, h2, fun i mo h nd => h3 i mo (set_live h nd).1 nd⟩
theorem R.freeze {m : Nat} {xs : List D} (r : R K cl W H S) (e : S[m]? = some (.lst xs)) : ∃ W', Le W W' ∧ R K cl W' H (S.set m .dead) ∧ Rep K cl W' (.ref (W.ι m)) (.lst xs) := by
  have nd : MO.lst xs ≠ .dead := by intro z; cases z
  obtain ⟨g0, vs, h1, t⟩ := r.live m _ e nd
  refine ⟨W.fz (W.ι m) (.lst vs), Le.fz g0, (r.kill m).fzAt h1 g0 (fun i mo h ndi q => ?_) ?_, .lst upd_same (t.up (Le.fz g0))⟩
  · obtain ⟨h', hne⟩ := set_live h ndi
    exact hne (r.inj i m mo _ h' e ndi nd q)
  · cases q : W.P (W.ι m) with
    | none => rfl
    | some o => exact absurd rfl ((r.priv _ _ q).2.2 m _ e nd)
end
theorem glob_sc {K : PySem.W.Frag} {cl : Str → Option Addr} {mg : Str → Option Value} {x : Str} {u : Value} {d : D} (h : mg x = some u) (r : ∃ v, RelV v u ∧ absD v = some d) : GlobIs K cl mg x d := by
  obtain ⟨v, h1, h2⟩ := r
  exact ⟨u, v, h, h1, fun W => abs_rep h2⟩
theorem glob_tup {K : PySem.W.Frag} {cl : Str → Option Addr} {mg : Str → Option Value} {x : Str} {p : Addr} {od : Option Addr} {its : Array Value} {n : Nat} {sl : Array (Option Value)} {ds : List D} (h : mg x = some (.ref p))
    (hk : K.lookup p = some ⟨.type "tuple", od, .seq its n, sl⟩) (t : AbsL its.toList ds) (hz : its.size ≤ sizeLine) : GlobIs K cl mg x (.tup ds) := by
  refine ⟨_, .ref p, h, rfl, fun W => ?_⟩
  obtain ⟨vs, h1, h2⟩ := t.get (K := K) (cl := cl) (W := W)
  exact .tup (.inr ⟨_, its, n, hk, rfl, rfl, hz, h1⟩) h2
end G
namespace G
open PySem L2
/-! ### plain helps -/
@[simp] theorem v_intB {k : Bool} {S : Store} : intD [.bl k] S = .ok (.int (if k = true then 1 else 0)) S := nrfl rfl
@[simp] theorem v_slL {ds : List D} {S : Store} {lo hi : Option Int} : slD (.lst ds) lo hi S = .ok (.lst (cutD ds lo hi)) S := nrfl rfl
@[simp] theorem v_slS {z : Str} {S : Store} {lo hi : Option Int} : slD (.str z) lo hi S = if z.length ≤ sizeLine then .ok (.str (cutS z lo hi)) S else .stk := nrfl rfl
@[simp] theorem v_slC {ns : List Int} {S : Store} {lo hi : Option Int} : slD (.scr ns) lo hi S = .ok (.lst (cutD (ns.map D.int) lo hi)) S := nrfl rfl
@[simp] theorem v_leS {x y : Str} {S : Store} : leD (.str x) (.str y) S = .ok (.bl (!decide (y.cps.toList < x.cps.toList))) S := nrfl rfl
theorem sm_of {i : Int} (h0 : 0 ≤ i) (h1 : i < 4294967296) : sm64 i = true := by
  unfold sm64
  simp
  omega
theorem sm_mod {x : Int} (k : Int) (h0 : 0 < k) (h1 : k < 4294967296) : sm64 (x % k) = true := sm_of (Int.emod_nonneg _ (by omega)) (Int.lt_trans (Int.emod_lt_of_pos _ h0) h1)
theorem sz {n : Nat} (h : n ≤ 100000) : n ≤ sizeLine := Nat.le_trans h (by decide)
/-- the store but for the object at n is S0 -/
structure AtP (P : MO → Prop) (n : Nat) (S0 S : Store) : Prop where
  lt : n < S0.length
  ex : ∃ m, P m ∧ S = sp S0 n m
theorem AtP.get {P : MO → Prop} {n : Nat} {S0 S : Store} (h : AtP P n S0 S) : ∃ m, P m ∧ sg S n = some m := by
  obtain ⟨hl, m, hp, rfl⟩ := h
  exact ⟨m, hp, sg_sp hl⟩
theorem AtP.put {P : MO → Prop} {n : Nat} {S0 S : Store} {m : MO} (h : AtP P n S0 S) (hm : P m) : AtP P n S0 (sp S n m) := by
  obtain ⟨hl, m', hp, rfl⟩ := h
  exact ⟨hl, m, hm, by rw [sp_sp]⟩
theorem AtP.len {P : MO → Prop} {n : Nat} {S0 S : Store} (h : AtP P n S0 S) : S.length = S0.length := by
  obtain ⟨hl, m', hp, rfl⟩ := h
  exact sp_len
theorem comp_map {α : Type} {all : List D} {p : Pt} {e : M D} {ρ : Sl} {S : Store} (g f : α → D) : ∀ (xs : List α) (k : Nat),
    (∀ d ∈ xs, ∃ ρ1, p (g d) ρ = some ρ1 ∧ e ρ1 S = .ok (f d) S) → k + xs.length ≤ sizeLine →
    compL ⟨all, none⟩ p mYes e ρ (xs.map g) k S = .ok (xs.map f) S := by
  intro xs
  induction xs with
  | nil => intro k _ _; exact comp_nil
  | cons d xs ih =>
    intro k h hk
    obtain ⟨ρ1, hp, he⟩ := h d (by simp)
    rw [List.length_cons] at hk
    have e2 := ih (k + 1) (fun d hd => h d (by simp [hd])) (by omega)
    rw [List.map_cons, comp_cons hp]
    have hk' : k < sizeLine := by omega
    simp [he, hk', e2]
theorem bls_map {α : Type} (f : α → Bool) : ∀ l : List α, blsO (l.map fun x => .bl (f x)) = some (l.map f)
  | [] => rfl
  | x :: l => by
    rw [List.map_cons, List.map_cons]
    unfold blsO
    rw [bls_map f l]
    rfl
theorem all_bl {α : Type} {S : Store} (f : α → Bool) (l : List α) : allD [.lst (l.map fun x => .bl (f x))] S = .ok (.bl (l.all f)) S := by
  show ofO ((blsO (l.map fun x => .bl (f x))).map fun bs => D.bl (bs.all id)) S = _
  rw [bls_map]
  show Res.ok (D.bl ((l.map f).all id)) S = _
  rw [List.all_map]
  rfl
/-- slices, lengths of a live list -/
def rSl (o : Option MO) (lo hi : Option Int) (S : Store) : Res D := match o with
  | some (.lst ds) => .ok (.lst (cutD ds lo hi)) S
  | _ => .stk
@[simp] theorem rSl_some {ds : List D} {lo hi : Option Int} {S : Store} : rSl (some (.lst ds)) lo hi S = .ok (.lst (cutD ds lo hi)) S := nrfl rfl
@[simp] theorem v_slR {n : Nat} {S : Store} {lo hi : Option Int} : slD (.ref n) lo hi S = rSl (sg S n) lo hi S := by
  show (match lsOf S (.ref n) with | some ds => Res.ok (D.lst (cutD ds lo hi)) S | none => Res.stk) = _
  unfold lsOf rSl sg
  dsimp only
  cases S[n]? with
  | none => rfl
  | some mo => cases mo <;> rfl
def Wf (S : Store) : Prop := S.all (belM S.length) = true
theorem Wf.sp {S : Store} {n : Nat} {m : MO} (h : Wf S) (hm : belM S.length m = true) : Wf (sp S n m) := by
  unfold Wf
  rw [sp_len]
  refine List.all_eq_true.mpr fun x hx => ?_
  rcases List.mem_or_eq_of_mem_set hx with hx | rfl
  · exact List.all_eq_true.mp h x hx
  · exact hm
/-! texts -/
def cs (t : Str) : List Nat := t.cps.toList
theorem len_cs (t : Str) : t.length = (cs t).length := rfl
end G
namespace G
open PySem L2
/-! ### instances -/
def insO (S : Store) (d : D) : Option (Str × List (Str × D)) := match d with
  | .ref n => (match S[n]? with
    | some (.ins c fs) => some (c, fs)
    | _ => none)
  | .ins c fs => some (c, fs)
  | _ => none
section
variable {K : PySem.W.Frag} {cl : Str → Option Addr} {W : Wd} {H : Hp} {S : Store}
theorem ins_of {v : V} {d : D} {c : Str} {fs : List (Str × D)} (r : R K cl W H S) (h : Rep K cl W v d) (e : insO S d = some (c, fs)) : ∃ a C dx vs, v = .ref a ∧ cl c = some C ∧ H a = some (.ins C dx vs) ∧ RepF K cl W vs fs := by
  cases h with
  | ins g q t =>
    cases e
    exact ⟨_, _, _, _, rfl, q, r.sub _ _ g, t⟩
  | @ref n hn =>
    unfold insO at e
    dsimp only at e
    cases q : S[n]? with
    | none => rw [q] at e; cases e
    | some mo =>
      rw [q] at e
      cases mo with
      | ins c' fs' =>
        cases e
        obtain ⟨_, C, dx, vs, h0, h1, h2⟩ := r.live n _ q (by intro z; cases z)
        exact ⟨_, _, _, _, rfl, h0, h1, h2⟩
      | _ => cases e
  | _ => cases e
theorem RepF.get : ∀ {vs : List (Str × V)} {fs : List (Str × D)} {f : Str} {d : D}, RepF K cl W vs fs → fs.lookup f = some d → ∃ v, vs.lookup f = some v ∧ Rep K cl W v d
  | _, _, _, _, .nil, e => by cases e
  | _, _, f, d, .cons (k := k) h t, e => by
    rw [List.lookup_cons] at e ⊢
    cases q : f == k with
    | true =>
      rw [q] at e
      cases e
      exact ⟨_, rfl, h⟩
    | false =>
      rw [q] at e
      exact t.get e
theorem RepF.no : ∀ {vs : List (Str × V)} {fs : List (Str × D)} {f : Str}, RepF K cl W vs fs → fs.lookup f = none → vs.lookup f = none
  | _, _, _, .nil, _ => rfl
  | _, _, f, .cons (k := k) h t, e => by
    rw [List.lookup_cons] at e ⊢
    cases q : f == k with
    | true =>
      rw [q] at e
      cases e
    | false =>
      rw [q] at e
      exact t.no e
theorem RepF.len : ∀ {vs : List (Str × V)} {fs : List (Str × D)}, RepF K cl W vs fs → vs.length = fs.length
  | _, _, .nil => rfl
  | _, _, .cons _ t => by simp [t.len]
end
def putFD (f : Str) (v : D) : List (Str × D) → List (Str × D)
  | [] => [(f, v)]
  | (g, x) :: r => if g = f then (g, v) :: r else (g, x) :: putFD f v r
theorem RepF.put {K : PySem.W.Frag} {cl : Str → Option Addr} {W : Wd} {f : Str} {y : V} {d : D} (hy : Rep K cl W y d) : ∀ {vs : List (Str × V)} {fs : List (Str × D)}, RepF K cl W vs fs → RepF K cl W (putF f y vs) (putFD f d fs)
  | _, _, .nil => .cons hy .nil
  | _, _, .cons (k := k) h t => by
    unfold putF putFD
    by_cases e : k = f
    · rw [if_pos e, if_pos e]
      exact .cons hy t
    · rw [if_neg e, if_neg e]
      exact .cons h (t.put hy)
/-- f is a field of the objects of these classes -/
def AttrOk (K : PySem.W.Frag) (cl : Str → Option Addr) (f : Str) (cs : List Str) : Prop := ∀ c ∈ cs, ∀ C, cl c = some C → Cls K C ∧ NoAttr K C f
def fldD (cs : List Str) (f : Str) (d : D) (S : Store) : Res D := match insO S d with
  | some (c, fs) => if c ∈ cs then ofO (fs.lookup f) S else .stk
  | none => .stk
section
variable {X : Cx} {cl : Str → Option Addr} {E : WX} {e o value : Expr} {m mo mv : M D} {f : Str} {pos pos' : Pos} {cs : List Str}
theorem t_fld (ht : AttrOk X.K cl f cs) (h : PE X e (T X.K cl E m)) (hb : attributeBase e f X.env (eval e X.env) = eval e X.env := by rfl) : PE X (.Attribute e f pos) (T X.K cl E (mUn (fldD cs f) m)) :=
  pe_imp (pe_fld h hb) fun σ H Q ⟨W, ρ, S, hr, en, q⟩ => step hr en q fun W1 H1 v d S1 l1 r1 e1 rv p1 => by
    unfold fldD at p1
    split at p1
    · rename_i c fs ei
      obtain ⟨a, C, dx, vs, rfl, hc, ha, rf⟩ := ins_of r1 rv ei
      split at p1
      · rename_i hm
        obtain ⟨q1, q2⟩ := ht c hm C hc
        cases el : fs.lookup f with
        | none => rw [el] at p1; exact p1.elim
        | some x =>
          rw [el] at p1
          obtain ⟨y, hy, ry⟩ := rf.get el
          exact ⟨a, C, dx, vs, y, rfl, ha, q1, q2, hy, p1.now r1 ry⟩
      · exact p1.elim
    · exact p1.elim
def setFD (cs : List Str) (f : Str) (v x : D) (S : Store) : Option Store := match x with
  | .ref n => (match S[n]? with
    | some (.ins c fs) => if c ∈ cs ∧ fs.length < 1000 then some (S.set n (.ins c (putFD f v fs))) else none
    | _ => none)
  | _ => none
def sSetF (cs : List Str) (f : Str) (o e : M D) : MS := fun ρ S => sB (e ρ S) ρ fun v S1 => sB (o ρ S1) ρ fun x S2 => match setFD cs f v x S2 with
  | some S3 => .nx ρ S3
  | none => .stk
theorem s_fld (ht : AttrOk X.K cl f cs) (ho : PE X o (T X.K cl E mo)) (hv : PE X value (T X.K cl E mv)) (hs : swapsWith value (some (.Attribute o f pos')) pos.line X.env = pure false := by rfl) :
    PS X (.Assign [.Attribute o f pos'] value pos) (Ts X.K cl E (sSetF cs f mo mv)) :=
  ps_imp (ps_fld ho hv hs) fun A σ H ⟨W, ρ, S, hr, en, q⟩ => stepS hr en q fun W1 H1 v d S1 l1 r1 e1 rv p1 => stepS r1 e1 p1 fun W2 H2 x y S2 l2 r2 e2 rx p2 => by
    cases q : setFD cs f d y S2 with
    | none => simp only [q] at p2; exact p2.elim
    | some S3 =>
      simp only [q] at p2
      unfold setFD at q
      split at q
      · rename_i n
        split at q
        · rename_i c fs es
          split at q
          · rename_i hm
            cases q
            cases rx with | ref hn =>
            obtain ⟨g0, C, dx, vs, hc, ha, rf⟩ := r2.live n _ es (by intro z; cases z)
            obtain ⟨q1, q2⟩ := ht c hm.1 C hc
            refine ⟨_, C, dx, vs, rfl, ha, q1, q2, by rw [rf.len]; exact hm.2, ?_⟩
            exact p2 W2 _ σ (.rf W2) (r2.put es (by intro z; cases z) ⟨C, dx, _, hc, upd_same, rf.put (rv.up l2)⟩) e2
          · cases q
        · cases q
      · cases q
end

/-! methods: by the class of the object -/
def MFn (P : Program) (w : World) (K : PySem.W.Frag) (mg : Str → Option Value) (base : Heap) (cl : Str → Option Addr) (c m : Str) (k n : Nat) (g : List D → Store → Res D) : Prop :=
  ∃ C f fd ps, cl c = some C ∧ Cls K C ∧ Meth K C m f ∧ FnOk P w K mg base (L2.CX P w) k f fd ps (spOf K cl n g) ∧ Binds K fd ps []
def Mkr (P : Program) (w : World) (K : PySem.W.Frag) (mg : Str → Option Value) (base : Heap) (cl : Str → Option Addr) (c : Str) (k n : Nat) (g : List D → Store → Res D) : Prop :=
  ∃ C f fd ps, cl c = some C ∧ mg c = some (.ref C) ∧ Mk K C f ∧ FnOk P w K mg base (L2.CX P w) k f fd ps (spOf K cl n g) ∧ Binds K fd ps []
abbrev MT := List (Str × (List D → Store → Res D))
def mMeth (tb : MT) (m : Str) (n : Nat) (o : M D) (a : M (List D)) : M D := fun ρ S => (o ρ S).bind fun x S1 => match insO S1 x with
  | some (c, fs) => (match fs.lookup m, tb.lookup c with
    | none, some g => (a ρ S1).bind fun ys S2 => ar n g (x :: ys) S2
    | _, _ => .stk)
  | none => .stk
section
variable {X : Cx} {k : Nat} {f C : Addr} {fd : FuncData} {ps : List Str} {pr : Sp} {E : WX} {x m : Str} {p pos apos : Pos} {e o : Expr} {es : List Expr} {ta : TE} {t : TA}
/-- a method's call; the wish about exceptions may speak of the slots -/
theorem pe_methX {pl : Sem Bool} (ho : PE X o ta) (hC : Cls X.K C) (hM : Meth X.K C m f) (Fk : FnOk X.prog X.w X.K X.mg X.base (L2.CX X.prog X.w) k f fd ps pr) (rm : Room k X.A) (bd : Binds X.K fd ps []) (tk : Takes X E) (hA : PA X (e :: es) t)
    (h1 : starEach (e :: es) X.env = (false, eval e X.env) :: starEach es X.env := by rfl) (h2 : (backTo pos (starEach es X.env)).any (·.1) = false := by rfl)
    (h3 : eval (.Call (.Attribute o m apos) (e :: es) [] pos) X.env = (do
      let obj ← eval o X.env
      standAt apos.atName
      let (g, fst) ← holding [obj] (getMethod obj m pl)
      callWith pos g fst (backTo pos (starEach (e :: es) X.env)) (backToKw pos (keywordEach [] X.env))) := by rfl) :
    PE X (.Call (.Attribute o m apos) (e :: es) [] pos) (fun σ H Q => ta σ H fun x H1 => ∃ a dx fs, x = .ref a ∧ H1 a = some (.ins C dx fs) ∧ fs.lookup m = none ∧ t σ H1 fun vs H2 => pr (x :: vs) H2 Q (fun c d H' => E c d σ H')) := by
  refine ⟨fun pins s σ H Q I q => ?_⟩
  refine PySem.W.methodCall_KW (pl := pl) (thn (ho.run pins s σ H _ I q) fun u s1 ⟨y, H1, I1, ry, a, dx, fs, ey, ea, l, q1⟩ => ?_) h3
  subst ey
  obtain rfl : u = Value.ref a := ry
  refine getmeth_ok I1 ea hC hM l ?_
  refine PySem.W.callWith_K (first := [.ref a]) (h₀ := X.base) I.ok.mod.kin hM.kp (thn (hA.run pos pins s1 σ H1 _ I1 q1) fun us s2 ⟨vs, H2, I2, rs, q2⟩ => ⟨I2.kIn, ?_⟩) h1 h2
  exact run_fnSD (E := fun σ c d H' => E c d σ H') (dvs := []) (us := .ref a :: us) (vs := .ref a :: vs) Fk rm bd .nil (passAt tk σ) I2 (.cons rfl rs) (by rw [List.append_nil]; exact q2)
theorem pe_methX0 {pl : Sem Bool} (ho : PE X o ta) (hC : Cls X.K C) (hM : Meth X.K C m f) (Fk : FnOk X.prog X.w X.K X.mg X.base (L2.CX X.prog X.w) k f fd ps pr) (rm : Room k X.A) (bd : Binds X.K fd ps []) (tk : Takes X E)
    (h3 : eval (.Call (.Attribute o m apos) [] [] pos) X.env = (do
      let obj ← eval o X.env
      standAt apos.atName
      let (g, fst) ← holding [obj] (getMethod obj m pl)
      callWith pos g fst (backTo pos (starEach [] X.env)) (backToKw pos (keywordEach [] X.env))) := by rfl) :
    PE X (.Call (.Attribute o m apos) [] [] pos) (fun σ H Q => ta σ H fun x H1 => ∃ a dx fs, x = .ref a ∧ H1 a = some (.ins C dx fs) ∧ fs.lookup m = none ∧ pr [x] H1 Q (fun c d H' => E c d σ H')) := by
  refine ⟨fun pins s σ H Q I q => ?_⟩
  refine PySem.W.methodCall_KW (pl := pl) (thn (ho.run pins s σ H _ I q) fun u s1 ⟨y, H1, I1, ry, a, dx, fs, ey, ea, l, q1⟩ => ?_) h3
  subst ey
  obtain rfl : u = Value.ref a := ry
  refine getmeth_ok I1 ea hC hM l ?_
  refine PySem.W.callWith_K0 (first := [.ref a]) I1.kIn hM.kp ?_
  exact run_fnSD (E := fun σ c d H' => E c d σ H') (dvs := []) (us := [.ref a]) (vs := [.ref a]) Fk rm bd .nil (passAt tk σ) I1 (.cons rfl .nil) q1
end
section
variable {X : Cx} {cl : Str → Option Addr} {E : WX} {k n : Nat} {m : Str} {p pos apos : Pos} {e o : Expr} {es : List Expr} {mo : M D} {ms : M (List D)} {tb : MT}
theorem t_meth {pl : Sem Bool} (ht : ∀ c g, tb.lookup c = some g → MFn X.prog X.w X.K X.mg X.base cl c m k n g) (h0 : ∃ c g, tb.lookup c = some g) (rm : Room k X.A) (tk : Takes X E) (ho : PE X o (T X.K cl E mo)) (hA : PA X (e :: es) (TL X.K cl E ms))
    (h1 : starEach (e :: es) X.env = (false, eval e X.env) :: starEach es X.env := by rfl) (h2 : (backTo pos (starEach es X.env)).any (·.1) = false := by rfl)
    (h3 : eval (.Call (.Attribute o m apos) (e :: es) [] pos) X.env = (do
      let obj ← eval o X.env
      standAt apos.atName
      let (g, fst) ← holding [obj] (getMethod obj m pl)
      callWith pos g fst (backTo pos (starEach (e :: es) X.env)) (backToKw pos (keywordEach [] X.env))) := by rfl) :
    PE X (.Call (.Attribute o m apos) (e :: es) [] pos) (T X.K cl E (mMeth tb m n mo ms)) := by
  refine ⟨fun pins s σ H Q I ⟨W, ρ, S, hr, en, q⟩ => ?_⟩
  unfold mMeth at q
  cases e0 : mo ρ S with
  | stk => rw [e0] at q; exact q.elim
  | exc x S1 =>
    rw [e0] at q
    obtain ⟨c, g, hg⟩ := h0
    obtain ⟨C, f, fd, ps, c1, c2, c3, c4, c5⟩ := ht c g hg
    refine (pe_methX (pl := pl) ho c2 c3 c4 rm c5 tk hA h1 h2 h3).run pins s σ H Q I ⟨W, ρ, S, hr, en, ?_⟩
    rw [e0]
    exact q
  | ok d S1 =>
    rw [e0] at q
    dsimp only [Res.bind] at q
    split at q
    · rename_i c fs ei
      split at q
      · rename_i g l1 hg
        obtain ⟨C, f, fd, ps, c1, c2, c3, c4, c5⟩ := ht c g hg
        refine (pe_methX (pl := pl) ho c2 c3 c4 rm c5 tk hA h1 h2 h3).run pins s σ H Q I ⟨W, ρ, S, hr, en, ?_⟩
        rw [e0]
        intro W1 H1 v le r1 rv
        obtain ⟨a, C', dx, vs, rfl, hc, ha, rf⟩ := ins_of r1 rv ei
        rw [c1] at hc
        cases hc
        refine ⟨a, dx, vs, rfl, ha, rf.no l1, ?_⟩
        exact step r1 (en.up le) (Post.up le q) fun W2 H2 ys ds S2 l2 r2 e2 ry p2 => ⟨W2, S2, d :: ds, r2, .cons (rv.up l2) ry, p2⟩
      · exact q.elim
    · exact q.elim
theorem t_meth0 {pl : Sem Bool} (ht : ∀ c g, tb.lookup c = some g → MFn X.prog X.w X.K X.mg X.base cl c m k n g) (h0 : ∃ c g, tb.lookup c = some g) (rm : Room k X.A) (tk : Takes X E) (ho : PE X o (T X.K cl E mo))
    (h3 : eval (.Call (.Attribute o m apos) [] [] pos) X.env = (do
      let obj ← eval o X.env
      standAt apos.atName
      let (g, fst) ← holding [obj] (getMethod obj m pl)
      callWith pos g fst (backTo pos (starEach [] X.env)) (backToKw pos (keywordEach [] X.env))) := by rfl) :
    PE X (.Call (.Attribute o m apos) [] [] pos) (T X.K cl E (mMeth tb m n mo mNil)) := by
  refine ⟨fun pins s σ H Q I ⟨W, ρ, S, hr, en, q⟩ => ?_⟩
  unfold mMeth at q
  cases e0 : mo ρ S with
  | stk => rw [e0] at q; exact q.elim
  | exc x S1 =>
    rw [e0] at q
    obtain ⟨c, g, hg⟩ := h0
    obtain ⟨C, f, fd, ps, c1, c2, c3, c4, c5⟩ := ht c g hg
    refine (pe_methX0 (pl := pl) ho c2 c3 c4 rm c5 tk h3).run pins s σ H Q I ⟨W, ρ, S, hr, en, ?_⟩
    rw [e0]
    exact q
  | ok d S1 =>
    rw [e0] at q
    dsimp only [Res.bind] at q
    split at q
    · rename_i c fs ei
      split at q
      · rename_i g l1 hg
        obtain ⟨C, f, fd, ps, c1, c2, c3, c4, c5⟩ := ht c g hg
        refine (pe_methX0 (pl := pl) ho c2 c3 c4 rm c5 tk h3).run pins s σ H Q I ⟨W, ρ, S, hr, en, ?_⟩
        rw [e0]
        intro W1 H1 v le r1 rv
        obtain ⟨a, C', dx, vs, rfl, hc, ha, rf⟩ := ins_of r1 rv ei
        rw [c1] at hc
        cases hc
        exact ⟨a, dx, vs, rfl, ha, rf.no l1, W1, S1, [d], r1, .cons rv .nil, Post.up le q⟩
      · exact q.elim
    · exact q.elim
end
/-! makers -/
/-- a new object of the class, then __init__ -/
def mMake (c : Str) (n : Nat) (g : List D → Store → Res D) (a : M (List D)) : M D := fun ρ S => (a ρ S).bind fun ys S1 => (ar n g (.ref S1.length :: ys) (S1 ++ [.ins c []])).bind fun d S2 => match d with
  | .non => .ok (.ref S1.length) S2
  | _ => .stk
section
variable {X : Cx} {k : Nat} {f C : Addr} {fd : FuncData} {ps : List Str} {pr : Sp} {E : WX} {x m : Str} {p pos apos : Pos} {e o : Expr} {es : List Expr} {ta : TE} {t : TA}
theorem run_makeX {pins : List (Addr × Obj)} {σ : St} {H : Hp} {s : Shared} {Q : VK} {us : List Value} {vs : List V} (Mq : Mk X.K C f) (Fk : FnOk X.prog X.w X.K X.mg X.base (L2.CX X.prog X.w) k f fd ps pr) (rm : Room (k + 1) X.A) (bd : Binds X.K fd ps []) (tk : Takes X E)
    (I : L2.Inv X pins σ H s) (rs : Vals vs us)
    (q : ∀ x dx, H x = none → H dx = none → dx ≠ x → pr (.ref x :: vs) (upd (upd H dx (.own x)) x (.ins C dx [])) (fun v H2 => v = .non ∧ Q (.ref x) H2) (fun c d H' => E c d σ H')) :
    wpAny (model X.prog X.w) X.A (call (.ref C) us) (EP X pins σ Q) X.xe s := by
  have z := s.heap.objs.size
  have q0 := q (s.heap.objs.size + 1) s.heap.objs.size (I.hok.fresh (Nat.le_succ _)) (I.hok.fresh (Nat.le_refl _)) (Nat.ne_of_lt (Nat.lt_succ_self _))
  have J := Inv.made (C := C) I
  have rs2 : Vals (V.ref (s.heap.objs.size + 1) :: vs) (Value.ref (s.heap.objs.size + 1) :: us) := .cons rfl rs
  have hl : ((Value.ref (s.heap.objs.size + 1) :: us) ++ ([] : List Value)).length = ps.length := by
    rw [List.append_nil, ← rs2.length]
    exact Fk.len _ _ _ _ q0
  have bb := bd _ (Value.ref (s.heap.objs.size + 1) :: us) J.kIn hl
  rw [List.append_nil] at bb
  refine wpAny_call (make_map (f := f) I.kIn Mq.makes Mq.init (beq_iff_eq.mp Mq.fn) (codeAny_mono (Fk.run _ X.stack _ _ ⟨Value.ref (s.heap.objs.size + 1) :: us, []⟩ _ _ _ _ (rm.make C us []) (J.env0.make C us []) bb rs2 q0) fun r s2 h2 => ?_))
  match r, h2 with
  | .error e, h2 => exact passAt tk σ pins _ _ e s2 J h2
  | .ok (.ret u), h2 =>
    obtain ⟨v, H2, J2, rv, ev, q2⟩ := J.after h2
    subst ev
    exact ⟨rv, ⟨V.ref (s.heap.objs.size + 1), H2, J2, rfl, q2⟩⟩
  | .ok .next, h2 => exact h2.elim
  | .ok .brk, h2 => exact h2.elim
  | .ok .cont, h2 => exact h2.elim
end
section
variable {X : Cx} {cl : Str → Option Addr} {E : WX} {k n : Nat} {c : Str} {p pos : Pos} {e : Expr} {es : List Expr} {ms : M (List D)} {g : List D → Store → Res D}
theorem make_rd {W : Wd} {H : Hp} {S : Store} {C : Addr} {vs : List V} {ds : List D} {Q : VK} {σ : St} (hC : cl c = some C) (r : R X.K cl W H S) (t : Reps X.K cl W vs ds)
    (q : Post X.K cl (Rep X.K cl) W ((ar n g (.ref S.length :: ds) (S ++ [.ins c []])).bind fun d S2 => match d with
      | .non => .ok (.ref S.length) S2
      | _ => .stk) Q (fun c d H' => E c d σ H')) :
    ∀ x dx, H x = none → H dx = none → dx ≠ x → spOf X.K cl n g (.ref x :: vs) (upd (upd H dx (.own x)) x (.ins C dx [])) (fun v H2 => v = .non ∧ Q (.ref x) H2) (fun c d H' => E c d σ H') := by
  intro x dx hx hdx ne
  have r1 := r.junk (o := .own x) hdx
  have hx1 : upd H dx (.own x) x = none := by
    rw [upd_ne (fun h => ne h.symm)]
    exact hx
  have r2 := r1.new (o := .ins C dx []) (mo := .ins c []) hx1 ⟨C, dx, [], hC, upd_same, .nil⟩
  have ew : (W.lv x).ι S.length = x := by rw [← r.n]; exact W.lv_at x
  have rx : Rep X.K cl (W.lv x) (.ref x) (.ref S.length) := by
    have z := Rep.ref (K := X.K) (cl := cl) (W := W.lv x) (n := S.length) (by show S.length < W.n + 1; rw [r.n]; exact Nat.lt_succ_self _)
    rw [ew] at z
    exact z
  refine ⟨W.lv x, S ++ [.ins c []], .ref S.length :: ds, r2, .cons rx (t.up (Le.lv W x)), ?_⟩
  cases e : ar n g (.ref S.length :: ds) (S ++ [.ins c []]) with
  | stk => rw [e] at q; exact q.elim
  | exc y S3 =>
    rw [e] at q
    exact fun W' H' c' dd l' r' rx' => q W' H' c' dd ((Le.lv W x).tr l') r' rx'
  | ok d S3 =>
    rw [e] at q
    intro W' H' v l' r' rv
    dsimp only [Res.bind] at q
    split at q
    · cases rv
      exact ⟨rfl, q W' H' _ ((Le.lv W x).tr l') r' (rx.up l')⟩
    · exact q.elim
theorem t_make (hM : Mkr X.prog X.w X.K X.mg X.base cl c k n g) (rm : Room (k + 1) X.A) (tk : Takes X E) (hA : PA X (e :: es) (TL X.K cl E ms)) (hg : Gl X c := by rfl) (hdb : (c == ("__debug__" : Str)) = false := by decide)
    (h1 : starEach (e :: es) X.env = (false, eval e X.env) :: starEach es X.env := by rfl) (h2 : (backTo pos (starEach es X.env)).any (·.1) = false := by rfl) :
    PE X (.Call (.Name c p) (e :: es) [] pos) (T X.K cl E (mMake c n g ms)) := by
  obtain ⟨C, f, fd, ps, c1, c2, c3, c4, c5⟩ := hM
  refine ⟨fun pins s σ H Q I ⟨W, ρ, S, hr, en, q⟩ => ?_⟩
  refine wpAny_Call_Name_kw (ld_glob I hg c2 ?_ hdb)
  refine PySem.W.callWith_K (h₀ := X.base) I.ok.mod.kin c3.kp (thn (hA.run pos pins s σ H _ I (step (rel := Reps X.K cl) hr en q fun W1 H1 ys ds S1 l1 r1 e1 ry p1 => make_rd c1 r1 ry p1)) fun us s1 ⟨vs, H1, I1, rs, q1⟩ => ⟨I1.kIn, ?_⟩) h1 h2
  exact run_makeX c3 c4 rm c5 tk I1 rs q1
end
end G
namespace G
open PySem L2
/-! ### the handled exception: cl at reserved names -/
structure Rsv (cl : Str → Option Addr) : Prop where
  a : cl "#a" = none
  c : cl "#c" = none
  d : cl "#d" = none
def clX (cl : Str → Option Addr) (a C : Addr) (d : Option Addr) : Str → Option Addr := fun s => if s = "#a" then some a else if s = "#c" then some C else if s = "#d" then d else cl s
theorem clX_a {cl : Str → Option Addr} {a C : Addr} {d : Option Addr} : clX cl a C d "#a" = some a := if_pos rfl
theorem clX_c {cl : Str → Option Addr} {a C : Addr} {d : Option Addr} : clX cl a C d "#c" = some C := (if_neg (by decide)).trans (if_pos rfl)
theorem clX_d {cl : Str → Option Addr} {a C : Addr} {d : Option Addr} : clX cl a C d "#d" = d := (if_neg (by decide)).trans ((if_neg (by decide)).trans (if_pos rfl))
theorem clX_of {cl : Str → Option Addr} {a C : Addr} {d : Option Addr} {c : Str} {B : Addr} (r : Rsv cl) (h : cl c = some B) : clX cl a C d c = some B := by
  have h1 : c ≠ "#a" := fun e => by rw [e, r.a] at h; cases h
  have h2 : c ≠ "#c" := fun e => by rw [e, r.c] at h; cases h
  have h3 : c ≠ "#d" := fun e => by rw [e, r.d] at h; cases h
  unfold clX
  rw [if_neg h1, if_neg h2, if_neg h3]
  exact h
def rsvN (c : Str) : Bool := decide (c = "#a") || decide (c = "#c") || decide (c = "#d")
theorem clX_to {cl : Str → Option Addr} {a C : Addr} {d : Option Addr} {c : Str} {B : Addr} (n : rsvN c = false) (h : clX cl a C d c = some B) : cl c = some B := by
  unfold rsvN at n
  simp only [Bool.or_eq_false_iff, decide_eq_false_iff_not] at n
  unfold clX at h
  rw [if_neg n.1.1, if_neg n.1.2, if_neg n.2] at h
  exact h
mutual
/-- no handled exception within -/
def xf : D → Bool
  | .tup xs => xfL xs
  | .lst xs => xfL xs
  | .dct xs => xfK xs
  | .ins c xs => !rsvN c && xfF xs
  | .exv _ _ => false
  | _ => true
def xfL : List D → Bool
  | [] => true
  | d :: ds => xf d && xfL ds
def xfK : List (Key × D) → Bool
  | [] => true
  | (_, d) :: ds => xf d && xfK ds
def xfF : List (Str × D) → Bool
  | [] => true
  | (_, d) :: ds => xf d && xfF ds
end
theorem rsv_no {cl : Str → Option Addr} {c : Str} {B : Addr} (r : Rsv cl) (h : cl c = some B) : rsvN c = false := by
  unfold rsvN
  simp only [Bool.or_eq_false_iff, decide_eq_false_iff_not]
  refine ⟨⟨fun e => ?_, fun e => ?_⟩, fun e => ?_⟩
  · rw [e, r.a] at h; cases h
  · rw [e, r.c] at h; cases h
  · rw [e, r.d] at h; cases h
section
variable {K : PySem.W.Frag} {cl : Str → Option Addr} {W : Wd} {H : Hp} {S : Store} {a C : Addr} {d : Option Addr}
mutual
theorem Rep.toX (q : Rsv cl) : ∀ {v : V} {x : D}, Rep K cl W v x → Rep K (clX cl a C d) W v x ∧ xf x = true
  | _, _, .non => ⟨.non, rfl⟩
  | _, _, .bl b => ⟨.bl b, rfl⟩
  | _, _, .int i => ⟨.int i, rfl⟩
  | _, _, .str x => ⟨.str x, rfl⟩
  | _, _, .tup h t => ⟨.tup h (Reps.toX q t).1, (Reps.toX q t).2⟩
  | _, _, .lst h t => ⟨.lst h (Reps.toX q t).1, (Reps.toX q t).2⟩
  | _, _, .scr h => ⟨.scr h, rfl⟩
  | _, _, .dct h t => ⟨.dct h (RepK.toX q t).1, (RepK.toX q t).2⟩
  | _, _, .ins h c t => ⟨.ins h (clX_of q c) (RepF.toX q t).1, by
    show (!rsvN _ && _) = true
    rw [rsv_no q c, (RepF.toX q t).2]
    rfl⟩
  | _, _, .ref h => ⟨.ref h, rfl⟩
  | _, _, .exv0 h _ _ _ => by rw [q.a] at h; cases h
  | _, _, .exv1 h _ _ _ _ _ _ => by rw [q.a] at h; cases h
theorem Reps.toX (q : Rsv cl) : ∀ {v : List V} {x : List D}, Reps K cl W v x → Reps K (clX cl a C d) W v x ∧ xfL x = true
  | _, _, .nil => ⟨.nil, rfl⟩
  | _, _, .cons h t => ⟨.cons (Rep.toX q h).1 (Reps.toX q t).1, by
    show (_ && _) = true
    rw [(Rep.toX q h).2, (Reps.toX q t).2]
    rfl⟩
theorem RepK.toX (q : Rsv cl) : ∀ {v : List (Key × V)} {x : List (Key × D)}, RepK K cl W v x → RepK K (clX cl a C d) W v x ∧ xfK x = true
  | _, _, .nil => ⟨.nil, rfl⟩
  | _, _, .cons h t => ⟨.cons (Rep.toX q h).1 (RepK.toX q t).1, by
    show (_ && _) = true
    rw [(Rep.toX q h).2, (RepK.toX q t).2]
    rfl⟩
theorem RepF.toX (q : Rsv cl) : ∀ {v : List (Str × V)} {x : List (Str × D)}, RepF K cl W v x → RepF K (clX cl a C d) W v x ∧ xfF x = true
  | _, _, .nil => ⟨.nil, rfl⟩
  | _, _, .cons h t => ⟨.cons (Rep.toX q h).1 (RepF.toX q t).1, by
    show (_ && _) = true
    rw [(Rep.toX q h).2, (RepF.toX q t).2]
    rfl⟩
end
mutual
theorem Rep.ofX : ∀ {v : V} {x : D}, Rep K (clX cl a C d) W v x → xf x = true → Rep K cl W v x
  | _, _, .non, _ => .non
  | _, _, .bl b, _ => .bl b
  | _, _, .int i, _ => .int i
  | _, _, .str x, _ => .str x
  | _, _, .tup h t, e => .tup h (Reps.ofX t e)
  | _, _, .lst h t, e => .lst h (Reps.ofX t e)
  | _, _, .scr h, _ => .scr h
  | _, _, .dct h t, e => .dct h (RepK.ofX t e)
  | _, _, .ins h c t, e => .ins h (clX_to (by simpa using (Bool.and_eq_true_iff.mp e).1) c) (RepF.ofX t (Bool.and_eq_true_iff.mp e).2)
  | _, _, .ref h, _ => .ref h
  | _, _, .exv0 _ _ _ _, e => by cases e
  | _, _, .exv1 _ _ _ _ _ _ _, e => by cases e
theorem Reps.ofX : ∀ {v : List V} {x : List D}, Reps K (clX cl a C d) W v x → xfL x = true → Reps K cl W v x
  | _, _, .nil, _ => .nil
  | _, _, .cons h t, e => .cons (Rep.ofX h (Bool.and_eq_true_iff.mp e).1) (Reps.ofX t (Bool.and_eq_true_iff.mp e).2)
theorem RepK.ofX : ∀ {v : List (Key × V)} {x : List (Key × D)}, RepK K (clX cl a C d) W v x → xfK x = true → RepK K cl W v x
  | _, _, .nil, _ => .nil
  | _, _, .cons h t, e => .cons (Rep.ofX h (Bool.and_eq_true_iff.mp e).1) (RepK.ofX t (Bool.and_eq_true_iff.mp e).2)
theorem RepF.ofX : ∀ {v : List (Str × V)} {x : List (Str × D)}, RepF K (clX cl a C d) W v x → xfF x = true → RepF K cl W v x
  | _, _, .nil, _ => .nil
  | _, _, .cons h t, e => .cons (Rep.ofX h (Bool.and_eq_true_iff.mp e).1) (RepF.ofX t (Bool.and_eq_true_iff.mp e).2)
end
def xfM : MO → Bool
  | .lst xs => xfL xs
  | .dct xs => xfK xs
  | .ldc xs => xfK xs
  | .ins c xs => !rsvN c && xfF xs
  | .dead => true
theorem MRep.toX {b : Addr} {mo : MO} (q : Rsv cl) (h : MRep K cl W H b mo) : MRep K (clX cl a C d) W H b mo ∧ xfM mo = true := by
  cases mo with
  | lst ds => obtain ⟨vs, h1, h2⟩ := h; exact ⟨⟨vs, h1, (h2.toX q).1⟩, (h2.toX (a := a) (C := C) (d := d) q).2⟩
  | dct ds => obtain ⟨vs, h1, h2⟩ := h; exact ⟨⟨vs, h1, (h2.toX q).1⟩, (h2.toX (a := a) (C := C) (d := d) q).2⟩
  | ldc ds => obtain ⟨o, vs, h1, h2⟩ := h; exact ⟨⟨o, vs, h1, (h2.toX q).1⟩, (h2.toX (a := a) (C := C) (d := d) q).2⟩
  | ins c ds =>
    obtain ⟨B, dx, vs, h0, h1, h2⟩ := h
    refine ⟨⟨B, dx, vs, clX_of q h0, h1, (h2.toX q).1⟩, ?_⟩
    show (!rsvN c && _) = true
    rw [rsv_no q h0, (h2.toX (a := a) (C := C) (d := d) q).2]
    rfl
  | dead => exact ⟨trivial, rfl⟩
theorem MRep.ofX {b : Addr} {mo : MO} (h : MRep K (clX cl a C d) W H b mo) (e : xfM mo = true) : MRep K cl W H b mo := by
  cases mo with
  | lst ds => obtain ⟨vs, h1, h2⟩ := h; exact ⟨vs, h1, h2.ofX e⟩
  | dct ds => obtain ⟨vs, h1, h2⟩ := h; exact ⟨vs, h1, h2.ofX e⟩
  | ldc ds => obtain ⟨o, vs, h1, h2⟩ := h; exact ⟨o, vs, h1, h2.ofX e⟩
  | ins c ds =>
    obtain ⟨B, dx, vs, h0, h1, h2⟩ := h
    exact ⟨B, dx, vs, clX_to (by simpa using (Bool.and_eq_true_iff.mp e).1) h0, h1, h2.ofX (Bool.and_eq_true_iff.mp e).2⟩
  | dead => trivial
theorem R.toX (q : Rsv cl) (r : R K cl W H S) : R K (clX cl a C d) W H S ∧ ∀ (i : Nat) (mo : MO), S[i]? = some mo → mo ≠ .dead → xfM mo = true :=
  ⟨⟨r.n, r.sub, fun i mo h nd => ⟨(r.live i mo h nd).1, ((r.live i mo h nd).2.toX q).1⟩, r.inj, r.priv⟩, fun i mo h nd => ((r.live i mo h nd).2.toX (a := a) (C := C) (d := d) q).2⟩
theorem R.ofX (r : R K (clX cl a C d) W H S) (x : ∀ (i : Nat) (mo : MO), S[i]? = some mo → mo ≠ .dead → xfM mo = true) : R K cl W H S :=
  ⟨r.n, r.sub, fun i mo h nd => ⟨(r.live i mo h nd).1, (r.live i mo h nd).2.ofX (x i mo h nd)⟩, r.inj, r.priv⟩
theorem Envs.toX {σ : St} {ρ : Sl} (q : Rsv cl) (e : Envs K cl W σ ρ) : Envs K (clX cl a C d) W σ ρ ∧ ∀ (i : Nat) (x : D), ρ[i]? = some (some x) → xf x = true :=
  ⟨⟨e.len, fun i x h => let ⟨v, h1, h2⟩ := e.at' i x h; ⟨v, h1, (h2.toX q).1⟩⟩, fun i x h => by
    obtain ⟨v, h1, h2⟩ := e.at' i x h
    exact (h2.toX (a := a) (C := C) (d := d) q).2⟩
theorem XRep.exv {x : Exc} (q : Rsv cl) (h : XRep K cl W (.ref C) d x) : Rep K (clX cl a C d) W (.ref a) (.exv x.cls x.fs) := by
  obtain ⟨B, h1, h2, h3⟩ := h
  cases h2
  rcases h3 with ⟨h3, rfl⟩ | ⟨d', vs, rfl, h4, hn, h5⟩
  · rw [h3]
    exact .exv0 clX_a clX_c clX_d (clX_of q h1)
  · exact .exv1 clX_a clX_c clX_d (clX_of q h1) h4 hn (h5.toX q).1
end
/-- a suite's reading, by the class of the exception -/
def tsX (t : Addr → Addr → Option Addr → TS) (a : Addr) (cls : Value) (d : Option Addr) : TS := match cls with
  | .ref C => t a C d
  | _ => fun _ _ _ => False
theorem tsX_of {X : Cx} {st : List Stmt} {t : Addr → Addr → Option Addr → TS} (h : ∀ (a : Addr) (oe : Obj) (C : Addr) (d : Option Addr) (pn : List (Addr × Obj)), Zc (.ref C) d oe → (∃ vs, oe.data = .fields vs) → PSs (X.suite a ((a, oe) :: pn)) st (t a C d)) :
    ∀ (a : Addr) (oe : Obj) (cls : Value) (d : Option Addr) (pn : List (Addr × Obj)), Zc cls d oe → (∃ vs, oe.data = .fields vs) → PSs (X.suite a ((a, oe) :: pn)) st (tsX t a cls d) := fun a oe cls d pn hz hf => by
  cases cls with
  | ref C => exact h a oe C d pn hz hf
  | _ => exact ⟨fun _ _ _ _ _ _ q => q.elim⟩
section
variable {X : Cx} {cl : Str → Option Addr} {E : WX} {x n t : Str} {hc : Value} {i j : Nat} {body : List Stmt} {e : Expr} {np pos pos' ap : Pos} {mb : MS} {m : M D} {cs : List (Str × Bool)} {tp : Pos}
end
end G
namespace G
open PySem L2
/-! ### raise -/
section
variable {X : Cx}
end
/-! an own error with fields: its __init__ -/
def tErr (K : PySem.W.Frag) : List (Str × Nat) → TS
  | [] => tNext
  | (f, i) :: r => tSeq (tOst K f (tVar 0) (tVar i)) (tErr K r)
section
variable {X : Cx} {f p : Str} {i : Nat} {r : List (Str × Nat)} {sts : List Stmt} {p0 p1 p2 pos : Pos} {self : Str}
theorem er_nil : PSs X [] (tErr X.K []) := pss_nil
theorem er_cons (i : Nat) (h : PSs X sts (tErr X.K r)) (h0 : X.N[0]? = some self := by rfl) (h1 : X.N[i]? = some p := by rfl) (v0 : Vis X.env.scope self := by first | exact Or.inl rfl | exact Or.inr (Or.inl rfl) | exact Or.inr (Or.inr rfl))
    (v1 : Vis X.env.scope p := by first | exact Or.inl rfl | exact Or.inr (Or.inl rfl) | exact Or.inr (Or.inr rfl)) (d0 : (self == ("__debug__" : Str)) = false := by decide) (c0 : (self == ("__classdict__" : Str)) = false := by decide)
    (d1 : (p == ("__debug__" : Str)) = false := by decide) (c1 : (p == ("__classdict__" : Str)) = false := by decide) (hs : swapsWith (.Name p p2) (some (.Attribute (.Name self p0) f p1)) pos.line X.env = pure false := by rfl) :
    PSs X (.Assign [.Attribute (.Name self p0) f p1] (.Name p p2) pos :: sts) (tErr X.K ((f, i) :: r)) :=
  pss_cons (ps_ost (pe_var h0 v0 d0 c0) (pe_var h1 v1 d1 c1) hs) h
end
def errF (σ : St) : List (Str × V) → List (Str × Nat) → List (Str × V)
  | acc, [] => acc
  | acc, (f, i) :: r => errF σ ((f, ((σ[i]?.bind id).getD .non)) :: acc) r
theorem err_run {K : PySem.W.Frag} {H : Hp} {a C dx : Addr} {σ : St} {D : Ends} (T : OexC K C) (h0 : σ[0]? = some (some (.ref a))) (hne : dx ≠ a) : ∀ (r : List (Str × Nat)) (acc : List (Str × V)), (∀ q ∈ r, PySem.W.findIn K (.ref C) q.1 = some none ∧ ∃ w, σ[q.2]? = some (some w)) → acc.length + r.length ≤ 900 →
    D.nx σ (upd (upd H dx (exd dx (errF σ acc r))) a (exo a C (some dx))) → tErr K r D σ (upd (upd H dx (exd dx acc)) a (exo a C (some dx)))
  | [], acc, _, _, q => q
  | (f, i) :: r, acc, hr, hl, q => by
    obtain ⟨hf, w, hw⟩ := hr (f, i) (by simp)
    rw [List.length_cons] at hl
    refine ⟨w, hw, .ref a, h0, a, C, rfl, T, hf, .inr ⟨dx, acc, upd_same, ?_, by omega, ?_⟩⟩
    · rw [upd_ne hne]
      exact upd_same
    · have e : upd (upd (upd H dx (exd dx acc)) a (exo a C (some dx))) dx (exd dx ((f, w) :: acc)) = upd (upd H dx (exd dx ((f, w) :: acc))) a (exo a C (some dx)) := by
        funext b
        by_cases hb : b = dx
        · subst hb
          rw [upd_same, upd_ne hne, upd_same]
        · rw [upd_ne hb]
          by_cases ha : b = a
          · subst ha
            rw [upd_same, upd_same]
          · rw [upd_ne ha, upd_ne ha, upd_ne hb, upd_ne hb]
      show tErr K r D σ _
      rw [e]
      refine err_run T h0 hne r _ (fun q hq => hr q (by simp [hq])) (by simp; omega) ?_
      have ew : ((σ[i]?.bind id).getD .non) = w := by rw [hw]; rfl
      unfold errF at q
      rw [ew] at q
      exact q
/-- what an error's __init__ promises -/
def spErr (K : PySem.W.Frag) (N : List Str) (n : Nat) (r : List (Str × Nat)) : Sp := fun vs H Q _ => ∃ (a C : Addr) (ws : List V), vs = .ref a :: ws ∧ vs.length = n ∧ OexC K C ∧ (∀ q ∈ r, PySem.W.findIn K (.ref C) q.1 = some none) ∧ H a = some (exo a C none) ∧
  ∀ dx, H dx = none → dx ≠ a → Q .non (upd (upd H dx (exd dx (errF (L2.start N vs) [] r))) a (exo a C (some dx)))
section
variable {P : Program} {w : World} {K : PySem.W.Frag} {mg : Str → Option Value} {base : Heap}
theorem err_fn {x qual : Str} {st : Stmt} {f : Addr} {fd : FuncData} {N ps : List Str} {k n : Nat} {g : Str} {i : Nat} {r : List (Str × Nat)} (F : Fun K x qual st f fd) (Sc : FnScope N ps (defScope st)) (hn : ps.length = n) (hlen : r.length ≤ 800) (hps : ∀ q ∈ (g, i) :: r, q.2 < n)
    (body : ∀ (cdv : Value) (A : Around) (outer : List Env) (s : Shared) (H : Hp) (E : XK), PSs (cxOf (L2.CX P w) P w K mg base N qual (defScope st) f cdv A outer s H E) (defBody st) (tErr K ((g, i) :: r))) :
    FnOk P w K mg base (L2.CX P w) (k + 1) f fd ps (spErr K N n ((g, i) :: r)) := by
  refine F.okX Sc (fun vs H Q E h => by obtain ⟨_, _, _, _, h, _⟩ := h; rw [h, hn]) fun cdv A outer s H vs Q E hr h => ⟨_, body cdv A outer s H E, ?_⟩
  obtain ⟨a, C, ws, rfl, hl, T, hf, ha, q⟩ := h
  have st0 : (L2.start N (V.ref a :: ws))[0]? = some (some (.ref a)) := rfl
  have sti : ∀ j, j < n → ∃ v, (L2.start N (V.ref a :: ws))[j]? = some (some v) := fun j hj => by
    have hj2 : j < (V.ref a :: ws).length := by rw [hl]; exact hj
    refine ⟨(V.ref a :: ws)[j], ?_⟩
    unfold L2.start
    rw [List.getElem?_append_left (by simpa using hj2), List.getElem?_map, List.getElem?_eq_getElem hj2]
    rfl
  obtain ⟨v, hv⟩ := sti i (hps (g, i) (by simp))
  refine ⟨v, hv, .ref a, st0, a, C, rfl, T, hf (g, i) (by simp), .inl ⟨ha, fun dx hdx hne => ?_⟩⟩
  refine err_run T st0 hne r [(g, v)] (fun q hq => ⟨hf q (by simp [hq]), sti q.2 (hps q (by simp [hq]))⟩) (by simp; omega) ?_
  have := q dx hdx hne
  have ew : (((L2.start N (V.ref a :: ws))[i]?.bind id).getD .non) = v := by rw [hv]; rfl
  unfold errF at this
  rw [ew] at this
  exact this
end
def errFD (ρ : Sl) : List (Str × D) → List (Str × Nat) → List (Str × D)
  | acc, [] => acc
  | acc, (f, i) :: r => errFD ρ ((f, ((ρ[i]?.bind id).getD .non)) :: acc) r
theorem errF_rep {K : PySem.W.Frag} {cl : Str → Option Addr} {W : Wd} {σ : St} {ρ : Sl} : ∀ (r : List (Str × Nat)) {acc : List (Str × V)} {acd : List (Str × D)}, (∀ q ∈ r, ∃ v d, σ[q.2]? = some (some v) ∧ ρ[q.2]? = some (some d) ∧ Rep K cl W v d) → RepF K cl W acc acd →
    RepF K cl W (errF σ acc r) (errFD ρ acd r)
  | [], _, _, _, h => h
  | (f, i) :: r, acc, acd, hr, h => by
    obtain ⟨v, d, h1, h2, h3⟩ := hr (f, i) (by simp)
    unfold errF errFD
    rw [h1, h2]
    exact errF_rep r (fun q hq => hr q (by simp [hq])) (.cons h3 h)
theorem errFD_len {ρ : Sl} : ∀ (r : List (Str × Nat)) (acc : List (Str × D)), (errFD ρ acc r).length = acc.length + r.length
  | [], acc => rfl
  | (f, i) :: r, acc => by
    unfold errFD
    rw [errFD_len r]
    simp
    omega
theorem errFD_ne {ρ : Sl} {r : List (Str × Nat)} (h : r ≠ []) : errFD ρ [] r ≠ [] := fun e => by
  have q := errFD_len (ρ := ρ) r []
  rw [e] at q
  have := List.length_pos_iff.mpr h
  simp at q
  omega
/-- raise c(..), an own error with fields -/
def ErrF (P : Program) (w : World) (K : PySem.W.Frag) (mg : Str → Option Value) (base : Heap) (cl : Str → Option Addr) (c : Str) (k n : Nat) (N : List Str) (r : List (Str × Nat)) : Prop :=
  ∃ C fI fd ps, cl c = some C ∧ mg c = some (.ref C) ∧ OexC K C ∧ PySem.W.findIn K (.ref C) "__init__" = some (some (.ref fI)) ∧ PySem.W.typeIn K (.ref fI) = some (.type "function") ∧
    FnOk P w K mg base (L2.CX P w) k fI fd ps (spErr K N n r) ∧ Binds K fd ps [] ∧ ∀ q ∈ r, PySem.W.findIn K (.ref C) q.1 = some none
def sRaise (c : Str) (n N : Nat) (r : List (Str × Nat)) (a : M (List D)) : MS := fun ρ S => sB (a ρ S) ρ fun ds S1 => if ds.length + 1 = n ∧ ds.length ≤ 1000 then .exc ⟨c, errFD (startD N (.non :: ds)) [] r⟩ ρ S1 else .stk
section
variable {X : Cx} {cl : Str → Option Addr} {E : WX} {c : Str} {k n : Nat} {N : List Str} {r : List (Str × Nat)} {e : Expr} {es : List Expr} {ms : M (List D)} {p pos pos' : Pos}
theorem s_raiseF (h : ErrF X.prog X.w X.K X.mg X.base cl c k n N r) (rm : Room (k + 1) X.A) (tk : Takes X E) (hA : PA X (e :: es) (TL X.K cl E ms)) (hr0 : r ≠ []) (hq : ∀ q ∈ r, 1 ≤ q.2 ∧ q.2 < n) (hcalm : X.calm = true := by rfl) (hg : Gl X c := by rfl)
    (hdb : (c == ("__debug__" : Str)) = false := by decide) (h1 : starEach (e :: es) X.env = (false, eval e X.env) :: starEach es X.env := by rfl) (h2 : (backTo pos (starEach es X.env)).any (·.1) = false := by rfl) :
    PS X (.Raise (some (.Call (.Name c p) (e :: es) [] pos)) none pos') (Ts X.K cl E (sRaise c n N.length r ms)) := by
  obtain ⟨C, fI, fd, ps, c1, c2, c3, c4, c5, c6, c7, c8⟩ := h
  have hx : Passes (L2.CX X.prog X.w) X (fun _ _ _ => False) := fun pins σ H s e s' I z => passAt (X := X) (W := fun _ _ _ _ => False) takes0 σ pins H s e s' I z
  refine ps_imp (ps_raise hcalm tk (pmk_oex c3 c4 c5 c6 rm c7 .nil hx hg c2 hA hdb h1 h2)) fun A σ H ⟨W, ρ, S, hr, he, pp⟩ => ?_
  refine stepS (rel := Reps X.K cl) hr he pp fun W1 H1 vs ds S1 l1 r1 e1 rv p1 => ?_
  split at p1
  · rename_i hz
    refine ⟨by rw [rv.len]; exact hz.2, fun a ha => ?_⟩
    rw [List.append_nil]
    have lv : vs.length = ds.length := rv.len
    refine ⟨a, C, vs, rfl, by rw [List.length_cons, lv]; exact hz.1, c3, c8, upd_same, fun dx hdx hne => ⟨rfl, dx, errF (L2.start N (V.ref a :: vs)) [] r, upd_same, ?_, ?_, ?_⟩⟩
    · rw [upd_ne hne]
      exact upd_same
    · rw [upd_ne hne] at hdx
      exact hdx
    · rw [upd_ne hne] at hdx
      have eh : upd (del (upd (upd (upd H1 a (exo a C none)) dx (exd dx (errF (L2.start N (V.ref a :: vs)) [] r))) a (exo a C (some dx))) a) dx (.xd (errF (L2.start N (V.ref a :: vs)) [] r)) = upd H1 dx (.xd (errF (L2.start N (V.ref a :: vs)) [] r)) := by
        funext b
        by_cases hb : b = dx
        · subst hb
          rw [upd_same, upd_same]
        · rw [upd_ne hb, upd_ne hb]
          by_cases hba : b = a
          · subst hba
            rw [del_same, ha]
          · rw [del_ne hba, upd_ne hba, upd_ne hb, upd_ne hba]
      rw [eh]
      obtain ⟨r2, l2⟩ := r1.fz (o := .xd (errF (L2.start N (V.ref a :: vs)) [] r)) hdx
      refine p1 _ _ σ (.ref C) (some dx) l2 r2 (e1.up l2) ⟨C, c1, rfl, .inr ⟨dx, _, rfl, upd_same, errFD_ne hr0, errF_rep r (fun q hqq => ?_) .nil⟩⟩
      obtain ⟨q1, q2⟩ := hq q hqq
      obtain ⟨m, hm⟩ : ∃ m, q.2 = m + 1 := ⟨q.2 - 1, by omega⟩
      have hmd : m < ds.length := by omega
      obtain ⟨y, hy, ry⟩ := (rv.up l2).at (i := m) (x := ds[m]) (List.getElem?_eq_getElem hmd)
      refine ⟨y, ds[m], ?_, ?_, ry⟩
      · rw [hm]
        unfold L2.start
        rw [List.getElem?_append_left (by simp; omega), List.getElem?_map, List.getElem?_cons_succ, hy]
        rfl
      · rw [hm]
        unfold startD
        rw [List.getElem?_append_left (by simp; omega), List.getElem?_map, List.getElem?_cons_succ, List.getElem?_eq_getElem hmd]
        rfl
  · exact p1.elim
end
end G
namespace G
open PySem L2
/-! ### in an except suite: fields of the handled exception -/
def xfD (cs : List Str) (f : Str) (d : D) (S : Store) : Res D := match d with
  | .exv c fs => if c ∈ cs then ofO (fs.lookup f) S else .stk
  | _ => .stk
/-- f is a field of these errors -/
def XAttr (K : PySem.W.Frag) (cl : Str → Option Addr) (f : Str) (cs : List Str) : Prop := ∀ c ∈ cs, rsvN c = false ∧ ∀ C, cl c = some C → XfC K C ∧ PySem.W.findIn K (.ref C) f = some none
section
variable {X : Cx} {cl : Str → Option Addr} {E : WX} {a : Addr} {oe : Obj} {C0 : Addr} {d : Option Addr} {pn : List (Addr × Obj)} {f n : Str} {cs : List Str} {i : Nat} {np pos : Pos}
theorem t_xf (i : Nat) (ht : XAttr X.K cl f cs) (hz : Zc (.ref C0) d oe) (hf : ∃ vs, oe.data = .fields vs) (hN : X.N[i]? = some n := by rfl) (hv : Vis X.env.scope n := by first | exact Or.inl rfl | exact Or.inr (Or.inl rfl) | exact Or.inr (Or.inr rfl))
    (hd : (n == ("__debug__" : Str)) = false := by decide) (hcd : (n == ("__classdict__" : Str)) = false := by decide) (hb : attributeBase (.Name n np) f X.env (eval (.Name n np) X.env) = eval (.Name n np) X.env := by rfl) :
    PE (X.suite a ((a, oe) :: pn)) (.Attribute (.Name n np) f pos) (T X.K (clX cl a C0 d) E (mUn (xfD cs f) (mVar i))) := by
  refine ⟨fun pins s σ H Q I ⟨W, ρ, S, hr, he, p⟩ => ?_⟩
  unfold mUn mVar at p
  split at p
  · rename_i x e
    obtain ⟨v, h1, h2⟩ := he.at' i x e
    dsimp only [Res.bind] at p
    unfold xfD at p
    split at p
    · rename_i c fs
      split at p
      · rename_i hm
        obtain ⟨n1, n2⟩ := ht c hm
        cases el : fs.lookup f with
        | none => rw [el] at p; exact p.elim
        | some y =>
          rw [el] at p
          cases h2 with
          | exv0 g1 g2 g3 g4 => cases el
          | exv1 g1 g2 g3 g4 g5 g7 g6 =>
            rw [clX_a] at g1
            rw [clX_c] at g2
            rw [clX_d] at g3
            cases g1
            cases g2
            obtain ⟨T1, T2⟩ := n2 _ (clX_to n1 g4)
            obtain ⟨u, hu, ru⟩ := g6.get el
            refine (pe_xf (te := tVar i) T1 T2 hz hf (pe_var (X := X.suite a ((a, oe) :: pn)) hN hv hd hcd) hb).run pins s σ H Q I ⟨_, h1, rfl, rfl, _, _, u, g3, hr.sub _ _ g5, hu, p.now hr ru⟩
      · exact p.elim
    · exact p.elim
  · exact p.elim
end
/-! isinstance of the handled exception (an error without fields) -/
section
variable {X : Cx} {cl : Str → Option Addr} {E : WX} {a C0 C2 : Addr} {oe : Obj} {d : Option Addr} {pn : List (Addr × Obj)} {n x2 : Str} {tb : List (Str × Bool)} {i : Nat} {p p1 p2 pos : Pos}
end
end G
namespace G
open PySem L2
/-! ### the table of classes, read from the written part -/
def clOf (names : List Str) (K : PySem.W.Frag) : Str → Option Addr := fun c => if names.contains c = true then (match PySem.W.nsIn K mainGlobals c with
  | some (some (.ref C)) => some C
  | _ => none) else none
theorem clOf_at {names : List Str} {K : PySem.W.Frag} {c : Str} {C : Addr} (h : PySem.W.nsIn K mainGlobals c = some (some (.ref C))) (hm : names.contains c = true) : clOf names K c = some C := by
  unfold clOf
  rw [if_pos hm, h]
theorem clOf_rsv {names : List Str} {K : PySem.W.Frag} (h : (names.contains "#a" || names.contains "#c" || names.contains "#d") = false) : Rsv (clOf names K) := by
  simp only [Bool.or_eq_false_iff] at h
  obtain ⟨⟨h1, h2⟩, h3⟩ := h
  exact ⟨by unfold clOf; rw [h1]; rfl, by unfold clOf; rw [h2]; rfl, by unfold clOf; rw [h3]; rfl⟩
/-! tables of methods -/
section
variable {P : Program} {w : World} {K : PySem.W.Frag} {mg : Str → Option Value} {base : Heap} {cl : Str → Option Addr} {c m : Str} {j k n : Nat} {g : List D → Store → Res D} {tb : MT}
theorem MFn.mono (h : MFn P w K mg base cl c m j n g) (le : j ≤ k) : MFn P w K mg base cl c m k n g := by
  obtain ⟨C, f, fd, ps, h1, h2, h3, h4, h5⟩ := h
  exact ⟨C, f, fd, ps, h1, h2, h3, h4.mono le, h5⟩
theorem mt_nil : ∀ c g, ([] : MT).lookup c = some g → MFn P w K mg base cl c m k n g := fun c g h => by cases h
theorem mt_cons (h : MFn P w K mg base cl c m k n g) (ht : ∀ c g, tb.lookup c = some g → MFn P w K mg base cl c m k n g) : ∀ c' g', ((c, g) :: tb).lookup c' = some g' → MFn P w K mg base cl c' m k n g' := fun c' g' e => by
  rw [List.lookup_cons] at e
  cases q : c' == c with
  | true =>
    rw [q] at e
    cases e
    rw [eq_of_beq q]
    exact h
  | false =>
    rw [q] at e
    exact ht c' g' e
theorem mt_ex : ∃ c' g', ((c, g) :: tb).lookup c' = some g' := ⟨c, g, by rw [List.lookup_cons, beq_self_eq_true]⟩
theorem at_nil {f : Str} : AttrOk K cl f [] := fun _ h => nomatch h
theorem at_cons {f : Str} {C : Addr} {cs : List Str} (hc : cl c = some C) (h1 : Cls K C) (h2 : NoAttr K C f) (h : AttrOk K cl f cs) : AttrOk K cl f (c :: cs) := fun c' hm C' hC' => by
  rcases List.mem_cons.mp hm with rfl | hm
  · rw [hc] at hC'
    cases hC'
    exact ⟨h1, h2⟩
  · exact h c' hm C' hC'
end
/-! exceptions, by name -/
def TryT (K : PySem.W.Frag) (mg : Str → Option Value) (cl : Str → Option Addr) (x : Str) (tb : List (Str × Bool)) : Prop := ∃ C2, mg x = some (.ref C2) ∧ ∀ c b, tb.lookup c = some b → ∀ C, cl c = some C → PySem.W.exmOne K (.ref C) (.ref C2) = some b
section
variable {X : Cx} {cl : Str → Option Addr} {E : WX} {a C0 : Addr} {oe : Obj} {d : Option Addr} {pn : List (Addr × Obj)} {n x2 : Str} {tb : List (Str × Bool)} {p p1 p2 pos : Pos}
end
section
variable {X : Cx} {cl : Str → Option Addr} {E : WX} {x n t : Str} {i j : Nat} {body : List Stmt} {e : Expr} {np pos pos' ap : Pos} {mb : MS} {m : M D} {cs : List (Str × Bool)} {tp : Pos}
end
end G
namespace G
open PySem L2
/-! ### o.f, o.g = e -/
section
variable {X : Cx} {cl : Str → Option Addr} {E : WX} {o e : Expr} {m mo : M D} {f g : Str} {pos pos' p1 p2 : Pos} {cs : List Str} {kt : Nat}
end
theorem s_par {X : Cx} {cl : Str → Option Addr} {E : WX} {x y : Str} {a b : Expr} {ms : M (List D)} {px py pt pos : Pos} {kt k2 : Nat} {pt2 : Pos} (i j : Nat) (hN : X.N.Nodup) (ha : PA X [a, b] (TL X.K cl E ms)) (hc : X.calm = true := by rfl) (hi : X.N[i]? = some x := by rfl) (hj : X.N[j]? = some y := by rfl) (hij : i ≠ j := by decide)
    (hx : X.env.scope.names.lookup x = some .local := by rfl) (hy : X.env.scope.names.lookup y = some .local := by rfl)
    (hw : swappedStores [.Tuple [.Name x px, .Name y py] kt pt] (.Tuple [a, b] k2 pt2) X.env = pure (some [x, y]) := by rfl)
    (hs : swapsWithSole [.Tuple [.Name x px, .Name y py] kt pt] (.Tuple [a, b] k2 pt2) pos.line X.env = pure false := by rfl) :
    PS X (.Assign [.Tuple [.Name x px, .Name y py] kt pt] (.Tuple [a, b] k2 pt2) pos) (Ts X.K cl E (sPar i j ms)) :=
  ps_imp (ps_par hc hN hi hj hij hx hy ha hw hs) fun A σ H ⟨W, ρ, S, hr, en, q⟩ => stepS hr en q fun W1 H1 vs ds S1 l1 r1 e1 rv p1 => by
    split at p1
    · cases rv with | cons r2 t =>
      cases t with | cons r3 t =>
      cases t
      exact ⟨_, _, rfl, p1 W1 H1 _ (.rf W1) r1 ((e1.set i r2).set j r3)⟩
    · exact p1.elim
/-! ### list(range(a, b)) -/
/-! ### dicts -/
def dcOf (S : Store) (d : D) : Option (List (Key × D)) := match d with
  | .dct kvs => some kvs
  | .ref n => (match S[n]? with
    | some (.dct kvs) => some kvs
    | some (.ldc kvs) => some kvs
    | _ => none)
  | _ => none
def keyO : D → Option Key
  | .int i => some (.inl i)
  | .str s => some (.inr s)
  | _ => none
def valK (kvs : List (Key × D)) (k : Key) : Option D := (kvs.find? fun kv => decide (kv.1 = k)).map (·.2)
def putKD (kvs : List (Key × D)) (k : Key) (v : D) : List (Key × D) := if (kvs.any fun kv => decide (kv.1 = k)) = true then kvs.map (fun kv => if kv.1 = k then (kv.1, v) else kv) else kvs ++ [(k, v)]
section
variable {K : PySem.W.Frag} {cl : Str → Option Addr} {W : Wd} {H : Hp} {S : Store}
theorem key_rep {x : V} {d : D} {k : Key} (h : Rep K cl W x d) (e : keyO d = some k) : x = kV k := by
  cases h <;> first | (cases e; rfl) | cases e
theorem dc_of {v : V} {d : D} {kvs : List (Key × D)} (r : R K cl W H S) (h : Rep K cl W v d) (e : dcOf S d = some kvs) : ∃ a vs, v = .ref a ∧ Rd H a (.dK vs) ∧ RepK K cl W vs kvs := by
  cases h with
  | dct g t =>
    cases e
    exact ⟨_, _, rfl, .inr ⟨_, r.sub _ _ g⟩, t⟩
  | @ref n hn =>
    unfold dcOf at e
    dsimp only at e
    cases q : S[n]? with
    | none => rw [q] at e; cases e
    | some mo =>
      rw [q] at e
      cases mo with
      | dct ys =>
        cases e
        obtain ⟨_, vs, h1, h2⟩ := r.live n _ q (by intro z; cases z)
        exact ⟨_, _, rfl, .inl h1, h2⟩
      | ldc ys =>
        cases e
        obtain ⟨_, o, vs, h1, h2⟩ := r.live n _ q (by intro z; cases z)
        exact ⟨_, _, rfl, .inr ⟨o, h1⟩, h2⟩
      | _ => cases e
  | _ => cases e
theorem RepK.val : ∀ {vs : List (Key × V)} {ds : List (Key × D)} (k : Key), RepK K cl W vs ds → (∃ v d, valV vs k = some v ∧ valK ds k = some d ∧ Rep K cl W v d) ∨ (valV vs k = none ∧ valK ds k = none)
  | _, _, k, .nil => .inr ⟨rfl, rfl⟩
  | _, _, k, .cons (k := j) (v := v) (d := d) h t => by
    by_cases e : j = k
    · subst e
      exact .inl ⟨v, d, by simp [valV], by simp [valK], h⟩
    · have e1 := RepK.val k t
      have e2 : ∀ {α : Type} (x : α) (r : List (Key × α)), ((j, x) :: r).find? (fun kv => decide (kv.1 = k)) = r.find? (fun kv => decide (kv.1 = k)) := fun x r => by simp [List.find?_cons, e]
      unfold valV valK at e1 ⊢
      rw [e2, e2]
      exact e1
theorem RepK.any : ∀ {vs : List (Key × V)} {ds : List (Key × D)} (k : Key), RepK K cl W vs ds → (vs.any fun kv => decide (kv.1 = k)) = (ds.any fun kv => decide (kv.1 = k))
  | _, _, k, .nil => rfl
  | _, _, k, .cons h t => by rw [List.any_cons, List.any_cons, RepK.any k t]
theorem RepK.repl {y : V} {d : D} (hy : Rep K cl W y d) : ∀ {vs : List (Key × V)} {ds : List (Key × D)} (k : Key), RepK K cl W vs ds → RepK K cl W (vs.map fun kv => if kv.1 = k then (kv.1, y) else kv) (ds.map fun kv => if kv.1 = k then (kv.1, d) else kv)
  | _, _, k, .nil => .nil
  | _, _, k, .cons (k := j) h t => by
    rw [List.map_cons, List.map_cons]
    by_cases e : j = k
    · rw [if_pos e, if_pos e]
      exact .cons hy (RepK.repl hy k t)
    · rw [if_neg e, if_neg e]
      exact .cons h (RepK.repl hy k t)
theorem RepK.snoc {y : V} {d : D} {k : Key} (hy : Rep K cl W y d) : ∀ {vs : List (Key × V)} {ds : List (Key × D)}, RepK K cl W vs ds → RepK K cl W (vs ++ [(k, y)]) (ds ++ [(k, d)])
  | _, _, .nil => .cons hy .nil
  | _, _, .cons h t => .cons h (RepK.snoc hy t)
theorem RepK.put {y : V} {d : D} {vs : List (Key × V)} {ds : List (Key × D)} (k : Key) (hy : Rep K cl W y d) (t : RepK K cl W vs ds) : RepK K cl W (putK vs k y) (putKD ds k d) := by
  unfold putK putKD
  rw [t.any k]
  by_cases e : (ds.any fun kv => decide (kv.1 = k)) = true
  · rw [if_pos e, if_pos e]
    exact t.repl hy k
  · rw [if_neg e, if_neg e]
    exact t.snoc hy
theorem RepK.len : ∀ {vs : List (Key × V)} {ds : List (Key × D)}, RepK K cl W vs ds → vs.length = ds.length
  | _, _, .nil => rfl
  | _, _, .cons _ t => by simp [t.len]
end
/-- in, not in: dicts too -/
def inDK (a b : D) (S : Store) : Option Bool := match dcOf S b, keyO a with
  | some kvs, some k => some (valK kvs k).isSome
  | _, _ => none
def notInA (a b : D) (S : Store) : Res D := match dcOf S b with
  | some _ => ofB ((inDK a b S).map not) S
  | none => notInD a b S
def rNotInDK : R2 := fun x y H Q => ∃ a o, y = .ref a ∧ DGet H a x o ∧ Q (.bl (!o.isSome)) H
theorem op_notInD2 {X : Cx} {k : Nat} (hr : Room k X.A) : OpR X (compareOp .NotIn) (fun x y H Q => rNotInA X.K x y H Q ∨ rNotInDK x y H Q) := opr_or op_notInA fun pins s σ H x y v u Q I rx ry ⟨a, o, ey, g, q⟩ => by
  subst ey
  obtain rfl : u = Value.ref a := ry
  exact d_notIn (by have := hr.un; omega) I g rx fun s' I' => ⟨.bl (!o.isSome), _, I', rfl, q⟩
theorem dget_of {K : PySem.W.Frag} {cl : Str → Option Addr} {W : Wd} {H : Hp} {a : Addr} {vs : List (Key × V)} {kvs : List (Key × D)} {k : Key} (h : Rd H a (.dK vs)) (t : RepK K cl W vs kvs) :
    ∃ o, DGet H a (kV k) o ∧ o.isSome = (valK kvs k).isSome ∧ ∀ d, valK kvs k = some d → ∃ v, o = some v ∧ Rep K cl W v d := by
  refine ⟨valV vs k, .inl ⟨vs, k, h, rfl, rfl⟩, ?_⟩
  rcases t.val k with ⟨v, d, h1, h2, h3⟩ | ⟨h1, h2⟩
  · exact ⟨by rw [h1, h2]; rfl, fun d' e => by rw [h2] at e; cases e; exact ⟨v, h1, h3⟩⟩
  · exact ⟨by rw [h1, h2]; rfl, fun d' e => by rw [h2] at e; cases e⟩
theorem notInA_s {K : PySem.W.Frag} {cl : Str → Option Addr} : OpS K cl (fun x y H Q => rNotInA K x y H Q ∨ rNotInDK x y H Q) notInA := by
  intro W H S x y a b Q E r rx ry p
  unfold notInA at p
  split at p
  · rename_i kvs e
    unfold inDK at p
    rw [e] at p
    cases ek : keyO a with
    | none => rw [ek] at p; exact p.elim
    | some k =>
      rw [ek] at p
      obtain ⟨l, vs, rfl, h, t⟩ := dc_of r ry e
      obtain rfl := key_rep rx ek
      obtain ⟨o, g, e1, _⟩ := dget_of (k := k) h t
      exact .inr ⟨l, o, rfl, g, by rw [e1]; exact p.now r (.bl _)⟩
  · exact .inl (notIn_s W H S x y a b Q E r rx ry p)
end G
namespace G
open PySem L2
/-! ### what the top has made of classes, as tests -/
def clsB (K : PySem.W.Frag) (C : Addr) : Bool := PySem.W.plainGet K C Str.empty && (PySem.W.hasDictIn K C && (PySem.W.plainOver K C && decide (PySem.W.findIn K (.ref C) "__setattr__" = some (some (.builtin "object.__setattr__")))))
theorem clsB_ok {K : PySem.W.Frag} {C : Addr} (h : clsB K C = true) : Cls K C := by
  obtain ⟨h1, h⟩ := Bool.and_eq_true_iff.mp h
  obtain ⟨h2, h⟩ := Bool.and_eq_true_iff.mp h
  obtain ⟨h3, h⟩ := Bool.and_eq_true_iff.mp h
  exact ⟨h1, h2, h3, of_decide_eq_true h⟩
def oexB (K : PySem.W.Frag) (C : Addr) : Bool := decide (PySem.W.findIn K (.ref C) "__setattr__" = some (some (.builtin "object.__setattr__"))) && (decide (PySem.W.subIn K (.ref C) (.type "BaseException") = some true) && (decide (PySem.W.typeIn K (.ref C) = some (.type "type")) && PySem.W.keepIn K (.ref C)))
theorem oexB_ok {K : PySem.W.Frag} {C : Addr} (c : ∃ nm q N bs bm sn sub ab col dd k0 k1 k2 k3 k5, K.lookup C = some (excClassObj nm q C N bs bm true sn sub ab col dd k0 k1 k2 k3 k5 "ValueError.__new__") ∧ PySem.HandSPX.refsVE bm = true) (h : oexB K C = true) : OexC K C := by
  obtain ⟨h1, h⟩ := Bool.and_eq_true_iff.mp h
  obtain ⟨h2, h⟩ := Bool.and_eq_true_iff.mp h
  obtain ⟨h3, h⟩ := Bool.and_eq_true_iff.mp h
  exact ⟨c, of_decide_eq_true h1, of_decide_eq_true h2, of_decide_eq_true h3, h⟩
section
variable {K : PySem.W.Frag} {mg : Str → Option Value} {cl : Str → Option Addr} {c x : Str} {C C2 : Addr} {b : Bool} {tb : List (Str × Bool)} {cs : List Str} {f : Str}
theorem xat_nil : XAttr K cl f [] := fun _ h => nomatch h
theorem xat_cons (hc : cl c = some C) (h1 : XfC K C) (h2 : PySem.W.findIn K (.ref C) f = some none) (h : XAttr K cl f cs) (hr : rsvN c = false := by decide) : XAttr K cl f (c :: cs) := fun c' hm => by
  rcases List.mem_cons.mp hm with rfl | hm
  · exact ⟨hr, fun C' hC' => by rw [hc] at hC'; cases hC'; exact ⟨h1, h2⟩⟩
  · exact h c' hm
def TryX (K : PySem.W.Frag) (cl : Str → Option Addr) (C2 : Addr) (tb : List (Str × Bool)) : Prop := ∀ c b, tb.lookup c = some b → ∀ C, cl c = some C → PySem.W.exmOne K (.ref C) (.ref C2) = some b
theorem try_nil : TryX K cl C2 [] := fun _ _ h => by cases h
theorem try_cons (hc : cl c = some C) (h2 : PySem.W.exmOne K (.ref C) (.ref C2) = some b) (h : TryX K cl C2 tb) : TryX K cl C2 ((c, b) :: tb) := fun c' b' e => by
  rw [List.lookup_cons] at e
  cases q : c' == c with
  | true =>
    rw [q] at e
    cases e
    rw [eq_of_beq q]
    exact fun C' hC' => by rw [hc] at hC'; cases hC'; exact h2
  | false =>
    rw [q] at e
    exact h c' b' e
end
end G
namespace G
open PySem L2
/-! ### running: written texts -/
theorem str_inj {a b : String} (h : Str.ofString a = Str.ofString b) : a = b := by
  rw [Str.ofString_eq_toList, Str.ofString_eq_toList] at h
  have h1 : (a.toList.map Char.toNat) = (b.toList.map Char.toNat) := by
    have := congrArg (fun s : Str => s.cps.toList) h
    simpa using this
  have inj : ∀ {l r : List Char}, l.map Char.toNat = r.map Char.toNat → l = r := by
    intro l
    induction l with
    | nil => intro r e; cases r with | nil => rfl | cons _ _ => simp at e
    | cons c l ih =>
      intro r e
      cases r with
      | nil => simp at e
      | cons d r =>
        simp only [List.map_cons, List.cons.injEq] at e
        have e0 : c.val = d.val := UInt32.toNat_inj.mp e.1
        have e1 : c = d := Char.ext e0
        rw [e1, ih e.2]
  exact String.toList_inj.mp (inj h1)
@[simp] theorem str_lit {a b : String} : (Str.ofString a = Str.ofString b) = (a = b) := propext ⟨str_inj, fun h => h ▸ rfl⟩
@[simp] theorem str_beq {a b : String} : (Str.ofString a == Str.ofString b) = decide (a = b) := by
  by_cases h : a = b
  · subst h; simp
  · have : Str.ofString a ≠ Str.ofString b := fun e => h (str_inj e)
    simp [h, beq_eq_false_iff_ne.mpr this]
@[simp] theorem lk_cons {α : Type} {f m : Str} {x : α} {fs : List (Str × α)} : List.lookup f ((m, x) :: fs) = if f = m then some x else List.lookup f fs := by
  rw [List.lookup_cons]
  by_cases h : f = m
  · subst h; simp
  · simp [h, beq_eq_false_iff_ne.mpr h]
theorem szn (n : Nat) (h : Nat.ble n 16777216 = true) : (n ≤ sizeLine) = True := eq_true (by rw [sizeLine_eq]; exact Nat.le_of_ble_eq_true h)
@[simp] theorem sz1 : (1 ≤ sizeLine) = True := szn 1 rfl
@[simp] theorem sz2 : (2 ≤ sizeLine) = True := szn 2 rfl
@[simp] theorem sz3 : (3 ≤ sizeLine) = True := szn 3 rfl
@[simp] theorem sz4 : (4 ≤ sizeLine) = True := szn 4 rfl
@[simp] theorem sz5 : (5 ≤ sizeLine) = True := szn 5 rfl
@[simp] theorem sz6 : (6 ≤ sizeLine) = True := szn 6 rfl
@[simp] theorem sz7 : (7 ≤ sizeLine) = True := szn 7 rfl
@[simp] theorem sz8 : (8 ≤ sizeLine) = True := szn 8 rfl
@[simp] theorem sz9 : (9 ≤ sizeLine) = True := szn 9 rfl
@[simp] theorem sz10 : (10 ≤ sizeLine) = True := szn 10 rfl
@[simp] theorem sz11 : (11 ≤ sizeLine) = True := szn 11 rfl
@[simp] theorem sz12 : (12 ≤ sizeLine) = True := szn 12 rfl
@[simp] theorem sz13 : (13 ≤ sizeLine) = True := szn 13 rfl
@[simp] theorem sz14 : (14 ≤ sizeLine) = True := szn 14 rfl
@[simp] theorem sz16 : (16 ≤ sizeLine) = True := szn 16 rfl
@[simp] theorem sz17 : (17 ≤ sizeLine) = True := szn 17 rfl
@[simp] theorem sz21 : (21 ≤ sizeLine) = True := szn 21 rfl
/-! ### running: instances -/
section
variable {ρ : Sl} {S : Store} {d x y v : D} {ds es : List D} {n k l : Nat} {c f m : Str} {cs : List Str} {fs : List (Str × D)} {tb : MT} {i j : Int}
def rF (cs : List Str) (f : Str) (o : Option MO) (S : Store) : Res D := match o with
  | some (.ins c fs) => if c ∈ cs then ofO (fs.lookup f) S else .stk
  | _ => .stk
@[simp] theorem rF_some : rF cs f (some (.ins c fs)) S = if c ∈ cs then ofO (fs.lookup f) S else .stk := nrfl rfl
@[simp] theorem fld_ref : fldD cs f (.ref n) S = rF cs f (sg S n) S := by
  unfold fldD insO rF sg
  dsimp only
  cases S[n]? with
  | none => rfl
  | some mo => cases mo <;> rfl
def kM2 (n : Nat) (g : List D → Store → Res D) (x : D) (ys : List D) (S : Store) : Res D := ar n g (x :: ys) S
@[simp] theorem e_meth4 {g : List D → Store → Res D} : kM2 n g x ds S = ar n g (x :: ds) S := nrfl rfl
def rM3 (ρ : Sl) (n : Nat) (a : M (List D)) (x : D) (S : Store) (o : Option D) (g : Option (List D → Store → Res D)) : Res D := match o, g with
  | none, some g => (a ρ S).bind (kM2 n g x)
  | _, _ => .stk
@[simp] theorem e_meth3 {a : M (List D)} {g : List D → Store → Res D} : rM3 ρ n a x S none (some g) = (a ρ S).bind (kM2 n g x) := nrfl rfl
def rM (ρ : Sl) (tb : MT) (m : Str) (n : Nat) (a : M (List D)) (x : D) (S : Store) (o : Option MO) : Res D := match o with
  | some (.ins c fs) => rM3 ρ n a x S (fs.lookup m) (tb.lookup c)
  | _ => .stk
@[simp] theorem rM_some {a : M (List D)} : rM ρ tb m n a x S (some (.ins c fs)) = rM3 ρ n a x S (fs.lookup m) (tb.lookup c) := nrfl rfl
def kMeth (ρ : Sl) (tb : MT) (m : Str) (n : Nat) (a : M (List D)) (x : D) (S : Store) : Res D := match insO S x with
  | some (c, fs) => rM3 ρ n a x S (fs.lookup m) (tb.lookup c)
  | none => .stk
@[simp] theorem e_meth {o : M D} {a : M (List D)} : mMeth tb m n o a ρ S = (o ρ S).bind (kMeth ρ tb m n a) := nrfl rfl
@[simp] theorem e_meth2 {a : M (List D)} : kMeth ρ tb m n a (.ref k) S = rM ρ tb m n a (.ref k) S (sg S k) := by
  unfold kMeth insO rM sg
  dsimp only
  cases S[k]? with
  | none => rfl
  | some mo => cases mo <;> rfl
def kMake2 (l : Nat) (d : D) (S : Store) : Res D := match d with
  | .non => .ok (.ref l) S
  | _ => .stk
@[simp] theorem e_make3 : kMake2 l .non S = .ok (.ref l) S := nrfl rfl
def kMake (c : Str) (n : Nat) (g : List D → Store → Res D) (ys : List D) (S : Store) : Res D := (ar n g (.ref S.length :: ys) (S ++ [.ins c []])).bind (kMake2 S.length)
@[simp] theorem e_make {g : List D → Store → Res D} {a : M (List D)} : mMake c n g a ρ S = (a ρ S).bind (kMake c n g) := nrfl rfl
@[simp] theorem e_make2 {g : List D → Store → Res D} : kMake c n g ds S = (ar n g (.ref S.length :: ds) (S ++ [.ins c []])).bind (kMake2 S.length) := nrfl rfl
def rSF (cs : List Str) (f : Str) (v : D) (n : Nat) (o : Option MO) (S : Store) : Option Store := match o with
  | some (.ins c fs) => if c ∈ cs ∧ fs.length < 1000 then some (sp S n (.ins c (putFD f v fs))) else none
  | _ => none
@[simp] theorem rSF_some : rSF cs f v n (some (.ins c fs)) S = if c ∈ cs ∧ fs.length < 1000 then some (sp S n (.ins c (putFD f v fs))) else none := nrfl rfl
@[simp] theorem set_ref : setFD cs f v (.ref n) S = rSF cs f v n (sg S n) S := by
  unfold setFD rSF sg sp
  try dsimp only
  all_goals (rcases S[n]? with _ | mo)
  all_goals first | rfl | (cases mo <;> rfl)
def kSF2 (ρ : Sl) (cs : List Str) (f : Str) (v x : D) (S : Store) : Out := qO (setFD cs f v x S) ρ
def kSF (ρ : Sl) (cs : List Str) (f : Str) (o : M D) (v : D) (S : Store) : Out := sB (o ρ S) ρ (kSF2 ρ cs f v)
@[simp] theorem x_setF {o e : M D} : sSetF cs f o e ρ S = sB (e ρ S) ρ (kSF ρ cs f o) := by
  unfold sSetF
  rfl
@[simp] theorem x_setF2 {o : M D} : kSF ρ cs f o v S = sB (o ρ S) ρ (kSF2 ρ cs f v) := nrfl rfl
@[simp] theorem x_setF3 : kSF2 ρ cs f v x S = qO (setFD cs f v x S) ρ := nrfl rfl
@[simp] theorem putF_nil : putFD f v [] = [(f, v)] := nrfl rfl
@[simp] theorem putF_cons : putFD f v ((m, x) :: fs) = if m = f then (m, v) :: fs else (m, x) :: putFD f v fs := nrfl rfl
def kPar (ρ : Sl) (n k : Nat) (ds : List D) (S : Store) : Out := match ds with
  | [v, w] => .nx ((ρ.set n (some v)).set k (some w)) S
  | _ => .stk
@[simp] theorem x_par {a : M (List D)} : sPar n k a ρ S = sB (a ρ S) ρ (kPar ρ n k) := nrfl rfl
@[simp] theorem x_par2 : kPar ρ n k [x, y] S = .nx ((ρ.set n (some x)).set k (some y)) S := nrfl rfl
/-! errors -/
def kRaise (ρ : Sl) (c : Str) (n k : Nat) (r : List (Str × Nat)) (ds : List D) (S : Store) : Out := if ds.length + 1 = n ∧ ds.length ≤ 1000 then .exc ⟨c, errFD (startD k (.non :: ds)) [] r⟩ ρ S else .stk
@[simp] theorem x_raise {r : List (Str × Nat)} {a : M (List D)} : sRaise c n k r a ρ S = sB (a ρ S) ρ (kRaise ρ c n k r) := nrfl rfl
@[simp] theorem x_raise2 {r : List (Str × Nat)} : kRaise ρ c n k r ds S = if ds.length + 1 = n ∧ ds.length ≤ 1000 then .exc ⟨c, errFD (startD k (.non :: ds)) [] r⟩ ρ S else .stk := nrfl rfl
@[simp] theorem err_nil {acc : List (Str × D)} : errFD ρ acc [] = acc := nrfl rfl
@[simp] theorem err_cons {acc : List (Str × D)} {r : List (Str × Nat)} : errFD ρ acc ((f, n) :: r) = errFD ρ ((f, ((ρ[n]?.bind id).getD .non)) :: acc) r := nrfl rfl
@[simp] theorem v_xf {fs : List (Str × D)} : xfD cs f (.exv c fs) S = if c ∈ cs then ofO (fs.lookup f) S else .stk := nrfl rfl
/-! the store -/
@[simp] theorem sg_new {mo : MO} : sg (S ++ [mo]) S.length = some mo := by
  unfold sg
  simp
@[simp] theorem sp_new {mo m' : MO} : sp (S ++ [mo]) S.length m' = S ++ [m'] := by
  unfold sp
  simp
@[simp] theorem sg_a0 {a : MO} {l : Store} : sg (S ++ a :: l) S.length = some a := by unfold sg; simp
@[simp] theorem sg_a1 {a b : MO} {l : Store} : sg (S ++ a :: b :: l) (S.length + 1) = some b := by unfold sg; simp
@[simp] theorem sg_a2 {a b c : MO} {l : Store} : sg (S ++ a :: b :: c :: l) (S.length + 2) = some c := by unfold sg; simp
@[simp] theorem sg_a3 {a b c e : MO} {l : Store} : sg (S ++ a :: b :: c :: e :: l) (S.length + 3) = some e := by unfold sg; simp
@[simp] theorem sp_a0 {a m : MO} {l : Store} : sp (S ++ a :: l) S.length m = S ++ m :: l := by unfold sp; simp
@[simp] theorem sp_a1 {a b m : MO} {l : Store} : sp (S ++ a :: b :: l) (S.length + 1) m = S ++ a :: m :: l := by unfold sp; simp
@[simp] theorem sp_a2 {a b c m : MO} {l : Store} : sp (S ++ a :: b :: c :: l) (S.length + 2) m = S ++ a :: b :: m :: l := by unfold sp; simp
theorem sg_app {l : Store} (h : n < S.length) : sg (S ++ l) n = sg S n := by unfold sg; rw [List.getElem?_append_left h]
def rLen (o : Option MO) : Option Nat := match o with
  | some (.lst xs) => some xs.length
  | _ => none
@[simp] theorem rLen_some : rLen (some (.lst ds)) = some ds.length := nrfl rfl
@[simp] theorem l_refS : lenO S (.ref n) = rLen (sg S n) := by
  show (match lsOf S (.ref n) with | some ds => some ds.length | none => none) = _
  unfold lsOf rLen sg
  dsimp only
  cases S[n]? with
  | none => rfl
  | some mo => cases mo <;> rfl
def rLs (o : Option MO) : Option (List D) := match o with
  | some (.lst xs) => some xs
  | _ => none
@[simp] theorem rLs_some : rLs (some (.lst ds)) = some ds := nrfl rfl
@[simp] theorem ls_refS : lsOf S (.ref n) = rLs (sg S n) := by
  unfold lsOf rLs sg
  try dsimp only
  all_goals (rcases S[n]? with _ | mo)
  all_goals first | rfl | (cases mo <;> rfl)
@[simp] theorem sq_refS : sqOf S (.ref n) = rLs (sg S n) := ls_refS
@[simp] theorem v_listS : listD [x] S = ofO ((sqOf S x).map D.lst) S := nrfl rfl
def kdO (o : Option MO) : Option Kd := match o with
  | some (.lst _) => some .lst
  | some (.dct _) => some .dct
  | _ => none
@[simp] theorem kdO_lst : kdO (some (.lst ds)) = some .lst := nrfl rfl
@[simp] theorem k_refS : kd S (.ref n) = kdO (sg S n) := by
  unfold kd kdO sg
  rfl
@[simp] theorem k_dct' {kvs : List (Key × D)} : kd S (.dct kvs) = some .dct := nrfl rfl
def trO (o : Option MO) (S : Store) : Res Bool := match o with
  | some (.lst xs) => .ok (!xs.isEmpty) S
  | some (.dct xs) => .ok (!xs.isEmpty) S
  | _ => .stk
@[simp] theorem trO_lst : trO (some (.lst ds)) S = .ok (!ds.isEmpty) S := nrfl rfl
@[simp] theorem t_refS : truD (.ref n) S = trO (sg S n) S := by
  unfold truD trO sg
  rfl
@[simp] theorem dc_dct {kvs : List (Key × D)} : dcOf S (.dct kvs) = some kvs := nrfl rfl
@[simp] theorem key_int : keyO (.int i) = some (.inl i) := nrfl rfl
@[simp] theorem key_str {a : Str} : keyO (.str a) = some (.inr a) := nrfl rfl
end
/-! ### comprehensions that choose; loops over what was walked -/
@[simp] theorem sl0 : (0 < sizeLine) = True := eq_true (by decide)
@[simp] theorem sl1 : (1 < sizeLine) = True := eq_true (by decide)
@[simp] theorem sl2 : (2 < sizeLine) = True := eq_true (by decide)
@[simp] theorem sl3 : (3 < sizeLine) = True := eq_true (by decide)
@[simp] theorem sl4 : (4 < sizeLine) = True := eq_true (by decide)
/-- new objects at the end -/
def Ext (S S' : Store) : Prop := ∃ T, S' = S ++ T
theorem Ext.rf (S : Store) : Ext S S := ⟨[], by simp⟩
theorem Ext.tr {A B C : Store} (x : Ext A B) (y : Ext B C) : Ext A C := by
  obtain ⟨T, rfl⟩ := x
  obtain ⟨U, rfl⟩ := y
  exact ⟨T ++ U, by simp⟩
theorem Ext.one {S : Store} {m : MO} : Ext S (S ++ [m]) := ⟨[m], rfl⟩
theorem Ext.get {S S' : Store} {n : Nat} {m : MO} (h : Ext S S') (e : sg S n = some m) : sg S' n = some m := by
  obtain ⟨T, rfl⟩ := h
  unfold sg at e ⊢
  rw [List.getElem?_append_left (List.getElem?_eq_some_iff.mp e).1]
  exact e
end G
namespace G
open PySem L2
end G
namespace G
open PySem L2
/-! ### a, b = a list -/
/-! ### live dicts -/
def dctL (S : Store) : Res D := .ok (.ref S.length) (S ++ [.dct []])
def mDctL : M D := fun _ S => dctL S
theorem t_dictL {X : Cx} {cl : Str → Option Addr} {E : WX} {pos : Pos} : PE X (.Dict [] [] pos) (T X.K cl E mDctL) :=
  pe_imp pe_dnewK fun σ H Q ⟨W, ρ, S, hr, he, q⟩ p hp => q (W.lv p) _ _ (Le.lv W p) (hr.new hp ⟨[], upd_same, .nil⟩) (rep_lv hr)
def putA (o i v : D) (S : Store) : Option Store := match o with
  | .ref n => (match S[n]? with
    | some (.dct kvs) => (match keyO i with
      | some k => if kvs.length < sizeLine then some (S.set n (.dct (putKD kvs k v))) else none
      | none => none)
    | _ => putD o i v S)
  | _ => none
def sPutA (o i e : M D) : MS := fun ρ S => sB (e ρ S) ρ fun v S1 => sB (o ρ S1) ρ fun x S2 => sB (i ρ S2) ρ fun y S3 => match putA x y v S3 with
  | some S4 => .nx ρ S4
  | none => .stk
theorem set_both {X : Cx} {k : Nat} (hr : Room k X.A) : PSet X (fun o i v H Q => rSetL o i v H Q ∨ rSetD o i v H Q) := fun pins s σ H o i v ov iv u Q I ro ri rv h =>
  h.elim (set_list pins s σ H o i v ov iv u Q I ro ri rv) (set_dict (by have := hr.un; omega) pins s σ H o i v ov iv u Q I ro ri rv)
section
variable {X : Cx} {cl : Str → Option Addr} {E : WX} {e : Expr} {m1 m2 m3 : M D} {pos : Pos}
theorem s_putA {k : Nat} {o i : Expr} {tpos : Pos} (rm : Room k X.A) (ho : PE X o (T X.K cl E m1)) (hi : PE X i (T X.K cl E m2)) (he : PE X e (T X.K cl E m3))
    (hs : swapsWithSole [.Subscript o i tpos] e pos.line X.env = pure false := by rfl) (hw : swappedStores [.Subscript o i tpos] e X.env = pure none := by rfl)
    (ha : ∀ v, assign (.Subscript o i tpos) X.env v = (do
      let a ← holding [v] (eval o X.env)
      let b ← holding [v, a] (eval i X.env)
      standAt tpos
      holding [v, a, b] (setItem a b v)
      release [v, a, b] []) := by intro _; rfl) : PS X (.Assign [.Subscript o i tpos] e pos) (Ts X.K cl E (sPutA m1 m2 m3)) :=
  ps_imp (ps_asg he (pg_sub ho hi (set_both rm) ha) hs hw) fun A σ H ⟨W, ρ, S, hr, he, p⟩ => stepS hr he p fun W1 H1 v dv S1 l1 r1 e1 rv p1 =>
    stepS r1 e1 p1 fun W2 H2 x dx S2 l2 r2 e2 rx p2 => stepS r2 e2 p2 fun W3 H3 y dy S3 l3 r3 e3 ry p3 => by
      cases q : putA dx dy dv S3 with
      | none => simp only [q] at p3; exact p3.elim
      | some S4 =>
        simp only [q] at p3
        unfold putA at q
        split at q
        · rename_i n
          cases (rx.up l3) with | ref hn =>
          have rv' := rv.up (l2.tr l3)
          split at q
          · rename_i kvs e4
            split at q
            · rename_i kk ek
              split at q
              · rename_i hz
                cases q
                obtain ⟨_, vs, h1, h2⟩ := r3.live n _ e4 (by intro z; cases z)
                obtain rfl := key_rep ry ek
                refine .inr ⟨_, _, rfl, .inl ⟨vs, kk, h1, rfl, by rw [h2.len]; exact hz, rfl⟩, ?_⟩
                exact p3 W3 _ σ (.rf W3) (r3.put e4 (by intro z; cases z) ⟨_, upd_same, h2.put kk rv'⟩) e3
              · cases q
            · cases q
          · unfold putD at q
            split at q
            · rename_i n' k' eq1
              cases eq1
              cases ry
              split at q
              · rename_i xs e4
                split at q
                · rename_i j ej
                  cases q
                  obtain ⟨_, vs, h1, h2⟩ := r3.live _ _ e4 (by intro z; cases z)
                  refine .inl ⟨_, _, _, j, rfl, rfl, h1, by rw [h2.len]; exact ej, ?_⟩
                  exact p3 W3 _ σ (.rf W3) (r3.put e4 (by intro z; cases z) ⟨_, upd_same, Reps.set rv' j h2⟩) e3
                · cases q
              · cases q
            · cases q
        · cases q
end
/-! d.get(k, x) -/
section
variable {X : Cx} {cl : Str → Option Addr} {E : WX} {o e f : Expr} {m m1 m2 : M D} {apos cpos : Pos}
/-! d[k], lists and tuples too -/
def ixA (x y : D) (S : Store) : Res D := match dcOf S x with
  | some kvs => (match keyO y with
    | some k => ofO (valK kvs k) S
    | none => .stk)
  | none => ixD x y S
theorem t_ixA {k : Nat} (rm : Room k X.A) (ha : PE X o (T X.K cl E m1)) (hb : PE X e (T X.K cl E m2)) (hp : PlainIx e := by exact fun _ _ => rfl) (hs : NoSl e := by exact fun _ _ => rfl) : PE X (.Subscript o e apos) (T X.K cl E (mOp ixA m1 m2)) :=
  pe_imp (pe_either (pe_ix ix_seq ha hb hp) (pe_dget (by have := rm.un; omega) ha hb hs)) fun σ H Q ⟨W, ρ, S, hr, he, q⟩ => by
    cases e1 : m1 ρ S with
    | stk => unfold mOp at q; rw [e1] at q; exact q.elim
    | exc x S1 =>
      refine .inl ⟨W, ρ, S, hr, he, ?_⟩
      unfold mOp at q
      rw [e1] at q ⊢
      exact q
    | ok x S1 =>
      cases e2 : m2 ρ S1 with
      | stk => unfold mOp at q; rw [e1] at q; dsimp only [Res.bind] at q; rw [e2] at q; exact q.elim
      | exc z S2 =>
        refine .inl ⟨W, ρ, S, hr, he, ?_⟩
        unfold mOp at q
        rw [e1] at q ⊢
        dsimp only [Res.bind] at q
        exact fun W1 H1 v l1 r1 rv => ⟨W1, ρ, S1, r1, he.up l1, by rw [e2] at q ⊢; exact Post.up l1 q⟩
      | ok y S2 =>
        cases e3 : dcOf S2 x with
        | none =>
          refine .inl (step (f := fun x S1 => (m2 ρ S1).bind fun y S2 => ixD x y S2) hr he ?_ fun W1 H1 v d S3 l1 r1 en rv p1 => step r1 en p1 fun W2 H2 u d2 S4 l2 r2 en2 ru p2 => ix_s _ _ _ _ _ _ _ _ _ r2 (rv.up l2) ru p2)
          unfold mOp at q
          rw [e1] at q ⊢
          dsimp only [Res.bind] at q ⊢
          rw [e2] at q ⊢
          dsimp only at q ⊢
          unfold ixA at q
          rw [e3] at q
          exact q
        | some kvs =>
          refine .inr ⟨W, ρ, S, hr, he, ?_⟩
          rw [e1]
          intro W1 H1 v l1 r1 rv
          refine ⟨W1, ρ, S1, r1, he.up l1, ?_⟩
          rw [e2]
          intro W2 H2 u l2 r2 ru
          unfold mOp at q
          rw [e1] at q
          dsimp only [Res.bind] at q
          rw [e2] at q
          dsimp only at q
          unfold ixA at q
          rw [e3] at q
          dsimp only at q
          cases ek : keyO y with
          | none => rw [ek] at q; exact q.elim
          | some kk =>
            rw [ek] at q
            dsimp only at q
            obtain ⟨a, vs, rfl, h, t⟩ := dc_of r2 (rv.up l2) e3
            obtain rfl := key_rep ru ek
            rcases t.val kk with ⟨v', d', q1, q2, q3⟩ | ⟨q1, q2⟩
            · rw [q2] at q
              exact ⟨a, v', rfl, .inl ⟨vs, kk, h, rfl, q1.symm⟩, q W2 H2 v' (l1.tr l2) r2 q3⟩
            · rw [q2] at q
              exact q.elim
end
end G
namespace G
open PySem L2
def keyD : Key → D
  | .inl i => .int i
  | .inr x => .str x
theorem keyD_rep {K : PySem.W.Frag} {cl : Str → Option Addr} {W : Wd} (k : Key) : Rep K cl W (kV k) (keyD k) := by
  cases k with
  | inl i => exact .int i
  | inr x => exact .str x
theorem RepK.at {K : PySem.W.Frag} {cl : Str → Option Addr} {W : Wd} : ∀ {vs : List (Key × V)} {ds : List (Key × D)} {i : Nat} {k : Key} {v : V}, RepK K cl W vs ds → vs[i]? = some (k, v) → ∃ d, ds[i]? = some (k, d) ∧ Rep K cl W v d
  | _, _, _, _, _, .nil, e => by simp at e
  | _, _, 0, _, _, .cons h t, e => by simp at e; obtain ⟨rfl, rfl⟩ := e; exact ⟨_, rfl, h⟩
  | _, _, i + 1, k, v, .cons _ t, e => by
    obtain ⟨d, h1, h2⟩ := RepK.at (i := i) t (by simpa using e)
    exact ⟨d, by simpa using h1, h2⟩
/-! ### for k in d, d locked for good -/
def itK (d : D) (S : Store) : Res Itb := match d with
  | .dct kvs => .ok ⟨kvs.map fun kv => keyD kv.1, none⟩ S
  | _ => .stk
def mItK (m : M D) : M Itb := fun ρ S => (m ρ S).bind fun d S1 => itK d S1
section
variable {X : Cx} {cl : Str → Option Addr} {E : WX} {tg e o : Expr} {m : M D} {apos cpos pos p : Pos}
theorem i_dict (h : PE X e (T X.K cl E m)) : PI X tg e (TIt X.K cl E (mItK m)) :=
  pi_imp (pi_keys h) fun σ H Q ⟨W, ρ, S, hr, he, q⟩ => step hr he q fun W1 H1 v d S1 l1 r1 e1 rv p1 => by
    unfold itK at p1
    split at p1
    · rename_i ds
      cases rv with | @dct a ob vs _ g t =>
      refine ⟨a, ob, rfl, .inl ⟨vs, r1.sub _ _ g, p1 W1 H1 _ (.rf W1) r1 ?_⟩⟩
      intro W2 H2 S2 l2 r2 _
      have hh := r2.sub _ _ (l2.g _ _ g)
      have t2 := t.ups l2
      have lv : vs.length = ds.length := t.len
      refine ⟨fun i x ex => ?_, hh, by show _ ≤ _; rw [List.length_map]; exact Nat.le_of_eq lv⟩
      have hi : i < vs.length := by
        have := (List.getElem?_eq_some_iff.mp ex).1
        rw [List.length_map] at this
        omega
      refine ⟨⟨hh, hi⟩, fun y H' ⟨eH, k, v, ekv, ey⟩ => ⟨W2, .rf W2, eH ▸ r2, ?_⟩⟩
      obtain ⟨dd, g1, g2⟩ := t2.at ekv
      have ex : (ds.map fun kv => keyD kv.1)[i]? = some x := ex
      rw [List.getElem?_map, g1] at ex
      cases ex
      rw [ey]
      exact keyD_rep k
    · exact p1.elim
/-! ### list(d), d locked -/
theorem reps_keys {K : PySem.W.Frag} {W : Wd} : ∀ {vs : List (Key × V)} {ds : List (Key × D)}, RepK K cl W vs ds → Reps K cl W (vs.map fun kv => kV kv.1) (ds.map fun kv => keyD kv.1)
  | _, _, .nil => .nil
  | _, _, .cons (k := k) _ t => .cons (keyD_rep k) (reps_keys t)
/-! ### sorted(list of ints) -/
def intsO : List D → Option (List Int)
  | [] => some []
  | .int i :: ds => (intsO ds).map (i :: ·)
  | _ :: _ => none
theorem ints_of {K : PySem.W.Frag} {W : Wd} : ∀ {vs : List V} {ds : List D} {ns : List Int}, Reps K cl W vs ds → intsO ds = some ns → vs = ns.map V.int
  | _, _, _, .nil, e => by cases e; rfl
  | _, _, _, .cons (d := d) (ds := ds) h t, e => by
    cases h with
    | int i =>
      unfold intsO at e
      cases e1 : intsO ds with
      | none => rw [e1] at e; cases e
      | some l =>
        rw [e1] at e
        cases e
        rw [ints_of t e1]
        rfl
    | _ => cases e
/-! ### d.copy(), the copy locked for good -/
/-! ### d == {} -/
end
/-! ### running -/
section
variable {ρ : Sl} {S : Store} {d x y z v : D} {ds : List D} {n : Nat} {i : Int}
@[simp] theorem e_dctL : mDctL ρ S = .ok (.ref S.length) (S ++ [.dct []]) := nrfl rfl
def kPA3 (ρ : Sl) (v x y : D) (S : Store) : Out := qO (putA x y v S) ρ
def kPA2 (ρ : Sl) (i : M D) (v x : D) (S : Store) : Out := sB (i ρ S) ρ (kPA3 ρ v x)
def kPA (ρ : Sl) (o i : M D) (v : D) (S : Store) : Out := sB (o ρ S) ρ (kPA2 ρ i v)
@[simp] theorem x_pa {o i e : M D} : sPutA o i e ρ S = sB (e ρ S) ρ (kPA ρ o i) := by
  unfold sPutA
  rfl
@[simp] theorem x_pa2 {o i : M D} : kPA ρ o i v S = sB (o ρ S) ρ (kPA2 ρ i v) := nrfl rfl
@[simp] theorem x_pa3 {i : M D} : kPA2 ρ i v x S = sB (i ρ S) ρ (kPA3 ρ v x) := nrfl rfl
@[simp] theorem x_pa4 : kPA3 ρ v x y S = qO (putA x y v S) ρ := nrfl rfl
theorem putA_dct {kvs : List (Key × D)} {k : Key} (h : sg S n = some (.dct kvs)) (hk : keyO y = some k) (hz : kvs.length < sizeLine) : putA (.ref n) y v S = some (sp S n (.dct (putKD kvs k v))) := by
  unfold putA
  dsimp only
  rw [show S[n]? = some (.dct kvs) from h]
  dsimp only
  rw [hk]
  exact if_pos hz
theorem dc_ref {kvs : List (Key × D)} (h : sg S n = some (.dct kvs)) : dcOf S (.ref n) = some kvs := by
  unfold dcOf
  dsimp only
  rw [show S[n]? = some (.dct kvs) from h]
@[simp] theorem e_itK {m : M D} : mItK m ρ S = (m ρ S).bind itK := nrfl rfl
@[simp] theorem itK_dct {kvs : List (Key × D)} : itK (.dct kvs) S = .ok ⟨kvs.map fun kv => keyD kv.1, none⟩ S := nrfl rfl
@[simp] theorem kdO_dct {kvs : List (Key × D)} : kdO (some (.dct kvs)) = some .dct := nrfl rfl
end
end G
namespace G
open PySem L2
/-! ### frames: what stays of a store -/
structure Fr (A : List Nat) (S S' : Store) : Prop where
  le : S.length ≤ S'.length
  eq : ∀ i, i < S.length → i ∉ A → sg S' i = sg S i
section
variable {A B : List Nat} {S S1 S2 : Store} {n : Nat} {m : MO}
theorem Fr.rf (A : List Nat) (S : Store) : Fr A S S := ⟨Nat.le_refl _, fun _ _ _ => rfl⟩
theorem Fr.tr (x : Fr A S S1) (y : Fr A S1 S2) : Fr A S S2 := ⟨Nat.le_trans x.le y.le, fun i hi hA => (y.eq i (Nat.lt_of_lt_of_le hi x.le) hA).trans (x.eq i hi hA)⟩
theorem Fr.mono (x : Fr A S S1) (h : ∀ i ∈ A, i < S.length → i ∈ B) : Fr B S S1 := ⟨x.le, fun i hi hB => x.eq i hi fun hA => hB (h i hA hi)⟩
theorem Fr.sub (x : Fr A S S1) (h : ∀ i ∈ A, i ∈ B) : Fr B S S1 := x.mono fun i hi _ => h i hi
theorem Fr.get (x : Fr A S S1) (h : sg S n = some m) (hn : n ∉ A) : sg S1 n = some m := (x.eq n (sg_lt h) hn).trans h
theorem Fr.put (h : n ∈ A) : Fr A S (sp S n m) := ⟨Nat.le_of_eq sp_len.symm, fun i hi hA => sg_ne fun e => hA (e ▸ h)⟩
theorem Fr.ext (h : Ext S S1) : Fr A S S1 := by
  obtain ⟨T, rfl⟩ := h
  exact ⟨by simp, fun i hi _ => sg_app hi⟩
theorem Fr.app {T : Store} : Fr A S (S ++ T) := ⟨by simp, fun i hi _ => sg_app hi⟩
end
theorem Ext.app {S T : Store} : Ext S (S ++ T) := ⟨T, rfl⟩
theorem Ext.le {S T : Store} (h : Ext S T) : S.length ≤ T.length := by
  obtain ⟨U, rfl⟩ := h
  simp
/-! ### loops and comprehensions, in general -/
def Stp0 (I : Sl → Store → Prop) (Z : Out → Prop) (o : Out) : Prop := match o with
  | .nx ρ S => I ρ S
  | .ct ρ S => I ρ S
  | .bk ρ S => Z (.nx ρ S)
  | .rt d S => Z (.rt d S)
  | .exc x ρ S => Z (.exc x ρ S)
  | .stk => False
structure Stp (I : Sl → Store → Prop) (Z : Out → Prop) (o : Out) : Prop where
  out : Stp0 I Z o
section
variable {I : Sl → Store → Prop} {Z : Out → Prop} {ρ : Sl} {S : Store} {d : D} {x : Exc}
@[simp] theorem stp_nx : Stp I Z (.nx ρ S) = I ρ S := propext ⟨fun h => h.out, fun h => ⟨h⟩⟩
@[simp] theorem stp_ct : Stp I Z (.ct ρ S) = I ρ S := propext ⟨fun h => h.out, fun h => ⟨h⟩⟩
@[simp] theorem stp_bk : Stp I Z (.bk ρ S) = Z (.nx ρ S) := propext ⟨fun h => h.out, fun h => ⟨h⟩⟩
@[simp] theorem stp_rt : Stp I Z (.rt d S) = Z (.rt d S) := propext ⟨fun h => h.out, fun h => ⟨h⟩⟩
@[simp] theorem stp_exc : Stp I Z (.exc x ρ S) = Z (.exc x ρ S) := propext ⟨fun h => h.out, fun h => ⟨h⟩⟩
end
section
variable {it : Itb} {p : Pt} {b : MS}
theorem for_genA (I : Nat → Sl → Store → Prop) (Z : Out → Prop) : ∀ (ds : List D) (k : Nat) (ρ : Sl) (S : Store),
    (∀ j d, ds[j]? = some d → ∀ ρ S, I (k + j) ρ S → Grd it S ∧ ∃ ρ1, p d ρ = some ρ1 ∧ Stp (I (k + j + 1)) Z (b ρ1 S)) →
    (∀ ρ S, I (k + ds.length) ρ S → Grd it S ∧ Z (.nx ρ S)) → I k ρ S → Z (forL it p b ds ρ S) := by
  intro ds
  induction ds with
  | nil =>
    intro k ρ S _ h0 hI
    obtain ⟨hg, hz⟩ := h0 ρ S hI
    rw [for_nilG hg]
    exact hz
  | cons d ds ih =>
    intro k ρ S h h0 hI
    obtain ⟨hg, ρ1, hp, hb⟩ := h 0 d rfl ρ S hI
    have go : ∀ ρ2 S2, I (k + 1) ρ2 S2 → Z (forL it p b ds ρ2 S2) := fun ρ2 S2 hI2 => ih (k + 1) ρ2 S2 (fun j d hj ρ S hI => by
        have := h (j + 1) d hj ρ S (by rw [show k + (j + 1) = k + 1 + j by omega]; exact hI)
        rw [show k + (j + 1) = k + 1 + j by omega] at this
        exact this) (fun ρ S hI => h0 ρ S (by rw [List.length_cons, show k + (ds.length + 1) = k + 1 + ds.length by omega]; exact hI)) hI2
    rw [for_consG hg hp]
    cases e : b ρ1 S with
    | nx ρ2 S2 => rw [e] at hb; rw [fB_nx]; exact go _ _ hb.out
    | ct ρ2 S2 => rw [e] at hb; rw [fB_ct]; exact go _ _ hb.out
    | bk ρ2 S2 => rw [e] at hb; rw [fB_bk]; exact hb.out
    | rt x S2 => rw [e] at hb; rw [fB_rt]; exact hb.out
    | exc x ρ2 S2 => rw [e] at hb; rw [fB_exc]; exact hb.out
    | stk => rw [e] at hb; exact hb.out.elim
theorem for_gen (I : Nat → Sl → Store → Prop) (Z : Out → Prop) {ds : List D} {ρ : Sl} {S : Store}
    (h : ∀ j d, ds[j]? = some d → ∀ ρ S, I j ρ S → Grd it S ∧ ∃ ρ1, p d ρ = some ρ1 ∧ Stp (I (j + 1)) Z (b ρ1 S))
    (h0 : ∀ ρ S, I ds.length ρ S → Grd it S ∧ Z (.nx ρ S)) (hI : I 0 ρ S) : Z (forL it p b ds ρ S) :=
  for_genA I Z ds 0 ρ S (fun j d hj ρ S hI => by rw [Nat.zero_add] at hI ⊢; exact h j d hj ρ S hI) (fun ρ S hI => by rw [Nat.zero_add] at hI; exact h0 ρ S hI) hI
/-- a loop that goes through -/
theorem for_thru (I : Nat → Sl → Store → Prop) (ds : List D) {ρ : Sl} {S : Store}
    (h : ∀ j d, ds[j]? = some d → ∀ ρ S, I j ρ S → Grd it S ∧ ∃ ρ1, p d ρ = some ρ1 ∧ Stp (I (j + 1)) (fun _ => False) (b ρ1 S))
    (h0 : ∀ ρ S, I ds.length ρ S → Grd it S) (hI : I 0 ρ S) : ∃ ρ' S', forL it p b ds ρ S = .nx ρ' S' ∧ I ds.length ρ' S' := by
  refine for_gen (it := it) (p := p) (b := b) I (fun o => ∃ ρ' S', o = .nx ρ' S' ∧ I ds.length ρ' S') (fun j d hj ρ S hI => ?_) (fun ρ S hI => ⟨h0 ρ S hI, ρ, S, rfl, hI⟩) hI
  obtain ⟨hg, ρ1, hp, hb⟩ := h j d hj ρ S hI
  refine ⟨hg, ρ1, hp, ?_⟩
  refine ⟨?_⟩
  have hb := hb.out
  cases e : b ρ1 S <;> rw [e] at hb <;> first | exact hb | exact hb.elim
theorem comp_nilG {t : M Bool} {e : M D} {ρ : Sl} {n : Nat} {S : Store} (hg : Grd it S) : compL it p t e ρ [] n S = .ok [] S := by
  unfold compL
  rw [if_pos hg]
theorem comp_consG {t : M Bool} {e : M D} {ρ ρ1 : Sl} {n : Nat} {S : Store} {d : D} {ds : List D} (hg : Grd it S) (h : p d ρ = some ρ1) : compL it p t e ρ (d :: ds) n S = (t ρ1 S).nox.bind (kCp ρ it p t e ds n ρ1) := by
  rw [compL.eq_2, if_pos hg, h]
  rfl
/-- a comprehension, with the state -/
theorem comp_gen {t : M Bool} {e : M D} {ρ : Sl} (I : Nat → List D → Store → Prop) : ∀ (ds : List D) (k n : Nat) (acc : List D) (S : Store),
    (∀ j d, ds[j]? = some d → ∀ ys S, I (k + j) ys S → Grd it S ∧ ∃ ρ1, p d ρ = some ρ1 ∧ ∃ q S1, t ρ1 S = .ok q S1 ∧ ((q = false ∧ I (k + j + 1) ys S1) ∨ (q = true ∧ ∃ y S2, e ρ1 S1 = .ok y S2 ∧ I (k + j + 1) (ys ++ [y]) S2))) →
    (∀ ys S, I (k + ds.length) ys S → Grd it S) → n + ds.length ≤ sizeLine → I k acc S → ∃ ys S', compL it p t e ρ ds n S = .ok ys S' ∧ I (k + ds.length) (acc ++ ys) S' := by
  intro ds
  induction ds with
  | nil =>
    intro k n acc S _ h0 _ hI
    exact ⟨[], S, comp_nilG (h0 acc S hI), by rw [List.append_nil]; exact hI⟩
  | cons d ds ih =>
    intro k n acc S h h0 hn hI
    rw [List.length_cons] at hn
    obtain ⟨hg, ρ1, hp, q, S1, ht, hq⟩ := h 0 d rfl acc S hI
    have h' : ∀ j d, ds[j]? = some d → ∀ ys S, I (k + 1 + j) ys S → Grd it S ∧ ∃ ρ1, p d ρ = some ρ1 ∧ ∃ q S1, t ρ1 S = .ok q S1 ∧ ((q = false ∧ I (k + 1 + j + 1) ys S1) ∨ (q = true ∧ ∃ y S2, e ρ1 S1 = .ok y S2 ∧ I (k + 1 + j + 1) (ys ++ [y]) S2)) := fun j d hj ys S hI => by
      have := h (j + 1) d hj ys S (by rw [show k + (j + 1) = k + 1 + j by omega]; exact hI)
      rw [show k + (j + 1) = k + 1 + j by omega] at this
      exact this
    have h0' : ∀ ys S, I (k + 1 + ds.length) ys S → Grd it S := fun ys S hI => h0 ys S (by rw [List.length_cons, show k + (ds.length + 1) = k + 1 + ds.length by omega]; exact hI)
    have el : k + (d :: ds).length = k + 1 + ds.length := by rw [List.length_cons]; omega
    rw [comp_consG hg hp, ht, el]
    rcases hq with ⟨rfl, hI2⟩ | ⟨rfl, y, S2, he, hI2⟩
    · obtain ⟨ys, S3, e3, I3⟩ := ih (k + 1) n acc S1 h' h0' (by omega) hI2
      exact ⟨ys, S3, by simp [e3], I3⟩
    · obtain ⟨ys, S3, e3, I3⟩ := ih (k + 1) (n + 1) (acc ++ [y]) S2 h' h0' (by omega) hI2
      have hn' : n < sizeLine := by omega
      exact ⟨y :: ys, S3, by simp [he, hn', e3], by rw [List.append_assoc] at I3; exact I3⟩
/-- a comprehension that changes nothing -/
theorem comp_pure {α : Type} {t : M Bool} {e : M D} {ρ : Sl} {S : Store} (hg : Grd it S) (g f : α → D) (q : α → Bool) : ∀ (xs : List α) (k : Nat),
    (∀ d ∈ xs, ∃ ρ1, p (g d) ρ = some ρ1 ∧ t ρ1 S = .ok (q d) S ∧ (q d = true → e ρ1 S = .ok (f d) S)) → k + xs.length ≤ sizeLine →
    compL it p t e ρ (xs.map g) k S = .ok ((xs.filter q).map f) S := by
  intro xs
  induction xs with
  | nil => intro k _ _; exact comp_nilG hg
  | cons d xs ih =>
    intro k h hk
    obtain ⟨ρ1, hp, ht, he⟩ := h d (by simp)
    rw [List.length_cons] at hk
    rw [List.map_cons, comp_consG hg hp, ht]
    cases hq : q d with
    | true =>
      have e2 := ih (k + 1) (fun d hd => h d (by simp [hd])) (by omega)
      have hk' : k < sizeLine := by omega
      simp [he hq, hk', e2, hq]
    | false =>
      have e2 := ih k (fun d hd => h d (by simp [hd])) (by omega)
      simp [e2, hq]
end
theorem grd_none {xs : List D} {S : Store} : Grd ⟨xs, none⟩ S := trivial
theorem grd_some {xs : List D} {n : Nat} {S : Store} (h : sg S n = some (.lst xs)) : Grd ⟨xs, some n⟩ S := h
section
variable {S l : Store} {a b c e f g m : MO}
@[simp] theorem sp_a3 : sp (S ++ a :: b :: c :: e :: l) (S.length + 3) m = S ++ a :: b :: c :: m :: l := by unfold sp; simp
@[simp] theorem sp_a4 : sp (S ++ a :: b :: c :: e :: f :: l) (S.length + 4) m = S ++ a :: b :: c :: e :: m :: l := by unfold sp; simp
@[simp] theorem sg_a4 : sg (S ++ a :: b :: c :: e :: f :: l) (S.length + 4) = some f := by unfold sg; simp
@[simp] theorem sg_a5 : sg (S ++ a :: b :: c :: e :: f :: g :: l) (S.length + 5) = some g := by unfold sg; simp
end
end G
namespace G
open PySem L2
/-! ### it answers, and so -/
inductive Ok {α : Type} : Res α → (α → Store → Prop) → Prop
  | mk {a : α} {S : Store} {P : α → Store → Prop} : P a S → Ok (.ok a S) P
section
variable {α β : Type} {r x : Res α} {P Q : α → Store → Prop}
@[simp] theorem ok_ok {a : α} {S : Store} : Ok (.ok a S) P = P a S := propext ⟨fun h => by cases h with | mk h => exact h, .mk⟩
theorem Ok.ex (h : Ok r P) : ∃ a S, r = .ok a S ∧ P a S := by
  cases h with
  | mk h => exact ⟨_, _, rfl, h⟩
theorem Ok.of {a : α} {S : Store} (e : r = .ok a S) (h : P a S) : Ok r P := by
  rw [e]
  exact .mk h
theorem Ok.g (hx : r = x) (h : Ok r P) : ∃ a S, x = .ok a S ∧ P a S := by
  rw [← hx]
  exact h.ex
theorem Ok.imp (h : Ok r P) (k : ∀ a S, P a S → Q a S) : Ok r Q := by
  obtain ⟨a, S, rfl, hq⟩ := h.ex
  exact .mk (k a S hq)
end
section
variable {it : Itb} {p : Pt} {b : MS} {e : M D} {t : M Bool} {ρ : Sl} {S : Store}
/-- a comprehension of draws -/
theorem compE (I : Store → Prop) (Q : D → Prop) {ds : List D} {k : Nat} (hg : ∀ S, I S → Grd it S) (h : ∀ d ∈ ds, ∃ ρ1, p d ρ = some ρ1 ∧ ∀ S, I S → Ok (e ρ1 S) fun y S' => I S' ∧ Q y) (hI : I S) (hk : k + ds.length ≤ sizeLine) :
    Ok (compL it p mYes e ρ ds k S) fun ys S' => ys.length = ds.length ∧ (∀ y ∈ ys, Q y) ∧ I S' := by
  obtain ⟨ys, S', e1, h1, h2, h3⟩ := comp_gen (it := it) (p := p) (t := mYes) (e := e) (ρ := ρ) (fun j ys S => ys.length = j ∧ (∀ y ∈ ys, Q y) ∧ I S) ds 0 k [] S (fun j d hj ys S ⟨q1, q2, q3⟩ => by
    obtain ⟨ρ1, hp, he⟩ := h d (List.mem_of_getElem? hj)
    obtain ⟨y, S2, e2, i2, qy⟩ := (he S q3).ex
    refine ⟨hg S q3, ρ1, hp, true, S, rfl, .inr ⟨rfl, y, S2, e2, by rw [List.length_append, q1]; rfl, fun z hz => ?_, i2⟩⟩
    rcases List.mem_append.mp hz with hz | hz
    · exact q2 z hz
    · simp at hz; subst hz; exact qy) (fun ys S ⟨q1, q2, q3⟩ => hg S q3) hk ⟨rfl, fun y h => (nomatch h), hI⟩
  rw [List.nil_append, Nat.zero_add] at h1
  rw [List.nil_append] at h2
  exact Ok.of e1 ⟨h1, h2, h3⟩
/-- a comprehension by places -/
theorem compI (I : Nat → List D → Store → Prop) {ds : List D} {k : Nat} (hg : ∀ j ys S, I j ys S → Grd it S)
    (h : ∀ j d, ds[j]? = some d → ∃ ρ1, p d ρ = some ρ1 ∧ ∀ ys S, I j ys S → Ok (e ρ1 S) fun y S' => I (j + 1) (ys ++ [y]) S') (hI : I 0 [] S) (hk : k + ds.length ≤ sizeLine) :
    Ok (compL it p mYes e ρ ds k S) fun ys S' => I ds.length ys S' := by
  obtain ⟨ys, S', e1, h1⟩ := comp_gen (it := it) (p := p) (t := mYes) (e := e) (ρ := ρ) I ds 0 k [] S (fun j d hj ys S hI => by
    rw [Nat.zero_add] at hI ⊢
    obtain ⟨ρ1, hp, he⟩ := h j d hj
    obtain ⟨y, S2, e2, i2⟩ := (he ys S hI).ex
    exact ⟨hg _ _ _ hI, ρ1, hp, true, S, rfl, .inr ⟨rfl, y, S2, e2, i2⟩⟩) (fun ys S hI => hg _ _ _ hI) hk hI
  rw [List.nil_append, Nat.zero_add] at h1
  exact Ok.of e1 h1
/-- loops -/
inductive OkN : Out → (Sl → Store → Prop) → Prop
  | mk {ρ : Sl} {S : Store} {P : Sl → Store → Prop} : P ρ S → OkN (.nx ρ S) P
theorem OkN.ex {o : Out} {P : Sl → Store → Prop} (h : OkN o P) : ∃ ρ S, o = .nx ρ S ∧ P ρ S := by
  cases h with
  | mk h => exact ⟨_, _, rfl, h⟩
theorem OkN.g {o x : Out} {P : Sl → Store → Prop} (hx : o = x) (h : OkN o P) : ∃ ρ S, x = .nx ρ S ∧ P ρ S := by
  rw [← hx]
  exact h.ex
@[simp] theorem okn_nx {P : Sl → Store → Prop} : OkN (.nx ρ S) P = P ρ S := propext ⟨fun h => by cases h with | mk h => exact h, .mk⟩
theorem forI (I : Nat → Sl → Store → Prop) {ds : List D} (hg : ∀ j ρ S, I j ρ S → Grd it S)
    (h : ∀ j d, ds[j]? = some d → ∀ ρ S, I j ρ S → ∃ ρ1, p d ρ = some ρ1 ∧ Stp (I (j + 1)) (fun _ => False) (b ρ1 S)) (hI : I 0 ρ S) : OkN (forL it p b ds ρ S) (I ds.length) := by
  obtain ⟨ρ', S', e1, h1⟩ := for_thru (it := it) (p := p) (b := b) I ds (fun j d hj ρ S hI => ⟨hg _ _ _ hI, h j d hj ρ S hI⟩) (fun ρ S hI => hg _ _ _ hI) hI
  rw [e1]
  exact .mk h1
end
/-! ### the places of a list -/
end G
namespace G
open PySem PySem.Spec PyProof.Rows L2
/-! ### several clauses, with names and without -/
abbrev Sut := Addr → Value → Option Addr → TS
/-- the ends of a suite that bears a name -/
def offN (o : Option Nat) (D : Ends) : Ends := match o with
  | none => D
  | some i => { nx := fun z y => D.nx (z.set i none) y, rt := D.rt, bk := fun z y => D.bk (z.set i none) y, ct := fun z y => D.ct (z.set i none) y }
def onN (o : Option Nat) (a : Addr) (σ : L2.St) : L2.St := match o with
  | none => σ
  | some i => σ.set i (some (.ref a))
def wMix (K : PySem.W.Frag) (Wo : WX) (D : Ends) : List (Value × Option Nat × Sut) → WX
  | [] => Wo
  | (c, o, t) :: r => fun k d σ H => ∃ b, PySem.W.exmOne K k c = some b ∧ (b = true → ∀ a, H a = none → t a k d (offN o D) (onN o a σ) H) ∧ (b = false → wMix K Wo D r k d σ H)
inductive Mix (X : Cx) : List ExceptHandler → List (Value × Option Nat × Sut) → Prop
  | nil : Mix X [] []
  | bare {x : Str} {c : Value} {t : Sut} {s0 : Stmt} {su : List Stmt} {p p' : Pos} {hs : List ExceptHandler} {l : List (Value × Option Nat × Sut)} (hc : Names X x c)
      (hu : ∀ (a : Addr) (oe : Obj) (k : Value) (d : Option Addr) (pn : List (Addr × Obj)), Zc k d oe → (∃ v, oe.data = .fields v) → PSs (X.suite a ((a, oe) :: pn)) (s0 :: su) (t a k d)) (r : Mix X hs l) :
      Mix X (.ExceptHandler (some (.Name x p)) none (s0 :: su) p' :: hs) ((c, none, t) :: l)
  | name {x n : Str} {c : Value} {i : Nat} {t : Sut} {s0 : Stmt} {su : List Stmt} {p p' : Pos} {hs : List ExceptHandler} {l : List (Value × Option Nat × Sut)} (hc : Names X x c) (hi : X.N[i]? = some n) (hk : X.env.kindOf n = some .local)
      (hu : ∀ (a : Addr) (oe : Obj) (k : Value) (d : Option Addr) (pn : List (Addr × Obj)), Zc k d oe → (∃ v, oe.data = .fields v) → PSs (X.suite a ((a, oe) :: pn)) (s0 :: su) (t a k d)) (r : Mix X hs l) :
      Mix X (.ExceptHandler (some (.Name x p)) (some n) (s0 :: su) p' :: hs) ((c, some i, t) :: l)
section
variable {X : Cx} {body : List Stmt} {h0 : ExceptHandler} {hds : List ExceptHandler} {l : List (Value × Option Nat × Sut)} {pos : Pos} {tb : WX → TS} {Wo : WX}
theorem ps_try_mix (hst : X.stack = X.env :: X.outer) (hfr : X.env.frame = some X.env.locals) (hN : X.N.Nodup) (tk : Takes X Wo)
    (hb : ∀ (W : WX) (pn : List (Addr × Obj)) (xe : Value → Shared → Prop), Takes (X.tr pn xe) W → PassesOwn (model X.prog X.w) X.A X.env xe → PSs (X.tr pn xe) body (tb W))
    (hh : Mix X (h0 :: hds) l) : PS X (.Try body (h0 :: hds) [] [] pos) (fun D σ H => tb (wMix X.K Wo D l) D σ H) := by
  refine ⟨fun pins s σ H D I h => wpAny_Try_except (wpAny_mono ((hb (wMix X.K Wo D l) (X.pn ++ pins) (fun e y => wpAny (model X.prog X.w) X.A (noteFrame e X.env) (fun _ y2 => wpAny (model X.prog X.w) X.A (setFlight e none) (fun _ y3 =>
    wpAny (model X.prog X.w) X.A (handleBy e X.env (h0 :: hds)) (SP X pins D) X.xe y3) X.xe y2) X.xe y) (fun u z xx => ?_) PassesOwn.looking).run [] s σ H D (I.toTry _) h) (fun f y hsp => ?_) (fun e y he => he))⟩
  · have okk := I.ok
    have hfs : X.A.frames = some (X.env :: X.outer) := by rw [okk.frames, hst]
    obtain ⟨a, B, sI, pins', σ1, H1, k, d, rfl, J0, nb, up, sky, na, os, ag, w⟩ := xx
    have J1 : Inv X pins σ1 H1 sI := J0.ofTry okk
    have sk : Sky B (X.env :: X.outer) a (Zc k d) X.env.locals z.heap := by rw [← hst]; exact sky
    refine Sky.land Zc.steady hfs hfr sk fun g1 fl1 up1 => ?_
    have J2 : Inv X pins σ1 H1 { z with heap := g1 } := J1.landed nb fl1.1 (up.trans up1) os ag
    obtain ⟨oe1, v1, he1, hz1, hd1⟩ := fl1.there
    have nfr : a ∉ frs (X.env :: X.outer) := fun hm => by obtain ⟨_, o2, e2, hnf⟩ := fl1.2.2.1.mem hm; rw [he1] at e2; cases e2; exact hnf _ hd1
    have n1 : a ≠ X.env.locals := fun q => nfr (List.mem_filterMap.mpr ⟨X.env, List.mem_cons_self, by rw [hfr, q]⟩)
    have n2 : a ∉ X.fs := fun hm => by obtain ⟨e, he, q⟩ := List.mem_filterMap.mp hm; exact nfr (List.mem_filterMap.mpr ⟨e, List.mem_cons_of_mem _ he, q⟩)
    have U1 := J2.suite he1 hd1 na n1 n2
    have test : ∀ {x : Str} {c : Value} {np : Pos} {Q : Value → Shared → Prop} {E : Value → Shared → Prop}, Names X x c → Q c { z with heap := g1 } → wpAny (model X.prog X.w) (X.A.mark (some (.ref a))) (eval (.Name x np) X.env) Q E { z with heap := g1 } := fun {x c np Q E} hc q => by
      obtain ⟨hg, hdb, hm | ⟨hm, hv, hnn⟩⟩ := hc
      · exact ld_glob (X := X.suite a ((a, oe1) :: (X.pn ++ pins))) U1 hg hm q hdb
      · exact ld_blt (X := X.suite a ((a, oe1) :: (X.pn ++ pins))) U1 hg hm hv q hnn hdb
    have LT : PySem.W.Looks (model X.prog X.w) g1 (typeOf (.ref a)) k := fun A Q E s kk q => wpAny_typeOf_ref (kk _ _ he1) (by rw [hz1.1]; exact q)
    have go : ∀ {hs : List ExceptHandler} {l' : List (Value × Option Nat × Sut)}, Mix X hs l' → wMix X.K Wo D l' k d σ1 H1 → wpAny (model X.prog X.w) X.A (handleBy (.ref a) X.env hs) (SP X pins D) X.xe { z with heap := g1 } := by
      intro hs l' hk
      induction hk with
      | nil =>
        intro w
        refine wpAny_handleBy_nil ?_
        obtain ⟨k1, k2, k3, oe, vs, T, oT, ts', he, hz, hd, h1, hr⟩ := id fl1
        unfold PySem.passOn
        refine wpAny_bind (wpAny_field he hd h1 ?_)
        rw [if_neg (show ¬ ((Value.ref T == Value.none) = true) by simp)]
        have fin : wpAny (model X.prog X.w) X.A (setFlight (.ref a) X.env.frame) (fun _ y => wpAny (model X.prog X.w) X.A (throw (.ref a) : Sem Flow) (SP X pins D) X.xe y) X.xe { z with heap := g1 } := by
          rw [hfr]
          exact HandSPX.setFlight_upZ fl1 fun g4 hh4 up4 => wpAny_throw (tk _ _ ⟨a, B, sI, pins, σ1, H1, k, d, rfl, J1, nb, (up.trans up1).trans up4, .inr (.inr (by rw [hst]; exact hh4)), na, os, ag, w⟩)
        first | exact wpAny_bind (wpAny_pure (wpAny_bind fin)) | exact wpAny_bind fin
      | @bare x c t s0 su p p' hs2 l2 hc hu r ih =>
        rintro ⟨b, hb1, hyes, hno⟩
        refine wpAny_handleBy_cons (codeAny_handlers_test ?_) (by intro q; cases q)
        refine test hc ((PySem.W.exm_one (M := model X.prog X.w) J2.kIn LT hb1).here ?_)
        cases b with
        | false => exact ih (hno rfl)
        | true =>
          refine codeAny_handlers_suite (HandSPX.lands_againZ fl1 fun g4 fl4 up4 => ?_)
          obtain ⟨oe4, v4, he4, hz4, hd4⟩ := fl4.there
          have J4 : Inv X pins σ1 H1 { z with heap := g4 } := J1.landed nb fl4.1 ((up.trans up1).trans up4) os ag
          have U4 := J4.suite he4 hd4 na n1 n2
          refine wpAny_mono ((hu a oe4 k d (X.pn ++ pins) hz4 ⟨_, hd4⟩).run [] _ _ H1 _ U4 (hyes rfl a na)) (fun f y hsp => ?_) (fun _ _ q => False.elim q)
          cases f with
          | ret u => obtain ⟨v6, σ6, H6, S6, r6, q6⟩ := hsp; exact ⟨_, _, _, S6.unsuite okk, r6, q6⟩
          | _ => obtain ⟨σ6, H6, S6, q6⟩ := hsp; exact ⟨_, _, S6.unsuite okk, q6⟩
      | @name x n c i t s0 su p p' hs2 l2 hc hi hk hu r ih =>
        rintro ⟨b, hb1, hyes, hno⟩
        refine wpAny_handleBy_cons (codeAny_handlers_test ?_) (by intro q; cases q)
        refine test hc ((PySem.W.exm_one (M := model X.prog X.w) J2.kIn LT hb1).here ?_)
        cases b with
        | false => exact ih (hno rfl)
        | true =>
          refine codeAny_handlers_suite_as (HandSPX.lands_againZ fl1 fun g4 fl4 up4 => ?_)
          obtain ⟨oe4, v4, he4, hz4, hd4⟩ := fl4.there
          have J4 : Inv X pins σ1 H1 { z with heap := g4 } := J1.landed nb fl4.1 ((up.trans up1).trans up4) os ag
          have U4 := J4.suite he4 hd4 na n1 n2
          refine store_ok (X := X.suite a ((a, oe4) :: (X.pn ++ pins))) (v := .ref a) U4 hN hi (.inl hk) rfl (fun y5 U5 => ?_) (.inr hk)
          refine wpAny_mono ((hu a oe4 k d (X.pn ++ pins) hz4 ⟨_, hd4⟩).run [] y5 _ H1 _ U5 (hyes rfl a na)) (fun f y hsp => ?_) (fun _ _ q => False.elim q)
          have fin : ∀ {σ6 : L2.St} {H6 : Hp} {Q : Shared → Prop}, Inv (X.suite a ((a, oe4) :: (X.pn ++ pins))) [] σ6 H6 y → (∀ y7, Inv X pins (σ6.set i none) H6 y7 → Q y7) →
              wpAny (model X.prog X.w) X.A (do bindName X.env n .none; unbindBehindTheSuite X.env n p') (fun _ y7 => Q y7) X.xe y := fun {σ6 H6 Q} S6 hq => gone_ok (S6.unsuite okk) hN hi hk hq
          cases f with
          | ret u => obtain ⟨v6, σ6, H6, S6, r6, q6⟩ := hsp; exact fin S6 fun y7 J7 => ⟨_, _, _, J7, r6, q6⟩
          | _ => obtain ⟨σ6, H6, S6, q6⟩ := hsp; exact fin S6 fun y7 J7 => ⟨_, _, J7, q6⟩
    exact go hh w
  · have okk := I.ok
    cases f with
    | next => obtain ⟨σ1, H1, J1, q⟩ := hsp; exact wpAny_execs_nil ⟨σ1, H1, J1.ofTry okk, q⟩
    | ret u => obtain ⟨v, σ1, H1, J1, r, q⟩ := hsp; exact ⟨v, σ1, H1, J1.ofTry okk, r, q⟩
    | _ => obtain ⟨σ1, H1, J1, q⟩ := hsp; exact ⟨σ1, H1, J1.ofTry okk, q⟩
end
/-! ### clauses that set a name -/
structure Hd where
  tb : List (Str × Bool)
  i : Option Nat
  j : Nat
  m : M D
def offD (o : Option Nat) (ρ : Sl) : Sl := match o with
  | none => ρ
  | some i => ρ.set i none
def onD (o : Option Nat) (d : D) (ρ : Sl) : Sl := match o with
  | none => ρ
  | some i => ρ.set i (some d)
noncomputable def hdl : List Hd → Exc → MS
  | [], x, ρ, S => .exc x ρ S
  | h :: hs, x, ρ, S => open Classical in match h.tb.lookup x.cls with
    | some true => (match h.m (onD h.i (.exv x.cls x.fs) ρ) S with
      | .ok d S2 => if xf d = true ∧ S2 = S ∧ h.i ≠ some h.j then .nx (offD h.i (ρ.set h.j (some d))) S else .stk
      | _ => .stk)
    | some false => hdl hs x ρ S
    | none => .stk
noncomputable def sTryM (hs : List Hd) (mb : MS) : MS := fun ρ S => match mb ρ S with
  | .exc x ρ1 S1 => hdl hs x ρ1 S1
  | o => o
section
variable {X : Cx} {cl : Str → Option Addr} {E : WX} {body : List Stmt} {pos : Pos} {mb : MS}
def TryC (K : PySem.W.Frag) (cl : Str → Option Addr) (c : Value) (tb : List (Str × Bool)) : Prop := ∀ s b, tb.lookup s = some b → ∀ C, cl s = some C → PySem.W.exmOne K (.ref C) c = some b
inductive HdsM (X : Cx) (cl : Str → Option Addr) : List ExceptHandler → List (Value × Hd) → Prop
  | nil : HdsM X cl [] []
  | bare {x : Str} {c : Value} {tb : List (Str × Bool)} {j : Nat} {m : M D} {t : Str} {tp ap p p' : Pos} {e : Expr} {hs : List ExceptHandler} {l : List (Value × Hd)} (hc : Names X x c) (ht : TryC X.K cl c tb)
      (hu : ∀ (a : Addr) (oe : Obj) (C : Addr) (d : Option Addr) (pn : List (Addr × Obj)), Zc (.ref C) d oe → (∃ v, oe.data = .fields v) → PSs (X.suite a ((a, oe) :: pn)) [.Assign [.Name t tp] e ap] (Ts X.K (clX cl a C d) (fun _ _ _ _ => False) (sSet j m))) (r : HdsM X cl hs l) :
      HdsM X cl (.ExceptHandler (some (.Name x p)) none [.Assign [.Name t tp] e ap] p' :: hs) ((c, ⟨tb, none, j, m⟩) :: l)
  | name {x n : Str} {c : Value} {tb : List (Str × Bool)} {i j : Nat} {m : M D} {t : Str} {tp ap p p' : Pos} {e : Expr} {hs : List ExceptHandler} {l : List (Value × Hd)} (hc : Names X x c) (ht : TryC X.K cl c tb) (hi : X.N[i]? = some n) (hk : X.env.kindOf n = some .local)
      (hu : ∀ (a : Addr) (oe : Obj) (C : Addr) (d : Option Addr) (pn : List (Addr × Obj)), Zc (.ref C) d oe → (∃ v, oe.data = .fields v) → PSs (X.suite a ((a, oe) :: pn)) [.Assign [.Name t tp] e ap] (Ts X.K (clX cl a C d) (fun _ _ _ _ => False) (sSet j m))) (r : HdsM X cl hs l) :
      HdsM X cl (.ExceptHandler (some (.Name x p)) (some n) [.Assign [.Name t tp] e ap] p' :: hs) ((c, ⟨tb, some i, j, m⟩) :: l)
def sutOf (K : PySem.W.Frag) (cl : Str → Option Addr) (h : Hd) : Sut := tsX fun a C d => Ts K (clX cl a C d) (fun _ _ _ _ => False) (sSet h.j h.m)
def mixOf (K : PySem.W.Frag) (cl : Str → Option Addr) (l : List (Value × Hd)) : List (Value × Option Nat × Sut) := l.map fun h => (h.1, h.2.i, sutOf K cl h.2)
theorem HdsM.mix {hs : List ExceptHandler} {l : List (Value × Hd)} (h : HdsM X cl hs l) : Mix X hs (mixOf X.K cl l) := by
  induction h with
  | nil => exact .nil
  | bare hc ht hu r ih => exact .bare hc (tsX_of hu) ih
  | name hc ht hi hk hu r ih => exact .name hc hi hk (tsX_of hu) ih
theorem HdsM.tab {hs : List ExceptHandler} {l : List (Value × Hd)} (h : HdsM X cl hs l) : ∀ q ∈ l, TryC X.K cl q.1 q.2.tb := by
  induction h with
  | nil => exact fun _ h => nomatch h
  | bare hc ht hu r ih =>
    intro q hq
    rcases List.mem_cons.mp hq with rfl | hq
    · exact ht
    · exact ih q hq
  | name hc ht hi hk hu r ih =>
    intro q hq
    rcases List.mem_cons.mp hq with rfl | hq
    · exact ht
    · exact ih q hq
theorem set_get {α : Type} {l : List (Option α)} {i k : Nat} {o : Option α} {z : α} (h : (l.set i o)[k]? = some (some z)) : (i = k ∧ o = some z ∧ i < l.length) ∨ (i ≠ k ∧ l[k]? = some (some z)) := by
  by_cases e : i = k
  · subst e
    by_cases hl : i < l.length
    · rw [List.getElem?_set_self hl] at h
      exact .inl ⟨rfl, Option.some.inj h, hl⟩
    · rw [List.getElem?_eq_none (by simpa using hl)] at h
      cases h
  · rw [List.getElem?_set_ne e] at h
    exact .inr ⟨e, h⟩
/-- one clause that takes it -/
theorem hd_takes {K : PySem.W.Frag} {W : Wd} {H : Hp} {S : Store} {σ : L2.St} {ρ : Sl} {A : Ends} {h : Hd} {y : Exc} {a C : Addr} {dd : Option Addr} (q : Rsv cl) (r : R K cl W H S) (en : Envs K cl W σ ρ) (xr : XRep K cl W (.ref C) dd y)
    (p : PostS K cl W (open Classical in match h.m (onD h.i (.exv y.cls y.fs) ρ) S with
      | .ok d S2 => if xf d = true ∧ S2 = S ∧ h.i ≠ some h.j then .nx (offD h.i (ρ.set h.j (some d))) S else .stk
      | _ => .stk) A E) : sutOf K cl h a (.ref C) dd (offN h.i A) (onN h.i a σ) H := by
  have rX := r.toX (a := a) (C := C) (d := dd) q
  have eX := en.toX (a := a) (C := C) (d := dd) q
  have xX : Rep K (clX cl a C dd) W (.ref a) (.exv y.cls y.fs) := xr.exv q
  show Ts K (clX cl a C dd) (fun _ _ _ _ => False) (sSet h.j h.m) (offN h.i A) (onN h.i a σ) H
  have eo : Envs K (clX cl a C dd) W (onN h.i a σ) (onD h.i (.exv y.cls y.fs) ρ) := by
    cases h.i with
    | none => exact eX.1
    | some i => exact eX.1.set i xX
  refine ⟨W, onD h.i (.exv y.cls y.fs) ρ, S, rX.1, eo, ?_⟩
  unfold sSet
  cases em : h.m (onD h.i (.exv y.cls y.fs) ρ) S with
  | stk => rw [em] at p; exact p.elim
  | exc z S2 => rw [em] at p; exact p.elim
  | ok d S2 =>
    rw [em] at p
    dsimp only at p
    split at p
    · rename_i hg
      obtain ⟨hx, rfl, hij⟩ := hg
      intro W2 H2 σ2 l2 r2 e2
      cases eh : h.i with
      | none =>
        rw [eh] at p e2
        refine p W2 H2 _ l2 (r2.ofX rX.2) ⟨e2.len, fun k z hz => ?_⟩
        obtain ⟨v, hv, rv⟩ := e2.at' k z hz
        refine ⟨v, hv, rv.ofX ?_⟩
        rcases set_get hz with ⟨_, e, _⟩ | ⟨_, e⟩
        · rw [← Option.some.inj e]; exact hx
        · exact eX.2 k z e
      | some i =>
        rw [eh] at p e2 hij
        have hne : i ≠ h.j := fun e => hij (by rw [e])
        refine p W2 H2 _ l2 (r2.ofX rX.2) ⟨by simpa [offD, onD] using e2.len, fun k z hz => ?_⟩
        rcases set_get hz with ⟨_, e, _⟩ | ⟨hk, e⟩
        · cases e
        · have hz2 : ((ρ.set i (some (.exv y.cls y.fs))).set h.j (some d))[k]? = some (some z) := by
            rcases set_get e with ⟨rfl, e', hl⟩ | ⟨hj, e'⟩
            · rw [List.getElem?_set_self (by simpa using hl), e']
            · rw [List.getElem?_set_ne hj, List.getElem?_set_ne hk]
              exact e'
          obtain ⟨v, hv, rv⟩ := e2.at' k z hz2
          refine ⟨v, by rw [List.getElem?_set_ne hk]; exact hv, rv.ofX ?_⟩
          rcases set_get e with ⟨_, e', _⟩ | ⟨_, e'⟩
          · rw [← Option.some.inj e']; exact hx
          · exact eX.2 k z e'
    · exact p.elim
theorem hdl_ok {W : Wd} {H : Hp} {S : Store} {σ : L2.St} {ρ : Sl} {A : Ends} {y : Exc} {C : Addr} {dd : Option Addr} (q : Rsv cl) (r : R X.K cl W H S) (en : Envs X.K cl W σ ρ) (xr : XRep X.K cl W (.ref C) dd y) (hC : cl y.cls = some C) :
    ∀ {l : List (Value × Hd)}, (∀ q ∈ l, TryC X.K cl q.1 q.2.tb) → PostS X.K cl W (hdl (l.map (·.2)) y ρ S) A E → wMix X.K E A (mixOf X.K cl l) (.ref C) dd σ H
  | [], _, p => p W H σ (.ref C) dd (.rf W) r en xr
  | (c, h) :: l, ht, p => by
    rw [List.map_cons] at p
    unfold hdl at p
    cases el : h.tb.lookup y.cls with
    | none => rw [el] at p; exact p.elim
    | some b =>
      rw [el] at p
      refine ⟨b, ht (c, h) (by simp) _ _ el C hC, fun hb a ha => ?_, fun hb => ?_⟩
      · subst hb
        exact hd_takes q r en xr p
      · subst hb
        exact hdl_ok q r en xr hC (fun z hz => ht z (by simp [hz])) p
theorem s_tryM {h0 : ExceptHandler} {hds : List ExceptHandler} {l : List (Value × Hd)} (q : Rsv cl) (hs : X.stack = X.env :: X.outer) (hf : X.env.frame = some X.env.locals) (hN : X.N.Nodup) (tk : Takes X E)
    (hb : ∀ (W : WX) (pn : List (Addr × Obj)) (xe : Value → Shared → Prop), Takes (X.tr pn xe) W → PassesOwn (model X.prog X.w) X.A X.env xe → PSs (X.tr pn xe) body (Ts X.K cl W mb)) (hh : HdsM X cl (h0 :: hds) l) :
    PS X (.Try body (h0 :: hds) [] [] pos) (Ts X.K cl E (sTryM (l.map (·.2)) mb)) :=
  ps_imp (ps_try_mix hs hf hN tk hb hh.mix) fun A σ H ⟨W, ρ, S, hr, he, p⟩ => ⟨W, ρ, S, hr, he, by
    unfold sTryM at p
    cases eb : mb ρ S with
    | exc y ρ1 S1 =>
      rw [eb] at p
      intro W1 H1 σ1 cls dd l1 r1 e1 xr
      obtain ⟨C, h1, rfl, h3⟩ := id xr
      exact hdl_ok q r1 e1 xr h1 hh.tab (PostS.up l1 p)
    | _ => rw [eb] at p; exact p⟩
end
end G
namespace G
open PySem L2
/-! ### isinstance of a handled error, with fields or without -/
section
variable {X : Cx} {cl : Str → Option Addr} {E : WX} {a C0 : Addr} {oe : Obj} {d : Option Addr} {pn : List (Addr × Obj)} {n x2 : Str} {tb : List (Str × Bool)} {p p1 p2 pos : Pos}
end
/-! ### clauses by name -/
theorem hm_nil {X : Cx} {cl : Str → Option Addr} : ∃ cs, HdsM X cl [] cs ∧ cs.map (·.2) = [] := ⟨[], .nil, rfl⟩
section
variable {X : Cx} {cl : Str → Option Addr} {E : WX} {x n : Str} {tb : List (Str × Bool)} {i j : Nat} {m : M D} {t : Str} {tp ap p p' pos : Pos} {e : Expr} {hs : List ExceptHandler} {l : List Hd} {body : List Stmt} {h0 : ExceptHandler} {mb : MS}
theorem hm_name (i : Nat) (ht : TryT X.K X.mg cl x tb) (hu : ∀ (a : Addr) (oe : Obj) (C : Addr) (d : Option Addr) (pn : List (Addr × Obj)), Zc (.ref C) d oe → (∃ v, oe.data = .fields v) → PSs (X.suite a ((a, oe) :: pn)) [.Assign [.Name t tp] e ap] (Ts X.K (clX cl a C d) (fun _ _ _ _ => False) (sSet j m)))
    (r : ∃ cs, HdsM X cl hs cs ∧ cs.map (·.2) = l) (hi : X.N[i]? = some n := by rfl) (hk : X.env.kindOf n = some .local := by rfl) (hg : Gl X x := by rfl) (hdb : (x == ("__debug__" : Str)) = false := by decide) :
    ∃ cs, HdsM X cl (.ExceptHandler (some (.Name x p)) (some n) [.Assign [.Name t tp] e ap] p' :: hs) cs ∧ cs.map (·.2) = ⟨tb, some i, j, m⟩ :: l := by
  obtain ⟨C, h1, h2⟩ := ht
  obtain ⟨cs, r1, r2⟩ := r
  exact ⟨(.ref C, ⟨tb, some i, j, m⟩) :: cs, .name ⟨hg, hdb, .inl h1⟩ h2 hi hk hu r1, by rw [List.map_cons, r2]⟩
theorem s_tryMN (q : Rsv cl) (hN : X.N.Nodup) (tk : Takes X E) (hb : ∀ (W : WX) (pn : List (Addr × Obj)) (xe : Value → Shared → Prop), Takes (X.tr pn xe) W → PassesOwn (model X.prog X.w) X.A X.env xe → PSs (X.tr pn xe) body (Ts X.K cl W mb))
    (hh : ∃ cs, HdsM X cl (h0 :: hs) cs ∧ cs.map (·.2) = l) (hst : X.stack = X.env :: X.outer := by rfl) (hf : X.env.frame = some X.env.locals := by rfl) : PS X (.Try body (h0 :: hs) [] [] pos) (Ts X.K cl E (sTryM l mb)) := by
  obtain ⟨cs, r1, rfl⟩ := hh
  exact s_tryM q hst hf hN tk hb r1
end
/-! ### running -/
section
variable {ρ : Sl} {S : Store} {d : D} {c : Str} {fs : List (Str × D)} {tb : List (Str × Bool)} {x : Exc} {h : Hd} {hs : List Hd} {o : Option Nat} {i j : Nat} {m : M D}
noncomputable def kTM3 (o : Option Nat) (j : Nat) (ρ : Sl) (S : Store) (r : Res D) : Out := open Classical in match r with
  | .ok d S2 => if xf d = true ∧ S2 = S ∧ o ≠ some j then .nx (offD o (ρ.set j (some d))) S else .stk
  | _ => .stk
@[simp] theorem x_TM3 {S2 : Store} : kTM3 o j ρ S (.ok d S2) = open Classical in if xf d = true ∧ S2 = S ∧ o ≠ some j then .nx (offD o (ρ.set j (some d))) S else .stk := nrfl rfl
noncomputable def kTM2 (h : Hd) (hs : List Hd) (x : Exc) (ρ : Sl) (S : Store) (b : Option Bool) : Out := match b with
  | some true => kTM3 h.i h.j ρ S (h.m (onD h.i (.exv x.cls x.fs) ρ) S)
  | some false => hdl hs x ρ S
  | none => .stk
@[simp] theorem x_TM2 : kTM2 h hs x ρ S (some true) = kTM3 h.i h.j ρ S (h.m (onD h.i (.exv x.cls x.fs) ρ) S) := nrfl rfl
@[simp] theorem x_TM2f : kTM2 h hs x ρ S (some false) = hdl hs x ρ S := nrfl rfl
@[simp] theorem x_hdl0 : hdl [] x ρ S = .exc x ρ S := nrfl rfl
@[simp] theorem x_hdl : hdl (h :: hs) x ρ S = kTM2 h hs x ρ S (h.tb.lookup x.cls) := by
  rw [hdl]
  unfold kTM2
  cases h.tb.lookup x.cls with
  | none => rfl
  | some b => cases b <;> rfl
noncomputable def kTM (hs : List Hd) (o : Out) : Out := match o with
  | .exc x ρ S => hdl hs x ρ S
  | o => o
@[simp] theorem x_TM {mb : MS} : sTryM hs mb ρ S = kTM hs (mb ρ S) := nrfl rfl
@[simp] theorem x_TMe : kTM hs (.exc x ρ S) = hdl hs x ρ S := nrfl rfl
@[simp] theorem x_TMn : kTM hs (.nx ρ S) = .nx ρ S := nrfl rfl
@[simp] theorem x_TMr : kTM hs (.rt d S) = .rt d S := nrfl rfl
@[simp] theorem x_TMb : kTM hs (.bk ρ S) = .bk ρ S := nrfl rfl
@[simp] theorem x_TMc : kTM hs (.ct ρ S) = .ct ρ S := nrfl rfl
@[simp] theorem offD_n : offD none ρ = ρ := nrfl rfl
@[simp] theorem offD_s : offD (some i) ρ = ρ.set i none := nrfl rfl
@[simp] theorem onD_n : onD none d ρ = ρ := nrfl rfl
@[simp] theorem onD_s : onD (some i) d ρ = ρ.set i (some d) := nrfl rfl
end
/-! an answer or an error -/
inductive OkX {α : Type} : Res α → (α → Store → Prop) → (Exc → Store → Prop) → Prop
  | ok {a : α} {S : Store} {P : α → Store → Prop} {Q : Exc → Store → Prop} : P a S → OkX (.ok a S) P Q
  | exc {x : Exc} {S : Store} {P : α → Store → Prop} {Q : Exc → Store → Prop} : Q x S → OkX (.exc x S) P Q
theorem OkX.ex {α : Type} {r : Res α} {P : α → Store → Prop} {Q : Exc → Store → Prop} (h : OkX r P Q) : (∃ a S, r = .ok a S ∧ P a S) ∨ ∃ x S, r = .exc x S ∧ Q x S := by
  cases h with
  | ok h => exact .inl ⟨_, _, rfl, h⟩
  | exc h => exact .inr ⟨_, _, rfl, h⟩
theorem OkX.g {α : Type} {r x : Res α} {P : α → Store → Prop} {Q : Exc → Store → Prop} (hx : r = x) (h : OkX r P Q) : (∃ a S, x = .ok a S ∧ P a S) ∨ ∃ y S, x = .exc y S ∧ Q y S := by
  rw [← hx]
  exact h.ex
@[simp] theorem okx_ok {α : Type} {a : α} {S : Store} {P : α → Store → Prop} {Q : Exc → Store → Prop} : OkX (.ok a S) P Q = P a S := propext ⟨fun h => by cases h with | ok h => exact h, .ok⟩
@[simp] theorem okx_exc {α : Type} {x : Exc} {S : Store} {P : α → Store → Prop} {Q : Exc → Store → Prop} : OkX (.exc x S) P Q = Q x S := propext ⟨fun h => by cases h with | exc h => exact h, .exc⟩
end G
namespace G
open PySem L2
/-! ### {k: v, ..} -/
def evP : List (M D × M D) → Sl → Store → Res (List (Key × D))
  | [], _, S => .ok [] S
  | (a, b) :: r, ρ, S => (a ρ S).nox.bind fun x S1 => (b ρ S1).nox.bind fun y S2 => match keyO x with
    | some k => (evP r ρ S2).bind fun l S3 => .ok ((k, y) :: l) S3
    | none => .stk
def mrgD (l : List (Key × D)) : List (Key × D) := l.foldl (fun acc kv => putKD acc kv.1 kv.2) []
theorem RepK.mrg {K : PySem.W.Frag} {cl : Str → Option Addr} {W : Wd} : ∀ {vs : List (Key × V)} {ds : List (Key × D)} {a : List (Key × V)} {b : List (Key × D)}, RepK K cl W vs ds → RepK K cl W a b → RepK K cl W (mergeK a vs) (ds.foldl (fun acc kv => putKD acc kv.1 kv.2) b)
  | _, _, _, _, .nil, h => h
  | _, _, _, b, .cons (k := k) (v := v) (d := d) (vs := vs) (ds := ds) hv t, h => by
    show RepK K cl W (mergeK (putK _ k v) vs) (ds.foldl (fun acc kv => putKD acc kv.1 kv.2) (putKD b k d))
    exact RepK.mrg t (h.put k hv)
section
variable {K : PySem.W.Frag} {cl : Str → Option Addr} {W : Wd} {H : Hp} {S : Store} {σ : L2.St} {ρ : Sl} {p : Addr}
theorem hid_out {W1 : Wd} {o : HO} (h : W1.P = upd W.P p o) : (W1.out W.P).hid p o = W1 := by
  obtain ⟨g, P, i, n⟩ := W1
  dsimp only at h
  subst h
  rfl
theorem le_out {W1 : Wd} {o : HO} (l : Le (W.hid p o) W1) : Le W (W1.out W.P) := ⟨l.g, l.i, l.n, rfl⟩
theorem pairs_rd : ∀ (ms : List (M D × M D)) {W : Wd} {H : Hp} {S : Store} {Q : List (V × V) → Hp → Prop}, R K cl (W.hid p (.dK [])) H S → Envs K cl W σ ρ →
    (match evP ms ρ S with
      | .ok l S' => ∀ W2 H2 vs, Le W W2 → R K cl (W2.hid p (.dK [])) H2 S' → RepK K cl W2 vs l → Q (vs.map fun kv => (kV kv.1, kv.2)) H2
      | _ => False) → tPairs (ms.map fun m => (T K cl F0 m.1, T K cl F0 m.2)) σ H Q
  | [], W, H, S, Q, r, en, q => q W H [] (.rf W) r .nil
  | (a, b) :: ms, W, H, S, Q, r, en, q => by
    unfold evP at q
    show T K cl F0 a σ H _
    refine ⟨W.hid p (.dK []), ρ, S, r, en.ups Ls.hid, ?_⟩
    cases ea : a ρ S with
    | exc x S1 => rw [ea] at q; exact q.elim
    | stk => rw [ea] at q; exact q.elim
    | ok x S1 =>
      rw [ea] at q
      intro W1 H1 v l1 r1 rv
      show T K cl F0 b σ H1 _
      have en1 : Envs K cl W1 σ ρ := (en.ups Ls.hid).up l1
      refine ⟨W1, ρ, S1, r1, en1, ?_⟩
      dsimp only [Res.nox, Res.bind] at q
      cases eb : b ρ S1 with
      | exc y S2 => rw [eb] at q; exact q.elim
      | stk => rw [eb] at q; exact q.elim
      | ok y S2 =>
        rw [eb] at q
        dsimp only at q
        intro W2 H2 u l2 r2 ru
        cases ek : keyO x with
        | none => rw [ek] at q; exact q.elim
        | some k =>
          rw [ek] at q
          dsimp only at q
          have lw := l1.tr l2
          have eW := hid_out (W := W) (p := p) (o := .dK []) (W1 := W2) lw.p
          have rv' := key_rep (rv.up l2) ek
          subst rv'
          rw [← eW] at r2
          refine pairs_rd ms (W := W2.out W.P) r2 ((en.up (le_out lw))) ?_
          cases ee : evP ms ρ S2 with
          | exc y S3 => rw [ee] at q; exact q.elim
          | stk => rw [ee] at q; exact q.elim
          | ok l S3 =>
            rw [ee] at q
            intro W3 H3 vs l3 r3 t3
            have ru' : Rep K cl W3 u y := (ru.ups (Ls.out (P := W.P))).up l3
            exact q W3 H3 ((k, u) :: vs) ((le_out lw).tr l3) r3 (.cons ru' t3)
end
def mDisp (ms : List (M D × M D)) (mk : List (Key × D) → Store → Res D) : M D := fun ρ S => (evP ms ρ S).bind fun l S1 => if l.length ≤ 15 then mk (mrgD l) S1 else .stk
def dfz (l : List (Key × D)) (S : Store) : Res D := .ok (.dct l) S
def dlv (l : List (Key × D)) (S : Store) : Res D := .ok (.ref S.length) (S ++ [.dct l])
section
variable {X : Cx} {cl : Str → Option Addr} {E : WX} {keys : List (Option Expr)} {values : List Expr} {pos : Pos} {ms : List (M D × M D)}
theorem disp_rd {K : PySem.W.Frag} {mk : List (Key × D) → Store → Res D} {σ : L2.St} {H : Hp} {Q Q' : VK} (h : T K cl E (mDisp ms mk) σ H Q)
    (hk : ∀ (W : Wd) (H : Hp) (S : Store) (a : Addr) (vs : List (Key × V)) (ds : List (Key × D)) (E : XK), R K cl W H S → H a = some (.dK vs) → W.G a = none → (∀ (i : Nat) (m : MO), S[i]? = some m → m ≠ .dead → W.ι i ≠ a) → W.P a = none → RepK K cl W vs ds → Post K cl (Rep K cl) W (mk ds S) Q E → Q' (.ref a) H) :
    tDisp (ms.map fun m => (T K cl F0 m.1, T K cl F0 m.2)) σ H Q' := by
  obtain ⟨W, ρ, S, hr, he, q⟩ := h
  intro p hp
  have np : W.P p = none := by
    cases e : W.P p with
    | none => rfl
    | some u => rw [(hr.priv p u e).1] at hp; cases hp
  refine pairs_rd ms (hr.hide hp) he ?_
  unfold mDisp at q
  cases ee : evP ms ρ S with
  | stk => rw [ee] at q; exact q.elim
  | exc y S3 => exact absurd ee (evP_no ms)
  | ok l S1 =>
    rw [ee] at q
    intro W2 H2 vs l2 r2 t2
    dsimp only [Res.bind] at q
    split at q
    · rename_i h15
      have np2 : W2.P p = none := by rw [l2.p]; exact np
      obtain ⟨_, h1, _, _⟩ := r2.unhide np2
      refine ⟨h1, vs, rfl, by rw [t2.len]; exact h15, ?_⟩
      obtain ⟨r3, h3, h4, h5⟩ := (r2.turn (o' := .dK (mergeK [] vs))).unhide np2
      exact hk W2 _ S1 p _ _ _ r3 h3 h4 h5 np2 (RepK.mrg t2 .nil) (Post.up l2 q)
    · exact q.elim
where
  evP_no {ρ : Sl} {y : Exc} {S3 : Store} : ∀ (ms : List (M D × M D)) {S : Store}, evP ms ρ S ≠ .exc y S3
    | [], S => fun h => by cases h
    | (a, b) :: ms, S => fun h => by
      unfold evP at h
      cases ea : a ρ S with
      | exc x S1 => rw [ea] at h; cases h
      | stk => rw [ea] at h; cases h
      | ok x S1 =>
        rw [ea] at h
        dsimp only [Res.nox, Res.bind] at h
        cases eb : b ρ S1 with
        | exc x S1 => rw [eb] at h; cases h
        | stk => rw [eb] at h; cases h
        | ok y S2 =>
          rw [eb] at h
          dsimp only at h
          cases ek : keyO x with
          | none => rw [ek] at h; cases h
          | some k =>
            rw [ek] at h
            dsimp only at h
            cases ee : evP ms ρ S2 with
            | stk => rw [ee] at h; cases h
            | exc z S4 => rw [ee] at h; cases h; exact evP_no ms ee
            | ok l S4 => rw [ee] at h; cases h
theorem t_dispF (h : PPs X pos keys values (ms.map fun m => (T X.K cl F0 m.1, T X.K cl F0 m.2))) (hall : keys.all (·.isSome) = true := by rfl) (hl : keys.length = values.length := by rfl) (h0 : keys ≠ [] := by exact fun h => nomatch h) (h15 : keys.length ≤ 15 := by decide) :
    PE X (.Dict keys values pos) (T X.K cl E (mDisp ms dfz)) :=
  pe_imp (pe_frzD (pe_disp h hall hl h0 h15)) fun σ H Q q => disp_rd q fun W H S a vs ds E' r ha hg nl np t p => ⟨a, .dK vs, rfl, ha, True.intro, fun od => by
    obtain ⟨r1, r2⟩ := lockAt r ha hg nl np (od := od)
    exact p _ _ _ r2 r1 (.dct upd_same (t.up r2))⟩
where
  lockAt {K : PySem.W.Frag} {W : Wd} {H : Hp} {S : Store} {a : Addr} {vs : List (Key × V)} {od : Obj} (r : R K cl W H S) (ha : H a = some (.dK vs)) (hg : W.G a = none) (nl : ∀ (i : Nat) (m : MO), S[i]? = some m → m ≠ .dead → W.ι i ≠ a) (np : W.P a = none) :
      R K cl (W.fz a (.frz od (.dK vs))) (upd H a (.frz od (.dK vs))) S ∧ Le W (W.fz a (.frz od (.dK vs))) := by
    have l := Le.fz (o := .frz od (.dK vs)) hg
    have r0 : R K cl W (upd H a (.frz od (.dK vs))) S := by
      refine ⟨r.n, fun b o hb => ?_, fun i m hm nd => ?_, r.inj, fun b o hb => ?_⟩
      · rw [upd_ne (ne_of_none hb hg)]
        exact r.sub b o hb
      · obtain ⟨g1, g2⟩ := r.live i m hm nd
        exact ⟨g1, g2.at (upd_ne (nl i m hm nd))⟩
      · obtain ⟨g1, g2, g3⟩ := r.priv b o hb
        exact ⟨by rw [upd_ne (ne_of_none hb np)]; exact g1, g2, g3⟩
    exact ⟨r0.fzAt upd_same hg nl np, l⟩
theorem dp_nil : PPs X pos [] [] (([] : List (M D × M D)).map fun m => (T X.K cl F0 m.1, T X.K cl F0 m.2)) := pps_nil
theorem dp_cons {k v : Expr} {ks : List (Option Expr)} {vs : List Expr} {a b : M D} (hk : PE X k (T X.K cl F0 a)) (hv : PE X v (T X.K cl F0 b)) (h : PPs X pos ks vs (ms.map fun m => (T X.K cl F0 m.1, T X.K cl F0 m.2))) :
    PPs X pos (some k :: ks) (v :: vs) (((a, b) :: ms).map fun m => (T X.K cl F0 m.1, T X.K cl F0 m.2)) := pps_cons hk hv h
end
/-! running -/
section
variable {ρ : Sl} {S : Store} {a b : M D} {ms : List (M D × M D)} {x y : D} {k : Key} {l : List (Key × D)} {mk : List (Key × D) → Store → Res D}
def kE4 (k : Key) (y : D) (l : List (Key × D)) (S : Store) : Res (List (Key × D)) := .ok ((k, y) :: l) S
@[simp] theorem e_kE4 : kE4 k y l S = .ok ((k, y) :: l) S := nrfl rfl
def kE3 (ρ : Sl) (ms : List (M D × M D)) (y : D) (S : Store) (o : Option Key) : Res (List (Key × D)) := match o with
  | some k => (evP ms ρ S).bind (kE4 k y)
  | none => .stk
@[simp] theorem e_kE3 : kE3 ρ ms y S (some k) = (evP ms ρ S).bind (kE4 k y) := nrfl rfl
def kE2 (ρ : Sl) (ms : List (M D × M D)) (x y : D) (S : Store) : Res (List (Key × D)) := kE3 ρ ms y S (keyO x)
@[simp] theorem e_kE2 : kE2 ρ ms x y S = kE3 ρ ms y S (keyO x) := nrfl rfl
def kE1 (ρ : Sl) (b : M D) (ms : List (M D × M D)) (x : D) (S : Store) : Res (List (Key × D)) := (b ρ S).nox.bind (kE2 ρ ms x)
@[simp] theorem e_kE1 : kE1 ρ b ms x S = (b ρ S).nox.bind (kE2 ρ ms x) := nrfl rfl
@[simp] theorem e_evP0 : evP [] ρ S = .ok [] S := nrfl rfl
@[simp] theorem e_evP : evP ((a, b) :: ms) ρ S = (a ρ S).nox.bind (kE1 ρ b ms) := by
  rw [evP]
  congr 1
def kE0 (mk : List (Key × D) → Store → Res D) (l : List (Key × D)) (S : Store) : Res D := if l.length ≤ 15 then mk (mrgD l) S else .stk
@[simp] theorem e_disp : mDisp ms mk ρ S = (evP ms ρ S).bind (kE0 mk) := nrfl rfl
@[simp] theorem e_kE0 : kE0 mk l S = if l.length ≤ 15 then mk (mrgD l) S else .stk := nrfl rfl
@[simp] theorem e_dfz : dfz l S = .ok (.dct l) S := nrfl rfl
@[simp] theorem e_dlv : dlv l S = .ok (.ref S.length) (S ++ [.dct l]) := nrfl rfl
end
end G
namespace G
open PySem L2
/-! ### list(d.keys()) -/
section
variable {X : Cx} {cl : Str → Option Addr} {E : WX} {e : Expr} {m : M D} {apos cpos p pos : Pos}
/-! ### len, dicts too -/
end
/-! ### running -/
section
variable {S : Store} {n : Nat} {x y z v : D} {ds : List D} {ns : List Int} {a : Str} {i : Int} {kvs : List (Key × D)} {k : Key} {b : Bool}
def rDc (o : Option MO) : Option (List (Key × D)) := match o with
  | some (.dct kvs) => some kvs
  | some (.ldc kvs) => some kvs
  | _ => none
@[simp] theorem rDc_d : rDc (some (.dct kvs)) = some kvs := nrfl rfl
@[simp] theorem rDc_l : rDc (some (.lst ds)) = none := nrfl rfl
@[simp] theorem rDc_n : rDc none = none := nrfl rfl
@[simp] theorem dc_refS : dcOf S (.ref n) = rDc (sg S n) := by
  unfold dcOf rDc sg
  rfl
@[simp] theorem dc_tup : dcOf S (.tup ds) = none := nrfl rfl
@[simp] theorem dc_lst : dcOf S (.lst ds) = none := nrfl rfl
@[simp] theorem dc_scr : dcOf S (.scr ns) = none := nrfl rfl
@[simp] theorem dc_str : dcOf S (.str a) = none := nrfl rfl
@[simp] theorem dc_int : dcOf S (.int i) = none := nrfl rfl
@[simp] theorem dc_bl : dcOf S (.bl b) = none := nrfl rfl
@[simp] theorem dc_non : dcOf S .non = none := nrfl rfl
def rIxA (o : Option (List (Key × D))) (x y : D) (S : Store) : Res D := match o with
  | some kvs => (match keyO y with
    | some k => ofO (valK kvs k) S
    | none => .stk)
  | none => ixD x y S
@[simp] theorem v_ixA : ixA x y S = rIxA (dcOf S x) x y S := by
  unfold ixA rIxA
  rfl
@[simp] theorem rIxA_none : rIxA none x y S = ixD x y S := nrfl rfl
@[simp] theorem rIxA_int : rIxA (some kvs) x (.int i) S = ofO (valK kvs (.inl i)) S := nrfl rfl
@[simp] theorem rIxA_str : rIxA (some kvs) x (.str a) S = ofO (valK kvs (.inr a)) S := nrfl rfl
@[simp] theorem key_keyD : keyO (keyD k) = some k := by cases k <;> rfl
end
end G
namespace G
open PySem L2
/-! ### pop, extend, remove, insert -/
section
variable {K : PySem.W.Frag} {cl : Str → Option Addr} {W : Wd}
def insD (x : D) (ys : List D) (S : Store) : Res D := match x, ys with
  | .ref n, [.int i, y] => (match S[n]? with
    | some (.lst xs) => if xs.length < sizeLine ∧ 0 ≤ i ∧ smR i = true then .ok .non (S.set n (.lst (xs.take i.toNat ++ [y] ++ xs.drop i.toNat))) else .stk
    | _ => .stk)
  | _, _ => .stk
theorem ins_s : G.MtS K cl (fun x vs H Q => ∃ (l : Addr) (xs : List V) (i : Int) (y : V), x = .ref l ∧ vs = [.int i, y] ∧ H l = some (.lst xs) ∧ xs.length < sizeLine ∧ 0 ≤ i ∧ i < 2 ^ 63 ∧ Q .non (upd H l (.lst (xs.take i.toNat ++ [y] ++ xs.drop i.toNat)))) insD := by
  intro W H S x a y b Q E r rx ry p
  unfold insD at p
  split at p
  · rename_i n i d
    cases rx with | ref hn =>
    cases ry with | cons ry rn =>
    cases ry
    cases rn with | cons rd rn =>
    cases rn
    split at p
    · rename_i xs e1
      obtain ⟨_, vs, h1, h2⟩ := r.live n _ e1 (by intro z; cases z)
      split at p
      · rename_i hz
        exact ⟨_, vs, i, _, rfl, rfl, h1, by rw [h2.len]; exact hz.1, hz.2.1, by have := (smR_of hz.2.2).2; omega, p W _ _ (.rf W) (r.put e1 (by intro z; cases z) ⟨_, upd_same, ((h2.take _).app (.cons rd .nil)).app (h2.drop _)⟩) .non⟩
      · exact p.elim
    · exact p.elim
  · exact p.elim
end
/-! running -/
section
variable {S : Store} {n : Nat} {x y : D} {ds es : List D} {i : Int} {ns : List Int}
def rInsO (o : Option MO) (n : Nat) (i : Int) (y : D) (S : Store) : Res D := match o with
  | some (.lst xs) => if xs.length < sizeLine ∧ 0 ≤ i ∧ smR i = true then .ok .non (sp S n (.lst (xs.take i.toNat ++ [y] ++ xs.drop i.toNat))) else .stk
  | _ => .stk
@[simp] theorem ins_ref : insD (.ref n) [.int i, y] S = rInsO (sg S n) n i y S := by
  unfold insD rInsO sg sp
  rfl
@[simp] theorem rIns_some : rInsO (some (.lst ds)) n i y S = if ds.length < sizeLine ∧ 0 ≤ i ∧ smR i = true then .ok .non (sp S n (.lst (ds.take i.toNat ++ [y] ++ ds.drop i.toNat))) else .stk := nrfl rfl
end
end G
namespace G
open PySem L2
/-! ### x == [], x != [] -/
def rEqL0 (K : PySem.W.Frag) : R2 := fun x y H Q => ∃ a b xs, x = .ref a ∧ y = .ref b ∧ SqL K H a xs ∧ SqL K H b [] ∧ Q (.bl xs.isEmpty) H
def rNeL0 (K : PySem.W.Frag) : R2 := fun x y H Q => ∃ a b xs, x = .ref a ∧ y = .ref b ∧ SqL K H a xs ∧ SqL K H b [] ∧ Q (.bl (!xs.isEmpty)) H
section
variable {X : Cx} {cl : Str → Option Addr} {E : WX}
theorem op_eqL0 {k : Nat} (hr : Room k X.A) : OpR X (compareOp .Eq) (rEqL0 X.K) := by
  intro pins s σ H x y v u Q I rx ry ⟨a, b, xs, ex, ey, ha, hb, q⟩
  subst ex
  subst ey
  obtain rfl : v = Value.ref a := rx
  obtain rfl : u = Value.ref b := ry
  obtain ⟨us, r1, h1, _⟩ := inv_K (k := false) I ha
  obtain ⟨ws, r2, h2, _⟩ := inv_K (k := false) I hb
  cases r2
  have hu : X.A.units < cLine := by have := hr.un; omega
  cases xs with
  | nil =>
    cases r1
    exact SeqAt.RcAt.lists (e := fun _ => true) h1 h2 rfl hu (fun j h1 => absurd h1 (by simp)) X.prog X.w _ _ ⟨.bl _, H, I, rfl, q⟩
  | cons x xs =>
    cases r1
    exact SeqAt.RcAt.lists_lengths h1 h2 (by simp) hu X.prog X.w _ _ ⟨.bl _, H, I, rfl, q⟩
theorem op_neL0 {k : Nat} (hr : Room k X.A) : OpR X (compareOp .NotEq) (rNeL0 X.K) := by
  intro pins s σ H x y v u Q I rx ry ⟨a, b, xs, ex, ey, ha, hb, q⟩
  subst ex
  subst ey
  obtain rfl : v = Value.ref a := rx
  obtain rfl : u = Value.ref b := ry
  obtain ⟨us, r1, h1, _⟩ := inv_K (k := false) I ha
  obtain ⟨ws, r2, h2, _⟩ := inv_K (k := false) I hb
  cases r2
  have hu : X.A.units < cLine := by have := hr.un; omega
  cases xs with
  | nil =>
    cases r1
    exact SeqAt.RcNeAt.lists (e := fun _ => true) h1 h2 rfl hu (fun j h1 => absurd h1 (by simp)) X.prog X.w _ _ ⟨.bl _, H, I, rfl, q⟩
  | cons x xs =>
    cases r1
    exact SeqAt.RcNeAt.lists_lengths h1 h2 (by simp) hu X.prog X.w _ _ ⟨.bl _, H, I, rfl, q⟩
def eqL0 (x y : D) (S : Store) : Res D := match lsOf S x, lsOf S y with
  | some xs, some [] => .ok (.bl xs.isEmpty) S
  | _, _ => .stk
def neL0 (x y : D) (S : Store) : Res D := match lsOf S x, lsOf S y with
  | some xs, some [] => .ok (.bl (!xs.isEmpty)) S
  | _, _ => .stk
theorem eqL0_s {K : PySem.W.Frag} : OpS K cl (rEqL0 K) eqL0 := by
  intro W H S x y a b Q E r rx ry p
  unfold eqL0 at p
  split at p
  · rename_i xs e1 e2
    obtain ⟨l, vs, rfl, h, t⟩ := ls_of r rx e1
    obtain ⟨l', vs', rfl, h', t'⟩ := ls_of r ry e2
    cases t'
    refine ⟨l, l', vs, rfl, rfl, SqL.of h, SqL.of h', ?_⟩
    rw [show vs.isEmpty = xs.isEmpty by cases t <;> rfl]
    exact p.now r (.bl _)
  · exact p.elim
theorem neL0_s {K : PySem.W.Frag} : OpS K cl (rNeL0 K) neL0 := by
  intro W H S x y a b Q E r rx ry p
  unfold neL0 at p
  split at p
  · rename_i xs e1 e2
    obtain ⟨l, vs, rfl, h, t⟩ := ls_of r rx e1
    obtain ⟨l', vs', rfl, h', t'⟩ := ls_of r ry e2
    cases t'
    refine ⟨l, l', vs, rfl, rfl, SqL.of h, SqL.of h', ?_⟩
    rw [show vs.isEmpty = xs.isEmpty by cases t <;> rfl]
    exact p.now r (.bl _)
  · exact p.elim
/-! ### d.get(k) -/
end
/-! running -/
section
variable {ρ : Sl} {S : Store} {x y : D} {ds : List D} {kvs : List (Key × D)} {k : Key} {b : MS} {c : M Bool}
def rE0 (o p : Option (List D)) (S : Store) : Res D := match o, p with
  | some xs, some [] => .ok (.bl xs.isEmpty) S
  | _, _ => .stk
def rN0 (o p : Option (List D)) (S : Store) : Res D := match o, p with
  | some xs, some [] => .ok (.bl (!xs.isEmpty)) S
  | _, _ => .stk
@[simp] theorem v_eqL0 : eqL0 x y S = rE0 (lsOf S x) (lsOf S y) S := by
  unfold eqL0 rE0
  rfl
@[simp] theorem v_neL0 : neL0 x y S = rN0 (lsOf S x) (lsOf S y) S := by
  unfold neL0 rN0
  rfl
@[simp] theorem rE0_some : rE0 (some ds) (some []) S = .ok (.bl ds.isEmpty) S := nrfl rfl
@[simp] theorem rN0_some : rN0 (some ds) (some []) S = .ok (.bl (!ds.isEmpty)) S := nrfl rfl
@[simp] theorem ls_lst : lsOf S (.lst ds) = some ds := nrfl rfl
/-- not in -/
def rNotInA2 (o : Option (List (Key × D))) (x y : D) (S : Store) : Res D := match o with
  | some kvs => (match keyO x with
    | some k => .ok (.bl (!(valK kvs k).isSome)) S
    | none => .stk)
  | none => notInD x y S
@[simp] theorem v_notInA : notInA x y S = rNotInA2 (dcOf S y) x y S := by
  unfold notInA rNotInA2 inDK
  cases e : dcOf S y with
  | none => rfl
  | some kvs =>
    dsimp only
    cases keyO x <;> rfl
@[simp] theorem rNotInA2_none : rNotInA2 none x y S = notInD x y S := nrfl rfl
@[simp] theorem rNotInA2_int {i : Int} : rNotInA2 (some kvs) (.int i) y S = .ok (.bl (!(valK kvs (.inl i)).isSome)) S := nrfl rfl
/-- a while loop with a measure -/
theorem whI (I : Nat → Sl → Store → Prop) (h : ∀ m ρ S, I m ρ S → ∃ k, c ρ S = .ok k S ∧ (k = true → Stp (fun ρ' S' => ∃ m', m' < m ∧ I m' ρ' S') (fun _ => False) (b ρ S))) :
    ∀ (n m : Nat) (ρ : Sl) (S : Store), m < n → I m ρ S → OkN (whileF c b n ρ S) fun ρ' S' => (∃ m', I m' ρ' S') ∧ c ρ' S' = .ok false S' := by
  intro n
  induction n with
  | zero => intro m ρ S hm; omega
  | succ n ih =>
    intro m ρ S hm hI
    obtain ⟨k, hc, hk⟩ := h m ρ S hI
    rw [x_wh, hc]
    cases k with
    | false =>
      simp
      exact ⟨⟨m, hI⟩, hc⟩
    | true =>
      have hb := (hk rfl).out
      simp
      cases e : b ρ S with
      | nx ρ2 S2 =>
        rw [e] at hb
        obtain ⟨m', h1, h2⟩ := hb
        rw [fB_nx]
        exact ih m' ρ2 S2 (by omega) h2
      | ct ρ2 S2 =>
        rw [e] at hb
        obtain ⟨m', h1, h2⟩ := hb
        rw [fB_ct]
        exact ih m' ρ2 S2 (by omega) h2
      | bk ρ2 S2 => rw [e] at hb; exact hb.elim
      | rt d S2 => rw [e] at hb; exact hb.elim
      | exc x ρ2 S2 => rw [e] at hb; exact hb.elim
      | stk => rw [e] at hb; exact hb.elim
end
end G
namespace G
open PySem L2
/-! ### pop at a place -/
section
variable {K : PySem.W.Frag} {cl : Str → Option Addr} {W : Wd}
end
section
variable {S : Store} {n : Nat} {x y : D} {ds es : List D} {i : Int} {ns : List Int}
end
end G
namespace G
open PySem L2
/-! ### d.copy(), the copy live -/
section
variable {X : Cx} {cl : Str → Option Addr} {E : WX} {o : Expr} {m : M D} {apos cpos : Pos}
end
section
variable {S : Store} {x : D} {kvs : List (Key × D)}
end
/-! ### a live list or dict is frozen -/
section
variable {K : PySem.W.Frag} {cl : Str → Option Addr} {W : Wd} {H : Hp} {S : Store}
theorem R.kilF {i : Nat} {m : MO} {o : HO} (r : R K cl W H S) (h : S[i]? = some m) (nd : m ≠ .dead) : R K cl (W.fz (W.ι i) o) (upd H (W.ι i) o) (S.set i .dead) ∧ Le W (W.fz (W.ι i) o) := by
  obtain ⟨h1, h2⟩ := r.live i m h nd
  have hq : W.P (W.ι i) = none := by
    cases e : W.P (W.ι i) with
    | none => rfl
    | some u => exact absurd rfl ((r.priv _ u e).2.2 i m h nd)
  have r1 : R K cl W (upd H (W.ι i) o) (S.set i .dead) := r.put h nd trivial
  refine ⟨r1.fzAt upd_same h1 (fun j mo e n' q => ?_) hq, Le.fz h1⟩
  by_cases hj : i = j
  · subst hj
    rw [List.getElem?_set_self (List.getElem?_eq_some_iff.mp h).1] at e
    cases e
    exact n' rfl
  · rw [List.getElem?_set_ne hj] at e
    exact hj (r.inj i j m mo h e nd n' q.symm)
end
def frzR (d : D) (S : Store) : Res D := match d with
  | .ref n => (match S[n]? with
    | some (.dct kvs) => .ok (.dct kvs) (S.set n .dead)
    | _ => .stk)
  | _ => .stk
section
variable {X : Cx} {cl : Str → Option Addr} {E : WX} {o : Expr} {m : M D} {apos cpos : Pos}
theorem t_frzR (he : PE X o (T X.K cl E m)) : PE X o (T X.K cl E (mUn frzR m)) :=
  pe_imp (pe_frzD he) fun σ H Q ⟨W, ρ, S, hr, en, q⟩ => step hr en q fun W1 H1 v d S1 l1 r1 e1 rv p1 => by
    unfold frzR at p1
    split at p1
    · rename_i n
      split at p1
      · rename_i kvs ek
        cases rv with | ref hn =>
        obtain ⟨g0, vs, ha, t⟩ := r1.live n _ ek (by intro z; cases z)
        refine ⟨_, .dK vs, rfl, ha, True.intro, fun od => ?_⟩
        obtain ⟨r2, l2⟩ := r1.kilF (o := .frz od (.dK vs)) ek (by intro z; cases z)
        exact p1 _ _ _ l2 r2 (.dct upd_same (t.up l2))
      · exact p1.elim
    · exact p1.elim
end
section
variable {S : Store} {n : Nat} {kvs : List (Key × D)}
theorem frzR_ok (h : sg S n = some (.dct kvs)) : frzR (.ref n) S = .ok (.dct kvs) (sp S n .dead) := by
  unfold frzR
  dsimp only
  rw [show S[n]? = some (.dct kvs) from h]
  rfl
end
end G
namespace G
open PySem L2
/-! ### an answer that is a new list or a new instance is frozen, what else was made is forgotten -/
section
variable {K : PySem.W.Frag} {cl : Str → Option Addr} {W W' : Wd} {H : Hp} {S : Store} {n : Nat}
theorem R.freezeI {m : Nat} {c : Str} {fs : List (Str × D)} (r : R K cl W H S) (e : S[m]? = some (.ins c fs)) : ∃ W', Le W W' ∧ R K cl W' H (S.set m .dead) ∧ Rep K cl W' (.ref (W.ι m)) (.ins c fs) := by
  have nd : MO.ins c fs ≠ .dead := by intro z; cases z
  obtain ⟨g0, C, dx, vs, hc, h1, t⟩ := r.live m _ e nd
  refine ⟨W.fz (W.ι m) (.ins C dx vs), Le.fz g0, (r.kill m).fzAt h1 g0 (fun i mo h ndi q => ?_) ?_, .ins upd_same hc (t.up (Le.fz g0))⟩
  · obtain ⟨h', hne⟩ := set_live h ndi
    exact hne (r.inj i m mo _ h' e ndi nd q)
  · cases q : W.P (W.ι m) with
    | none => rfl
    | some o => exact absurd rfl ((r.priv _ _ q).2.2 m _ e nd)
end
section
variable {X : Cx} {cl : Str → Option Addr} {E : WX} {e : Expr} {m : M D}
end
/-! ### own operators -/
section
variable {X : Cx} {k : Nat} {f C : Addr} {fd : FuncData} {ps : List Str} {pr : Sp} {E : WX} {op : Operator} {uop : UnaryOp} {pos : Pos} {a b : Expr} {ta tb : TE}
theorem notNI {Q : VK} {pins : List (Addr × Obj)} {σ : St} {v : Value} {s : Shared} (h : EP X pins σ Q v s) : PySem.W.CmpBack (EP X pins σ Q) v s := by
  have h0 := h
  obtain ⟨x, H', I, r, q⟩ := h
  cases x <;> first | (obtain rfl := r; exact h0) | (obtain ⟨t, rfl⟩ := r; exact h0)
theorem pe_binX (ha : PE X a ta) (hb : PE X b tb) (hC : PySem.W.selfFirst X.K C = true) (hM : Meth X.K C (PySem.dunder op.info.2) f) (Fk : FnOk X.prog X.w X.K X.mg X.base (L2.CX X.prog X.w) k f fd ps pr) (rm : Room k X.A) (bd : Binds X.K fd ps []) (tk : Takes X E) :
    PE X (.BinOp a op b pos) (fun σ H Q => ta σ H fun x H1 => tb σ H1 fun y H2 => ∃ i dx fs j dy gs, x = .ref i ∧ y = .ref j ∧ H2 i = some (.ins C dx fs) ∧ H2 j = some (.ins C dy gs) ∧ pr [x, y] H2 Q (fun c d H' => E c d σ H')) := by
  refine ⟨fun pins s σ H Q I h => ?_⟩
  refine wpAny_BinOp (binT ha hb I h fun v u s2 x y H2 I2 rx ry ⟨i, dx, fs, j, dy, gs, ex, ey, hi, hj, q⟩ => ?_)
  subst ex
  subst ey
  obtain rfl : v = Value.ref i := rx
  obtain rfl : u = Value.ref j := ry
  obtain ⟨mA, J, _⟩ := ins_get I2.hok hi
  obtain ⟨mB, J', _⟩ := ins_get I2.hok hj
  obtain ⟨od, J, _⟩ := J.look
  obtain ⟨od', J', _⟩ := J'.look
  obtain ⟨m, hF⟩ := I2.fr
  refine PySem.W.binop_K hF I2.ok.mod.kin J J'.type hC hM.at_ hM.fn ?_
  refine wpAny_mono (run_fnSD (E := fun σ c d H' => E c d σ H') (dvs := []) (us := [.ref i, .ref j]) (vs := [.ref i, .ref j]) Fk rm bd .nil (passAt tk σ) I2 (.cons rfl (.cons rfl .nil)) q) (fun r s' hr => notNI hr) fun _ _ z => z
end
section
variable {X : Cx} {cl : Str → Option Addr} {E : WX} {k n : Nat} {op : Operator} {pos : Pos} {a b : Expr} {ma mb : M D} {c m : Str} {g : List D → Store → Res D}
/-- a op b of two instances of the class c -/
def mBin (c : Str) (g : List D → Store → Res D) (ma mb : M D) : M D := fun ρ S => (ma ρ S).bind fun x S1 => (mb ρ S1).bind fun y S2 => match insO S2 x, insO S2 y with
  | some (c1, _), some (c2, _) => if c1 = c ∧ c2 = c then ar 2 g [x, y] S2 else .stk
  | _, _ => .stk
theorem t_bin (G : MFn X.prog X.w X.K X.mg X.base cl c (PySem.dunder op.info.2) k 2 g) (hC : ∀ C, cl c = some C → PySem.W.selfFirst X.K C = true) (rm : Room k X.A) (tk : Takes X E) (ha : PE X a (T X.K cl E ma)) (hb : PE X b (T X.K cl E mb)) :
    PE X (.BinOp a op b pos) (T X.K cl E (mBin c g ma mb)) := by
  obtain ⟨C, f, fd, ps, c1, c2, c3, c4, c5⟩ := G
  refine pe_imp (pe_binX ha hb (hC C c1) c3 c4 rm c5 tk) fun σ H Q ⟨W, ρ, S, hr, en, q⟩ => ?_
  unfold mBin at q
  refine step hr en q fun W1 H1 x dx S1 l1 r1 e1 rx p1 => step r1 e1 p1 fun W2 H2 y dy S2 l2 r2 e2 ry p2 => ?_
  split at p2
  · rename_i d1 f1 d2 f2 h1 h2
    split at p2
    · rename_i hc
      obtain ⟨rfl, rfl⟩ := hc
      obtain ⟨i, C1, di, vi, rfl, hc1, hi, _⟩ := ins_of r2 (rx.up l2) h1
      obtain ⟨j, C2, dj, vj, rfl, hc2, hj, _⟩ := ins_of r2 ry h2
      rw [c1] at hc1 hc2
      cases hc1
      cases hc2
      exact ⟨i, di, vi, j, dj, vj, rfl, rfl, hi, hj, W2, S2, [dx, dy], r2, .cons (rx.up l2) (.cons ry .nil), p2⟩
    · exact p2.elim
  · exact p2.elim
end
section
variable {X : Cx} {k : Nat} {f C : Addr} {fd : FuncData} {ps : List Str} {pr : Sp} {E : WX} {pos : Pos} {a : Expr} {ta : TE}
theorem pe_invX (ha : PE X a ta) (hM : Meth X.K C "__invert__" f) (Fk : FnOk X.prog X.w X.K X.mg X.base (L2.CX X.prog X.w) k f fd ps pr) (rm : Room k X.A) (bd : Binds X.K fd ps []) (tk : Takes X E) :
    PE X (.UnaryOp .Invert a pos) (fun σ H Q => ta σ H fun x H1 => ∃ i dx fs, x = .ref i ∧ H1 i = some (.ins C dx fs) ∧ pr [x] H1 Q (fun c d H' => E c d σ H')) := by
  refine ⟨fun pins s σ H Q I h => ?_⟩
  refine PyProof.Rows.UnaryOp_ (thn (ha.run pins s σ H _ I h) fun v s1 ⟨x, H1, I1, r1, i, dx, fs, ex, hi, q⟩ => ?_)
  subst ex
  obtain rfl : v = Value.ref i := r1
  obtain ⟨mA, J, _⟩ := ins_get I1.hok hi
  obtain ⟨od, J, _⟩ := J.look
  obtain ⟨m, hF⟩ := I1.fr
  unfold unaryOp
  refine wpAny_holding ?_
  dsimp only
  rw [if_neg (by decide)]
  refine wpAny_bind (PySem.W.special_fn (args := []) (I1.ok.mod.kin.keeps hF.keep) J hM.at_ (beq_iff_eq.mp hM.fn) ?_)
  refine wpAny_mono (run_fnSD (E := fun σ c d H' => E c d σ H') (dvs := []) (us := [.ref i]) (vs := [.ref i]) Fk rm bd .nil (passAt tk σ) I1 (.cons rfl .nil) q) (fun r s' hr => wpAny_pure hr) fun _ _ z => z
end
section
variable {X : Cx} {cl : Str → Option Addr} {E : WX} {k n : Nat} {pos : Pos} {a : Expr} {ma : M D} {c m : Str} {g : List D → Store → Res D}
def mInv (c : Str) (g : List D → Store → Res D) (ma : M D) : M D := fun ρ S => (ma ρ S).bind fun x S1 => match insO S1 x with
  | some (c1, _) => if c1 = c then ar 1 g [x] S1 else .stk
  | none => .stk
theorem t_inv (G : MFn X.prog X.w X.K X.mg X.base cl c "__invert__" k 1 g) (rm : Room k X.A) (tk : Takes X E) (ha : PE X a (T X.K cl E ma)) :
    PE X (.UnaryOp .Invert a pos) (T X.K cl E (mInv c g ma)) := by
  obtain ⟨C, f, fd, ps, c1, c2, c3, c4, c5⟩ := G
  refine pe_imp (pe_invX ha c3 c4 rm c5 tk) fun σ H Q ⟨W, ρ, S, hr, en, q⟩ => ?_
  unfold mInv at q
  refine step hr en q fun W1 H1 x dx S1 l1 r1 e1 rx p1 => ?_
  split at p1
  · rename_i d1 f1 h1
    split at p1
    · rename_i hc
      subst hc
      obtain ⟨i, C1, di, vi, rfl, hc1, hi, _⟩ := ins_of r1 rx h1
      rw [c1] at hc1
      cases hc1
      exact ⟨i, di, vi, rfl, hi, W1, S1, [dx], r1, .cons rx .nil, p1⟩
    · exact p1.elim
  · exact p1.elim
end
end G
namespace G
open PySem L2
/-! ### comprehensions of two clauses -/
open Classical in
noncomputable def compL2 (it : Itb) (p : Pt) (t : M Bool) (mi1 : M Itb) (p1 : Pt) (t1 : M Bool) (e : M D) (vs1 : List Nat) (ρ : Sl) : List D → Nat → Store → Res (List D)
  | [], _, S => if Grd it S then .ok [] S else .stk
  | d :: ds, n, S => if Grd it S then (match p d ρ with
    | some ρ1 => (t ρ1 S).nox.bind fun k S1 => if k = true then (mi1 ρ1 S1).nox.bind fun it1 S2 => (compL it1 p1 t1 e (wipeD ρ1 vs1) it1.xs n S2).bind fun ys S3 => (compL2 it p t mi1 p1 t1 e vs1 ρ ds (n + ys.length) S3).bind fun xs S4 => .ok (ys ++ xs) S4
        else compL2 it p t mi1 p1 t1 e vs1 ρ ds n S1
    | none => .stk) else .stk
noncomputable def mComp2 (m : M Itb) (p : Pt) (t : M Bool) (mi1 : M Itb) (p1 : Pt) (t1 : M Bool) (e : M D) (vs vs1 : List Nat) (mk : List D → Store → Res D) : M D := fun ρ S => (m ρ S).bind fun it S1 => (compL2 it p t mi1 p1 t1 e vs1 (wipeD ρ vs) it.xs 0 S1).bind fun xs S2 => mk xs S2
theorem wipe_off {σ σ' : St} {a vs : List Nat} (off : Off a (L2.wipe σ vs) σ') (ha : ∀ i ∈ a, i ∈ vs) : L2.wipe σ' vs = L2.wipe σ vs := by
  have hw : L2.wipe σ' vs = L2.wipe (L2.wipe σ vs) vs := wipe_ext off.1 fun j hj => off.2 j fun z => hj (ha j z)
  have hw2 : L2.wipe (L2.wipe σ vs) vs = L2.wipe σ vs := wipe_ext (wipe_length σ vs).symm fun j hj => by
    have : ∀ (vs : List Nat), j ∉ vs → (L2.wipe σ vs)[j]? = σ[j]? := by
      intro vs
      induction vs with
      | nil => intro _; rfl
      | cons v vs ih =>
        intro hj
        unfold L2.wipe
        rw [List.getElem?_set_ne (fun z => hj (by simp [z])), ih fun z => hj (by simp [z])]
    exact this vs hj
  exact hw.trans hw2
section
variable {X : Cx} {cl : Str → Option Addr} {E : WX} {elt tg iter tg1 iter1 : Expr} {ifs ifs1 : List Expr} {scope : Scope} {own : List (Str × Nat)} {pos : Pos} {mi mi1 : M Itb} {a a1 : List Nat} {p p1 : Pt} {mt mt1 : M Bool} {me : M D} {mk : List D → Store → Res D}
theorem lc2_read {K : PySem.W.Frag} {σ : St} {H : Hp} {Q : VK} {vs vs1 : List Nat} (hk : MkS K cl mk) (ha : ∀ i ∈ a, i ∈ vs) (ha1 : ∀ i ∈ a1, i ∈ vs1) (h : T K cl E (mComp2 mi p mt mi1 p1 mt1 me vs vs1 mk) σ H Q) :
    tLc2 (TIt K cl E mi) (Tp K cl a p) (TB K cl F0 mt) (TIt K cl F0 mi1) (Tp K cl a1 p1) (TB K cl F0 mt1) (T K cl F0 me) vs vs1 σ H Q := by
  obtain ⟨W, ρ, S, hr, he, q⟩ := h
  refine step hr he q fun W1 H1 J it S1 l1 r1 e1 hJ p1' => ?_
  intro Dl hD
  have np : W1.P Dl = none := by
    cases e : W1.P Dl with
    | none => rfl
    | some u => rw [(r1.priv Dl u e).1] at hD; cases hD
  refine ⟨fun i m H' => m = it.xs.length - i ∧ i ≤ it.xs.length ∧ ∃ W' S' acc dacc, Le W1 W' ∧ R K cl (W'.hid Dl (.lst acc)) H' S' ∧ Reps K cl W' acc dacc ∧
      Post K cl (Rep K cl) W' ((compL2 it p mt mi1 p1 mt1 me vs1 (wipeD ρ vs) (it.xs.drop i) dacc.length S').bind fun xs S2 => mk (dacc ++ xs) S2) Q (fun c d H' => E c d σ H'),
    ⟨_, rfl, Nat.zero_le _, W1, S1, [], [], .rf W1, r1.hide hD, .nil, p1'⟩, ?_⟩
  rintro i m H2 ⟨rfl, hi, W2, S2, acc, dacc, l2, r2, t2, p2⟩
  by_cases hlt : i < it.xs.length
  · have ed : it.xs.drop i = it.xs[i] :: it.xs.drop (i + 1) := List.drop_eq_getElem_cons hlt
    have ei : it.xs[i]? = some it.xs[i] := List.getElem?_eq_getElem hlt
    generalize hd : it.xs[i] = d at ed ei
    rw [ed] at p2
    unfold compL2 at p2
    by_cases hG : Grd it S2
    · rw [if_pos hG] at p2
      obtain ⟨g1, _⟩ := hJ (W2.hid Dl (.lst acc)) H2 S2 (l2.s.tr Ls.hid) r2 hG
      obtain ⟨go, yld⟩ := g1 i d ei
      refine .inr ⟨go, fun H' => ∃ W' S' acc dacc, Le W1 W' ∧ R K cl (W'.hid Dl (.lst acc)) H' S' ∧ Reps K cl W' acc dacc ∧
          Post K cl (Rep K cl) W' ((compL2 it p mt mi1 p1 mt1 me vs1 (wipeD ρ vs) (it.xs.drop (i + 1)) dacc.length S').bind fun xs S2 => mk (dacc ++ xs) S2) Q (fun c d H' => E c d σ H'), fun H' n => ⟨it.xs.length - (i + 1), by omega, rfl, hlt, n⟩, fun x H3 y => ?_⟩
      obtain ⟨W3, l3, r3, rx⟩ := yld x H3 y
      have back : ∀ (W2 : Wd) (acc : List V), Le W1 W2 → ∀ W4 : Wd, Le (W2.hid Dl (.lst acc)) W4 → W4 = (W4.out W1.P).hid Dl (.lst acc) ∧ Le W2 (W4.out W1.P) := fun W2 acc l2 W4 l4 => by
        have eP : W4.P = upd W1.P Dl (.lst acc) := by rw [l4.p]; show upd W2.P Dl _ = _; rw [l2.p]
        refine ⟨?_, ⟨l4.g, l4.i, l4.n, l2.p.symm⟩⟩
        cases W4
        simp only [Wd.out, Wd.hid] at eP ⊢
        rw [eP]
      cases e4 : p d (wipeD ρ vs) with
      | none => simp only [e4] at p2; exact p2.elim
      | some ρ3 =>
        simp only [e4] at p2
        have ev : Envs K cl W3 (L2.wipe σ vs) (wipeD ρ vs) := ((e1.up l2).wipe vs).ups (Ls.hid.tr l3.s)
        refine ⟨W3, wipeD ρ vs, S2, d, ρ3, r3, ev, rx, e4, fun σ3 e3 off => ⟨wipe_off off ha, W3, ρ3, S2, r3, e3, ?_⟩⟩
        cases e5 : mt ρ3 S2 with
        | stk => rw [e5] at p2; exact p2.elim
        | exc z S5 => rw [e5] at p2; exact p2.elim
        | ok k S5 =>
          rw [e5] at p2
          intro W5 H5 b l5 r5 eb
          obtain rfl : b = k := eb
          cases b with
          | false =>
            obtain ⟨eq5, le5⟩ := back W2 acc l2 W5 (l3.tr l5)
            rw [eq5] at r5
            exact ⟨W5.out W1.P, S5, acc, dacc, l2.tr le5, r5, t2.up le5, Post.up le5 p2⟩
          | true =>
            refine ⟨W5, ρ3, S5, r5, e3.up l5, ?_⟩
            cases e6 : mi1 ρ3 S5 with
            | stk => simp only [nox_ok, bind_ok, if_true, e6] at p2; exact p2.elim
            | exc z S6 => simp only [nox_ok, bind_ok, if_true, e6] at p2; exact p2.elim
            | ok it1 S6 =>
              simp only [nox_ok, bind_ok, if_true, e6] at p2
              intro W6 H6 J1 l6 r6 hJ1
              obtain ⟨eq6, le6⟩ := back W2 acc l2 W6 ((l3.tr l5).tr l6)
              have r6' := r6
              rw [eq6] at r6'
              -- the inner loop
              have inner : ∀ (W' : Wd) (S' : Store) (dacc : List D) (j : Nat), Post K cl (Rep K cl) W' (((compL it1 p1 mt1 me (wipeD ρ3 vs1) (it1.xs.drop j) dacc.length S').bind fun ys S3 => (compL2 it p mt mi1 p1 mt1 me vs1 (wipeD ρ vs) (it.xs.drop (i + 1)) (dacc.length + ys.length) S3).bind fun xs S4 => .ok (ys ++ xs) S4).bind fun xs S2 => mk (dacc ++ xs) S2) Q (fun c d H' => E c d σ H') → True := fun _ _ _ _ _ => trivial
              refine ⟨fun j k H' => k = it1.xs.length - j ∧ j ≤ it1.xs.length ∧ ∃ W' S' acc dacc, Le (W6.out W1.P) W' ∧ R K cl (W'.hid Dl (.lst acc)) H' S' ∧ Reps K cl W' acc dacc ∧
                  Post K cl (Rep K cl) W' (((compL it1 p1 mt1 me (wipeD ρ3 vs1) (it1.xs.drop j) dacc.length S').bind fun ys S3 => (compL2 it p mt mi1 p1 mt1 me vs1 (wipeD ρ vs) (it.xs.drop (i + 1)) (dacc.length + ys.length) S3).bind fun xs S4 => .ok (ys ++ xs) S4).bind fun xs S2 => mk (dacc ++ xs) S2) Q (fun c d H' => E c d σ H'),
                ⟨_, rfl, Nat.zero_le _, W6.out W1.P, S6, acc, dacc, .rf _, r6', t2.up le6, Post.up le6 p2⟩, ?_⟩
              clear inner
              rintro j kk H7 ⟨rfl, hj, W7, S7, acc7, dacc7, l7, r7, t7, p7⟩
              have l17 : Le W1 W7 := (l2.tr le6).tr l7
              have s67 : Ls W6 (W7.hid Dl (.lst acc7)) := (Ls.out.tr l7.s).tr Ls.hid
              by_cases hlt1 : j < it1.xs.length
              · have ed1 : it1.xs.drop j = it1.xs[j] :: it1.xs.drop (j + 1) := List.drop_eq_getElem_cons hlt1
                have ei1 : it1.xs[j]? = some it1.xs[j] := List.getElem?_eq_getElem hlt1
                generalize hd1 : it1.xs[j] = d1 at ed1 ei1
                rw [ed1] at p7
                unfold compL at p7
                by_cases hG1 : Grd it1 S7
                · rw [if_pos hG1] at p7
                  obtain ⟨g1', _⟩ := hJ1 (W7.hid Dl (.lst acc7)) H7 S7 s67 r7 hG1
                  obtain ⟨go1, yld1⟩ := g1' j d1 ei1
                  refine .inr ⟨go1, fun H' => ∃ W' S' acc dacc, Le (W6.out W1.P) W' ∧ R K cl (W'.hid Dl (.lst acc)) H' S' ∧ Reps K cl W' acc dacc ∧
                      Post K cl (Rep K cl) W' (((compL it1 p1 mt1 me (wipeD ρ3 vs1) (it1.xs.drop (j + 1)) dacc.length S').bind fun ys S3 => (compL2 it p mt mi1 p1 mt1 me vs1 (wipeD ρ vs) (it.xs.drop (i + 1)) (dacc.length + ys.length) S3).bind fun xs S4 => .ok (ys ++ xs) S4).bind fun xs S2 => mk (dacc ++ xs) S2) Q (fun c d H' => E c d σ H'), fun H' n => ⟨it1.xs.length - (j + 1), by omega, rfl, hlt1, n⟩, fun x1 H8 y1 => ?_⟩
                  obtain ⟨W8, l8, r8, rx8⟩ := yld1 x1 H8 y1
                  cases e9 : p1 d1 (wipeD ρ3 vs1) with
                  | none => simp only [e9] at p7; exact p7.elim
                  | some ρ9 =>
                    simp only [e9] at p7
                    have ev9 : Envs K cl W8 (L2.wipe σ3 vs1) (wipeD ρ3 vs1) := (((e3.up l5).up l6).wipe vs1).ups (s67.tr l8.s)
                    refine ⟨W8, wipeD ρ3 vs1, S7, d1, ρ9, r8, ev9, rx8, e9, fun σ9 en9 off9 => ⟨wipe_off off9 ha1, W8, ρ9, S7, r8, en9, ?_⟩⟩
                    cases e10 : mt1 ρ9 S7 with
                    | stk => rw [e10] at p7; exact p7.elim
                    | exc z S5 => rw [e10] at p7; exact p7.elim
                    | ok k1 S10 =>
                      rw [e10] at p7
                      intro W10 H10 b l10 r10 eb
                      obtain rfl : b = k1 := eb
                      cases b with
                      | false =>
                        obtain ⟨eq10, le10⟩ := back W7 acc7 l17 W10 (l8.tr l10)
                        rw [eq10] at r10
                        exact ⟨W10.out W1.P, S10, acc7, dacc7, l7.tr le10, r10, t7.up le10, Post.up le10 p7⟩
                      | true =>
                        refine ⟨W10, ρ9, S10, r10, en9.up l10, ?_⟩
                        cases e11 : me ρ9 S10 with
                        | stk => simp only [nox_ok, bind_ok, if_true, e11] at p7; exact p7.elim
                        | exc z S6 => simp only [nox_ok, bind_ok, if_true, e11] at p7; exact p7.elim
                        | ok dy S11 =>
                          simp only [nox_ok, bind_ok, if_true, e11] at p7
                          intro W11 H11 y11 l11 r11 ry
                          obtain ⟨eq11, le11⟩ := back W7 acc7 l17 W11 ((l8.tr l10).tr l11)
                          have r12 := r11
                          rw [eq11] at r12
                          by_cases hz : dacc7.length < sizeLine
                          · rw [if_pos hz] at p7
                            refine ⟨acc7, (r12.priv Dl _ upd_same).1, by rw [t7.len]; exact hz, W11.out W1.P, S11, acc7 ++ [y11], dacc7 ++ [dy], l7.tr le11, r12.turn, (t7.up le11).app (.cons (ry.ups Ls.out) .nil), ?_⟩
                            have p3 := Post.up le11 p7
                            revert p3
                            rw [List.length_append]
                            show _ → Post K cl (Rep K cl) _ (((compL it1 p1 mt1 me (wipeD ρ3 vs1) (it1.xs.drop (j + 1)) (dacc7.length + 1) S11).bind _).bind _) _ _
                            cases compL it1 p1 mt1 me (wipeD ρ3 vs1) (it1.xs.drop (j + 1)) (dacc7.length + 1) S11 with
                            | stk => exact fun z => z
                            | exc z S7 => exact fun z => z
                            | ok ys S12 =>
                              simp only [bind_ok, List.length_cons]
                              rw [show dacc7.length + (ys.length + 1) = dacc7.length + [dy].length + ys.length by simp; omega]
                              cases compL2 it p mt mi1 p1 mt1 me vs1 (wipeD ρ vs) (it.xs.drop (i + 1)) (dacc7.length + [dy].length + ys.length) S12 with
                              | stk => exact fun z => z
                              | exc z S7 => exact fun z => z
                              | ok xs S13 =>
                                simp only [bind_ok]
                                intro z
                                rw [List.append_assoc]
                                exact z
                          · rw [if_neg hz] at p7
                            exact p7.elim
                · rw [if_neg hG1] at p7
                  exact p7.elim
              · have ej : j = it1.xs.length := by omega
                subst ej
                rw [List.drop_length] at p7
                unfold compL at p7
                by_cases hG1 : Grd it1 S7
                · rw [if_pos hG1] at p7
                  obtain ⟨_, g2'⟩ := hJ1 (W7.hid Dl (.lst acc7)) H7 S7 s67 r7 hG1
                  refine .inl ⟨g2', W7, S7, acc7, dacc7, l17, r7, t7, ?_⟩
                  revert p7
                  simp only [bind_ok, List.length_nil, Nat.add_zero, List.nil_append]
                  cases compL2 it p mt mi1 p1 mt1 me vs1 (wipeD ρ vs) (it.xs.drop (i + 1)) dacc7.length S7 with
                  | stk => exact fun z => z
                  | exc z S7 => exact fun z => z
                  | ok xs S13 => exact fun z => z
                · rw [if_neg hG1] at p7
                  exact p7.elim
    · rw [if_neg hG] at p2
      exact p2.elim
  · have ei : i = it.xs.length := by omega
    subst ei
    rw [List.drop_length] at p2
    unfold compL2 at p2
    by_cases hG : Grd it S2
    · rw [if_pos hG] at p2
      obtain ⟨g1, g2⟩ := hJ (W2.hid Dl (.lst acc)) H2 S2 (l2.s.tr Ls.hid) r2 hG
      have np2 : W2.P Dl = none := by rw [l2.p]; exact np
      obtain ⟨r3, h3, h4, h5⟩ := r2.unhide np2
      have p3 : Post K cl (Rep K cl) W2 (mk (dacc ++ []) S2) Q (fun c d H' => E c d σ H') := p2
      rw [List.append_nil] at p3
      exact .inl ⟨g2, hk W2 H2 S2 Dl acc dacc Q _ r3 h3 h4 h5 np2 t2 p3⟩
    · rw [if_neg hG] at p2
      exact p2.elim
theorem t_lc2 (own : List (Str × Nat)) (vs1 : List Nat) (hk : MkS X.K cl mk) (hc : X.calm = true) (hN : X.N.Nodup) (hi : PI X tg iter (TIt X.K cl E mi)) (ok : BlkOk X.N X.env.scope scope own)
    (hg : ∀ (s : Shared) (H : Hp) (C : Addr) (ce : List (Str × Addr)) (fp : List Addr), PG (X.blk s H scope (compEnvC scope ce C X.env) fp) tg (Tp X.K cl a p))
    (ht : ∀ (s : Shared) (H : Hp) (C : Addr) (ce : List (Str × Addr)) (fp : List Addr), PTs (X.blk s H scope (compEnvC scope ce C X.env) fp) ifs (TB X.K cl F0 mt))
    (hi1 : ∀ (s : Shared) (H : Hp) (C : Addr) (ce : List (Str × Addr)) (fp : List Addr), PI (X.blk s H scope (compEnvC scope ce C X.env) fp) tg1 iter1 (TIt X.K cl F0 mi1))
    (hg1 : ∀ (s : Shared) (H : Hp) (C : Addr) (ce : List (Str × Addr)) (fp : List Addr), PG (X.blk s H scope (compEnvC scope ce C X.env) fp) tg1 (Tp X.K cl a1 p1))
    (ht1 : ∀ (s : Shared) (H : Hp) (C : Addr) (ce : List (Str × Addr)) (fp : List Addr), PTs (X.blk s H scope (compEnvC scope ce C X.env) fp) ifs1 (TB X.K cl F0 mt1))
    (he : ∀ (s : Shared) (H : Hp) (C : Addr) (ce : List (Str × Addr)) (fp : List Addr), PE (X.blk s H scope (compEnvC scope ce C X.env) fp) elt (T X.K cl F0 me))
    (ha : ∀ i ∈ a, i ∈ own.map (·.2) := by decide) (ha1 : ∀ i ∈ a1, i ∈ vs1 := by decide) (hv : ∀ i ∈ vs1, i ∈ own.map (·.2) := by decide) (hs : ∀ x, foldedSetIterable iter X.env x = pure x := by intro _; rfl) (hs1 : ∀ env x, foldedSetIterable iter1 env x = pure x := by intro _ _; rfl) :
    PE X (.ListComp elt [⟨tg, iter, ifs, 0⟩, ⟨tg1, iter1, ifs1, 0⟩] scope pos) (T X.K cl E (mComp2 mi p mt mi1 p1 mt1 me (own.map (·.2)) vs1 mk)) :=
  pe_imp (pe_lc2 hc hN hi ok hv hg ht hi1 hg1 ht1 he hs hs1) fun σ H Q h => lc2_read hk ha ha1 h
end
end G
namespace G
open PySem L2
/-! ### isinstance of own classes -/
def insB (K : PySem.W.Frag) (C : Addr) : Bool := decide (PySem.W.findIn K (.ref C) "__class__" = some (some (.builtin "object.__class__"))) && (decide (PySem.W.specialIn K (.builtin "object.__class__") "__get__" = some (some (.builtin "getset_descriptor.__get__"))) && (decide (PySem.W.takesIn K (.builtin "object.__class__") = some true) && decide (PySem.W.mroIn K C (.type "object") = some true)))
def kinds : List Kd := [.non, .bl, .int, .str, .tup, .lst, .dct]
def noneB (K : PySem.W.Frag) (C : Addr) : Bool := kinds.all fun k => decide (PySem.W.kitOne K (.type k.ty) (.ref C) = some false)
/-- the class c as isinstance takes it: which classes' objects are such -/
def IsC (K : PySem.W.Frag) (mg : Str → Option Value) (cl : Str → Option Addr) (c : Str) (tab : List (Str × Bool)) : Prop :=
  ∃ C, mg c = some (.ref C) ∧ noneB K C = true ∧ ∀ c' b, tab.lookup c' = some b → ∀ C', cl c' = some C' → Cls K C' ∧ insB K C' = true ∧ PySem.W.kitOne K (.ref C') (.ref C) = some b
def isCD (tab : List (Str × Bool)) (d : D) (S : Store) : Res D := match insO S d with
  | some (c, _) => (match tab.lookup c with
    | some b => .ok (.bl b) S
    | none => .stk)
  | none => (match kd S d with
    | some _ => .ok (.bl false) S
    | none => .stk)
theorem noneB_ok {K : PySem.W.Frag} {C : Addr} (h : noneB K C = true) (k : Kd) : PySem.W.kitOne K (.type k.ty) (.ref C) = some false := by
  unfold noneB at h
  rw [List.all_eq_true] at h
  have := h k (by cases k <;> simp [kinds])
  exact of_decide_eq_true this
section
variable {X : Cx} {cl : Str → Option Addr} {E : WX} {a b : Expr} {m : M D} {p p2 pos : Pos} {x : Str} {tab : List (Str × Bool)}
theorem t_isC (hk : IsC X.K X.mg cl x tab) (hm : X.mg "isinstance" = none) (ha : PE X a (T X.K cl E m)) (hg : Gl X "isinstance" := by rfl) (hg2 : Gl X x := by rfl) (hdb : (x == ("__debug__" : Str)) = false := by decide)
    (hs : starEach [.Name x p2] X.env = (false, eval (.Name x p2) X.env) :: starEach [] X.env := by rfl)
    (he : starEach [a, .Name x p2] X.env = (false, eval a X.env) :: starEach [.Name x p2] X.env := by rfl) (hpl : (backTo pos (starEach [.Name x p2] X.env)).any (·.1) = false := by rfl) :
    PE X (.Call (.Name "isinstance" p) [a, .Name x p2] [] pos) (T X.K cl E (mUn (isCD tab) m)) := by
  obtain ⟨C, hC, hn, ht⟩ := hk
  refine pe_imp (pe_callB call_isi hg hm bt_isinstance (pa_cons ha (pa_cons (pe_glob (v := .ref C) hg2 hC rfl hdb) pa_nil hs) he) (by decide) (by decide) he hpl) fun σ H Q ⟨W, ρ, S, hr, en, q⟩ =>
    step hr en q fun W1 H1 v d S1 l1 r1 e1 rv p1 => ?_
  unfold isCD at p1
  split at p1
  · rename_i c fs ei
    split at p1
    · rename_i b eb
      obtain ⟨i, C', dx, vs, rfl, hc, hi, _⟩ := ins_of r1 rv ei
      obtain ⟨q1, q2, q3⟩ := ht c b eb C' hc
      unfold insB at q2
      simp only [Bool.and_eq_true, decide_eq_true_eq] at q2
      exact ⟨.ref i, .ref C, _, _, b, rfl, .own C, .base (.ins hi q1 q2.1 q2.2.1 q2.2.2.1 q2.2.2.2), q3, p1.now r1 (.bl _)⟩
    · exact p1.elim
  · split at p1
    · rename_i k ek
      exact ⟨v, .ref C, _, _, false, rfl, .own C, kd_of r1 rv ek, noneB_ok hn k, p1.now r1 (.bl _)⟩
    · exact p1.elim
end
theorem isc_nil {K : PySem.W.Frag} {cl : Str → Option Addr} {C : Addr} : ∀ c' b, ([] : List (Str × Bool)).lookup c' = some b → ∀ C', cl c' = some C' → Cls K C' ∧ insB K C' = true ∧ PySem.W.kitOne K (.ref C') (.ref C) = some b := fun _ _ h => nomatch h
theorem isc_cons {K : PySem.W.Frag} {cl : Str → Option Addr} {C D : Addr} {c : Str} {v : Bool} {tab : List (Str × Bool)} (hc : cl c = some D) (h1 : Cls K D) (h2 : insB K D = true) (h3 : PySem.W.kitOne K (.ref D) (.ref C) = some v)
    (t : ∀ c' b, tab.lookup c' = some b → ∀ C', cl c' = some C' → Cls K C' ∧ insB K C' = true ∧ PySem.W.kitOne K (.ref C') (.ref C) = some b) :
    ∀ c' b, ((c, v) :: tab).lookup c' = some b → ∀ C', cl c' = some C' → Cls K C' ∧ insB K C' = true ∧ PySem.W.kitOne K (.ref C') (.ref C) = some b := fun c' b h C' hC' => by
  rw [List.lookup_cons] at h
  cases q : c' == c with
  | true =>
    rw [q] at h
    cases h
    rw [beq_iff_eq] at q
    subst q
    rw [hc] at hC'
    cases hC'
    exact ⟨h1, h2, h3⟩
  | false =>
    rw [q] at h
    exact t c' b h C' hC'
/-! ### max, min of a list of ints -/
def mxI : List Int → Option Int
  | [] => none
  | n :: ns => some (ns.foldl (fun a b => if a < b then b else a) n)
theorem mx_fold : ∀ (ns : List Int) (n : Int), (ns.foldl (fun a b => if a < b then b else a) n) ∈ n :: ns ∧ n ≤ (ns.foldl (fun a b => if a < b then b else a) n) ∧ ∀ y ∈ ns, y ≤ (ns.foldl (fun a b => if a < b then b else a) n)
  | [], n => ⟨by simp, Int.le_refl _, fun y hy => (nomatch hy)⟩
  | m :: ns, n => by
    obtain ⟨h1, h2, h3⟩ := mx_fold ns (if n < m then m else n)
    rw [List.foldl_cons]
    generalize ns.foldl (fun a b => if a < b then b else a) (if n < m then m else n) = r at h1 h2 h3
    refine ⟨?_, ?_, fun y hy => ?_⟩
    · rcases List.mem_cons.mp h1 with h1 | h1
      · rw [h1]
        split <;> simp
      · simp [h1]
    · split at h2 <;> omega
    · rcases List.mem_cons.mp hy with rfl | hy
      · split at h2 <;> omega
      · exact h3 y hy
def exD (f : List Int → Option Int) (as : List D) (S : Store) : Res D := match as with
  | [x] => (match ((lsOf S x).bind intsO).bind f with
    | some n => .ok (.int n) S
    | none => .stk)
  | _ => .stk
section
variable {K : PySem.W.Frag} {cl : Str → Option Addr}
theorem max_s : FnS K cl (rMax K) (exD mxI) := by
  intro W H S x a Q E r rx p
  unfold exD at p
  split at p
  · rename_i d
    cases rx with | cons rx rn =>
    cases rn
    split at p
    · rename_i m en
      cases e1 : lsOf S d with
      | none => rw [e1] at en; cases en
      | some ds =>
        rw [e1] at en
        cases e2 : intsO ds with
        | none => simp only [Option.bind_some, e2] at en; cases en
        | some ns =>
          simp only [Option.bind_some, e2] at en
          obtain ⟨l, vs, rfl, h, t⟩ := ls_of r rx e1
          have ev := ints_of t e2
          subst ev
          cases ns with
          | nil => cases en
          | cons n ns =>
            cases en
            obtain ⟨h1, h2, h3⟩ := mx_fold ns n
            refine ⟨l, n :: ns, rfl, SqL.of h, by simp, fun m hm hy => ?_⟩
            have e : m = ns.foldl (fun a b => if a < b then b else a) n := by
              have g1 := hy _ h1
              have g2 : m ≤ ns.foldl (fun a b => if a < b then b else a) n := by
                rcases List.mem_cons.mp hm with rfl | hm
                · exact h2
                · exact h3 m hm
              omega
            rw [e]
            exact p.now r (.int _)
    · exact p.elim
  · exact p.elim
end
theorem bt_max : bootBuiltins "max" = some (.builtin "max") := by decide +kernel
/-! ### dict(pairs) -/
def pairsO : List D → Option (List (Key × D))
  | [] => some []
  | .tup [k, v] :: r => (match keyO k, pairsO r with
    | some q, some l => some ((q, v) :: l)
    | _, _ => none)
  | _ => none
def dctP (mk : List (Key × D) → Store → Res D) (as : List D) (S : Store) : Res D := match as with
  | [x] => (match (lsOf S x).bind pairsO with
    | some l => mk (mrgD l) S
    | none => .stk)
  | _ => .stk
end G
namespace G
open PySem L2
/-! ### dict(pairs) -/
section
variable {K : PySem.W.Frag} {cl : Str → Option Addr} {W : Wd} {H : Hp} {S : Store}
theorem keyV_rep {v : V} {d : D} {k : Key} (h : Rep K cl W v d) (e : keyO d = some k) : v = kV k := by
  cases h with
  | int i => cases e; rfl
  | str s => cases e; rfl
  | _ => cases e
theorem pairs_rep (r : R K cl W H S) : ∀ {vs : List V} {ds : List D} {l : List (Key × D)}, Reps K cl W vs ds → pairsO ds = some l → ∃ ps kvs, vs = ps.map V.ref ∧ Paired (fun p kv => SqT K H p [kV kv.1, kv.2]) ps kvs ∧ RepK K cl W kvs l
  | _, _, l, .nil, e => by
    cases e
    exact ⟨[], [], rfl, .nil, .nil⟩
  | _, _, l, .cons (v := v) (d := d) (ds := ds) h t, e => by
    cases h with
    | @tup a xs ys hs rs =>
      cases rs with
      | nil => cases e
      | cons hk rs =>
        cases rs with
        | nil => cases e
        | cons hv rs =>
          cases rs with
          | cons _ _ => cases e
          | nil =>
            unfold pairsO at e
            split at e
            · rename_i q l' ek el
              cases e
              obtain ⟨ps, kvs, e1, e2, e3⟩ := pairs_rep r t el
              have := keyV_rep hk ek
              subst this
              refine ⟨a :: ps, (q, _) :: kvs, by rw [e1]; rfl, .cons ?_ e2, .cons hv e3⟩
              exact sqT_up r.sub hs
            · cases e
    | _ => cases e
theorem dctP_s : FnS K cl (fun xs H Q => ∃ (a : Addr) (ps : List Addr) (kvs : List (Key × V)), xs = [.ref a] ∧ SqL K H a (ps.map V.ref) ∧ Paired (fun p kv => SqT K H p [kV kv.1, kv.2]) ps kvs ∧
    ∀ p, H p = none → Q (.ref p) (upd H p (.dK (mergeK [] kvs)))) (dctP dlv) := by
  intro W H S x a Q E r rx p
  unfold dctP at p
  split at p
  · rename_i d
    cases rx with | cons rx rn =>
    cases rn
    split at p
    · rename_i l en
      cases e1 : lsOf S d with
      | none => rw [e1] at en; cases en
      | some ds =>
        rw [e1] at en
        obtain ⟨b, vs, rfl, h, t⟩ := ls_of r rx e1
        obtain ⟨ps, kvs, rfl, h2, h3⟩ := pairs_rep r t (show pairsO ds = some l from en)
        refine ⟨b, ps, kvs, rfl, SqL.of h, h2, fun q hq => ?_⟩
        exact p (W.lv q) _ _ (Le.lv W q) (r.new hq ⟨_, upd_same, RepK.mrg h3 .nil⟩) (rep_lv r)
    · exact p.elim
  · exact p.elim
end
theorem bt_dict' : bootBuiltins "dict" = some (.type "dict") := by decide +kernel
/-! ### dict comprehensions -/
section
variable {X : Cx} {cl : Str → Option Addr} {E : WX} {kx vx tg iter : Expr} {ifs : List Expr} {scope : Scope} {own : List (Str × Nat)} {pos : Pos} {mi : M Itb} {a : List Nat} {p : Pt} {mt : M Bool} {mk mv : M D} {fin : List (Key × D) → Store → Res D}
end
end G
namespace G
open PySem L2
/-! ### a keyword-only parameter with a default -/
def FnK (P : Program) (w : World) (K : PySem.W.Frag) (mg : Str → Option Value) (base : Heap) (cl : Str → Option Addr) (x : Str) (k n : Nat) (kw : Str) (d : D) (g : List D → Store → Res D) : Prop :=
  ∃ f fd ps, FnOk P w K mg base (L2.CX P w) k f fd ps (spOf K cl (n + 1) g) ∧ mg x = some (.ref f) ∧ PySem.W.keepIn K (.ref f) = true ∧ KBn K fd ps n [kw] (fun us ws => us ++ ws) (fun vs zs => vs ++ zs) ∧ ∃ v ds, Vals [v] ds ∧ Binds K fd ps ds ∧ ∀ W, Rep K cl W v d
def mFnK (n : Nat) (g : List D → Store → Res D) (ms : M (List D)) (mk : M D) : M D := fun ρ S => (ms ρ S).bind fun ys S1 => (mk ρ S1).bind fun z S2 => if ys.length = n then ar (n + 1) g (ys ++ [z]) S2 else .stk
def mFnD (n : Nat) (d : D) (g : List D → Store → Res D) (ms : M (List D)) : M D := fun ρ S => (ms ρ S).bind fun ys S1 => ar (n + 1) g (ys ++ [d]) S1
section
variable {X : Cx} {k n : Nat} {f : Addr} {fd : FuncData} {ps ks : List Str} {sp : Sp} {E : St → XK} {x : Str} {p pos : Pos} {e : Expr} {es : List Expr} {kws : List Keyword} {t tk : TA} {g : List Value → List Value → List Value} {gV : List V → List V → List V} {CX : CXT}
theorem run_fnNS {pins : List (Addr × Obj)} {σ : St} {H : Hp} {s : Shared} {Q : VK} {us ws : List Value} {vs zs : List V} (F : FnOk X.prog X.w X.K X.mg X.base CX k f fd ps sp) (hr : Room k X.A) (hb : KBn X.K fd ps n ks g gV) (hx : PassesAt CX X σ (E σ))
    (I : Inv X pins σ H s) (r : Vals vs us) (rz : Vals zs ws) (l1 : vs.length = n) (l2 : zs.length = ks.length) (h : sp (gV vs zs) H Q (E σ)) : wpAny (model X.prog X.w) X.A (call (.ref f) us (ks.zip ws)) (EP X pins σ Q) X.xe s := by
  have r2 := hb.rel r rz
  refine wpAny_call (codeAny_mono (F.run X.A X.stack s H ⟨us, ks.zip ws⟩ (g us ws) (gV vs zs) Q (E σ) hr I.env0 (hb.to s us ws I.kIn (r.length.symm.trans l1) (rz.length.symm.trans l2)) r2 h) fun r s' hq => ?_)
  cases r with
  | error e => exact hx pins H s e s' I hq
  | ok fl =>
    cases fl with
    | ret u => exact I.after hq
    | next => exact False.elim hq
    | brk => exact False.elim hq
    | cont => exact False.elim hq
theorem pe_callNS (F : FnOk X.prog X.w X.K X.mg X.base CX k f fd ps sp) (hr : Room k X.A) (hg : Gl X x) (hm : X.mg x = some (.ref f)) (hk : PySem.W.keepIn X.K (.ref f) = true) (hb : KBn X.K fd ps n ks g gV) (hx : ∀ σ, PassesAt CX X σ (E σ))
    (ha : PA X (e :: es) t) (hkw : PK X kws tk) (hall : (backToKw pos (keywordEach kws X.env)).all (·.1.isSome) = true := by rfl) (hks : (backToKw pos (keywordEach kws X.env)).filterMap (·.1) = ks := by rfl)
    (hdb : (x == ("__debug__" : Str)) = false := by decide) (he : starEach (e :: es) X.env = (false, eval e X.env) :: starEach es X.env := by rfl)
    (hpl : ((backTo pos (starEach (e :: es) X.env)).any (·.1) || (backToKw pos (keywordEach kws X.env)).any (·.1.isNone)) = false := by rfl) :
    PE X (.Call (.Name x p) (e :: es) kws pos) (fun σ H Q => t σ H fun vs H1 => tk σ H1 fun zs H2 => vs.length = n ∧ zs.length = ks.length ∧ sp (gV vs zs) H2 Q (E σ)) := by
  refine ⟨fun pins s σ H Q I h => ?_⟩
  refine wpAny_Call_Name_kw (ld_glob I hg hm ?_ hdb)
  refine PySem.W.callWith_KW (h₀ := X.base) I.ok.mod.kin hk hall (thn (ha.run pos pins s σ H _ I h) fun us s1 ⟨vs, H1, I1, r, q⟩ => ?_) hpl he
  refine thn (hkw.run pos pins s1 σ H1 _ I1 q) fun ws s2 ⟨zs, H2, I2, rz, l1, l2, q2⟩ => ⟨I2.kIn, ?_⟩
  rw [hks]
  exact run_fnNS F hr hb (hx σ) I2 r rz l1 l2 q2
end
section
variable {X : Cx} {cl : Str → Option Addr} {E : WX} {k n : Nat} {x kw : Str} {p pos kpos : Pos} {e ke : Expr} {es : List Expr} {ms : M (List D)} {mk : M D} {g : List D → Store → Res D} {d : D}
theorem t_callK (F : FnK X.prog X.w X.K X.mg X.base cl x k n kw d g) (rm : Room k X.A) (tk : Takes X E) (ha : PA X (e :: es) (TL X.K cl E ms)) (hk : PE X ke (T X.K cl E mk)) (hg : Gl X x := by rfl)
    (hall : (backToKw pos (keywordEach [⟨some kw, ke, kpos⟩] X.env)).all (·.1.isSome) = true := by rfl) (hks : (backToKw pos (keywordEach [⟨some kw, ke, kpos⟩] X.env)).filterMap (·.1) = [kw] := by rfl)
    (hdb : (x == ("__debug__" : Str)) = false := by decide) (he : starEach (e :: es) X.env = (false, eval e X.env) :: starEach es X.env := by rfl)
    (hpl : ((backTo pos (starEach (e :: es) X.env)).any (·.1) || (backToKw pos (keywordEach [⟨some kw, ke, kpos⟩] X.env)).any (·.1.isNone)) = false := by rfl) :
    PE X (.Call (.Name x p) (e :: es) [⟨some kw, ke, kpos⟩] pos) (T X.K cl E (mFnK n g ms mk)) := by
  obtain ⟨f, fd, ps, h1, h2, h3, h4, _⟩ := F
  refine pe_imp (pe_callNS (E := fun σ c d H' => E c d σ H') h1 rm hg h2 h3 h4 (fun σ => passAt tk σ) ha (pk_cons hk pk_nil) hall hks hdb he hpl) fun σ H Q ⟨W, ρ, S, hr, en, q⟩ => ?_
  unfold mFnK at q
  refine step hr en q fun W1 H1 vs ds S1 l1 r1 e1 rs p1 => ?_
  refine step r1 e1 p1 fun W2 H2 z dz S2 l2 r2 e2 rz p2 => ?_
  split at p2
  · rename_i hl
    refine ⟨by rw [rs.len]; exact hl, rfl, ⟨W2, S2, ds ++ [dz], r2, (rs.up l2).app (.cons rz .nil), p2⟩⟩
  · exact p2.elim
theorem t_callKd (F : FnK X.prog X.w X.K X.mg X.base cl x k n kw d g) (rm : Room k X.A) (tk : Takes X E) (ha : PA X (e :: es) (TL X.K cl E ms)) (hg : Gl X x := by rfl) (hdb : (x == ("__debug__" : Str)) = false := by decide)
    (he : starEach (e :: es) X.env = (false, eval e X.env) :: starEach es X.env := by rfl) (hpl : (backTo pos (starEach es X.env)).any (·.1) = false := by rfl) :
    PE X (.Call (.Name x p) (e :: es) [] pos) (T X.K cl E (mFnD n d g ms)) := by
  obtain ⟨f, fd, ps, h1, h2, h3, _, v, ds, h4, h5, h6⟩ := F
  refine pe_imp (pe_callSD (E := fun σ c d H' => E c d σ H') h1 rm hg h2 h3 h5 h4 (fun σ => passAt tk σ) ha hdb he hpl) fun σ H Q ⟨W, ρ, S, hr, en, q⟩ => ?_
  unfold mFnD at q
  exact step hr en q fun W1 H1 vs ds S1 l1 r1 e1 rs p1 => ⟨W1, S1, ds ++ [d], r1, rs.app (.cons (h6 W1) .nil), p1⟩
end
/-! ### {k1: f1, k2: f2, k3: f3}[i]() -/
def tabG (z : Str) : List (Str × (List D → Store → Res D)) → Store → Res D
  | [], _ => .stk
  | (k, g) :: r, S => if k = z then ar 0 g [] S else tabG z r S
def mTab (tab : List (Str × (List D → Store → Res D))) (mi : M D) : M D := fun ρ S => (mi ρ S).bind fun x S1 => match x with
  | .str z => tabG z tab S1
  | _ => .stk
section
variable {X : Cx} {cl : Str → Option Addr} {E : WX} {k : Nat} {x1 x2 x3 k1 k2 k3 : Str} {pos spos dpos p1 p2 p3 q1 q2 q3 : Pos} {n1 n2 n3 : Nat} {i : Expr} {mi : M D} {g1 g2 g3 : List D → Store → Res D}
theorem t_tab3 (F1 : Fn X.prog X.w X.K X.mg X.base cl x1 k 0 g1) (F2 : Fn X.prog X.w X.K X.mg X.base cl x2 k 0 g2) (F3 : Fn X.prog X.w X.K X.mg X.base cl x3 k 0 g3) (rm : Room k X.A) (tk : Takes X E) (hi : PE X i (T X.K cl E mi))
    (hs : NoSl i := by exact fun _ _ => rfl) (hg1 : Gl X x1 := by rfl) (hg2 : Gl X x2 := by rfl) (hg3 : Gl X x3 := by rfl) (d1 : (x1 == ("__debug__" : Str)) = false := by decide) (d2 : (x2 == ("__debug__" : Str)) = false := by decide) (d3 : (x3 == ("__debug__" : Str)) = false := by decide)
    (h12 : k1 ≠ k2 := by decide) (h13 : k1 ≠ k3 := by decide) (h23 : k2 ≠ k3 := by decide) :
    PE X (.Call (.Subscript (.Dict [some (.Constant (.str k1) n1 p1), some (.Constant (.str k2) n2 p2), some (.Constant (.str k3) n3 p3)] [.Name x1 q1, .Name x2 q2, .Name x3 q3] dpos) i spos) [] [] pos) (T X.K cl E (mTab [(k1, g1), (k2, g2), (k3, g3)] mi)) := by
  obtain ⟨f1, fd1, ps1, a1, b1, c1, e1⟩ := F1.ex
  obtain ⟨f2, fd2, ps2, a2, b2, c2, e2⟩ := F2.ex
  obtain ⟨f3, fd3, ps3, a3, b3, c3, e3⟩ := F3.ex
  have hu : X.A.units + 1 < cLine := by have := rm.un; omega
  have hD := pe_dget (pos := spos) hu (pe_disp (pos := dpos) (pps_cons (pe_str (x := k1) (j := n1) (pos := p1)) (pe_glob (v := .ref f1) (pos := q1) hg1 b1 rfl d1) (pps_cons (pe_str (x := k2) (j := n2) (pos := p2)) (pe_glob (v := .ref f2) (pos := q2) hg2 b2 rfl d2) (pps_cons (pe_str (x := k3) (j := n3) (pos := p3)) (pe_glob (v := .ref f3) (pos := q3) hg3 b3 rfl d3) pps_nil))) rfl rfl (fun h => nomatch h) (show 3 ≤ 15 by decide)) hi hs
  refine ⟨fun pins s σ H Q I ⟨W, ρ, S, hr, en, q⟩ => ?_⟩
  show wpAny _ _ (eval (.Subscript _ i spos) X.env >>= fun v => callWith pos v [] (backTo pos (starEach [] X.env)) (backToKw pos (keywordEach [] X.env))) _ _ _
  refine wpAny_bind (thn (hD.run pins s σ H (fun v H' => (v = .ref f1 ∧ spOf X.K cl 0 g1 [] H' Q (fun c d H' => E c d σ H')) ∨ (v = .ref f2 ∧ spOf X.K cl 0 g2 [] H' Q (fun c d H' => E c d σ H')) ∨ (v = .ref f3 ∧ spOf X.K cl 0 g3 [] H' Q (fun c d H' => E c d σ H'))) I ?_) fun u s1 ⟨v, H1, I1, rv, q1⟩ => ?_)
  · intro p hp
    have np : W.P p = none := by
      cases e : W.P p with
      | none => rfl
      | some u => rw [(hr.priv p u e).1] at hp; cases hp
    refine ⟨upd_same, [(.inr k1, .ref f1), (.inr k2, .ref f2), (.inr k3, .ref f3)], rfl, show 3 ≤ 15 by decide, ?_⟩
    rw [upd_twice]
    have em : mergeK [] [((.inr k1 : Key), V.ref f1), (.inr k2, .ref f2), (.inr k3, .ref f3)] = [(.inr k1, .ref f1), (.inr k2, .ref f2), (.inr k3, .ref f3)] := by
      simp [mergeK, putK, h12, h13, h23]
    rw [em]
    have r1 := hr.hide (o := .dK [(.inr k1, .ref f1), (.inr k2, .ref f2), (.inr k3, .ref f3)]) hp
    refine ⟨W.hid p _, ρ, S, r1, en.ups Ls.hid, ?_⟩
    unfold mTab at q
    cases ei : mi ρ S with
    | stk => rw [ei] at q; exact q.elim
    | exc y S1 =>
      rw [ei] at q
      intro W1 H1 c dd l1 r1 rx
      have eP : W1.P = upd W.P p _ := l1.p
      have le : Le W (W1.out W.P) := ⟨l1.g, l1.i, l1.n, rfl⟩
      have eW : W1 = (W1.out W.P).hid p (.dK [(.inr k1, .ref f1), (.inr k2, .ref f2), (.inr k3, .ref f3)]) := by
        cases W1
        simp only [Wd.out, Wd.hid] at eP ⊢
        rw [eP]
      have r2 := r1
      rw [eW] at r2
      obtain ⟨r3, _⟩ := r2.unhide np
      refine q (W1.out W.P) H1 c dd le r3 ?_
      obtain ⟨C, z1, z2, z3⟩ := rx
      refine ⟨C, z1, z2, ?_⟩
      rcases z3 with z3 | ⟨a, vs, z3, z4, zn, z5⟩
      · exact .inl z3
      · exact .inr ⟨a, vs, z3, z4, zn, z5.ups Ls.out⟩
    | ok x S1 =>
      rw [ei] at q
      intro W1 H1 v l1 r1 rv
      have eP : W1.P = upd W.P p _ := l1.p
      have le : Le W (W1.out W.P) := ⟨l1.g, l1.i, l1.n, rfl⟩
      have eW : W1 = (W1.out W.P).hid p (.dK [(.inr k1, .ref f1), (.inr k2, .ref f2), (.inr k3, .ref f3)]) := by
        cases W1
        simp only [Wd.out, Wd.hid] at eP ⊢
        rw [eP]
      have r2 := r1
      rw [eW] at r2
      obtain ⟨r3, hD3, _⟩ := r2.unhide np
      dsimp only [Res.bind] at q
      split at q
      · rename_i z
        cases rv
        unfold tabG at q
        split at q
        · rename_i ez
          subst ez
          exact ⟨p, .ref f1, rfl, .inl ⟨_, .inr k1, .inl hD3, rfl, by simp [valV]⟩, .inl ⟨rfl, W1.out W.P, S1, [], r3, .nil, Post.up le q⟩⟩
        · rename_i n1
          unfold tabG at q
          split at q
          · rename_i ez
            subst ez
            exact ⟨p, .ref f2, rfl, .inl ⟨_, .inr k2, .inl hD3, rfl, by simp [valV, List.find?_cons, h12]⟩, .inr (.inl ⟨rfl, W1.out W.P, S1, [], r3, .nil, Post.up le q⟩)⟩
          · rename_i n2
            unfold tabG at q
            split at q
            · rename_i ez
              subst ez
              exact ⟨p, .ref f3, rfl, .inl ⟨_, .inr k3, .inl hD3, rfl, by simp [valV, List.find?_cons, h13, h23]⟩, .inr (.inr ⟨rfl, W1.out W.P, S1, [], r3, .nil, Post.up le q⟩)⟩
            · exact q.elim
      · exact q.elim
  · rcases q1 with ⟨rfl, hsp⟩ | ⟨rfl, hsp⟩ | ⟨rfl, hsp⟩
    · obtain rfl : u = Value.ref f1 := rv
      refine PySem.W.callWith_K0 I1.kIn c1 ?_
      exact run_fnS (us := []) (vs := []) a1 rm e1 (passAt tk σ) I1 .nil hsp
    · obtain rfl : u = Value.ref f2 := rv
      refine PySem.W.callWith_K0 I1.kIn c2 ?_
      exact run_fnS (us := []) (vs := []) a2 rm e2 (passAt tk σ) I1 .nil hsp
    · obtain rfl : u = Value.ref f3 := rv
      refine PySem.W.callWith_K0 I1.kIn c3 ?_
      exact run_fnS (us := []) (vs := []) a3 rm e3 (passAt tk σ) I1 .nil hsp
end
end G
namespace G
open PySem L2
section
variable {X : Cx} {cl : Str → Option Addr} {E : WX} {k n : Nat} {op : Operator} {pos : Pos} {a b : Expr} {ma mb : M D} {c m : Str} {g : List D → Store → Res D}
theorem t_bin' (Gm : MFn X.prog X.w X.K X.mg X.base cl c m k 2 g) (hC : ∀ C, cl c = some C → PySem.W.selfFirst X.K C = true) (rm : Room k X.A) (tk : Takes X E) (ha : PE X a (T X.K cl E ma)) (hb : PE X b (T X.K cl E mb)) (hm : PySem.dunder op.info.2 = m := by rfl) :
    PE X (.BinOp a op b pos) (T X.K cl E (mBin c g ma mb)) := by
  subst hm
  exact t_bin Gm hC rm tk ha hb
end
/-! keyword-only parameters: the def's facts -/
section
variable {P : Program} {w : World} {K : PySem.W.Frag} {mg : Str → Option Value} {base : Heap} {cl : Str → Option Addr} {x qual kw : Str} {st : Stmt} {f : Addr} {fd : FuncData} {ps : List Str} {k n : Nat} {v : V} {d : D} {g : List D → Store → Res D}
theorem funD_fun {kws : List (Str × V)} (F : FunD K x qual (defArgs st) (defBody st) (defScope st) [] kws f fd) : Fun K x qual st f fd := by
  obtain ⟨⟨oc, od, dV, kV, doc, pm, an, cdv, ct, osl, e1, e2, e3, e4, e5⟩, kp⟩ := F
  rcases e4 with ⟨_, rfl⟩ | ⟨h, _⟩
  · exact ⟨⟨oc, od, kV, doc, pm, an, cdv, ct, osl, e1, e2, e3⟩, kp⟩
  · exact absurd rfl h
theorem fnK_mk (F : FunD K x qual (defArgs st) (defBody st) (defScope st) [] [(kw, v)] f fd) (ok : FnOk P w K mg base (L2.CX P w) k f fd ps (spOf K cl (n + 1) g)) (hm : mg x = some (.ref f)) (hn : n + 1 = ps.length) (hd : ∀ W, Rep K cl W v d)
    (h1 : ∀ (kV doc pm : Value) (an : Option Addr) (cdv ct : Value) (us ws : List Value), us.length = n → ws.length = 1 → bindArgs (PySem.W.fnOf x qual (defArgs st) (defBody st) (defScope st) .none kV doc pm an cdv ct) ⟨us, [kw].zip ws⟩ = pure (ps.zip (us ++ ws)))
    (h2 : ∀ (D : Addr) (doc pm : Value) (an : Option Addr) (cdv ct : Value) (us ks : List Value), us.length = n → ks.length = 1 →
      KwChain D ([kw].zip ks) (bindArgs (PySem.W.fnOf x qual (defArgs st) (defBody st) (defScope st) .none (.ref D) doc pm an cdv ct) ⟨us, []⟩) (ps.zip (us ++ ks))) :
    FnK P w K mg base cl x k n kw d g := by
  obtain ⟨ds, q1, q2⟩ := F.binds0 n (by simp) (by simpa using hn) h2
  refine ⟨f, fd, ps, ok, hm, F.kp, ⟨fun s us ws X l1 l2 => ?_, fun r1 r2 => r1.append r2⟩, v, ds, q1, q2, hd⟩
  obtain ⟨⟨oc, od, dV, kV, doc, pm, an, cdv, ct, osl, rfl, e2, e3, e4, e5⟩, kp⟩ := F
  rcases e4 with ⟨_, rfl⟩ | ⟨h, _⟩
  · exact .of_eq (h1 kV doc pm an cdv ct us ws l1 l2)
  · exact absurd rfl h
theorem funD_mk {oc : Value} {od an : Option Addr} {D : Addr} {doc pm cdv ct u : Value} {osl : Array (Option Value)} (lk : K.lookup f = some ⟨oc, od, .func (PySem.W.fnOf x qual (defArgs st) (defBody st) (defScope st) .none (.ref D) doc pm an cdv ct), osl⟩) (hc : PySem.W.codeIn K cdv qual = true) (kp : PySem.W.keepIn K (.ref f) = true)
    (hk : PySem.W.nsIn K D kw = some (some u)) (hv : RelV v u) : FunD K x qual (defArgs st) (defBody st) (defScope st) [] [(kw, v)] f (PySem.W.fnOf x qual (defArgs st) (defBody st) (defScope st) .none (.ref D) doc pm an cdv ct) :=
  ⟨⟨oc, od, .none, .ref D, doc, pm, an, cdv, ct, osl, rfl, lk, hc, .inl ⟨rfl, rfl⟩, .inr ⟨D, rfl, fun q hq => by rw [List.mem_singleton.mp hq]; exact ⟨u, hk, hv⟩⟩⟩, kp⟩
end
/-! ### max(a, b) -/
end G
namespace G
open PySem L2
/-! ### a live list or instance is frozen -/
def frzI (d : D) (S : Store) : Res D := match d with
  | .ref n => (match S[n]? with
    | some (.ins c fs) => .ok (.ins c fs) (S.set n .dead)
    | some (.lst xs) => .ok (.lst xs) (S.set n .dead)
    | _ => .stk)
  | _ => .stk
section
variable {X : Cx} {cl : Str → Option Addr} {E : WX} {o : Expr} {m : M D}
theorem t_frzI (he : PE X o (T X.K cl E m)) : PE X o (T X.K cl E (mUn frzI m)) :=
  pe_imp he fun σ H Q ⟨W, ρ, S, hr, en, q⟩ => step hr en q fun W1 H1 v d S1 l1 r1 e1 rv p1 => by
    unfold frzI at p1
    split at p1
    · rename_i n
      split at p1
      · rename_i c fs ek
        cases rv with | ref hn =>
        obtain ⟨W2, l2, r2, rv2⟩ := r1.freezeI ek
        exact p1 W2 _ _ l2 r2 rv2
      · rename_i xs ek
        cases rv with | ref hn =>
        obtain ⟨W2, l2, r2, rv2⟩ := r1.freeze ek
        exact p1 W2 _ _ l2 r2 rv2
      · exact p1.elim
    · exact p1.elim
end
/-! ### running -/
section
variable {ρ : Sl} {S : Store} {n k : Nat} {c m : Str} {fs : List (Str × D)} {ds xs : List D} {x y d : D} {tb : MT} {cs : List Str} {f : Str}
def rFrz (o : Option MO) (n : Nat) (S : Store) : Res D := match o with
  | some (.ins c fs) => .ok (.ins c fs) (sp S n .dead)
  | some (.lst xs) => .ok (.lst xs) (sp S n .dead)
  | _ => .stk
@[simp] theorem frzI_ref : frzI (.ref n) S = rFrz (sg S n) n S := nrfl rfl
@[simp] theorem rFrz_ins : rFrz (some (.ins c fs)) n S = .ok (.ins c fs) (sp S n .dead) := nrfl rfl
@[simp] theorem rFrz_lst : rFrz (some (.lst xs)) n S = .ok (.lst xs) (sp S n .dead) := nrfl rfl
@[simp] theorem e_methI {a : M (List D)} : kMeth ρ tb m n a (.ins c fs) S = rM3 ρ n a (.ins c fs) S (fs.lookup m) (tb.lookup c) := nrfl rfl
@[simp] theorem fldD_ins : fldD cs f (.ins c fs) S = if c ∈ cs then ofO (fs.lookup f) S else .stk := nrfl rfl
def kB2 (c : Str) (g : List D → Store → Res D) (x y : D) (S : Store) (o1 o2 : Option (Str × List (Str × D))) : Res D := match o1, o2 with
  | some (c1, _), some (c2, _) => if c1 = c ∧ c2 = c then ar 2 g [x, y] S else .stk
  | _, _ => .stk
def kB1 (c : Str) (g : List D → Store → Res D) (x y : D) (S : Store) : Res D := kB2 c g x y S (insO S x) (insO S y)
def kB0 (ρ : Sl) (c : Str) (g : List D → Store → Res D) (mb : M D) (x : D) (S : Store) : Res D := (mb ρ S).bind (kB1 c g x)
@[simp] theorem e_bin {g : List D → Store → Res D} {ma mb : M D} : mBin c g ma mb ρ S = (ma ρ S).bind (kB0 ρ c g mb) := nrfl rfl
@[simp] theorem e_bin0 {g : List D → Store → Res D} {mb : M D} : kB0 ρ c g mb x S = (mb ρ S).bind (kB1 c g x) := nrfl rfl
@[simp] theorem e_bin1 {g : List D → Store → Res D} {f1 f2 : List (Str × D)} : kB1 c g (.ins c f1) (.ins c f2) S = ar 2 g [.ins c f1, .ins c f2] S := by
  unfold kB1 kB2 insO
  dsimp only
  rw [if_pos ⟨rfl, rfl⟩]
def kV1 (c : Str) (g : List D → Store → Res D) (x : D) (S : Store) (o1 : Option (Str × List (Str × D))) : Res D := match o1 with
  | some (c1, _) => if c1 = c then ar 1 g [x] S else .stk
  | none => .stk
def kV0 (c : Str) (g : List D → Store → Res D) (x : D) (S : Store) : Res D := kV1 c g x S (insO S x)
@[simp] theorem e_inv {g : List D → Store → Res D} {ma : M D} : mInv c g ma ρ S = (ma ρ S).bind (kV0 c g) := nrfl rfl
@[simp] theorem e_inv1 {g : List D → Store → Res D} {f1 : List (Str × D)} : kV0 c g (.ins c f1) S = ar 1 g [.ins c f1] S := by
  unfold kV0 kV1 insO
  dsimp only
  rw [if_pos rfl]
@[simp] theorem isC_ins {tab : List (Str × Bool)} : isCD tab (.ins c fs) S = ofO ((tab.lookup c).map D.bl) S := by
  unfold isCD insO
  dsimp only
  cases tab.lookup c <;> rfl
def kK1 (n : Nat) (g : List D → Store → Res D) (ys : List D) (z : D) (S : Store) : Res D := if ys.length = n then ar (n + 1) g (ys ++ [z]) S else .stk
def kK0 (ρ : Sl) (n : Nat) (g : List D → Store → Res D) (mk : M D) (ys : List D) (S : Store) : Res D := (mk ρ S).bind (kK1 n g ys)
@[simp] theorem e_fnK {g : List D → Store → Res D} {ms : M (List D)} {mk : M D} : mFnK n g ms mk ρ S = (ms ρ S).bind (kK0 ρ n g mk) := nrfl rfl
@[simp] theorem e_fnK0 {g : List D → Store → Res D} {mk : M D} : kK0 ρ n g mk ds S = (mk ρ S).bind (kK1 n g ds) := nrfl rfl
@[simp] theorem e_fnK1 {g : List D → Store → Res D} : kK1 n g ds x S = if ds.length = n then ar (n + 1) g (ds ++ [x]) S else .stk := nrfl rfl
def kD0 (n : Nat) (d : D) (g : List D → Store → Res D) (ys : List D) (S : Store) : Res D := ar (n + 1) g (ys ++ [d]) S
@[simp] theorem e_fnD {g : List D → Store → Res D} {ms : M (List D)} : mFnD n d g ms ρ S = (ms ρ S).bind (kD0 n d g) := nrfl rfl
@[simp] theorem e_fnD0 {g : List D → Store → Res D} : kD0 n d g ds S = ar (n + 1) g (ds ++ [d]) S := nrfl rfl
def kT0 (tab : List (Str × (List D → Store → Res D))) (x : D) (S : Store) : Res D := match x with
  | .str z => tabG z tab S
  | _ => .stk
@[simp] theorem e_tab {tab : List (Str × (List D → Store → Res D))} {mi : M D} : mTab tab mi ρ S = (mi ρ S).bind (kT0 tab) := nrfl rfl
@[simp] theorem e_tab0 {tab : List (Str × (List D → Store → Res D))} {z : Str} : kT0 tab (.str z) S = tabG z tab S := nrfl rfl
@[simp] theorem e_tabG {z k : Str} {g : List D → Store → Res D} {r : List (Str × (List D → Store → Res D))} : tabG z ((k, g) :: r) S = if k = z then ar 0 g [] S else tabG z r S := nrfl rfl
noncomputable def kC2 (ρ : Sl) (p : Pt) (t : M Bool) (mi1 : M Itb) (p1 : Pt) (t1 : M Bool) (e : M D) (vs vs1 : List Nat) (mk : List D → Store → Res D) (it : Itb) (S : Store) : Res D := (compL2 it p t mi1 p1 t1 e vs1 (wipeD ρ vs) it.xs 0 S).bind mk
@[simp] theorem e_cmp2 {m : M Itb} {p : Pt} {t : M Bool} {mi1 : M Itb} {p1 : Pt} {t1 : M Bool} {e : M D} {vs vs1 : List Nat} {mk : List D → Store → Res D} : mComp2 m p t mi1 p1 t1 e vs vs1 mk ρ S = (m ρ S).bind (kC2 ρ p t mi1 p1 t1 e vs vs1 mk) := nrfl rfl
@[simp] theorem e_cmp2' {p : Pt} {t : M Bool} {mi1 : M Itb} {p1 : Pt} {t1 : M Bool} {e : M D} {vs vs1 : List Nat} {mk : List D → Store → Res D} {it : Itb} : kC2 ρ p t mi1 p1 t1 e vs vs1 mk it S = (compL2 it p t mi1 p1 t1 e vs1 (wipeD ρ vs) it.xs 0 S).bind mk := nrfl rfl
end
end G
namespace PySem
section
variable {prog : Program} {w : World} {A : Around} {E : Value → Shared → Prop} {s : Shared}
end
end PySem
namespace G
open PySem L2
/-! ### enumerate of lists and tuples -/
section
variable {X : Cx} {cl : Str → Option Addr} {E : WX} {e : Expr} {ms : M (List D)} {p pos tpos : Pos} {elts : List Expr} {kk : Nat}
end
/-! ### isinstance(x, (A, B)) -/
def IsK2 (T1 T2 : String) (f : Kd → Bool) : Prop := ∀ k : Kd, ∃ b1 b2, kitB k.ty T1 = some b1 ∧ kitB k.ty T2 = some b2 ∧ f k = (b1 || b2)
theorem is_list_tuple : IsK2 "list" "tuple" k_list_tuple := fun k => ⟨k_list k, k_tuple k, is_list k, is_tuple k, by cases k <;> rfl⟩
section
variable {X : Cx} {cl : Str → Option Addr} {E : WX} {a : Expr} {m : M D} {p p1 p2 tp pos : Pos} {x1 x2 : Str} {T1 T2 : String} {f : Kd → Bool} {kk : Nat}
theorem t_isi2 (hk : IsK2 T1 T2 f) (hm : X.mg "isinstance" = none) (hm1 : X.mg x1 = none) (hv1 : bootBuiltins x1 = some (.type T1)) (hm2 : X.mg x2 = none) (hv2 : bootBuiltins x2 = some (.type T2)) (ha : PE X a (T X.K cl E m)) (hg : Gl X "isinstance" := by rfl) (hg1 : Gl X x1 := by rfl) (hg2 : Gl X x2 := by rfl)
    (hn1 : x1 ≠ "__name__" := by decide) (hn2 : x2 ≠ "__name__" := by decide) (hd1 : (x1 == ("__debug__" : Str)) = false := by decide) (hd2 : (x2 == ("__debug__" : Str)) = false := by decide)
    (hs2 : starEach [.Name x2 p2] X.env = (false, eval (.Name x2 p2) X.env) :: starEach [] X.env := by rfl) (hs1 : starEach [.Name x1 p1, .Name x2 p2] X.env = (false, eval (.Name x1 p1) X.env) :: starEach [.Name x2 p2] X.env := by rfl)
    (hs : starEach [.Tuple [.Name x1 p1, .Name x2 p2] kk tp] X.env = (false, eval (.Tuple [.Name x1 p1, .Name x2 p2] kk tp) X.env) :: starEach [] X.env := by rfl)
    (he : starEach [a, .Tuple [.Name x1 p1, .Name x2 p2] kk tp] X.env = (false, eval a X.env) :: starEach [.Tuple [.Name x1 p1, .Name x2 p2] kk tp] X.env := by rfl) (hpl : (backTo pos (starEach [.Tuple [.Name x1 p1, .Name x2 p2] kk tp] X.env)).any (·.1) = false := by rfl) :
    PE X (.Call (.Name "isinstance" p) [a, .Tuple [.Name x1 p1, .Name x2 p2] kk tp] [] pos) (T X.K cl E (mUn (isiD f) m)) :=
  pe_imp (pe_callB call_isiT hg hm bt_isinstance (pa_cons ha (pa_cons (pe_tup (pa_cons (pe_bltn (v := .ty T1) hg1 hm1 hv1 rfl hn1 hd1) (pa_cons (pe_bltn (v := .ty T2) hg2 hm2 hv2 rfl hn2 hd2) pa_nil hs2) hs1)) pa_nil hs) he) (by decide) (by decide) he hpl) fun σ H Q ⟨W, ρ, S, hr, en, q⟩ =>
    step hr en q fun W1 H1 v d S1 l1 r1 e1 rv p1 => by
      unfold isiD at p1
      cases e2 : kd S1 d with
      | none => rw [e2] at p1; exact p1.elim
      | some k =>
        rw [e2] at p1
        obtain ⟨b1, b2, q1, q2, q3⟩ := hk k
        refine ⟨show 2 ≤ sizeLine by decide, fun z hz => ⟨v, z, [.ty T1, .ty T2], .type k.ty, [.type T1, .type T2], f k, rfl, upd_same, .cons (.ty _) (.cons (.ty _) .nil), kd_of (r1.junk hz) rv e2, ?_, p1.now (r1.junk hz) (.bl _)⟩⟩
        refine kitAny_cons (kit_ty q1) (fun h => kitAny_cons (kit_ty q2) (r := f k) (fun h2 => ?_) fun h2 => ?_) fun h => ?_
        · rw [q3, h, h2]
          rfl
        · rw [q3, h2, Bool.or_true]
        · rw [q3, h, Bool.true_or]
end
end G
namespace G
open PySem L2
/-! ### a, b = a tuple or a list -/
/-! ### pure comprehensions of two clauses, of dicts -/
theorem comp2_pure {α : Type} {it : Itb} {p : Pt} {t : M Bool} {mi1 : M Itb} {p1 : Pt} {t1 : M Bool} {e : M D} {vs1 : List Nat} {ρ : Sl} {S : Store} (hg : Grd it S) (g : α → D) (f : α → List D) : ∀ (xs : List α) (k : Nat),
    (∀ x ∈ xs, ∃ ρ1 it1, p (g x) ρ = some ρ1 ∧ t ρ1 S = .ok true S ∧ mi1 ρ1 S = .ok it1 S ∧ ∀ k, k + (f x).length ≤ sizeLine → compL it1 p1 t1 e (wipeD ρ1 vs1) it1.xs k S = .ok (f x) S) → k + (xs.map f).flatten.length ≤ sizeLine →
    compL2 it p t mi1 p1 t1 e vs1 ρ (xs.map g) k S = .ok (xs.map f).flatten S
  | [], k, _, _ => by
    rw [List.map_nil]
    unfold compL2
    rw [if_pos hg]
    rfl
  | x :: xs, k, h, hz => by
    obtain ⟨ρ1, it1, e1, e2, e3, e4⟩ := h x List.mem_cons_self
    rw [List.map_cons, List.flatten_cons, List.length_append] at hz
    have ih := comp2_pure hg g f xs (k + (f x).length) (fun y hy => h y (List.mem_cons_of_mem _ hy)) (by omega)
    rw [List.map_cons, List.map_cons, List.flatten_cons]
    unfold compL2
    rw [if_pos hg]
    simp only [e1, e2, e3, nox_ok, bind_ok, if_true]
    rw [e4 k (by omega)]
    simp only [bind_ok]
    rw [ih]
    rfl
end G
namespace G
open PySem L2
/-! ### the loops of == and != over lists and tuples, each turn told by e -/
section
open PySem.SeqAt
open AutoSeq1 (wpAny_loadPart')
open MeetsSeq MeetsSeq2 MeetsSeq3 SeqRoads2
variable {prog : Program} {w : World} {A : Around} {R : Result → Shared → Prop}
end
/-! ### != of an instance by its own == -/
section
open Builtin PySem.W
variable {prog : Program} {w : World} {A : Around} {E : Value → Shared → Prop} {s : Shared} {K : Frag} {x C L f : Addr} {h₀ : Heap} {m : Str → Option Value} {ox : Obj} {od : Option Obj} {b tb : Value}
end
/-! ### == of values of which some are instances of the class c, with its own == -/
section
variable {X : Cx} {cl : Str → Option Addr} {pins : List (Addr × Obj)} {σ : St} {H : Hp} {s : Shared} {W : Wd} {c : Str}
end

/-! the answer of == -/
def KeptE (X : Cx) (cl : Str → Option Addr) (pins : List (Addr × Obj)) (σ : St) (W : Wd) (S : Store) (s' : Shared) : Prop := ∃ W' H', Inv X pins σ H' s' ∧ Le W W' ∧ R X.K cl W' H' S
def EqJ (X : Cx) (cl : Str → Option Addr) (n : Nat) (S : Store) (dx dy : D) (b : Bool) : Prop :=
  ∀ (A : Around) (pins : List (Addr × Obj)) (s : Shared) (σ : St) (H : Hp) (W : Wd) (x y : V) (u v : Value), Sub X n A → Inv X pins σ H s → R X.K cl W H S → Rep X.K cl W x dx → Rep X.K cl W y dy → RelV x u → RelV y v →
    wpAny (model X.prog X.w) A (eqBool u v) (fun r s' => r = b ∧ KeptE X cl pins σ W S s') X.xe s
def RcJ (X : Cx) (cl : Str → Option Addr) (n : Nat) (S : Store) (op : CmpOp) (dx dy : D) (b : Bool) : Prop :=
  ∀ (A : Around) (pins : List (Addr × Obj)) (s : Shared) (σ : St) (H : Hp) (W : Wd) (x y : V) (u v : Value), Sub X n A → Inv X pins σ H s → R X.K cl W H S → Rep X.K cl W x dx → Rep X.K cl W y dy → RelV x u → RelV y v →
    wpAny (model X.prog X.w) A (richCompare op u v) (fun r s' => r = .bool b ∧ KeptE X cl pins σ W S s') X.xe s
section
variable {X : Cx} {cl : Str → Option Addr} {n m : Nat} {S : Store} {dx dy : D} {b : Bool} {c : Str}
theorem EqJ.mono (h : EqJ X cl n S dx dy b) (hn : n ≤ m) : EqJ X cl m S dx dy b := fun A pins s σ H W x y u v sb => h A pins s σ H W x y u v (sb.mono hn)
end
section
variable {X : Cx} {cl : Str → Option Addr} {n m k : Nat} {S : Store} {dx dy : D} {b : Bool} {c : Str} {pins : List (Addr × Obj)} {σ : St} {H : Hp} {s : Shared} {W : Wd} {E : Value → Shared → Prop}
theorem RcJ.mono {op : CmpOp} (h : RcJ X cl n S op dx dy b) (hn : n ≤ m) : RcJ X cl m S op dx dy b := fun A pins s σ H W x y u v sb => h A pins s σ H W x y u v (sb.mono hn)
end
section
variable {X : Cx} {cl : Str → Option Addr} {n k : Nat} {c : Str} {g : List D → Store → Res D}
end
end G
namespace G
open PySem L2
/-! ### order of texts; sorted(list of texts) -/
def bS (a b : Str) : Bool := PySem.Spec.ltCps a.cps.toList b.cps.toList
theorem ltCps_iff : ∀ {a b : List Nat}, PySem.Spec.ltCps a b = true ↔ a < b
  | [], [] => by simp [PySem.Spec.ltCps]
  | [], _ :: _ => by simp [PySem.Spec.ltCps]
  | _ :: _, [] => by simp [PySem.Spec.ltCps]
  | a :: r, b :: t => by
    unfold PySem.Spec.ltCps
    rw [Bool.or_eq_true, Bool.and_eq_true, ltCps_iff (a := r) (b := t), List.cons_lt_cons_iff]
    simp
theorem ltCps_tot {a b : List Nat} (h1 : PySem.Spec.ltCps a b = false) (h2 : PySem.Spec.ltCps b a = false) : a = b := by
  have e1 : ¬ a < b := fun h => by rw [← ltCps_iff, h1] at h; cases h
  have e2 : ¬ b < a := fun h => by rw [← ltCps_iff, h2] at h; cases h
  exact List.le_antisymm (List.not_lt.mp e2) (List.not_lt.mp e1)
theorem bS_tot {a b : Str} (h1 : bS a b = false) (h2 : bS b a = false) : a = b := by
  have h := ltCps_tot h1 h2
  obtain ⟨⟨a⟩⟩ := a
  obtain ⟨⟨b⟩⟩ := b
  exact congrArg (fun l => (⟨⟨l⟩⟩ : Str)) h
theorem bS_trans {a b c : Str} (h1 : bS a b = true) (h2 : bS b c = true) : bS a c = true := ltCps_iff.mpr (List.lt_trans (ltCps_iff.mp h1) (ltCps_iff.mp h2))
theorem bS_irr {a : Str} : bS a a = false := by
  cases h : bS a a with
  | false => rfl
  | true => exact absurd (ltCps_iff.mp h) (List.lt_irrefl _)
theorem bS_asym {a b : Str} (h : bS a b = true) : bS b a = false := by
  cases q : bS b a with
  | false => rfl
  | true => have := bS_trans h q; rw [bS_irr] at this; cases this
/-- a ≤ b -/
def wS (a b : Str) : Prop := bS b a = false
theorem wS_trans {a b c : Str} (h1 : wS a b) (h2 : wS b c) : wS a c := by
  unfold wS at *
  cases q : bS c a with
  | false => rfl
  | true =>
    cases e : bS a b with
    | true =>
      have := bS_trans q e
      rw [h2] at this
      cases this
    | false =>
      have := bS_tot e h1
      subst this
      rw [h2] at q
      cases q
noncomputable def srtS (l : List Str) : List Str := l.mergeSort (fun a b => !bS b a)
theorem srtS_perm (l : List Str) : (srtS l).Perm l := List.mergeSort_perm _ _
theorem srtS_pw (l : List Str) : (srtS l).Pairwise wS := by
  have := List.pairwise_mergeSort (le := fun a b : Str => !bS b a) (fun a b c h1 h2 => by
    have h1 : wS a b := by simpa [wS] using h1
    have h2 : wS b c := by simpa [wS] using h2
    have := wS_trans h1 h2
    simpa [wS] using this) (fun a b => by
    cases h : bS b a with
    | false => simp
    | true => simp [bS_asym h]) l
  exact this.imp (by simp [wS])
theorem srtS_eq {l ns : List Str} (h1 : l.Perm ns) (h2 : l.Pairwise wS) : l = srtS ns :=
  List.Perm.eq_of_pairwise (fun x y _ _ h1 h2 => bS_tot h2 h1) h2 (srtS_pw ns) (h1.trans (srtS_perm ns).symm)
section
variable {K : PySem.W.Frag} {cl : Str → Option Addr}
/-! ### x.startswith(y) -/
def startsD (x : D) (as : List D) (S : Store) : Res D := match x, as with
  | .str a, [.str b] => .ok (.bl (Txt.startswith a b)) S
  | _, _ => .stk
theorem starts_s : MtS K cl (fun x xs H Q => ∃ a b, x = .str a ∧ xs = [.str b] ∧ Q (.bl (Txt.startswith a b)) H) startsD := by
  intro W H S x a y b Q E r rx ry p
  unfold startsD at p
  split at p
  · cases rx
    cases ry with | cons ry rn =>
    cases rn; cases ry
    exact ⟨_, _, rfl, rfl, p.now r (.bl _)⟩
  · exact p.elim
end
/-! ### *xs among the parts of a tuple -/
section
variable {X : Cx} {cl : Str → Option Addr} {E : WX} {a : Expr} {es : List Expr} {m : M D} {ms : M (List D)} {p : Pos}
end
/-! ### list(reversed(list)) -/
end G
namespace PySem
open RT Builtin
section
variable {prog : Program} {w : World} {A : Around} {E : Value → Shared → Prop} {s : Shared}
end
end PySem

namespace G
open PySem L2 PyProof.Rows RT
section
variable {X : Cx} {cl : Str → Option Addr} {E : WX} {e : Expr} {te : TE} {m : M D} {p p2 pos pos2 : Pos}
end
/-! ### a dict of the module, its keys texts, its values flat -/
inductive KTab : List DictEntry → List (Str × D) → Prop
  | nil : KTab [] []
  | cons {e : DictEntry} {x : Str} {t : Tok} {d : D} {r : List DictEntry} {tb : List (Str × D)} : e.key = .str x t → (∃ v, RelV v e.val ∧ absD v = some d) → KTab r tb → KTab (e :: r) ((x, d) :: tb)
def KCon (K : PySem.W.Frag) (w : World) (cl : Str → Option Addr) (mg : Str → Option Value) (x : Str) (tb : List (Str × D)) : Prop :=
  ∃ d es n, mg x = some (.ref d) ∧ KDict K w d es n ∧ ∀ z, (tb.lookup z = none → PySem.W.nsIn K d z = some none) ∧ ∀ y, tb.lookup z = some y → ∃ u v, PySem.W.nsIn K d z = some (some u) ∧ RelV v u ∧ ∀ W, Rep K cl W v y
theorem ktab_find : ∀ {es : List DictEntry} {tb : List (Str × D)}, KTab es tb → ∀ z : Str, (tb.lookup z = none → es.find? (·.key.isStr z) = none ∧ es.any (·.refKey) = false) ∧ ∀ y, tb.lookup z = some y → ∃ e v, es.find? (·.key.isStr z) = some e ∧ RelV v e.val ∧ absD v = some y
  | _, _, .nil, z => ⟨fun _ => ⟨rfl, rfl⟩, fun y h => by cases h⟩
  | _, _, .cons (e := e) (x := x) hk hv t, z => by
    obtain ⟨h1, h2⟩ := ktab_find t z
    have hs : e.key.isStr z = decide (x = z) := by rw [hk]; rfl
    have hr : e.refKey = false := by
      unfold DictEntry.refKey
      rw [hk]
    by_cases hz : x = z
    · subst hz
      refine ⟨fun h => ?_, fun y h => ?_⟩
      · simp [List.lookup] at h
      · simp [List.lookup] at h
        obtain ⟨v, q1, q2⟩ := hv
        exact ⟨e, v, by rw [List.find?_cons_of_pos (by rw [hs]; simp)], q1, by rw [q2, h]⟩
    · have hb : (z == x) = false := by simpa using fun h => hz h.symm
      refine ⟨fun h => ?_, fun y h => ?_⟩
      · rw [List.lookup_cons, hb] at h
        obtain ⟨q1, q2⟩ := h1 h
        refine ⟨by rw [List.find?_cons_of_neg (by rw [hs]; simpa using hz)]; exact q1, by rw [List.any_cons, hr, q2]; rfl⟩
      · rw [List.lookup_cons, hb] at h
        obtain ⟨e', v, q1, q2⟩ := h2 y h
        exact ⟨e', v, by rw [List.find?_cons_of_neg (by rw [hs]; simpa using hz)]; exact q1, q2⟩
theorem kcon_of {K : PySem.W.Frag} {w : World} {cl : Str → Option Addr} {mg : Str → Option Value} {x : Str} {tb : List (Str × D)} {d : Addr} {es : Array DictEntry} {n : Nat} (h : mg x = some (.ref d)) (D : KDict K w d es n) (t : KTab es.toList tb) : KCon K w cl mg x tb := by
  refine ⟨d, es, n, h, D, fun z => ?_⟩
  obtain ⟨h1, h2⟩ := ktab_find t z
  refine ⟨fun q => ?_, fun y q => ?_⟩
  · obtain ⟨a, b⟩ := h1 q
    unfold PySem.W.nsIn
    rw [D.at_]
    dsimp only
    rw [a, b]
    rfl
  · obtain ⟨e, v, a, b, c⟩ := h2 y q
    refine ⟨e.val, v, ?_, b, fun W => abs_rep c⟩
    unfold PySem.W.nsIn
    rw [D.at_]
    dsimp only
    rw [a]
def mInK (tb : List (Str × D)) (a : M D) : M D := fun ρ S => (a ρ S).bind fun x S1 => match x with
  | .str z => .ok (.bl (tb.lookup z).isSome) S1
  | _ => .stk
def mIxK (tb : List (Str × D)) (a : M D) : M D := fun ρ S => (a ρ S).bind fun x S1 => match x with
  | .str z => (match tb.lookup z with
    | some d => .ok d S1
    | none => .stk)
  | _ => .stk
section
variable {X : Cx} {cl : Str → Option Addr} {E : WX} {a : Expr} {m : M D} {x : Str} {tb : List (Str × D)} {p pos : Pos}
theorem pe_globr {d : Addr} (hm : X.mg x = some (.ref d)) (hg : Gl X x) (hd : (x == ("__debug__" : Str)) = false) : PE X (.Name x pos) (tC (.ref d)) := pe_glob hg hm rfl hd
theorem tt_inK (h : KCon X.K X.w cl X.mg x tb) (ha : PE X a (T X.K cl E m)) (hg : Gl X x := by rfl) (hd : (x == ("__debug__" : Str)) = false := by decide) (hm : behindInMarks .In (.Name x p) = false := by first | exact nomark _ | rfl) :
    PT X (.Compare a [.In] [.Name x p] pos) (TB X.K cl E (mTest (mInK tb m))) := by
  obtain ⟨d, es, n, h1, h2, h3⟩ := h
  refine pt_imp (pt_cmpR (op_in_kd h2) ha (pe_globr h1 hg hd) hm) fun σ H Q ⟨W, ρ, S, hr, en, q⟩ => ?_
  have q : Post X.K cl (Rep X.K cl) W (mInK tb m ρ S) _ _ := post_test q
  refine step hr en q fun W1 H1 v dv S1 l1 r1 e1 rv p1 => ?_
  split at p1
  · rename_i z
    cases rv
    cases e : tb.lookup z with
    | none =>
      rw [e] at p1
      exact ⟨z, none, rfl, rfl, (h3 z).1 e, p1.now r1 (.bl _)⟩
    | some y =>
      rw [e] at p1
      obtain ⟨u, v, q1, _⟩ := (h3 z).2 y e
      exact ⟨z, some u, rfl, rfl, q1, p1.now r1 (.bl _)⟩
  · exact p1.elim
theorem ix_kd {d : Addr} {es : Array DictEntry} {n : Nat} (D : KDict X.K X.w d es n) : IxR X (fun x y H Q => ∃ (z : Str) (u0 : Value) (v0 : V), x = .ref d ∧ y = .str z ∧ PySem.W.nsIn X.K d z = some (some u0) ∧ RelV v0 u0 ∧ Q v0 H) := by
  intro value slice pins s σ H x y v u Q I rx ry h hs
  have ex : x = .ref d := by obtain ⟨_, _, _, e, _⟩ := h; exact e
  have rx' := rx
  subst ex
  cases rx'
  exact tail_any (kd_type D I) PySem.F.slot_dict_getitem.lookup (op_item_kd D pins s σ H _ y _ u Q I rx ry h) hs
theorem t_ixK (h : KCon X.K X.w cl X.mg x tb) (ha : PE X a (T X.K cl E m)) (hg : Gl X x := by rfl) (hd : (x == ("__debug__" : Str)) = false := by decide) (hs : PlainIx a := by exact fun _ _ => rfl) : PE X (.Subscript (.Name x p) a pos) (T X.K cl E (mIxK tb m)) := by
  obtain ⟨d, es, n, h1, h2, h3⟩ := h
  refine pe_imp (pe_ix (ix_kd h2) (pe_globr h1 hg hd) ha hs) fun σ H Q ⟨W, ρ, S, hr, en, q⟩ => step hr en q fun W1 H1 v dv S1 l1 r1 e1 rv p1 => ?_
  split at p1
  · rename_i z
    cases rv
    split at p1
    · rename_i y e
      obtain ⟨u, v, q1, q2, q3⟩ := (h3 z).2 y e
      exact ⟨z, u, v, rfl, rfl, q1, q2, p1.now r1 (q3 _)⟩
    · exact p1.elim
  · exact p1.elim
end
end G
namespace G
open PySem L2
/-! ### list(d), d any dict -/
section
variable {X : Cx} {cl : Str → Option Addr}
theorem cr_listA (hc : X.calm = true) : CallR X (.type "list") (fun xs H Q => ∃ a kvs, xs = [.ref a] ∧ Rd H a (.dK kvs) ∧ ∀ q, H q = none → Q (.ref q) (upd H q (.lst (kvs.map fun kv => kV kv.1)))) := by
  intro pins s σ H xs us Q I rr ⟨a, kvs, ex, ha, q⟩
  subst ex
  obtain ⟨u, eu, ru⟩ := vals1 rr
  subst eu
  obtain rfl : u = Value.ref a := ru
  obtain ⟨zz, lw, vs, kv, dd⟩ := dk_rd I.hok ha
  obtain ⟨ep, atd⟩ := dd.dictAt
  have len : kvs.length = vs.length := Paired.length kv
  refine PySem.W.kdl_call (PySem.W.kdl_dict (knd := mixKind X.prog X.w) (kvs := vs) (ep := ep) lw) (I.ok.hd hc) atd (len ▸ zz) fun h1 t1 acc c1 kp new its => ?_
  have okk : ObjOk X.prog X.w (upd H s.heap.objs.size (.lst (kvs.map fun kv => kV kv.1))) h1 s.heap.objs.size (.lst (kvs.map fun kv => kV kv.1)) := by
    refine ⟨by rw [List.length_map]; exact zz, acc.toList, c1, vals_of_at ?_ fun j x w g1 g2 => ?_, by rw [Array.toArray_toList]; exact new⟩
    · rw [List.length_map, len, ← its.1]
      simp
    · obtain ⟨k, y, hk, is⟩ := its.2 j w (by rw [← Array.getElem?_toList]; exact g2)
      have f1 : (kvs.map (·.1))[j]? = some k := by rw [KV.keys kv, List.getElem?_map, hk]; rfl
      have f2 : (kvs.map fun kv => kV kv.1)[j]? = some (kV k) := by
        rw [show (kvs.map fun kv => kV kv.1) = (kvs.map (·.1)).map kV from (by rw [List.map_map]; rfl), List.getElem?_map, f1]
        rfl
      rw [f2] at g1
      cases g1
      exact keyIs_rel is
  exact ⟨.ref s.heap.objs.size, _, I.laid kp (Nat.le_refl _) okk, rfl, q _ (I.hok.fresh (Nat.le_refl _))⟩
def listKA (as : List D) (S : Store) : Res D := match as with
  | [x] => (match dcOf S x with
    | some kvs => .ok (.lst (kvs.map fun kv => keyD kv.1)) S
    | none => .stk)
  | _ => .stk
theorem listKA_s {K : PySem.W.Frag} : FnS K cl (fun xs H Q => ∃ a kvs, xs = [.ref a] ∧ Rd H a (.dK kvs) ∧ ∀ q, H q = none → Q (.ref q) (upd H q (.lst (kvs.map fun kv => kV kv.1)))) listKA := by
  intro W H S x a Q E r rx p
  unfold listKA at p
  split at p
  · cases rx with | cons rx rn =>
    cases rn
    split at p
    · rename_i kvs ek
      obtain ⟨l, vs, rfl, h, t⟩ := dc_of r rx ek
      exact ⟨l, vs, rfl, h, newL r (reps_keys t) p⟩
    · exact p.elim
  · exact p.elim
end
/-! ### x is True, x None or a flag -/
section
variable {X : Cx} {cl : Str → Option Addr}
theorem op_isNb : OpR X (compareOp .Is) (fun x y H Q => x = .non ∧ (∃ b, y = .bl b) ∧ Q (.bl false) H) := by
  intro pins s σ H x y v u Q I rx ry h
  obtain ⟨rfl, ⟨b, rfl⟩, q⟩ := h
  cases (show v = Value.none from rx)
  cases (show u = Value.bool b from ry)
  exact wpAny_is_other rfl (fun z => nomatch z) ⟨.bl false, H, I, rfl, q⟩
def rIsT : R2 := fun x y H Q => rIsA x y H Q ∨ (x = .non ∧ (∃ b, y = .bl b) ∧ Q (.bl false) H)
theorem op_isT : OpR X (compareOp .Is) rIsT := opr_or op_isA op_isNb
def isTD (a b : D) (S : Store) : Res D := match a, b with
  | .non, .bl _ => .ok (.bl false) S
  | a, b => isND a b S
theorem isT_s {K : PySem.W.Frag} : OpS K cl rIsT isTD := by
  intro W H S x y a b Q E r rx ry p
  unfold isTD at p
  split at p
  · cases rx
    cases ry
    exact .inr ⟨rfl, ⟨_, rfl⟩, p.now r (.bl _)⟩
  · exact .inl (isN_s W H S x y a b Q E r rx ry p)
@[simp] theorem v_isTn {S : Store} {b : Bool} : isTD .non (.bl b) S = .ok (.bl false) S := nrfl rfl
@[simp] theorem v_isTb {S : Store} {a b : Bool} : isTD (.bl a) (.bl b) S = .ok (.bl (decide (a = b))) S := nrfl rfl
end
/-! ### running -/
section
variable {ρ : Sl} {S : Store} {x y d : D} {ds ys : List D} {kvs : List (Key × D)} {tb : List (Str × D)} {a b z : Str} {m : M D} {ms : M (List D)} {c : Str} {g : List D → Store → Res D} {n : Nat} {k : Bool}
def rLK (o : Option (List (Key × D))) (S : Store) : Res D := match o with
  | some kvs => .ok (.lst (kvs.map fun kv => keyD kv.1)) S
  | none => .stk
@[simp] theorem v_listKA : listKA [x] S = rLK (dcOf S x) S := by
  unfold listKA rLK
  rfl
@[simp] theorem rLK_some : rLK (some kvs) S = .ok (.lst (kvs.map fun kv => keyD kv.1)) S := nrfl rfl
@[simp] theorem v_starts : startsD (.str a) [.str b] S = .ok (.bl (Txt.startswith a b)) S := nrfl rfl
def kInK (tb : List (Str × D)) (x : D) (S : Store) : Res D := match x with
  | .str z => .ok (.bl (tb.lookup z).isSome) S
  | _ => .stk
@[simp] theorem e_inK : mInK tb m ρ S = (m ρ S).bind (kInK tb) := nrfl rfl
@[simp] theorem kInK_str : kInK tb (.str z) S = .ok (.bl (tb.lookup z).isSome) S := nrfl rfl
def rIxK (o : Option D) (S : Store) : Res D := match o with
  | some d => .ok d S
  | none => .stk
def kIxK (tb : List (Str × D)) (x : D) (S : Store) : Res D := match x with
  | .str z => rIxK (tb.lookup z) S
  | _ => .stk
@[simp] theorem e_ixK : mIxK tb m ρ S = (m ρ S).bind (kIxK tb) := by
  unfold mIxK kIxK rIxK
  rfl
@[simp] theorem kIxK_str : kIxK tb (.str z) S = rIxK (tb.lookup z) S := nrfl rfl
@[simp] theorem rIxK_some : rIxK (some d) S = .ok d S := nrfl rfl
end
/-! ### == of plain data: whole numbers, texts, lists and tuples of these -/
inductive Pl : Nat → D → Prop
  | int {n : Nat} {i : Int} : Pl n (.int i)
  | str {n : Nat} {x : Str} : PyData.strOk x = true → Pl n (.str x)
  | tup {n : Nat} {ds : List D} : (∀ d ∈ ds, Pl n d) → Pl (n + 1) (.tup ds)
  | lst {n : Nat} {ds : List D} : (∀ d ∈ ds, Pl n d) → Pl (n + 1) (.lst ds)
theorem Pl.mono {n m : Nat} {d : D} (h : Pl n d) : n ≤ m → Pl m d := by
  induction h generalizing m with
  | int => exact fun _ => .int
  | str h => exact fun _ => .str h
  | tup _ ih =>
    intro hm
    obtain ⟨m, rfl⟩ : ∃ k, m = k + 1 := ⟨m - 1, by omega⟩
    exact .tup fun d hd => ih d hd (by omega)
  | lst _ ih =>
    intro hm
    obtain ⟨m, rfl⟩ : ∃ k, m = k + 1 := ⟨m - 1, by omega⟩
    exact .lst fun d hd => ih d hd (by omega)
theorem pl_pys {n : Nat} : ∀ {ds : List D}, (∀ d ∈ ds, ∃ q, toPy d = some q ∧ q.canLay0 = true ∧ q.depth ≤ n) → ∃ qs, toPys ds = some qs ∧ PyData.canLayAll0 qs = true ∧ PyData.depthAll qs ≤ n
  | [], _ => ⟨[], rfl, rfl, by simp [PyData.depthAll]⟩
  | d :: ds, h => by
    obtain ⟨q, h1, h2, h3⟩ := h d (by simp)
    obtain ⟨qs, g1, g2, g3⟩ := pl_pys (n := n) (ds := ds) fun e he => h e (by simp [he])
    refine ⟨q :: qs, ?_, ?_, ?_⟩
    · unfold toPys
      rw [h1, g1]
    · simp [PyData.canLayAll0, h2, g2]
    · simp only [PyData.depthAll]; omega
theorem Pl.py {n : Nat} {d : D} (h : Pl n d) : ∃ q, toPy d = some q ∧ q.canLay0 = true ∧ q.depth ≤ n := by
  induction h with
  | int => exact ⟨_, rfl, rfl, by simp [PyData.depth]⟩
  | str h => exact ⟨_, rfl, by simpa [PyData.canLay0] using h, by simp [PyData.depth]⟩
  | tup _ ih =>
    obtain ⟨qs, h1, h2, h3⟩ := pl_pys ih
    refine ⟨.tuple qs, by unfold toPy; rw [h1]; rfl, by simpa [PyData.canLay0] using h2, by simp [PyData.depth]; omega⟩
  | lst _ ih =>
    obtain ⟨qs, h1, h2, h3⟩ := pl_pys ih
    refine ⟨.list qs, by unfold toPy; rw [h1]; rfl, by simpa [PyData.canLay0] using h2, by simp [PyData.depth]; omega⟩
section
open Classical
theorem pl_eqs : ∀ {ds es : List D} {p q : List PyData}, (∀ d ∈ ds, ∀ {e : D} {p q : PyData}, (∃ m, Pl m e) → toPy d = some p → toPy e = some q → PyData.eqv p q = decide (d = e)) → (∀ e ∈ es, ∃ m, Pl m e) → toPys ds = some p → toPys es = some q → PyData.eqvAll p q = decide (ds = es)
  | [], [], _, _, _, _, h1, h2 => by cases h1; cases h2; simp [PyData.eqvAll]
  | [], e :: es, _, _, _, _, h1, h2 => by
    cases h1
    unfold toPys at h2
    split at h2
    · cases h2; simp [PyData.eqvAll]
    · cases h2
  | d :: ds, [], _, _, _, _, h1, h2 => by
    cases h2
    unfold toPys at h1
    split at h1
    · cases h1; simp [PyData.eqvAll]
    · cases h1
  | d :: ds, e :: es, _, _, hd, he, h1, h2 => by
    unfold toPys at h1 h2
    split at h1
    · rename_i p ps e1 e2
      split at h2
      · rename_i q qs e3 e4
        cases h1
        cases h2
        have a := hd d (by simp) (he e (by simp)) e1 e3
        have b := pl_eqs (fun x hx => hd x (by simp [hx])) (fun x hx => he x (by simp [hx])) e2 e4
        unfold PyData.eqvAll
        rw [a, b, ← Bool.decide_and]
        congr 1
        simp
      · cases h2
    · cases h1
theorem Pl.eqv {n : Nat} {d : D} (h : Pl n d) : ∀ {e : D} {p q : PyData}, (∃ m, Pl m e) → toPy d = some p → toPy e = some q → PyData.eqv p q = decide (d = e) := by
  induction h with
  | int =>
    intro e p q ⟨m, he⟩ h1 h2
    cases h1
    cases he with
    | int => cases h2; simp only [PyData.eqv]; rw [Bool.eq_iff_iff]; simp
    | str _ => cases h2; simp [PyData.eqv]
    | tup _ => unfold toPy at h2; obtain ⟨_, _, rfl⟩ := Option.map_eq_some_iff.mp h2; simp [PyData.eqv]
    | lst _ => unfold toPy at h2; obtain ⟨_, _, rfl⟩ := Option.map_eq_some_iff.mp h2; simp [PyData.eqv]
  | str _ =>
    intro e p q ⟨m, he⟩ h1 h2
    cases h1
    cases he with
    | int => cases h2; simp [PyData.eqv]
    | str _ => cases h2; simp only [PyData.eqv]; rw [Bool.eq_iff_iff]; simp
    | tup _ => unfold toPy at h2; obtain ⟨_, _, rfl⟩ := Option.map_eq_some_iff.mp h2; simp [PyData.eqv]
    | lst _ => unfold toPy at h2; obtain ⟨_, _, rfl⟩ := Option.map_eq_some_iff.mp h2; simp [PyData.eqv]
  | tup _ ih =>
    intro e p q ⟨m, he⟩ h1 h2
    unfold toPy at h1
    obtain ⟨ps, g1, rfl⟩ := Option.map_eq_some_iff.mp h1
    cases he with
    | int => cases h2; simp [PyData.eqv]
    | str _ => cases h2; simp [PyData.eqv]
    | tup he =>
      unfold toPy at h2
      obtain ⟨qs, g2, rfl⟩ := Option.map_eq_some_iff.mp h2
      have := pl_eqs ih (fun e h => ⟨_, he e h⟩) g1 g2
      simp [PyData.eqv, this]
    | lst _ => unfold toPy at h2; obtain ⟨_, _, rfl⟩ := Option.map_eq_some_iff.mp h2; simp [PyData.eqv]
  | lst _ ih =>
    intro e p q ⟨m, he⟩ h1 h2
    unfold toPy at h1
    obtain ⟨ps, g1, rfl⟩ := Option.map_eq_some_iff.mp h1
    cases he with
    | int => cases h2; simp [PyData.eqv]
    | str _ => cases h2; simp [PyData.eqv]
    | tup _ => unfold toPy at h2; obtain ⟨_, _, rfl⟩ := Option.map_eq_some_iff.mp h2; simp [PyData.eqv]
    | lst he =>
      unfold toPy at h2
      obtain ⟨qs, g2, rfl⟩ := Option.map_eq_some_iff.mp h2
      have := pl_eqs ih (fun e h => ⟨_, he e h⟩) g1 g2
      simp [PyData.eqv, this]
theorem Pl.eqB {n m : Nat} {d e : D} {S : Store} (h : Pl n d) (h' : Pl m e) (hn : n ≤ 64) (hm : m ≤ 64) : G.eqB S d e = some (decide (d = e)) := by
  obtain ⟨p, p1, p2, p3⟩ := h.py
  obtain ⟨q, q1, q2, q3⟩ := h'.py
  have s1 : toPyS S d = some p := by cases h <;> exact p1
  have s2 : toPyS S e = some q := by cases h' <;> exact q1
  have z1 : SeqAt.shaped p = true := by simp only [SeqAt.shaped, Bool.and_eq_true, decide_eq_true_eq]; exact ⟨p2, by omega⟩
  have z2 : SeqAt.shaped q = true := by simp only [SeqAt.shaped, Bool.and_eq_true, decide_eq_true_eq]; exact ⟨q2, by omega⟩
  have e0 := h.eqv ⟨m, h'⟩ p1 q1
  unfold G.eqB
  split
  · rename_i u w e1 e2
    cases h <;> first | (cases e1; done) | (cases h' <;> first | (cases e2; done) | (cases e1; cases e2; simp [scal, eqV]))
  · rw [s1, s2]
    simp only [z1, z2, Bool.and_self, if_true]
    rw [e0]
end
end G
/-! G43: list comprehensions whose elements may let an exception out. -/
namespace G
open PySem PySem.Spec
open PyProof.Rows hiding St
open L2
section
variable {X : Cx} {pins : List (Addr × Obj)} {σ : St} {H : Hp} {s s' : Shared}
end
section
variable {it : Itb} {p : Pt} {e : M D} {t : M Bool} {ρ ρ1 : Sl} {S : Store} {n : Nat} {d : D} {ds : List D}
end
section
variable {X : Cx} {cl : Str → Option Addr} {E : WX} {elt tg iter : Expr} {ifs : List Expr} {scope : Scope} {own : List (Str × Nat)} {pos : Pos} {mi : M Itb} {a : List Nat} {p : Pt} {mt : M Bool} {me : M D} {mk : List D → Store → Res D}
end
section
variable {X : Cx} {cl : Str → Option Addr} {E : WX} {k n : Nat} {g : List D → Store → Res D} {x : Str} {p pos : Pos} {e : Expr} {es : List Expr} {ms : M (List D)}
end
end G
/-! G44: sorted(set(list of texts)). -/
namespace G
open PySem PySem.Spec
open PyProof.Rows hiding St
open L2
/-! ### sets of texts (as HandS.Set has them for whole numbers) -/
def tKey (e : Int × Value) : Str := match e.2 with
  | .str k _ => k
  | _ => Str.empty
def TOk (w : World) (e : Int × Value) : Prop := ∃ k tk, e.2 = Value.str k tk ∧ e.1 = hashStr w k
def TSet (w : World) (h : Heap) (a : Addr) (S : Str → Bool) (n : Nat) : Prop :=
  ∃ o es ep t, h.get? a = some o ∧ o.ExactSet ∧ o.data = .set es ep t ∧ (∀ e ∈ es.toList, TOk w e) ∧ (es.toList.map tKey).Nodup ∧ (∀ k, S k = true ↔ k ∈ es.toList.map tKey) ∧
    es.size < scanBound ∧ t.fits es.size = true ∧ es.size = n ∧ Ris t.place.toList ∧ (w.params.followText "set-order" = true ∨ t.led = true)
section
variable {P : Program} {w : World} {h h' : Heap} {a : Addr} {S : Str → Bool} {n : Nat}
theorem TSet.at (R : TSet w h a S n) (k : ∀ o, h.get? a = some o → h'.get? a = some o) : TSet w h' a S n := by
  obtain ⟨o, es, ep, t, ho, r⟩ := R
  exact ⟨o, es, ep, t, k o ho, r⟩
end
section
variable {P : Program} {w : World} {A : Around} {E : Value → Shared → Prop} {s : Shared} {a : Addr} {S : Str → Bool} {n : Nat}
/-! ### sorted -/
end
/-! ### calls -/
section
variable {X : Cx}
end
/-! ### by semantics -/
section
variable {X : Cx} {cl : Str → Option Addr} {E : WX} {m : M D} {e : Expr} {p q pos pos' : Pos}
end
end G
/-! G45: xs[::-1] of lists. -/
namespace G
open PySem PySem.Spec
open PyProof.Rows hiding St
open L2
section
variable {X : Cx} {e st : Expr} {te ts : TE} {p2 pos : Pos}
end
section
variable {X : Cx} {cl : Str → Option Addr} {E : WX} {m ms : M D} {e st : Expr} {p2 pos : Pos}
end
section
variable {S : Store} {x y : D}
end
end G
/-! G46: a, b, c = x, y, z. -/
namespace G
open PySem L2
section
variable {ρ : Sl} {S : Store} {i j l : Nat} {x y z : D}
end
end G
/-! G47: comprehensions of two clauses whose inner lists are made anew. -/
namespace G
open PySem L2
end G
namespace G
open PySem L2
/-! ### a dict of the module, its values defs, called at once -/
def FnAt (P : Program) (w : World) (K : PySem.W.Frag) (mg : Str → Option Value) (base : Heap) (cl : Str → Option Addr) (k n : Nat) (f : Addr) (g : List D → Store → Res D) : Prop :=
  ∃ fd ps, FnOk P w K mg base (L2.CX P w) k f fd ps (spOf K cl n g) ∧ PySem.W.keepIn K (.ref f) = true ∧ Binds K fd ps []
section
variable {P : Program} {w : World} {K : PySem.W.Frag} {mg : Str → Option Value} {base : Heap} {cl : Str → Option Addr} {x y : Str} {k k' n : Nat} {f : Addr} {g : List D → Store → Res D}
theorem Fn.at (F : Fn P w K mg base cl x k n g) (hm : mg x = some (.ref f)) (h : k ≤ k') : FnAt P w K mg base cl k' n f g := by
  obtain ⟨f', fd, ps, h1, h2, h3, h4⟩ := F.ex
  rw [hm] at h2
  cases h2
  exact ⟨fd, ps, h1.mono h, h3, h4⟩
end
section
variable {X : Cx} {cl : Str → Option Addr} {E : WX} {k n : Nat} {x : Str} {p spos pos : Pos} {i e : Expr} {es : List Expr} {mi : M D} {ms : M (List D)} {tb : List (Str × (List D → Store → Res D))}
end
/-! ### str of a whole number -/
end G
namespace G
open PySem L2
/-! ### all that hangs on a value is frozen -/
inductive Frzs (Q : Hp → Prop) : Hp → Prop
  | here {H : Hp} : Q H → Frzs Q H
  | more {H : Hp} {d : Addr} {u : HO} : H d = some u → Mut (some u) → (∀ od, Frzs Q (upd H d (.frz od u))) → Frzs Q H
theorem Frzs.bind {Q Q' : Hp → Prop} {H : Hp} (h : Frzs Q H) (k : ∀ H', Q H' → Frzs Q' H') : Frzs Q' H := by
  induction h with
  | here q => exact k _ q
  | more h1 h2 _ ih => exact .more h1 h2 ih
/-- what stays when live objects are frozen -/
structure Und (W W' : Wd) (H H' : Hp) (S S' : Store) : Prop where
  le : Le W W'
  i : W'.ι = W.ι
  sub : ∀ (i : Nat) (mo : MO), S'[i]? = some mo → mo ≠ .dead → S[i]? = some mo
  nt : ∀ b, (∀ (i : Nat) (mo : MO), S[i]? = some mo → mo ≠ .dead → W.ι i ≠ b) → H' b = H b ∧ W'.G b = W.G b
section
variable {K : PySem.W.Frag} {cl : Str → Option Addr}
theorem Und.rf (W : Wd) (H : Hp) (S : Store) : Und W W H H S S := ⟨.rf W, rfl, fun _ _ h _ => h, fun _ _ => ⟨rfl, rfl⟩⟩
theorem Und.tr {A B C : Wd} {H H1 H2 : Hp} {S S1 S2 : Store} (x : Und A B H H1 S S1) (y : Und B C H1 H2 S1 S2) : Und A C H H2 S S2 := by
  refine ⟨x.le.tr y.le, y.i.trans x.i, fun i mo h nd => x.sub i mo (y.sub i mo h nd) nd, fun b hb => ?_⟩
  obtain ⟨h1, h2⟩ := x.nt b hb
  obtain ⟨h3, h4⟩ := y.nt b fun i mo h nd => by rw [x.i]; exact hb i mo (x.sub i mo h nd) nd
  exact ⟨h3.trans h1, h4.trans h2⟩
end
section
variable {X : Cx} {cl : Str → Option Addr} {E : WX} {o : Expr} {m : M D} {k : Nat}
end
end G
namespace G
open PySem L2
/-! ### what is frozen deep -/
section
variable (S : Store)
mutual
inductive Dp : Nat → D → D → List Nat → Prop
  | non {k : Nat} : Dp (k + 1) .non .non []
  | bl {k : Nat} {b : Bool} : Dp (k + 1) (.bl b) (.bl b) []
  | int {k : Nat} {i : Int} : Dp (k + 1) (.int i) (.int i) []
  | str {k : Nat} {x : Str} : Dp (k + 1) (.str x) (.str x) []
  | scr {k : Nat} {x : List Int} : Dp (k + 1) (.scr x) (.scr x) []
  | tup {k : Nat} {xs ys : List D} {ns : List Nat} : Dps k xs ys ns → Dp (k + 1) (.tup xs) (.tup ys) ns
  | lst {k : Nat} {xs ys : List D} {ns : List Nat} : Dps k xs ys ns → Dp (k + 1) (.lst xs) (.lst ys) ns
  | dct {k : Nat} {xs ys : List (Key × D)} {ns : List Nat} : DpK k xs ys ns → Dp (k + 1) (.dct xs) (.dct ys) ns
  | ins {k : Nat} {c : Str} {xs ys : List (Str × D)} {ns : List Nat} : DpF k xs ys ns → Dp (k + 1) (.ins c xs) (.ins c ys) ns
  | rl {k n : Nat} {xs ys : List D} {ns : List Nat} : sg S n = some (.lst xs) → Dps k xs ys ns → Dp (k + 1) (.ref n) (.lst ys) (n :: ns)
  | rd {k n : Nat} {xs ys : List (Key × D)} {ns : List Nat} : sg S n = some (.dct xs) → DpK k xs ys ns → Dp (k + 1) (.ref n) (.dct ys) (n :: ns)
  | ri {k n : Nat} {c : Str} {xs ys : List (Str × D)} {ns : List Nat} : sg S n = some (.ins c xs) → DpF k xs ys ns → Dp (k + 1) (.ref n) (.ins c ys) (n :: ns)
inductive Dps : Nat → List D → List D → List Nat → Prop
  | nil {k : Nat} : Dps k [] [] []
  | cons {k : Nat} {x y : D} {xs ys : List D} {ns ms : List Nat} : Dp k x y ns → Dps k xs ys ms → Dps k (x :: xs) (y :: ys) (ns ++ ms)
inductive DpK : Nat → List (Key × D) → List (Key × D) → List Nat → Prop
  | nil {k : Nat} : DpK k [] [] []
  | cons {k : Nat} {z : Key} {x y : D} {xs ys : List (Key × D)} {ns ms : List Nat} : Dp k x y ns → DpK k xs ys ms → DpK k ((z, x) :: xs) ((z, y) :: ys) (ns ++ ms)
inductive DpF : Nat → List (Str × D) → List (Str × D) → List Nat → Prop
  | nil {k : Nat} : DpF k [] [] []
  | cons {k : Nat} {z : Str} {x y : D} {xs ys : List (Str × D)} {ns ms : List Nat} : Dp k x y ns → DpF k xs ys ms → DpF k ((z, x) :: xs) ((z, y) :: ys) (ns ++ ms)
end
end
/-- just these are gone -/
structure Gn (ns : List Nat) (S S' : Store) : Prop where
  len : S'.length = S.length
  eq : ∀ i, i ∉ ns → sg S' i = sg S i
theorem Gn.rf (S : Store) : Gn [] S S := ⟨rfl, fun _ _ => rfl⟩
theorem Gn.tr {ns ms : List Nat} {A B C : Store} (x : Gn ns A B) (y : Gn ms B C) : Gn (ns ++ ms) A C :=
  ⟨y.len.trans x.len, fun i h => by rw [List.mem_append, not_or] at h; exact (y.eq i h.2).trans (x.eq i h.1)⟩
theorem Gn.fr {ns : List Nat} {S S' : Store} (x : Gn ns S S') : Fr ns S S' := ⟨Nat.le_of_eq x.len.symm, fun i _ h => x.eq i h⟩
theorem Gn.dead {n : Nat} {ns : List Nat} {S S' : Store} (x : Gn ns (S.set n .dead) S') : Gn (n :: ns) S S' :=
  ⟨by rw [x.len, List.length_set], fun i h => by
    rw [List.mem_cons, not_or] at h
    exact (x.eq i h.2).trans (sg_ne (fun e => h.1 e.symm))⟩
theorem Dps.all {S : Store} {k : Nat} : ∀ {xs : List D}, (∀ x ∈ xs, Dp S k x x []) → Dps S k xs xs []
  | [], _ => .nil
  | x :: xs, h => .cons (ns := []) (ms := []) (h x (by simp)) (Dps.all fun y hy => h y (by simp [hy]))
end G
namespace G
open PySem L2
/-! ### == of tuples in which empty dicts stand -/
section
variable {X : Cx} {cl : Str → Option Addr} {S : Store} {k : Nat}
end
end G
namespace G
open PySem L2
/-! ### list(x) where x may be the script -/
end G
namespace G
open PySem L2
/-! ### != of two dicts that are equal -/
section
variable {K : PySem.W.Frag} {cl : Str → Option Addr} {W : Wd} {H : Hp} {S : Store} {X : Cx}
end
end G
namespace G
open PySem L2
/-! ### dict(d) of a dict -/
end G
namespace L2
open PySem HT
variable {X : Cx}
end L2
namespace G
open PySem L2
section
variable {X : Cx} {cl : Str → Option Addr} {E : WX} {kx vx tg iter : Expr} {ifs : List Expr} {scope : Scope} {own : List (Str × Nat)} {pos : Pos} {mi : M Itb} {a : List Nat} {p : Pt} {mt : M Bool} {mk mv : M D} {fin : List (Key × D) → Store → Res D}
end
end G
namespace G
open PySem L2
/-! ### > and >= of ints and texts -/
def gtA (a b : D) (S : Store) : Res D := match a, b with
  | .int i, .int j => .ok (.bl (decide (j < i))) S
  | .str x, .str y => .ok (.bl (decide (y.cps.toList < x.cps.toList))) S
  | _, _ => .stk
def rGtA : R2 := fun x y H Q => rI0 (fun i j => .bl (decide (j < i))) x y H Q ∨ (∃ i j, x = .str i ∧ y = .str j ∧ Q (.bl (decide (j.cps.toList < i.cps.toList))) H)
theorem op_gtA {X : Cx} : OpR X (compareOp .Gt) rGtA := opr_or op_gt op_gt_str
theorem gtA_s {K : PySem.W.Frag} {cl : Str → Option Addr} : OpS K cl rGtA gtA := by
  intro W H S x y a b Q E r rx ry p
  unfold gtA at p
  split at p
  · cases rx; cases ry
    exact .inl ⟨_, _, rfl, rfl, p.now r (.bl _)⟩
  · cases rx; cases ry
    exact .inr ⟨_, _, rfl, rfl, p.now r (.bl _)⟩
  · exact p.elim
def geA (a b : D) (S : Store) : Res D := match a, b with
  | .int i, .int j => .ok (.bl (decide (j ≤ i))) S
  | .str x, .str y => .ok (.bl (!decide (x.cps.toList < y.cps.toList))) S
  | _, _ => .stk
def rGeA : R2 := fun x y H Q => rI0 (fun i j => .bl (decide (j ≤ i))) x y H Q ∨ (∃ i j, x = .str i ∧ y = .str j ∧ Q (.bl (!decide (i.cps.toList < j.cps.toList))) H)
theorem op_geA {X : Cx} : OpR X (compareOp .GtE) rGeA := opr_or op_ge op_ge_str
theorem geA_s {K : PySem.W.Frag} {cl : Str → Option Addr} : OpS K cl rGeA geA := by
  intro W H S x y a b Q E r rx ry p
  unfold geA at p
  split at p
  · cases rx; cases ry
    exact .inl ⟨_, _, rfl, rfl, p.now r (.bl _)⟩
  · cases rx; cases ry
    exact .inr ⟨_, _, rfl, rfl, p.now r (.bl _)⟩
  · exact p.elim
end G
namespace G
open PySem L2
/-! ### rsplit with a limit -/
section
open PySem.Spec PyProof.Rows PySem.Builtin PySem.Builtin.Str
variable {X : Cx}
end
end G
namespace G
open PySem L2
/-! ### x is not True, x None or a flag -/
section
variable {X : Cx} {cl : Str → Option Addr}
end
end G
namespace G
open PySem L2
/-! ### defs under callers among whom no repr runs -/
section
variable {P : Program} {w : World} {K : PySem.W.Frag} {mg : Str → Option Value} {base : Heap} {CX : CXT} {k : Nat} {f : Addr} {fd : FuncData} {ps : List Str} {sp : Sp}
def Quiet (A : Around) : Prop := A.guards = some []
variable (P w K mg base CX k f fd ps sp) in
structure FnQ : Prop where
  len : ∀ vs H Q E, sp vs H Q E → vs.length = ps.length
  run : ∀ (A : Around), Quiet A → Room k A → ∀ (outer : List Env) (s : Shared) (H : Hp) (args : Args) (us : List Value) (vs : List V) (Q : VK) (E : XK), Env0 P w K mg base A outer s H → BindsTo s fd args (ps.zip us) → Vals vs us → sp vs H Q E →
    codeAny (model P w) A (.call (.ref f) args) (CR CX outer P w H s Q E) s
theorem FnQ.of (F : FnOk P w K mg base CX k f fd ps sp) : FnQ P w K mg base CX k f fd ps sp :=
  ⟨F.len, fun A _ hr outer s H args us vs Q E => F.run A outer s H args us vs Q E hr⟩
theorem fnQ_of {name qual : Str} {params : Arguments} {body : List Stmt} {scope : Scope} {dV kV doc pm cdv ct oc : Value} {an od : Option Addr} {osl : Array (Option Value)} {N : List Str}
    (lk : K.lookup f = some ⟨oc, od, .func (PySem.W.fnOf name qual params body scope dV kV doc pm an cdv ct), osl⟩) (cd : PySem.W.codeIn K cdv qual = true) (Sc : FnScope N ps scope) (ln : ∀ vs H Q E, sp vs H Q E → vs.length = ps.length)
    (bd : ∀ (A : Around) (outer : List Env) (s : Shared) (H : Hp) (vs : List V) (Q : VK) (E : XK), Quiet (A.deeper (PyProof.Rows.envOfC qual scope s.heap.objs.size f cdv)) → Room k (A.deeper (PyProof.Rows.envOfC qual scope s.heap.objs.size f cdv)) → sp vs H Q E →
      ∃ t, PSs (cxOf CX P w K mg base N qual scope f cdv A outer s H E) body t ∧ t { nx := fun _ H1 => Q .non H1, rt := Q } (start N vs) H) :
    FnQ P w K mg base CX (k + 1) f (PySem.W.fnOf name qual params body scope dV kV doc pm an cdv ct) ps sp := by
  constructor
  · exact ln
  intro A hq room outer s H args us vs Q E en bnd vals want
  have inK : K.In s.heap := en.mod.kin.keeps (fun b o e => (en.bs b o e).1)
  have noL : s.heap.NoLimit := en.mod.nolimit.keeps (fun b o e => (en.bs b o e).1)
  refine codeAny_call_function room.depth (inK _ _ lk) rfl Sc.co Sc.gen rfl (PySem.W.codeRec_of inK cd) (bnd _ _ _ _ (wpAny_newFunctionEnv_cells Sc.kind (fun y hy => ?_) (fun env he s1 x => ?_)))
  · obtain ⟨n, v⟩ := y
    cases Sc.par n (List.of_mem_zip hy).1 with
    | inl q => exact Or.inl q
    | inr q => exact Or.inr ⟨q, PySem.W.cellsFrom_some _ _ _ (Or.inl q)⟩
  cases he
  obtain ⟨t, ht, wt⟩ := bd A outer s H vs Q E hq (room.deeper _) want
  have J := inv_start (E := E) (CX := CX) (K := K) (mg := mg) (f := f) (cd := cdv) (qual := qual) Sc room.hd en (ln _ _ _ _ want) vals x
  refine ⟨noL.keeps x.toInCall.keep, codeAny_func (wpAny_mono (ht.run [] s1 (start N vs) H _ J wt) (fun fl s2 hs => ?_) (fun e s2 hs => hs))⟩
  rcases fl with _ | _ | _ | u
  all_goals first
    | (obtain ⟨v, σ2, H2, J2, rv, q⟩ := hs; exact ⟨v, H2, J2.os, J2.bare, J2.base, J2.hok, rv, q⟩)
    | (obtain ⟨σ2, H2, J2, q⟩ := hs; exact ⟨V.non, H2, J2.os, J2.bare, J2.base, J2.hok, rfl, q⟩)
    | (obtain ⟨_, _, _, q⟩ := hs; exact q.elim)
theorem funQ {x qual : Str} {st : Stmt} {N : List Str} (F : Fun K x qual st f fd) (Sc : FnScope N ps (defScope st)) (ln : ∀ vs H Q E, sp vs H Q E → vs.length = ps.length)
    (bd : ∀ (cdv : Value) (A : Around) (outer : List Env) (s : Shared) (H : Hp) (vs : List V) (Q : VK) (E : XK), Quiet (A.deeper (PyProof.Rows.envOfC qual (defScope st) s.heap.objs.size f cdv)) → Room k (A.deeper (PyProof.Rows.envOfC qual (defScope st) s.heap.objs.size f cdv)) → sp vs H Q E →
      ∃ t, PSs (cxOf (L2.CX P w) P w K mg base N qual (defScope st) f cdv A outer s H E) (defBody st) t ∧ t { nx := fun _ H1 => Q .non H1, rt := Q } (start N vs) H) : FnQ P w K mg base (L2.CX P w) (k + 1) f fd ps sp := by
  obtain ⟨oc, od, kV, doc, pm, an, cdv, ct, osl, e, lk, hcd⟩ := F.ex
  subst e
  exact fnQ_of lk hcd Sc ln fun A outer s H vs Q E hq hr want => bd cdv A outer s H vs Q E hq hr want
end
section
variable {P : Program} {w : World} {K : PySem.W.Frag} {mg : Str → Option Value} {base : Heap} {cl : Str → Option Addr}
theorem fn_semQ {x qual : Str} {st : Stmt} {f : Addr} {fd : FuncData} {N ps : List Str} {k n : Nat} {m : MS} (F : Fun K x qual st f fd) (Sc : FnScope N ps (defScope st)) (hn : ps.length = n)
    (body : ∀ (cdv : Value) (A : Around) (outer : List Env) (s : Shared) (H : Hp) (E : XK), Quiet (A.deeper (PyProof.Rows.envOfC qual (defScope st) s.heap.objs.size f cdv)) → Room k (A.deeper (PyProof.Rows.envOfC qual (defScope st) s.heap.objs.size f cdv)) →
      PSs (cxOf (L2.CX P w) P w K mg base N qual (defScope st) f cdv A outer s H E) (defBody st) (Ts K cl (fun c d _ H => E c d H) m)) : FnQ P w K mg base (L2.CX P w) (k + 1) f fd ps (spOf K cl n (runB N.length m)) := by
  refine funQ F Sc (fun vs H Q E h => by rw [spOf_len h, hn]) fun cdv A outer s H vs Q E hq hr h => ⟨_, body cdv A outer s H E hq hr, ?_⟩
  obtain ⟨W, S, ds, r, t, p⟩ := h
  refine ⟨W, startD N.length ds, S, r, envs_start t, ?_⟩
  unfold ar at p
  by_cases hn : ds.length = n
  · rw [if_pos hn] at p
    unfold runB at p
    cases e : m (startD N.length ds) S with
    | nx ρ S1 =>
      simp only [e] at p
      exact fun W1 H1 σ l1 r1 e1 => p W1 H1 _ l1 r1 .non
    | rt d S1 => simp only [e] at p; exact p
    | bk ρ S1 => simp only [e] at p; exact p.elim
    | ct ρ S1 => simp only [e] at p; exact p.elim
    | exc x ρ S1 =>
      simp only [e] at p
      exact fun W1 H1 σ c dd l1 r1 e1 x1 => p W1 H1 c dd l1 r1 x1
    | stk => simp only [e] at p; exact p.elim
  · rw [if_neg hn] at p
    exact p.elim
/-- a def of the module, under callers among whom no repr runs -/
structure FnR (P : Program) (w : World) (K : PySem.W.Frag) (mg : Str → Option Value) (base : Heap) (cl : Str → Option Addr) (x : Str) (k n : Nat) (g : List D → Store → Res D) : Prop where
  ex : ∃ f fd ps, FnQ P w K mg base (L2.CX P w) k f fd ps (spOf K cl n g) ∧ mg x = some (.ref f) ∧ PySem.W.keepIn K (.ref f) = true ∧ Binds K fd ps []
end
section
variable {X : Cx} {cl : Str → Option Addr} {E : WX} {k n : Nat} {g : List D → Store → Res D} {x : Str} {p pos : Pos} {e : Expr} {es : List Expr} {ms : M (List D)} {f : Addr} {fd : FuncData} {ps : List Str} {sp : Sp}
theorem run_fnR {pins : List (Addr × Obj)} {σ : St} {H : Hp} {s : Shared} {Q : VK} {us : List Value} {vs : List V} {EE : St → XK} (F : FnQ X.prog X.w X.K X.mg X.base (L2.CX X.prog X.w) k f fd ps sp) (hq : Quiet X.A) (hr : Room k X.A) (hb : Binds X.K fd ps [])
    (hx : PassesAt (L2.CX X.prog X.w) X σ (EE σ)) (I : Inv X pins σ H s) (rv : Vals vs us) (h : sp vs H Q (EE σ)) : wpAny (model X.prog X.w) X.A (call (.ref f) us) (EP X pins σ Q) X.xe s := by
  have ln : us.length = ps.length := rv.length.symm.trans (F.len _ _ _ _ h)
  have b := hb s us I.kIn (by simpa using ln)
  simp only [List.append_nil] at b
  refine wpAny_call (codeAny_mono (F.run X.A hq hr X.stack s H ⟨us, []⟩ us vs Q (EE σ) I.env0 b rv h) fun r s2 hs => ?_)
  rcases r with ee | fl
  · exact hx pins H s ee s2 I hs
  · rcases fl with _ | _ | _ | u
    all_goals first | exact I.after hs | exact hs.elim
theorem pe_callR {EE : St → XK} {t : TA} (F : FnQ X.prog X.w X.K X.mg X.base (L2.CX X.prog X.w) k f fd ps sp) (hq : Quiet X.A) (hr : Room k X.A) (hm : X.mg x = some (.ref f)) (hk : PySem.W.keepIn X.K (.ref f) = true) (hb : Binds X.K fd ps [])
    (hx : ∀ σ, PassesAt (L2.CX X.prog X.w) X σ (EE σ)) (ha : PA X (e :: es) t) (hg : Gl X x) (hdb : (x == ("__debug__" : Str)) = false) (he : starEach (e :: es) X.env = (false, eval e X.env) :: starEach es X.env) (hpl : (backTo pos (starEach es X.env)).any (·.1) = false) :
    PE X (.Call (.Name x p) (e :: es) [] pos) (tCallS sp EE t) := by
  constructor
  intro pins s σ H Q I h
  exact wpAny_Call_Name_kw (ld_glob I hg hm (PySem.W.callWith_K (h₀ := X.base) I.ok.mod.kin hk (thn (ha.run pos pins s σ H _ I h) fun us s1 ⟨vs, H1, J, rv, q⟩ => ⟨J.kIn, run_fnR F hq hr hb (hx σ) J rv q⟩) he hpl) hdb)
theorem t_callR (F : FnR X.prog X.w X.K X.mg X.base cl x k n g) (hq : Quiet X.A) (hr : Room k X.A) (tk : Takes X E) (ha : PA X (e :: es) (TL X.K cl E ms)) (hg : Gl X x := by rfl) (hdb : (x == ("__debug__" : Str)) = false := by decide)
    (he : starEach (e :: es) X.env = (false, eval e X.env) :: starEach es X.env := by rfl) (hpl : (backTo pos (starEach es X.env)).any (·.1) = false := by rfl) :
    PE X (.Call (.Name x p) (e :: es) [] pos) (T X.K cl E (mFn (ar n g) ms)) := by
  obtain ⟨f, fd, ps, h1, h2, h3, h4⟩ := F.ex
  exact pe_imp (pe_callR h1 hq hr h2 h3 h4 (fun σ => passAt tk σ) ha hg hdb he hpl) fun σ H Q ⟨W, ρ, S, hr, he, q⟩ => step hr he q fun W1 H1 x dx S1 l1 r1 e1 rx p1 => ⟨W1, S1, dx, r1, rx, p1⟩
end
/-! ### the law, called with no repr under way -/
section
variable {P : Program} {w : World} {K : PySem.W.Frag} {mg mb : Str → Option Value} {CX : CXT} {k : Nat} {fa a : Addr} {fd : FuncData} {x : Str} {sp : Sp} {s1 : Shared} {vs : List Value} {ns : List Int}
def EndOk (s1 : Shared) (r : Result) (s2 : Shared) : Prop := r = .ok (.ret (.bool true)) ∧ OldK s1.heap s2.heap ∧ s2.os = s1.os ∧ PyProof.Rows.AllBare s2.gens
theorem law_core {H : Hp} (inK : K.In s1.heap) (nm : s1.heap.Ns mainGlobals mg) (nb : s1.heap.Ns builtinsNs mb) (bb : ∀ x : Str, x ≠ "__name__" → mb x = bootBuiltins x) (noL : s1.heap.NoLimit) (gn : s1.gens = #[])
    (ob : s1.heap.get? a = some { cls := .type "list", data := .seq vs.toArray }) (room : Room k callerA) (F : ∀ base : Heap, K.In base → base.Ns mainGlobals mg → FnQ P w K mg base CX k fa fd [x] sp)
    (bn : ∀ (s : Shared) (u : Value), BindsTo s fd ⟨[u], []⟩ [(x, u)]) (hO : Only H) (want : sp [.ref a] H (fun v _ => v = .bl true) fun _ _ _ => False) (noE : ∀ H e s', CX [] H s1 (fun _ _ _ => False) e s' → False)
    (ok : HOk P w H s1.heap) (at_ : ∀ b, H b ≠ none → b = a) (own : H a ≠ none → K.lookup a = none) : codeAny (model P w) callerA (.call (.ref fa) ⟨[.ref a], []⟩) (EndOk s1) s1 := by
  have free : ∀ {b : Addr} {o : Obj} {es : Array DictEntry} {ep : Nat}, s1.heap.get? b = some o → o.data = .dict es ep → H b = none := by
    intro b o es ep e d
    by_cases q : H b = none
    · exact q
    · have := at_ b q
      subst this
      rw [ob] at e
      cases e
      cases (show Data.seq vs.toArray _ = Data.dict es ep from d)
  have keepN : ∀ {b : Addr} {m : Str → Option Value}, s1.heap.Ns b m → (hidT s1.heap H).Ns b m := by
    rintro b m ⟨o, es, ep, e, d, r⟩
    exact ⟨o, es, ep, hidT_get e (free e d), d, r⟩
  have keepK : K.In (hidT s1.heap H) := by
    intro b o e
    refine hidT_get (inK b o e) ?_
    by_cases q : H b = none
    · exact q
    · have := at_ b q
      subst this
      rw [own q] at e
      cases e
  have md : Mod K mg (hidT s1.heap H) := by
    obtain ⟨mc, l1, l2⟩ := noL
    exact ⟨keepK, keepN nm, ⟨mb, keepN nb, bb⟩, ⟨mc, keepN l1, l2⟩⟩
  have en : Env0 P w K mg (hidT s1.heap H) callerA [] s1 H := by
    refine ⟨rfl, md, fun b o e => of_hidT e, Nat.le_of_eq (hidT_size _ _), trivial, ?_, ok, .of_eq gn⟩
    intro b hb
    cases hb
  refine codeAny_mono ((F _ keepK (keepN nm)).run callerA rfl room [] s1 H ⟨[.ref a], []⟩ [.ref a] [.ref a] _ _ en (bn s1 (.ref a)) (.cons rfl .nil) want) ?_
  intro r s2 h
  rcases r with e | fl
  · exact (noE H e s2 h).elim
  rcases fl with _ | _ | _ | u
  all_goals first | exact False.elim h | skip
  obtain ⟨v, H2, o2, b2, un, ok2, rv, q⟩ := h
  cases (show v = .bl true from q)
  cases (show u = Value.bool true from rv)
  refine ⟨rfl, OldK.of_keep fun b o e => ?_, o2, b2⟩
  cases q : H b with
  | none => exact un.keep b o e q (fun z => by cases z) (fun z => by cases z)
  | some u =>
    rcases hO b with z | ⟨ob', xs, z⟩
    · rw [q] at z; cases z
    · have z2 := un.frzs b ob' _ z
      have e1 := (ok b _ z).1
      have e2 := (ok2 b _ z2).1
      rw [e] at e1
      cases e1
      exact e2
theorem law_callQ (inK : K.In s1.heap) (nm : s1.heap.Ns mainGlobals mg) (nb : s1.heap.Ns builtinsNs mb) (bb : ∀ x : Str, x ≠ "__name__" → mb x = bootBuiltins x) (noL : s1.heap.NoLimit) (gn : s1.gens = #[])
    (ob : s1.heap.get? a = some { cls := .type "list", data := .seq vs.toArray }) (it : PyProof.Rows.IntsAre vs ns) (sml : ns.length ≤ sizeLine) (room : Room k callerA) (F : ∀ base : Heap, K.In base → base.Ns mainGlobals mg → FnQ P w K mg base CX k fa fd [x] sp)
    (bn : ∀ (s : Shared) (u : Value), BindsTo s fd ⟨[u], []⟩ [(x, u)]) (want : ∀ H : Hp, Only H → SqL K H a (ns.map V.int) → sp [.ref a] H (fun v _ => v = .bl true) fun _ _ _ => False) (noE : ∀ H e s', CX [] H s1 (fun _ _ _ => False) e s' → False) :
    codeAny (model P w) callerA (.call (.ref fa) ⟨[.ref a], []⟩) (EndOk s1) s1 := by
  have rv := vals_ints it
  have ln := it.length
  have go := fun H hO hw h1 h2 h3 => law_core (H := H) inK nm nb bb noL gn ob room F bn hO hw noE h1 h2 h3
  cases hk : K.lookup a with
  | some o =>
    have e := inK a o hk
    rw [ob] at e
    cases e
    refine go (fun _ => none) (fun _ => .inl rfl) (want _ (fun _ => .inl rfl) (.inr ⟨_, vs.toArray, _, hk, rfl, rfl, rfl, ?_, ?_⟩)) ?_ ?_ ?_
    · rw [List.size_toArray, ln]; exact sml
    · simpa using rv
    · intro b u z; cases z
    · intro b z; exact absurd rfl z
    · intro z; exact absurd rfl z
  | none =>
    let H : Hp := fun b => if b = a then some (.frz { cls := .type "list", data := .seq vs.toArray } (.lst (ns.map V.int))) else none
    have ha : H a = some (.frz { cls := .type "list", data := .seq vs.toArray } (.lst (ns.map V.int))) := if_pos rfl
    have hn : ∀ b, b ≠ a → H b = none := fun b hb => if_neg hb
    have hO : Only H := fun b => by
      by_cases hb : b = a
      · subst hb; exact .inr ⟨_, _, ha⟩
      · exact .inl (hn b hb)
    refine go H hO (want H hO (.inl (.inr ⟨_, ha⟩))) (fun b u z => ?_) (fun b z => ?_) (fun _ => hk)
    · by_cases hb : b = a
      · subst hb
        rw [ha] at z
        cases z
        exact ⟨ob, by rw [List.length_map]; exact sml, vs, _, rv, ob⟩
      · rw [hn b hb] at z
        cases z
    · by_cases hb : b = a
      · exact hb
      · exact absurd (hn b hb) z
end
theorem walkQ {l : PySem.W.OpenLaw} {n k : Nat} {q : Program} {loose : List Str} {XP : (Str → Option Value) → Heap → Prop} {YP : World → Heap → Prop} {d : DefRec} {K : Params → PySem.W.Frag} {CX : World → CXT} {sp : World → Sp} {x : Str}
    (h1 : l.most = some n) (h2 : n ≤ sizeLine) (h3 : d.params.defaults = []) (h4 : Room k callerA) (h5 : ∀ (w : World) (h : Heap), YP w h → (K w.params).In h)
    (F : ∀ (w : World) (mg : Str → Option Value) (fa : Addr) (h : Heap), (K w.params).In h → h.Ns mainGlobals mg → mg d.name = some (.ref fa) →
      ∃ fd : FuncData, (∀ (s : Shared) (u : Value), BindsTo s fd ⟨[u], []⟩ [(x, u)]) ∧ ∀ base : Heap, (K w.params).In base → base.Ns mainGlobals mg → FnQ l.prog w (K w.params) mg base (CX w) k fa fd [x] (sp w))
    (h6 : ∀ (w : World) (H : Hp) (a : Addr) (ns : List Int), ns.length ≤ n → SqL (K w.params) H a (ns.map V.int) → sp w [.ref a] H (fun v _ => v = .bl true) fun _ _ _ => False)
    (h7 : ∀ (w : World) (H : Hp) (s : Shared) (e : Value) (s' : Shared), CX w [] H s (fun _ _ _ => False) e s' → False) :
    PySem.W.WalkO q loose XP YP l.row.toRowW d [] (fun f vs => PySem.call f vs) := by
  refine Att.attach_call h1 h3 ?_
  intro w s0 s1 mg mb fa o pm cd doc a vs ns G Y ho hd hcd hmg hobj hints hlen hg
  have inK := h5 w _ Y
  obtain ⟨fd, hb, hF⟩ := F w mg fa _ inK G.T.g hmg
  exact law_callQ inK G.T.g G.T.b G.T.builtins G.T.nolimit hg hobj hints (Nat.le_trans hlen h2) h4 hF hb (fun H _ hS => h6 w H a ns hlen hS) (fun H e s' => h7 w H s1 e s')
end G
namespace G
open PySem L2
/-! ### repr of data: none, flags, whole numbers, texts, lists, tuples, dicts -/
def keyPy : Key → PyData
  | .inl i => .int i
  | .inr x => .str x
mutual
inductive Dq (K : PySem.W.Frag) (H : Hp) : V → PyData → Prop
  | non : Dq K H .non .none
  | bl (b : Bool) : Dq K H (.bl b) (.bool b)
  | int (i : Int) : Dq K H (.int i) (.int i)
  | str (x : Str) : Dq K H (.str x) (.str x)
  | lst {a : Addr} {xs : List V} {ds : List PyData} : SqL K H a xs → DqAll K H xs ds → Dq K H (.ref a) (.list ds)
  | tup {a : Addr} {xs : List V} {ds : List PyData} : SqT K H a xs → DqAll K H xs ds → Dq K H (.ref a) (.tuple ds)
  | dct {a : Addr} {vs : List (Key × V)} {ds : List (PyData × PyData)} : Rd H a (.dK vs) → DqKv K H vs ds → Dq K H (.ref a) (.dict ds)
inductive DqAll (K : PySem.W.Frag) (H : Hp) : List V → List PyData → Prop
  | nil : DqAll K H [] []
  | cons {v : V} {vs : List V} {d : PyData} {ds : List PyData} : Dq K H v d → DqAll K H vs ds → DqAll K H (v :: vs) (d :: ds)
inductive DqKv (K : PySem.W.Frag) (H : Hp) : List (Key × V) → List (PyData × PyData) → Prop
  | nil : DqKv K H [] []
  | cons {k : Key} {v : V} {vs : List (Key × V)} {d : PyData} {ds : List (PyData × PyData)} : Dq K H v d → DqKv K H vs ds → DqKv K H ((k, v) :: vs) ((keyPy k, d) :: ds)
end
mutual
def noL : PyData → Bool
  | .list _ => false
  | .tuple xs => noLs xs
  | .dict kvs => noLk kvs
  | _ => true
def noLs : List PyData → Bool
  | [] => true
  | x :: xs => noL x && noLs xs
def noLk : List (PyData × PyData) → Bool
  | [] => true
  | (_, v) :: r => noL v && noLk r
end
theorem reads_keys {P : Program} {w : World} {h : Heap} {K : PySem.W.Frag} {H : Hp} : ∀ (es : List DictEntry) (kvs : List (Key × Value)) (vs : List (Key × V)) (ds : List (PyData × PyData)), Pairs (mixKind P w) es kvs → KV vs kvs → DqKv K H vs ds → ReadsAll h (es.map (·.key)) (ds.map (·.1)) []
  | [], _, _, _, pr, kv, dq => by
    cases pr
    cases kv
    cases dq
    exact .nil
  | en :: es, _, _, _, pr, kv, dq => by
    cases pr with | cons hk hv t =>
    cases kv with | cons e kv =>
    cases dq with | @cons k v vs d ds h1 dq =>
    have ih := reads_keys (h := h) es _ _ _ t kv dq
    obtain ⟨e1, e2⟩ := e
    dsimp only at e1
    have r1 : Reads h en.key (keyPy k) [] := by
      rcases keyIs_shape (k := k) (by rw [e1]; exact hk) with ⟨i, tk, rfl, e⟩ | ⟨x, tk, rfl, e⟩
      · rw [e]; exact .int i tk
      · rw [e]; exact .str x tk
    exact .cons r1 ih
section
variable {X : Cx} {pins : List (Addr × Obj)} {σ : St} {H : Hp} {s : Shared}
mutual
theorem Dq.reads (I : Inv X pins σ H s) : ∀ (d : PyData) (v : V) (u : Value), Dq X.K H v d → RelV v u → ∃ as, Reads s.heap u d as ∧ (noL d = true → sysModules ∉ as)
  | .none, _, _, h, r => by
    cases h
    cases r
    exact ⟨_, .none, fun _ z => by cases z⟩
  | .bool b, _, _, h, r => by
    cases h
    cases r
    exact ⟨_, .bool b, fun _ z => by cases z⟩
  | .int i, _, _, h, r => by
    cases h
    obtain ⟨t, rfl⟩ := r
    exact ⟨_, .int i t, fun _ z => by cases z⟩
  | .str x, _, _, h, r => by
    cases h
    obtain ⟨t, rfl⟩ := r
    exact ⟨_, .str x t, fun _ z => by cases z⟩
  | .list ds, _, _, h, r => by
    cases h with | lst hs ha =>
    cases r
    obtain ⟨its, rv, ⟨o, n, ho, hc, _, hd⟩, _⟩ := I.list hs
    obtain ⟨as, hr, _⟩ := Dq.readsAll I ds _ its ha rv
    exact ⟨_, .list ho hc hd hr, fun z => by simp [noL] at z⟩
  | .tuple ds, _, _, h, r => by
    cases h with | tup hs ha =>
    cases r
    obtain ⟨its, rv, ⟨o, ho, hc, n, hd⟩, _⟩ := I.tuple hs
    obtain ⟨as, hr, hn⟩ := Dq.readsAll I ds _ its ha rv
    exact ⟨_, .tuple ho hc hd hr, fun z => hn (by simpa [noL] using z)⟩
  | .dict ds, _, _, h, r => by
    cases h with | dct hs ha =>
    cases r
    obtain ⟨_, ns, vs', kv, o, es, ep, ho, ex, hd, _, pr, _⟩ := dk_rd I.hok hs
    obtain ⟨bs, hr, hn⟩ := Dq.readsKv I ds _ _ _ ha kv pr
    refine ⟨_, .dict ho ex.1 hd (reads_keys _ _ _ _ pr kv ha) hr, fun z => ?_⟩
    have z2 := hn (by simpa [noL] using z)
    intro m
    rcases List.mem_append.mp m with m | m
    · rcases List.mem_cons.mp m with m | m
      · rw [← m] at ns
        simp at ns
      · cases m
    · exact z2 m
theorem Dq.readsAll (I : Inv X pins σ H s) : ∀ (ds : List PyData) (vs : List V) (us : List Value), DqAll X.K H vs ds → Vals vs us → ∃ as, ReadsAll s.heap us ds as ∧ (noLs ds = true → sysModules ∉ as)
  | [], _, _, h, r => by
    cases h
    cases r
    exact ⟨_, .nil, fun _ z => by cases z⟩
  | d :: ds, _, _, h, r => by
    cases h with | cons h1 h2 =>
    cases r with | cons r1 r2 =>
    obtain ⟨as, q1, n1⟩ := Dq.reads I d _ _ h1 r1
    obtain ⟨bs, q2, n2⟩ := Dq.readsAll I ds _ _ h2 r2
    refine ⟨_, .cons q1 q2, fun z m => ?_⟩
    have z : noL d = true ∧ noLs ds = true := by simpa [noLs] using z
    rcases List.mem_append.mp m with m | m
    · exact n1 z.1 m
    · exact n2 z.2 m
theorem Dq.readsKv (I : Inv X pins σ H s) : ∀ (ds : List (PyData × PyData)) (vs : List (Key × V)) (kvs : List (Key × Value)) (es : List DictEntry), DqKv X.K H vs ds → KV vs kvs → Pairs (mixKind X.prog X.w) es kvs → ∃ as, ReadsAll s.heap (es.map (·.val)) (ds.map (·.2)) as ∧ (noLk ds = true → sysModules ∉ as)
  | [], _, _, _, h, kv, pr => by
    cases h
    cases kv
    cases pr
    exact ⟨_, .nil, fun _ z => by cases z⟩
  | (k, d) :: ds, _, _, _, h, kv, pr => by
    cases h with | @cons _ v _ _ _ h1 h2 =>
    cases kv with | cons e kv =>
    cases pr with | @cons en _ _ _ hk hv pr =>
    obtain ⟨as, q1, n1⟩ := Dq.reads I d _ _ h1 (show RelV v en.val by rw [hv]; exact e.2)
    obtain ⟨bs, q2, n2⟩ := Dq.readsKv I ds _ _ _ h2 kv pr
    refine ⟨_, .cons q1 q2, fun z m => ?_⟩
    have z : noL d = true ∧ noLk ds = true := by simpa [noLk] using z
    rcases List.mem_append.mp m with m | m
    · exact n1 z.1 m
    · exact n2 z.2 m
end
end
/-- repr(x) -/
def rRepr (K : PySem.W.Frag) : List V → Hp → VK → Prop := fun xs H Q => ∃ v d, xs = [v] ∧ Dq K H v d ∧ d.showable = true ∧ (d.hasDict = true → noL d = true) ∧ d.shown.length ≤ sizeLine ∧ d.depth ≤ 100 ∧ Q (.str d.shown) H
theorem cr_repr {X : Cx} {k : Nat} (hq : Quiet X.A) (hr : Room k X.A) : CallR X (.builtin "repr") (rRepr X.K) := by
  intro pins s σ H xs us Q I rr ⟨v, d, ex, hd, hs, hl, hz, hp, q⟩
  subst ex
  obtain ⟨u, eu, ru⟩ := vals1 rr
  subst eu
  obtain ⟨as, rd, ns⟩ := Dq.reads I d v u hd ru
  have un := hr.un
  cases rd with
  | none => exact PySem.P.repr_of_none ⟨.str _, H, I.tok _, ⟨_, rfl⟩, q⟩
  | bool b => exact PySem.P.repr_of_bool ⟨.str _, H, I.tok _, ⟨_, rfl⟩, by cases b <;> exact q⟩
  | int i t => exact PySem.P.repr_of_int (of_decide_eq_true hs) ⟨.str _, H, I.tok _, ⟨_, rfl⟩, q⟩
  | str x t => exact PySem.P.repr_of_str ⟨.str _, H, I.tok _, ⟨_, rfl⟩, q⟩ hz
  | list h1 h2 h3 h4 => exact repr_of_reads' (.list h1 h2 h3 h4) hs (fun z => ns (hl z)) hq (by omega) (fun _ _ e => e) (fun h' u tk kp => ⟨.str _, H, I.kept kp, ⟨_, rfl⟩, q⟩) hz
  | tuple h1 h2 h3 h4 => exact repr_of_reads' (.tuple h1 h2 h3 h4) hs (fun z => ns (hl z)) hq (by omega) (fun _ _ e => e) (fun h' u tk kp => ⟨.str _, H, I.kept kp, ⟨_, rfl⟩, q⟩) hz
  | dict h1 h2 h3 h4 h5 => exact repr_of_reads' (.dict h1 h2 h3 h4 h5) hs (fun z => ns (hl z)) hq (by omega) (fun _ _ e => e) (fun h' u tk kp => ⟨.str _, H, I.kept kp, ⟨_, rfl⟩, q⟩) hz
/-! its semantics -/
def mapO {α β : Type} (f : α → Option β) : List α → Option (List β)
  | [] => some []
  | x :: xs => (match f x, mapO f xs with
    | some y, some ys => some (y :: ys)
    | _, _ => none)
theorem mapO_cons {α β : Type} {f : α → Option β} {x : α} {xs : List α} {ys : List β} (h : mapO f (x :: xs) = some ys) : ∃ y zs, f x = some y ∧ mapO f xs = some zs ∧ ys = y :: zs := by
  unfold mapO at h
  cases e1 : f x with
  | none => rw [e1] at h; cases h
  | some y =>
    cases e2 : mapO f xs with
    | none => rw [e1, e2] at h; cases h
    | some zs =>
      rw [e1, e2] at h
      cases h
      exact ⟨y, zs, rfl, rfl, rfl⟩
/-- what a value shows; live lists and dicts are looked up, to a depth -/
def shD (S : Store) : Nat → D → Option PyData
  | 0, _ => none
  | _ + 1, .non => some .none
  | _ + 1, .bl b => some (.bool b)
  | _ + 1, .int i => some (.int i)
  | _ + 1, .str x => some (.str x)
  | n + 1, .tup xs => (mapO (shD S n) xs).map .tuple
  | n + 1, .lst xs => (mapO (shD S n) xs).map .list
  | n + 1, .dct kvs => (mapO (fun kv : Key × D => (shD S n kv.2).map fun v => (keyPy kv.1, v)) kvs).map .dict
  | n + 1, .ref a => (match S[a]? with
    | some (.lst xs) => (mapO (shD S n) xs).map .list
    | some (.dct kvs) => (mapO (fun kv : Key × D => (shD S n kv.2).map fun v => (keyPy kv.1, v)) kvs).map .dict
    | some (.ldc kvs) => (mapO (fun kv : Key × D => (shD S n kv.2).map fun v => (keyPy kv.1, v)) kvs).map .dict
    | _ => none)
  | _ + 1, _ => none
section
variable {K : PySem.W.Frag} {cl : Str → Option Addr} {W : Wd} {H : Hp} {S : Store}
theorem dqs_of {n : Nat} (ih : ∀ (v : V) (d : D) (q : PyData), Rep K cl W v d → shD S n d = some q → Dq K H v q) : ∀ {vs : List V} {ds : List D} {qs : List PyData}, Reps K cl W vs ds → mapO (shD S n) ds = some qs → DqAll K H vs qs
  | _, _, _, .nil, e => by cases e; exact .nil
  | _, _, _, .cons h t, e => by
    obtain ⟨y, zs, e1, e2, rfl⟩ := mapO_cons e
    exact .cons (ih _ _ _ h e1) (dqs_of ih t e2)
theorem dqk_of {n : Nat} (ih : ∀ (v : V) (d : D) (q : PyData), Rep K cl W v d → shD S n d = some q → Dq K H v q) : ∀ {vs : List (Key × V)} {ds : List (Key × D)} {qs : List (PyData × PyData)}, RepK K cl W vs ds → mapO (fun kv : Key × D => (shD S n kv.2).map fun v => (keyPy kv.1, v)) ds = some qs → DqKv K H vs qs
  | _, _, _, .nil, e => by cases e; exact .nil
  | _, _, _, .cons h t, e => by
    obtain ⟨y, zs, e1, e2, rfl⟩ := mapO_cons e
    dsimp only at e1
    obtain ⟨q, eq, rfl⟩ := Option.map_eq_some_iff.mp e1
    exact .cons (ih _ _ _ h eq) (dqk_of ih t e2)
theorem dq_of (r : R K cl W H S) : ∀ (n : Nat) (v : V) (d : D) (q : PyData), Rep K cl W v d → shD S n d = some q → Dq K H v q
  | 0, _, _, _, _, e => by cases e
  | n + 1, v, d, q, h, e => by
    have ih := dq_of r n
    cases h with
    | non => cases e; exact .non
    | bl b => cases e; exact .bl b
    | int i => cases e; exact .int i
    | str x => cases e; exact .str x
    | tup g t =>
      unfold shD at e
      obtain ⟨qs, eq, rfl⟩ := Option.map_eq_some_iff.mp e
      exact .tup (sqT_up r.sub g) (dqs_of ih t eq)
    | lst g t =>
      unfold shD at e
      obtain ⟨qs, eq, rfl⟩ := Option.map_eq_some_iff.mp e
      exact .lst (SqL.of (r.sub _ _ g)) (dqs_of ih t eq)
    | dct g t =>
      unfold shD at e
      obtain ⟨qs, eq, rfl⟩ := Option.map_eq_some_iff.mp e
      exact .dct (.inr ⟨_, r.sub _ _ g⟩) (dqk_of ih t eq)
    | @ref a hn =>
      unfold shD at e
      cases q1 : S[a]? with
      | none => rw [q1] at e; cases e
      | some mo =>
        rw [q1] at e
        cases mo with
        | lst ys =>
          obtain ⟨_, vs, h1, h2⟩ := r.live a _ q1 (by intro z; cases z)
          obtain ⟨qs, eq, rfl⟩ := Option.map_eq_some_iff.mp e
          exact .lst (SqL.of h1) (dqs_of ih h2 eq)
        | dct ys =>
          obtain ⟨_, vs, h1, h2⟩ := r.live a _ q1 (by intro z; cases z)
          obtain ⟨qs, eq, rfl⟩ := Option.map_eq_some_iff.mp e
          exact .dct (.inl h1) (dqk_of ih h2 eq)
        | ldc ys =>
          obtain ⟨_, o, vs, h1, h2⟩ := r.live a _ q1 (by intro z; cases z)
          obtain ⟨qs, eq, rfl⟩ := Option.map_eq_some_iff.mp e
          exact .dct (.inr ⟨o, h1⟩) (dqk_of ih h2 eq)
        | ins c fs => cases e
        | dead => cases e
    | _ => cases e
/-- what is fit to be shown -/
def ShOk (q : PyData) : Prop := q.showable = true ∧ (q.hasDict = true → noL q = true) ∧ q.shown.length ≤ sizeLine ∧ q.depth ≤ 100
open Classical in
noncomputable def reprD (as : List D) (S : Store) : Res D := match as with
  | [x] => (match shD S 50 x with
    | some q => if ShOk q then .ok (.str q.shown) S else .stk
    | none => .stk)
  | _ => .stk
theorem repr_s : FnS K cl (rRepr K) reprD := by
  intro W H S x a Q E r rx p
  unfold reprD at p
  split at p
  · cases rx with | cons rx rn =>
    cases rn
    split at p
    · rename_i q eq
      split at p
      · rename_i hz
        exact ⟨_, q, rfl, dq_of r 50 _ _ _ rx eq, hz.1, hz.2.1, hz.2.2.1, hz.2.2.2, p.now r (.str _)⟩
      · exact p.elim
    · exact p.elim
  · exact p.elim
theorem repr_run {x : D} {q : PyData} (h : shD S 50 x = some q) (ok : ShOk q) : reprD [x] S = .ok (.str q.shown) S := by
  unfold reprD
  dsimp only
  rw [h]
  exact if_pos ok
end
theorem bt_repr : bootBuiltins "repr" = some (.builtin "repr") := by decide +kernel
end G
namespace G
open PySem L2
section
variable {P : Program} {w : World} {K : PySem.W.Frag} {mg : Str → Option Value} {base : Heap} {cl : Str → Option Addr} {k n : Nat} {f : Addr} {fd : FuncData} {ps : List Str} {g : List D → Store → Res D}
end
end G
namespace G
open PySem L2
/-- behind a statement: what the name i holds, a live dict, is seen as frozen from here on -/
def ghR (i : Nat) (ρ : Sl) (S : Store) : Out := match ρ[i]? with
  | some (some (.ref n)) => (match S[n]? with
    | some (.dct kvs) => .nx (ρ.set i (some (.dct kvs))) (S.set n .dead)
    | _ => .stk)
  | _ => .stk
def ghz (i : Nat) (m : MS) : MS := fun ρ S => match m ρ S with
  | .nx ρ1 S1 => ghR i ρ1 S1
  | o => o
section
variable {X : Cx} {cl : Str → Option Addr} {E : WX} {st : Stmt} {m : MS} {i : Nat} {t : TS}
theorem ps_frz (h : PS X st t) : PS X st (fun D σ H => t { nx := fun σ1 H1 => ∃ d u, H1 d = some u ∧ Mut (some u) ∧ ∀ od, D.nx σ1 (upd H1 d (.frz od u)), rt := D.rt, bk := D.bk, ct := D.ct } σ H) :=
  ⟨fun pins s σ H D I hw => thn (h.run pins s σ H _ I hw) fun f s1 hs => by
    rcases f with _ | _ | _ | u
    · obtain ⟨σ1, H1, I1, d, u, hd, mu, q⟩ := hs
      obtain ⟨od, I2⟩ := I1.lock hd mu
      exact ⟨σ1, _, I2, q od⟩
    all_goals exact hs⟩
theorem s_ghz (h : PS X st (Ts X.K cl E m)) : PS X st (Ts X.K cl E (ghz i m)) := by
  refine ⟨fun pins s σ H D I hw => (ps_frz h).run pins s σ H D I ?_⟩
  obtain ⟨W, ρ, S, hr, en, p⟩ := hw
  refine ⟨W, ρ, S, hr, en, ?_⟩
  unfold ghz at p
  cases e : m ρ S with
  | nx ρ1 S1 =>
    rw [e] at p
    intro W1 H1 σ1 l1 r1 e1
    unfold ghR at p
    dsimp only at p
    split at p
    · rename_i n en
      split at p
      · rename_i kvs ek
        obtain ⟨v, hv, rv⟩ := e1.at' i _ en
        cases rv with | ref hn =>
        obtain ⟨g0, vs, ha, t⟩ := r1.live n _ ek (by intro z; cases z)
        refine ⟨_, .dK vs, ha, True.intro, fun od => ?_⟩
        obtain ⟨r2, l2⟩ := r1.kilF (o := .frz od (.dK vs)) ek (by intro z; cases z)
        refine p _ _ _ (l1.tr l2) r2 ?_
        have z := (e1.up l2).set (v := .ref (W1.ι n)) i (.dct upd_same (t.up l2))
        have : σ1.set i (some (.ref (W1.ι n))) = σ1 := by
          apply List.ext_getElem?
          intro j
          by_cases hj : i = j
          · subst hj
            rw [List.getElem?_set_self (List.getElem?_eq_some_iff.mp hv).1, hv]
          · rw [List.getElem?_set_ne hj]
        rw [this] at z
        exact z
      · exact p.elim
    · exact p.elim
  | rt d S1 => rw [e] at p; exact p
  | bk ρ1 S1 => rw [e] at p; exact p
  | ct ρ1 S1 => rw [e] at p; exact p
  | exc x ρ1 S1 => rw [e] at p; exact p
  | stk => rw [e] at p; exact p.elim
end
end G
namespace G
open PySem L2
/-! ### how long a text is that repr makes -/
mutual
def wdt : PyData → Nat
  | .none => 4
  | .bool _ => 5
  | .int i => i.natAbs.log2 + 2
  | .str x => 10 * x.length + 2
  | .list xs => wdts xs + 2
  | .tuple xs => wdts xs + 3
  | .dict kvs => wdtk kvs + 2
def wdts : List PyData → Nat
  | [] => 0
  | x :: xs => wdt x + 2 + wdts xs
def wdtk : List (PyData × PyData) → Nat
  | [] => 0
  | (k, v) :: r => wdt k + 2 + wdt v + 2 + wdtk r
end
mutual
def okc : PyData → Bool
  | .int i => decide (i.natAbs.log2 < 1920)
  | .str x => PyData.strOk x
  | .list xs => okcs xs
  | .tuple xs => okcs xs
  | .dict kvs => okck kvs
  | _ => true
def okcs : List PyData → Bool
  | [] => true
  | x :: xs => okc x && okcs xs
def okck : List (PyData × PyData) → Bool
  | [] => true
  | (k, v) :: r => okc k && okc v && okck r
end
theorem app_len (a b : Str) : (a ++ b).length = a.length + b.length := by
  show (a.cps ++ b.cps).size = _
  rw [Array.size_append]
  rfl
theorem join_len2 : ∀ ts : List Str, (Str.join ", " ts).length ≤ (ts.map fun t => t.length + 2).sum
  | [] => Nat.le_refl _
  | t :: ts => by
    have := join_length_add (t :: ts) (by simp)
    unfold piled at this
    omega
theorem tf_len : ∀ (ts : List Str) (k : Nat) (acc : Str), (textFrom k acc ts).length ≤ acc.length + (ts.map fun t => t.length + 2).sum
  | [], k, acc => by unfold textFrom; simp
  | t :: ts, k, acc => by
    unfold textFrom
    have ih := tf_len ts (k + 1) (acc ++ (if k > 0 then ", " else "" : String) ++ t)
    have e : ((if k > 0 then ", " else "" : String) : Str).length ≤ 2 := by split <;> decide
    rw [app_len, app_len] at ih
    rw [List.map_cons, List.sum_cons]
    omega
theorem str_ok16 {x : Str} (h : PyData.strOk x = true) : ∀ c ∈ x.cps.toList, c < 16 ^ 8 := by
  intro c hc
  unfold PyData.strOk at h
  rw [Array.all_eq_true] at h
  obtain ⟨i, hi, e⟩ := List.getElem_of_mem hc
  rw [Array.length_toList] at hi
  have := of_decide_eq_true (h i hi)
  rw [Array.getElem_toList] at e
  rw [← e]
  omega
mutual
theorem shown_le : ∀ d : PyData, okc d = true → d.shown.length ≤ wdt d
  | .none, _ => by decide
  | .bool b, _ => by cases b <;> decide
  | .int i, h => by
    have e := int_text_length_le (a := i) (k := i.natAbs.log2 + 1) (by omega) (by omega)
    have : (PyData.int i).shown.length = (toString i).length := by
      show (Str.ofString (toString i)).length = _
      exact PySem.ofString_length _
    rw [this]
    show _ ≤ i.natAbs.log2 + 2
    exact e
  | .str x, h => PySem.StrLaws.reprText_len x (str_ok16 h)
  | .list xs, h => by
    have ih := shownAll_le xs h
    have t := tf_len (PyData.shownAll xs) 0 "["
    have e : (PyData.list xs).shown.length = (textFrom 0 "[" (PyData.shownAll xs)).length + 1 := by
      rw [PyData.shown]
      unfold listText
      rw [app_len]
      rfl
    have e1 : ("[" : Str).length = 1 := rfl
    have e2 : wdt (.list xs) = wdts xs + 2 := by rw [wdt]
    omega
  | .tuple xs, h => by
    have ih := shownAll_le xs h
    have t := join_len2 (PyData.shownAll xs)
    have e : (PyData.tuple xs).shown.length ≤ (Str.join ", " (PyData.shownAll xs)).length + 3 := by
      rw [PyData.shown]
      unfold tupleText
      rw [app_len, app_len]
      have e1 : ((("(" : String) : Str)).length = 1 := rfl
      have e3 : ((if (PyData.shownAll xs).length == 1 then ",)" else ")" : String) : Str).length ≤ 2 := by split <;> decide
      omega
    have e2 : wdt (.tuple xs) = wdts xs + 3 := by rw [wdt]
    omega
  | .dict kvs, h => by
    have ih := shownKv_le kvs h
    have t := join_len2 (PyData.shownKv kvs)
    have e : (PyData.dict kvs).shown.length = (Str.join ", " (PyData.shownKv kvs)).length + 2 := by
      rw [PyData.shown]
      unfold dictText
      rw [app_len, app_len]
      have e1 : ((("{" : String) : Str)).length = 1 := rfl
      have e3 : ((("}" : String) : Str)).length = 1 := rfl
      omega
    have e2 : wdt (.dict kvs) = wdtk kvs + 2 := by rw [wdt]
    omega
theorem shownAll_le : ∀ xs : List PyData, okcs xs = true → ((PyData.shownAll xs).map fun t => t.length + 2).sum ≤ wdts xs
  | [], _ => Nat.zero_le _
  | x :: xs, h => by
    unfold okcs at h
    rw [Bool.and_eq_true] at h
    have a := shown_le x h.1
    have b := shownAll_le xs h.2
    rw [PyData.shownAll, wdts, List.map_cons, List.sum_cons]
    omega
theorem shownKv_le : ∀ kvs : List (PyData × PyData), okck kvs = true → ((PyData.shownKv kvs).map fun t => t.length + 2).sum ≤ wdtk kvs
  | [], _ => Nat.zero_le _
  | (k, v) :: r, h => by
    unfold okck at h
    rw [Bool.and_eq_true, Bool.and_eq_true] at h
    have a := shown_le k h.1.1
    have b := shown_le v h.1.2
    have c := shownKv_le r h.2
    rw [PyData.shownKv, wdtk, List.map_cons, List.sum_cons, app_len, app_len]
    have e1 : (((": " : String) : Str)).length = 2 := rfl
    omega
end
mutual
theorem okc_show : ∀ d : PyData, okc d = true → d.showable = true
  | .none, _ => rfl
  | .bool _, _ => rfl
  | .int _, h => h
  | .str _, _ => rfl
  | .list xs, h => by rw [PyData.showable]; exact okcs_show xs h
  | .tuple xs, h => by rw [PyData.showable]; exact okcs_show xs h
  | .dict kvs, h => by rw [PyData.showable]; exact okck_show kvs h
theorem okcs_show : ∀ xs : List PyData, okcs xs = true → PyData.showableAll xs = true
  | [], _ => rfl
  | x :: xs, h => by
    unfold okcs at h
    rw [Bool.and_eq_true] at h
    rw [PyData.showableAll, okc_show x h.1, okcs_show xs h.2]
    rfl
theorem okck_show : ∀ kvs : List (PyData × PyData), okck kvs = true → PyData.showableKv kvs = true
  | [], _ => rfl
  | (k, v) :: r, h => by
    unfold okck at h
    rw [Bool.and_eq_true, Bool.and_eq_true] at h
    rw [PyData.showableKv, okc_show k h.1.1, okc_show v h.1.2, okck_show r h.2]
    rfl
end
theorem shOk_of {q : PyData} (h : okc q = true) (hl : q.hasDict = true → noL q = true) (hz : wdt q ≤ 100000) (hp : q.depth ≤ 100) : ShOk q :=
  ⟨okc_show q h, hl, Nat.le_trans (shown_le q h) (sz hz), hp⟩
end G
namespace G
open PySem L2
def top (i : Nat) : Stmt := PySem.Challenge.pw_sparedwork_k05_whole_truths_of_tests.main.body.getD i (.Pass ⟨0, 0, 0, 0⟩)
def c_CHARS : D := .str " !\"#$&'()*+,-./0123456789:;<=>?@ABCDEFGHIJKLMNOPQRSTUVWXYZ[\\]^_`abcdefghijklmnopqrstuvwxyz{|}~"
def c_DIGITS : D := .str "0123456789"
def c_KEPT_WORDS : D := .tup [.str "and", .str "or", .str "not", .str "sure", .str "in", .str "is", .str "empty", .str "begins", .str "always", .str "never", .str "unsure"]
def c_LETTERS : D := .str "abcdefghijklmnopqrstuvwxyz"
def c_MOST_ATOMS : D := .int 48
def c_MOST_LEVELS : D := .int 24
def c_MOST_PIECES : D := .int 4
def c_MOST_VALUES : D := .int 8
def c_OPERATORS : D := .tup [.str "<", .str "<=", .str "==", .str "!=", .str ">", .str ">="]
def c_SLOT_NUMBERS : D := .tup [.str "1", .str "2", .str "3"]
def c_CONSTANTS : List (Str × D) := [("always", .bl true), ("never", .bl false), ("unsure", .non)]
structure Gb (w : World) (K : PySem.W.Frag) (cl : Str → Option Addr) (mg : Str → Option Value) : Prop where
  g_CONSTANTS : KCon K w cl mg "CONSTANTS" c_CONSTANTS
  b_all : mg "all" = none
  b_any : mg "any" = none
  b_bool : mg "bool" = none
  b_dict : mg "dict" = none
  b_int : mg "int" = none
  b_isinstance : mg "isinstance" = none
  b_len : mg "len" = none
  b_list : mg "list" = none
  b_max : mg "max" = none
  b_range : mg "range" = none
  b_repr : mg "repr" = none
  b_str : mg "str" = none
  b_tuple : mg "tuple" = none
  g_CHARS : GlobIs K cl mg "CHARS" c_CHARS
  g_DIGITS : GlobIs K cl mg "DIGITS" c_DIGITS
  g_KEPT_WORDS : GlobIs K cl mg "KEPT_WORDS" c_KEPT_WORDS
  g_LETTERS : GlobIs K cl mg "LETTERS" c_LETTERS
  g_MOST_ATOMS : GlobIs K cl mg "MOST_ATOMS" c_MOST_ATOMS
  g_MOST_LEVELS : GlobIs K cl mg "MOST_LEVELS" c_MOST_LEVELS
  g_MOST_PIECES : GlobIs K cl mg "MOST_PIECES" c_MOST_PIECES
  g_MOST_VALUES : GlobIs K cl mg "MOST_VALUES" c_MOST_VALUES
  g_OPERATORS : GlobIs K cl mg "OPERATORS" c_OPERATORS
  g_SLOT_NUMBERS : GlobIs K cl mg "SLOT_NUMBERS" c_SLOT_NUMBERS
  a_Test__data : AttrOk K cl "_data" ["Test"]
  a_Test__kind : AttrOk K cl "_kind" ["Test"]
  a_Test__parts : AttrOk K cl "_parts" ["Test"]
  xa_column : XAttr K cl "column" ["BadRow"]
  sf_Test : ∀ C, cl "Test" = some C → PySem.W.selfFirst K C = true
  ic_Test : IsC K mg cl "Test" [("Test", true)]
  t_BadRow : TryT K mg cl "BadRow" [("WorkError", false), ("BadTest", false), ("BadRow", true)]
  rs : Rsv cl
section
variable {P : Program} {w : World} {K : PySem.W.Frag} {mg : Str → Option Value} {base : Heap} {cl : Str → Option Addr}
abbrev s_Test_init : Stmt := (inClass (top 25) 0)
theorem sc_Test_init : FnScope ["self", "kind", "data", "parts"] ["self", "kind", "data", "parts"] (defScope s_Test_init) :=
  ⟨rfl, rfl, rfl, by decide +kernel, rfl, by decide +kernel, by decide +kernel⟩
noncomputable def sem_Test_init : MS :=
  (sSeq (sSetF ["Test"] "_kind" (mVar 0) (mVar 1))
  (sSeq (sSetF ["Test"] "_data" (mVar 0) (mVar 2))
  (sSetF ["Test"] "_parts" (mVar 0) (mVar 3))))
noncomputable def fn_Test_init : List D → Store → Res D := runB 4 sem_Test_init
theorem ok_Test_init {f : Addr} {fd : FuncData} (F : Fun K "__init__" "Test.__init__" s_Test_init f fd) (T : Gb w K cl mg) :
    FnOk P w K mg base (L2.CX P w) 1 f fd ["self", "kind", "data", "parts"] (spOf K cl 4 fn_Test_init) :=
  fn_sem F sc_Test_init rfl fun cdv A outer s H E hr =>
  (s_cons (s_fld T.a_Test__kind (t_var 0) (t_var 1))
  (s_cons (s_fld T.a_Test__data (t_var 0) (t_var 2))
  (s_one (s_fld T.a_Test__parts (t_var 0) (t_var 3)))))
theorem mk_Test_init {f : Addr} {fd : FuncData} (F : Fun K "__init__" "Test.__init__" s_Test_init f fd) {C : Addr} (hcl : cl "Test" = some C) (hg : mg "Test" = some (.ref C)) (hM : Mk K C f) (T : Gb w K cl mg) : Mkr P w K mg base cl "Test" 1 4 fn_Test_init :=
  ⟨C, f, fd, ["self", "kind", "data", "parts"], hcl, hg, hM, ok_Test_init F T, (F.binds (ps := ["self", "kind", "data", "parts"]) fun _ _ _ _ _ _ us hl => match us, hl with | [_, _, _, _], _ => rfl)⟩
abbrev s_BadTest_init : Stmt := (inClass (top 3) 0)
theorem sc_BadTest_init : FnScope ["self", "why"] ["self", "why"] (defScope s_BadTest_init) :=
  ⟨rfl, rfl, rfl, by decide +kernel, rfl, by decide +kernel, by decide +kernel⟩
theorem ok_BadTest_init {f : Addr} {fd : FuncData} (F : Fun K "__init__" "BadTest.__init__" s_BadTest_init f fd) : FnOk P w K mg base (L2.CX P w) 1 f fd ["self", "why"] (spErr K ["self", "why"] 2 [("why", 1)]) :=
  err_fn F sc_BadTest_init rfl (by decide) (by decide) fun cdv A outer s H E => (er_cons 1 er_nil)
theorem mk_BadTest_init {f : Addr} {fd : FuncData} (F : Fun K "__init__" "BadTest.__init__" s_BadTest_init f fd) {C : Addr} (hcl : cl "BadTest" = some C) (hg : mg "BadTest" = some (.ref C)) (hx : OexC K C) (hi : PySem.W.findIn K (.ref C) "__init__" = some (some (.ref f))) (ht : PySem.W.typeIn K (.ref f) = some (.type "function")) (hf1 : PySem.W.findIn K (.ref C) "why" = some none) : ErrF P w K mg base cl "BadTest" 1 2 ["self", "why"] [("why", 1)] :=
  ⟨C, f, fd, ["self", "why"], hcl, hg, hx, hi, ht, ok_BadTest_init F, (F.binds (ps := ["self", "why"]) fun _ _ _ _ _ _ us hl => match us, hl with | [_, _], _ => rfl), (by intro q hq; simp only [List.mem_cons, List.not_mem_nil, or_false] at hq; rcases hq with rfl <;> assumption)⟩
abbrev s_Test_atoms : Stmt := (inClass (top 25) 4)
theorem sc_Test_atoms : FnScope ["self", "part", "atom"] ["self"] (defScope s_Test_atoms) :=
  ⟨rfl, rfl, rfl, by decide +kernel, rfl, by decide +kernel, by decide +kernel⟩
noncomputable def sem_Test_atoms (rec : List D → Store → Res D) : MS :=
  (sSeq (sIf (mNot (mTru (mUn (fldD ["Test"] "_parts") (mVar 0))))
  (sRet (mFn lstD (mCons (mVar 0) mNil)))
  sPass)
  (sRet (mComp2 (mIt (mUn (fldD ["Test"] "_parts") (mVar 0))) (ptN 1) mYes (mIt (mMeth [("Test", rec)] "atoms" 1 (mVar 1) mNil)) (ptN 2) mYes (mVar 2) [1, 2] [2] frzD)))
noncomputable def fn_Test_atoms : Nat → List D → Store → Res D
  | 0 => fun _ _ => .stk
  | j + 1 => runB 3 (sem_Test_atoms (fn_Test_atoms j))
theorem ok_Test_atoms {k : Nat} {rec : List D → Store → Res D} {f : Addr} {fd : FuncData} (hk : 0 ≤ k) (F : Fun K "atoms" "Test.atoms" s_Test_atoms f fd) (T : Gb w K cl mg) (G_Test_atoms : MFn P w K mg base cl "Test" "atoms" k 1 rec) :
    FnOk P w K mg base (L2.CX P w) (k + 1) f fd ["self"] (spOf K cl 1 ((runB 3 (sem_Test_atoms rec)))) :=
  fn_sem F sc_Test_atoms rfl fun cdv A outer s H E hr =>
  (s_cons (s_if (tt_not (tt_tru (t_fld T.a_Test__parts (t_var 0))))
  (s_one (s_ret (t_lst (ta_cons (t_var 0) ta_nil))))
  s_nil)
  (s_one (s_ret (t_lc2 [("part", 1), ("atom", 2)] [2] frz_s rfl sc_Test_atoms.nd (i_seq (t_fld T.a_Test__parts (t_var 0))) (blkOk_by (N := ["self", "part", "atom"]) (sc := defScope s_Test_atoms) (by decide +kernel)) (fun _ _ _ _ _ => (g_name 1 sc_Test_atoms.nd)) (fun _ _ _ _ _ => tts_nil) (fun _ _ _ _ _ => (i_seq (t_meth0 (mt_cons G_Test_atoms mt_nil) mt_ex (hr.mono (by omega)) takes0 (t_var 1)))) (fun _ _ _ _ _ => (g_name 2 sc_Test_atoms.nd)) (fun _ _ _ _ _ => tts_nil) (fun _ _ _ _ _ => (t_var 2))))))
theorem mk_Test_atoms {f : Addr} {fd : FuncData} (F : Fun K "atoms" "Test.atoms" s_Test_atoms f fd) {C : Addr} (hcl : cl "Test" = some C) (hc : Cls K C) (hm : Meth K C "atoms" f) (T : Gb w K cl mg) : ∀ j : Nat, MFn P w K mg base cl "Test" "atoms" (0 + 1 * j) 1 (fn_Test_atoms j)
  | 0 => ⟨C, f, fd, ["self"], hcl, hc, hm, fn_stk.mono (by omega), (F.binds (ps := ["self"]) fun _ _ _ _ _ _ us hl => match us, hl with | [_], _ => rfl)⟩
  | j + 1 => ⟨C, f, fd, ["self"], hcl, hc, hm, ok_Test_atoms (Nat.le_add_right _ _) F T (mk_Test_atoms F hcl hc hm T j), (F.binds (ps := ["self"]) fun _ _ _ _ _ _ us hl => match us, hl with | [_], _ => rfl)⟩
abbrev s_Test_levels : Stmt := (inClass (top 25) 5)
theorem sc_Test_levels : FnScope ["self", "part"] ["self"] (defScope s_Test_levels) :=
  ⟨rfl, rfl, rfl, by decide +kernel, rfl, by decide +kernel, by decide +kernel⟩
noncomputable def sem_Test_levels (rec : List D → Store → Res D) : MS :=
  (sRet (mFn (exD mxI) (mCons (mOp addD (mFn lstD (mCons (mC (.int 0)) mNil)) (mComp (mIt (mUn (fldD ["Test"] "_parts") (mVar 0))) (ptN 1) mYes (mOp addD (mMeth [("Test", rec)] "levels" 1 (mVar 1) mNil) (mC (.int 1))) [1] frzD)) mNil)))
noncomputable def fn_Test_levels : Nat → List D → Store → Res D
  | 0 => fun _ _ => .stk
  | j + 1 => runB 2 (sem_Test_levels (fn_Test_levels j))
theorem ok_Test_levels {k : Nat} {rec : List D → Store → Res D} {f : Addr} {fd : FuncData} (hk : 0 ≤ k) (F : Fun K "levels" "Test.levels" s_Test_levels f fd) (T : Gb w K cl mg) (G_Test_levels : MFn P w K mg base cl "Test" "levels" k 1 rec) :
    FnOk P w K mg base (L2.CX P w) (k + 1) f fd ["self"] (spOf K cl 1 ((runB 2 (sem_Test_levels rec)))) :=
  fn_sem F sc_Test_levels rfl fun cdv A outer s H E hr =>
  (s_one (s_ret (t_callB (cr_max rfl) max_s T.b_max bt_max (ta_cons (t_op op_addA add_s (t_lst (ta_cons t_int ta_nil)) (t_lc [("part", 1)] frz_s rfl sc_Test_levels.nd (i_seq (t_fld T.a_Test__parts (t_var 0))) (blkOk_by (N := ["self", "part"]) (sc := defScope s_Test_levels) (by decide +kernel)) (fun _ _ _ _ _ => (g_name 1 sc_Test_levels.nd)) (fun _ _ _ _ _ => tts_nil) (fun _ _ _ _ _ => (t_op op_addA add_s (t_meth0 (mt_cons G_Test_levels mt_nil) mt_ex (hr.mono (by omega)) takes0 (t_var 1)) t_int)))) ta_nil))))
theorem mk_Test_levels {f : Addr} {fd : FuncData} (F : Fun K "levels" "Test.levels" s_Test_levels f fd) {C : Addr} (hcl : cl "Test" = some C) (hc : Cls K C) (hm : Meth K C "levels" f) (T : Gb w K cl mg) : ∀ j : Nat, MFn P w K mg base cl "Test" "levels" (0 + 1 * j) 1 (fn_Test_levels j)
  | 0 => ⟨C, f, fd, ["self"], hcl, hc, hm, fn_stk.mono (by omega), (F.binds (ps := ["self"]) fun _ _ _ _ _ _ us hl => match us, hl with | [_], _ => rfl)⟩
  | j + 1 => ⟨C, f, fd, ["self"], hcl, hc, hm, ok_Test_levels (Nat.le_add_right _ _) F T (mk_Test_levels F hcl hc hm T j), (F.binds (ps := ["self"]) fun _ _ _ _ _ _ us hl => match us, hl with | [_], _ => rfl)⟩
abbrev s_limited : Stmt := (top 26)
theorem sc_limited : FnScope ["test"] ["test"] (defScope s_limited) :=
  ⟨rfl, rfl, rfl, by decide +kernel, rfl, by decide +kernel, by decide +kernel⟩
noncomputable def sem_limited : MS :=
  (sSeq (sIf (mTest (mOp gtD (mFn lenD (mCons (mMeth [("Test", (fn_Test_atoms 30))] "atoms" 1 (mVar 0) mNil) mNil)) (mC c_MOST_ATOMS)))
  (sRaise "BadTest" 2 2 [("why", 1)] (mCons (mC (.str "large")) mNil))
  sPass)
  (sSeq (sIf (mTest (mOp gtD (mMeth [("Test", (fn_Test_levels 30))] "levels" 1 (mVar 0) mNil) (mC c_MOST_LEVELS)))
  (sRaise "BadTest" 2 2 [("why", 1)] (mCons (mC (.str "deep")) mNil))
  sPass)
  (sRet (mVar 0))))
noncomputable def fn_limited : List D → Store → Res D := runB 1 sem_limited
theorem ok_limited {f : Addr} {fd : FuncData} (F : Fun K "limited" "limited" s_limited f fd) (T : Gb w K cl mg) (G_BadTest_init : ErrF P w K mg base cl "BadTest" 1 2 ["self", "why"] [("why", 1)]) (G_Test_atoms : MFn P w K mg base cl "Test" "atoms" 30 1 (fn_Test_atoms 30)) (G_Test_levels : MFn P w K mg base cl "Test" "levels" 30 1 (fn_Test_levels 30)) :
    FnOk P w K mg base (L2.CX P w) 31 f fd ["test"] (spOf K cl 1 fn_limited) :=
  fn_sem F sc_limited rfl fun cdv A outer s H E hr =>
  (s_cons (s_if (tt_cmp op_gt gt_s (t_callB (call_len) len_s T.b_len bt_len (ta_cons (t_meth0 (mt_cons G_Test_atoms mt_nil) mt_ex (hr.mono (by decide)) (takes_of rfl rfl rfl rfl) (t_var 0)) ta_nil)) (t_glob' T.g_MOST_ATOMS))
  (s_one (s_raiseF (N := ["self", "why"]) G_BadTest_init (hr.mono (by decide)) (takes_of rfl rfl rfl rfl) (ta_cons t_str ta_nil) (by decide) (by decide)))
  s_nil)
  (s_cons (s_if (tt_cmp op_gt gt_s (t_meth0 (mt_cons G_Test_levels mt_nil) mt_ex (hr.mono (by decide)) (takes_of rfl rfl rfl rfl) (t_var 0)) (t_glob' T.g_MOST_LEVELS))
  (s_one (s_raiseF (N := ["self", "why"]) G_BadTest_init (hr.mono (by decide)) (takes_of rfl rfl rfl rfl) (ta_cons t_str ta_nil) (by decide) (by decide)))
  s_nil)
  (s_one (s_ret (t_var 0)))))
theorem mk_limited {f : Addr} {fd : FuncData} (F : Fun K "limited" "limited" s_limited f fd) (hm : mg "limited" = some (.ref f)) (T : Gb w K cl mg) (G_BadTest_init : ErrF P w K mg base cl "BadTest" 1 2 ["self", "why"] [("why", 1)]) (G_Test_atoms : MFn P w K mg base cl "Test" "atoms" 30 1 (fn_Test_atoms 30)) (G_Test_levels : MFn P w K mg base cl "Test" "levels" 30 1 (fn_Test_levels 30)) : Fn P w K mg base cl "limited" 31 1 fn_limited :=
  ⟨f, fd, ["test"], ok_limited F T G_BadTest_init G_Test_atoms G_Test_levels, hm, F.kp, (F.binds (ps := ["test"]) fun _ _ _ _ _ _ us hl => match us, hl with | [_], _ => rfl)⟩
abbrev s_Test_invert : Stmt := (inClass (top 25) 11)
theorem sc_Test_invert : FnScope ["self"] ["self"] (defScope s_Test_invert) :=
  ⟨rfl, rfl, rfl, by decide +kernel, rfl, by decide +kernel, by decide +kernel⟩
noncomputable def sem_Test_invert : MS :=
  (sRet (mFn (ar 1 fn_limited) (mCons (mUn frzI (mMake "Test" 4 fn_Test_init (mCons (mC (.str "not")) (mCons (mFn tupD mNil) (mCons (mFn tupD (mCons (mVar 0) mNil)) mNil))))) mNil)))
noncomputable def fn_Test_invert : List D → Store → Res D := runB 1 sem_Test_invert
theorem ok_Test_invert {f : Addr} {fd : FuncData} (F : Fun K "__invert__" "Test.__invert__" s_Test_invert f fd) (T : Gb w K cl mg) (G_Test_init : Mkr P w K mg base cl "Test" 1 4 fn_Test_init) (G_limited : Fn P w K mg base cl "limited" 31 1 fn_limited) :
    FnOk P w K mg base (L2.CX P w) 32 f fd ["self"] (spOf K cl 1 fn_Test_invert) :=
  fn_sem F sc_Test_invert rfl fun cdv A outer s H E hr =>
  (s_one (s_ret (t_callF G_limited (hr.mono (by decide)) (takes_of rfl rfl rfl rfl) (ta_cons (t_frzI (t_make G_Test_init (hr.mono (by decide)) (takes_of rfl rfl rfl rfl) (ta_cons t_str (ta_cons (t_tup ta_nil) (ta_cons (t_tup (ta_cons (t_var 0) ta_nil)) ta_nil))))) ta_nil))))
theorem mk_Test_invert {f : Addr} {fd : FuncData} (F : Fun K "__invert__" "Test.__invert__" s_Test_invert f fd) {C : Addr} (hcl : cl "Test" = some C) (hc : Cls K C) (hm : Meth K C "__invert__" f) (T : Gb w K cl mg) (G_Test_init : Mkr P w K mg base cl "Test" 1 4 fn_Test_init) (G_limited : Fn P w K mg base cl "limited" 31 1 fn_limited) : MFn P w K mg base cl "Test" "__invert__" 32 1 fn_Test_invert :=
  ⟨C, f, fd, ["self"], hcl, hc, hm, ok_Test_invert F T G_Test_init G_limited, (F.binds (ps := ["self"]) fun _ _ _ _ _ _ us hl => match us, hl with | [_], _ => rfl)⟩
abbrev s_BadRow_init : Stmt := (inClass (top 4) 0)
theorem sc_BadRow_init : FnScope ["self", "column"] ["self", "column"] (defScope s_BadRow_init) :=
  ⟨rfl, rfl, rfl, by decide +kernel, rfl, by decide +kernel, by decide +kernel⟩
theorem ok_BadRow_init {f : Addr} {fd : FuncData} (F : Fun K "__init__" "BadRow.__init__" s_BadRow_init f fd) : FnOk P w K mg base (L2.CX P w) 1 f fd ["self", "column"] (spErr K ["self", "column"] 2 [("column", 1)]) :=
  err_fn F sc_BadRow_init rfl (by decide) (by decide) fun cdv A outer s H E => (er_cons 1 er_nil)
theorem mk_BadRow_init {f : Addr} {fd : FuncData} (F : Fun K "__init__" "BadRow.__init__" s_BadRow_init f fd) {C : Addr} (hcl : cl "BadRow" = some C) (hg : mg "BadRow" = some (.ref C)) (hx : OexC K C) (hi : PySem.W.findIn K (.ref C) "__init__" = some (some (.ref f))) (ht : PySem.W.typeIn K (.ref f) = some (.type "function")) (hf1 : PySem.W.findIn K (.ref C) "column" = some none) : ErrF P w K mg base cl "BadRow" 1 2 ["self", "column"] [("column", 1)] :=
  ⟨C, f, fd, ["self", "column"], hcl, hg, hx, hi, ht, ok_BadRow_init F, (F.binds (ps := ["self", "column"]) fun _ _ _ _ _ _ us hl => match us, hl with | [_, _], _ => rfl), (by intro q hq; simp only [List.mem_cons, List.not_mem_nil, or_false] at hq; rcases hq with rfl <;> assumption)⟩
abbrev s_Test_data : Stmt := (inClass (top 25) 2)
theorem sc_Test_data : FnScope ["self"] ["self"] (defScope s_Test_data) :=
  ⟨rfl, rfl, rfl, by decide +kernel, rfl, by decide +kernel, by decide +kernel⟩
noncomputable def sem_Test_data : MS :=
  (sRet (mUn (fldD ["Test"] "_data") (mVar 0)))
noncomputable def fn_Test_data : List D → Store → Res D := runB 1 sem_Test_data
theorem ok_Test_data {f : Addr} {fd : FuncData} (F : Fun K "data" "Test.data" s_Test_data f fd) (T : Gb w K cl mg) :
    FnOk P w K mg base (L2.CX P w) 1 f fd ["self"] (spOf K cl 1 fn_Test_data) :=
  fn_sem F sc_Test_data rfl fun cdv A outer s H E hr =>
  (s_one (s_ret (t_fld T.a_Test__data (t_var 0))))
theorem mk_Test_data {f : Addr} {fd : FuncData} (F : Fun K "data" "Test.data" s_Test_data f fd) {C : Addr} (hcl : cl "Test" = some C) (hc : Cls K C) (hm : Meth K C "data" f) (T : Gb w K cl mg) : MFn P w K mg base cl "Test" "data" 1 1 fn_Test_data :=
  ⟨C, f, fd, ["self"], hcl, hc, hm, ok_Test_data F T, (F.binds (ps := ["self"]) fun _ _ _ _ _ _ us hl => match us, hl with | [_], _ => rfl)⟩
abbrev s_Test_kind : Stmt := (inClass (top 25) 1)
theorem sc_Test_kind : FnScope ["self"] ["self"] (defScope s_Test_kind) :=
  ⟨rfl, rfl, rfl, by decide +kernel, rfl, by decide +kernel, by decide +kernel⟩
noncomputable def sem_Test_kind : MS :=
  (sRet (mUn (fldD ["Test"] "_kind") (mVar 0)))
noncomputable def fn_Test_kind : List D → Store → Res D := runB 1 sem_Test_kind
theorem ok_Test_kind {f : Addr} {fd : FuncData} (F : Fun K "kind" "Test.kind" s_Test_kind f fd) (T : Gb w K cl mg) :
    FnOk P w K mg base (L2.CX P w) 1 f fd ["self"] (spOf K cl 1 fn_Test_kind) :=
  fn_sem F sc_Test_kind rfl fun cdv A outer s H E hr =>
  (s_one (s_ret (t_fld T.a_Test__kind (t_var 0))))
theorem mk_Test_kind {f : Addr} {fd : FuncData} (F : Fun K "kind" "Test.kind" s_Test_kind f fd) {C : Addr} (hcl : cl "Test" = some C) (hc : Cls K C) (hm : Meth K C "kind" f) (T : Gb w K cl mg) : MFn P w K mg base cl "Test" "kind" 1 1 fn_Test_kind :=
  ⟨C, f, fd, ["self"], hcl, hc, hm, ok_Test_kind F T, (F.binds (ps := ["self"]) fun _ _ _ _ _ _ us hl => match us, hl with | [_], _ => rfl)⟩
abbrev s_paths_of : Stmt := (top 42)
theorem sc_paths_of : FnScope ["atom", "data"] ["atom"] (defScope s_paths_of) :=
  ⟨rfl, rfl, rfl, by decide +kernel, rfl, by decide +kernel, by decide +kernel⟩
noncomputable def sem_paths_of : MS :=
  (sSeq (sSet 1 (mMeth [("Test", fn_Test_data)] "data" 1 (mVar 0) mNil))
  (sSeq (sIf (mTest (mOp eqD (mMeth [("Test", fn_Test_kind)] "kind" 1 (mVar 0) mNil) (mC (.str "against"))))
  (sRet (mFn lstD (mCons (mOp ixD (mVar 1) (mC (.int 0))) (mCons (mOp ixD (mVar 1) (mC (.int 2))) mNil))))
  sPass)
  (sRet (mIte (mTru (mVar 1)) (mFn lstD (mCons (mOp ixD (mVar 1) (mC (.int 0))) mNil)) (mFn lstD mNil)))))
noncomputable def fn_paths_of : List D → Store → Res D := runB 2 sem_paths_of
theorem ok_paths_of {f : Addr} {fd : FuncData} (F : Fun K "paths_of" "paths_of" s_paths_of f fd) (T : Gb w K cl mg) (G_Test_data : MFn P w K mg base cl "Test" "data" 1 1 fn_Test_data) (G_Test_kind : MFn P w K mg base cl "Test" "kind" 1 1 fn_Test_kind) :
    FnOk P w K mg base (L2.CX P w) 2 f fd ["atom"] (spOf K cl 1 fn_paths_of) :=
  fn_sem F sc_paths_of rfl fun cdv A outer s H E hr =>
  (s_cons (s_set 1 sc_paths_of.nd (t_meth0 (mt_cons G_Test_data mt_nil) mt_ex (hr.mono (by decide)) (takes_of rfl rfl rfl rfl) (t_var 0)))
  (s_cons (s_if (tt_cmp (op_eqA hr) eq_s (t_meth0 (mt_cons G_Test_kind mt_nil) mt_ex (hr.mono (by decide)) (takes_of rfl rfl rfl rfl) (t_var 0)) t_str)
  (s_one (s_ret (t_lst (ta_cons (t_ix ix_seq ix_s (t_var 1) t_int) (ta_cons (t_ix ix_seq ix_s (t_var 1) t_int) ta_nil)))))
  s_nil)
  (s_one (s_ret (t_ite (tt_tru (t_var 1)) (t_lst (ta_cons (t_ix ix_seq ix_s (t_var 1) t_int) ta_nil)) (t_lst ta_nil))))))
theorem mk_paths_of {f : Addr} {fd : FuncData} (F : Fun K "paths_of" "paths_of" s_paths_of f fd) (hm : mg "paths_of" = some (.ref f)) (T : Gb w K cl mg) (G_Test_data : MFn P w K mg base cl "Test" "data" 1 1 fn_Test_data) (G_Test_kind : MFn P w K mg base cl "Test" "kind" 1 1 fn_Test_kind) : Fn P w K mg base cl "paths_of" 2 1 fn_paths_of :=
  ⟨f, fd, ["atom"], ok_paths_of F T G_Test_data G_Test_kind, hm, F.kp, (F.binds (ps := ["atom"]) fun _ _ _ _ _ _ us hl => match us, hl with | [_], _ => rfl)⟩
abbrev s_sorted_plain : Stmt := (top 18)
theorem sc_sorted_plain : FnScope ["items", "result", "item", "at"] ["items"] (defScope s_sorted_plain) :=
  ⟨rfl, rfl, rfl, by decide +kernel, rfl, by decide +kernel, by decide +kernel⟩
noncomputable def sem_sorted_plain : MS :=
  (sSeq (sSet 1 (mFn lstL mNil))
  (sSeq (sFor (mIt (mVar 0)) (ptN 2)
  (sSeq (sSet 3 (mFn lenD (mCons (mVar 1) mNil)))
  (sSeq (whileF (mAnd (mTest (mOp gtD (mVar 3) (mC (.int 0)))) (mTest (mOp ltD (mVar 2) (mOp ixD (mVar 1) (mOp subD (mVar 3) (mC (.int 1)))))))
  (sAug 3 subD (mC (.int 1))) wFuel)
  (sExpr (mMt "list" insD (mVar 1) (mCons (mVar 3) (mCons (mVar 2) mNil)))))))
  (sRet (mVar 1))))
noncomputable def fn_sorted_plain : List D → Store → Res D := runB 4 sem_sorted_plain
theorem ok_sorted_plain {f : Addr} {fd : FuncData} (F : Fun K "sorted_plain" "sorted_plain" s_sorted_plain f fd) (T : Gb w K cl mg) :
    FnOk P w K mg base (L2.CX P w) 1 f fd ["items"] (spOf K cl 1 fn_sorted_plain) :=
  fn_sem F sc_sorted_plain rfl fun cdv A outer s H E hr =>
  (s_cons (s_set 1 sc_sorted_plain.nd (t_lstL ta_nil))
  (s_cons (s_for (passes_of rfl) rfl (i_seq (t_var 0)) (g_name 2 sc_sorted_plain.nd)
  (s_cons (s_set 3 sc_sorted_plain.nd (t_callB (call_len) len_s T.b_len bt_len (ta_cons (t_var 1) ta_nil)))
  (s_cons (s_while wFuel (passes_of rfl) (PW.pt (tw_and (tt_cmp op_gt gt_s (t_var 3) t_int) (tw_and1 (tt_cmp op_ltA lt_s (t_var 2) (t_ix ix_seq ix_s (t_var 1) (t_op op_sub sub_s (t_var 3) t_int))))))
  (s_one (s_aug 3 sc_sorted_plain.nd ip_subI sub_s t_int)))
  (s_one (s_expr (t_bm PySem.F.plainAttrs_list PySem.F.slot_list_insert PySem.F.type_list_insert mt_insert ins_s (t_var 1) (ta_cons (t_var 3) (ta_cons (t_var 2) ta_nil))))))))
  (s_one (s_ret (t_var 1)))))
theorem mk_sorted_plain {f : Addr} {fd : FuncData} (F : Fun K "sorted_plain" "sorted_plain" s_sorted_plain f fd) (hm : mg "sorted_plain" = some (.ref f)) (T : Gb w K cl mg) : Fn P w K mg base cl "sorted_plain" 1 1 fn_sorted_plain :=
  ⟨f, fd, ["items"], ok_sorted_plain F T, hm, F.kp, (F.binds (ps := ["items"]) fun _ _ _ _ _ _ us hl => match us, hl with | [_], _ => rfl)⟩
abbrev s_Test_paths : Stmt := (inClass (top 25) 6)
theorem sc_Test_paths : FnScope ["self", "found", "atom", "path"] ["self"] (defScope s_Test_paths) :=
  ⟨rfl, rfl, rfl, by decide +kernel, rfl, by decide +kernel, by decide +kernel⟩
noncomputable def sem_Test_paths : MS :=
  (sSeq (sSet 1 mDctL)
  (sSeq (sFor (mIt (mMeth [("Test", (fn_Test_atoms 30))] "atoms" 1 (mVar 0) mNil)) (ptN 2)
  (sFor (mIt (mFn (ar 1 fn_paths_of) (mCons (mVar 2) mNil))) (ptN 3)
  (sPutA (mVar 1) (mVar 3) (mC (.bl true)))))
  (sRet (mFn (ar 1 fn_sorted_plain) (mCons (mFn listKA (mCons (mVar 1) mNil)) mNil)))))
noncomputable def fn_Test_paths : List D → Store → Res D := runB 4 sem_Test_paths
theorem ok_Test_paths {f : Addr} {fd : FuncData} (F : Fun K "paths" "Test.paths" s_Test_paths f fd) (T : Gb w K cl mg) (G_Test_atoms : MFn P w K mg base cl "Test" "atoms" 30 1 (fn_Test_atoms 30)) (G_paths_of : Fn P w K mg base cl "paths_of" 2 1 fn_paths_of) (G_sorted_plain : Fn P w K mg base cl "sorted_plain" 1 1 fn_sorted_plain) :
    FnOk P w K mg base (L2.CX P w) 31 f fd ["self"] (spOf K cl 1 fn_Test_paths) :=
  fn_sem F sc_Test_paths rfl fun cdv A outer s H E hr =>
  (s_cons (s_set 1 sc_Test_paths.nd t_dictL)
  (s_cons (s_for (passes_of rfl) rfl (i_seq (t_meth0 (mt_cons G_Test_atoms mt_nil) mt_ex (hr.mono (by decide)) (takes_of rfl rfl rfl rfl) (t_var 0))) (g_name 2 sc_Test_paths.nd)
  (s_one (s_for (passes_of rfl) rfl (i_seq (t_callF G_paths_of (hr.mono (by decide)) (takes_of rfl rfl rfl rfl) (ta_cons (t_var 2) ta_nil))) (g_name 3 sc_Test_paths.nd)
  (s_one (s_putA hr (t_var 1) (t_var 3) t_bl)))))
  (s_one (s_ret (t_callF G_sorted_plain (hr.mono (by decide)) (takes_of rfl rfl rfl rfl) (ta_cons (t_callTy (cr_listA rfl) listKA_s T.b_list bt_list (ta_cons (t_var 1) ta_nil)) ta_nil))))))
theorem mk_Test_paths {f : Addr} {fd : FuncData} (F : Fun K "paths" "Test.paths" s_Test_paths f fd) {C : Addr} (hcl : cl "Test" = some C) (hc : Cls K C) (hm : Meth K C "paths" f) (T : Gb w K cl mg) (G_Test_atoms : MFn P w K mg base cl "Test" "atoms" 30 1 (fn_Test_atoms 30)) (G_paths_of : Fn P w K mg base cl "paths_of" 2 1 fn_paths_of) (G_sorted_plain : Fn P w K mg base cl "sorted_plain" 1 1 fn_sorted_plain) : MFn P w K mg base cl "Test" "paths" 31 1 fn_Test_paths :=
  ⟨C, f, fd, ["self"], hcl, hc, hm, ok_Test_paths F T G_Test_atoms G_paths_of G_sorted_plain, (F.binds (ps := ["self"]) fun _ _ _ _ _ _ us hl => match us, hl with | [_], _ => rfl)⟩
abbrev s_Test_parts : Stmt := (inClass (top 25) 3)
theorem sc_Test_parts : FnScope ["self"] ["self"] (defScope s_Test_parts) :=
  ⟨rfl, rfl, rfl, by decide +kernel, rfl, by decide +kernel, by decide +kernel⟩
noncomputable def sem_Test_parts : MS :=
  (sRet (mFn listD (mCons (mUn (fldD ["Test"] "_parts") (mVar 0)) mNil)))
noncomputable def fn_Test_parts : List D → Store → Res D := runB 1 sem_Test_parts
theorem ok_Test_parts {f : Addr} {fd : FuncData} (F : Fun K "parts" "Test.parts" s_Test_parts f fd) (T : Gb w K cl mg) :
    FnOk P w K mg base (L2.CX P w) 1 f fd ["self"] (spOf K cl 1 fn_Test_parts) :=
  fn_sem F sc_Test_parts rfl fun cdv A outer s H E hr =>
  (s_one (s_ret (t_callTy (call_list_of) list_s T.b_list bt_list (ta_cons (t_fld T.a_Test__parts (t_var 0)) ta_nil))))
theorem mk_Test_parts {f : Addr} {fd : FuncData} (F : Fun K "parts" "Test.parts" s_Test_parts f fd) {C : Addr} (hcl : cl "Test" = some C) (hc : Cls K C) (hm : Meth K C "parts" f) (T : Gb w K cl mg) : MFn P w K mg base cl "Test" "parts" 1 1 fn_Test_parts :=
  ⟨C, f, fd, ["self"], hcl, hc, hm, ok_Test_parts F T, (F.binds (ps := ["self"]) fun _ _ _ _ _ _ us hl => match us, hl with | [_], _ => rfl)⟩
abbrev s_compared : Stmt := (top 43)
theorem sc_compared : FnScope ["one", "op", "other"] ["one", "op", "other"] (defScope s_compared) :=
  ⟨rfl, rfl, rfl, by decide +kernel, rfl, by decide +kernel, by decide +kernel⟩
noncomputable def sem_compared : MS :=
  (sSeq (sIf (mTest (mOp inD (mVar 1) (mFn tupD (mCons (mC (.str "<")) (mCons (mC (.str ">=")) mNil)))))
  (sRet (mOp eqD (mFn boolD (mCons (mOp ltD (mVar 0) (mVar 2)) mNil)) (mOp eqD (mVar 1) (mC (.str "<")))))
  sPass)
  (sSeq (sIf (mTest (mOp inD (mVar 1) (mFn tupD (mCons (mC (.str "<=")) (mCons (mC (.str ">")) mNil)))))
  (sRet (mOp eqD (mFn boolD (mCons (mOp leD (mVar 0) (mVar 2)) mNil)) (mOp eqD (mVar 1) (mC (.str "<=")))))
  sPass)
  (sRet (mOp eqD (mFn boolD (mCons (mOp eqD (mVar 0) (mVar 2)) mNil)) (mOp eqD (mVar 1) (mC (.str "==")))))))
noncomputable def fn_compared : List D → Store → Res D := runB 3 sem_compared
theorem ok_compared {f : Addr} {fd : FuncData} (F : Fun K "compared" "compared" s_compared f fd) (T : Gb w K cl mg) :
    FnOk P w K mg base (L2.CX P w) 1 f fd ["one", "op", "other"] (spOf K cl 3 fn_compared) :=
  fn_sem F sc_compared rfl fun cdv A outer s H E hr =>
  (s_cons (s_if (tt_cmp op_inA in_s (t_var 1) (t_tup (ta_cons t_str (ta_cons t_str ta_nil))))
  (s_one (s_ret (t_cmp (op_eqA hr) eq_s (t_callTy (call_bool1) bool_s T.b_bool bt_bool (ta_cons (t_cmp op_ltA lt_s (t_var 0) (t_var 2)) ta_nil)) (t_cmp (op_eqA hr) eq_s (t_var 1) t_str))))
  s_nil)
  (s_cons (s_if (tt_cmp op_inA in_s (t_var 1) (t_tup (ta_cons t_str (ta_cons t_str ta_nil))))
  (s_one (s_ret (t_cmp (op_eqA hr) eq_s (t_callTy (call_bool1) bool_s T.b_bool bt_bool (ta_cons (t_cmp op_leA le_s (t_var 0) (t_var 2)) ta_nil)) (t_cmp (op_eqA hr) eq_s (t_var 1) t_str))))
  s_nil)
  (s_one (s_ret (t_cmp (op_eqA hr) eq_s (t_callTy (call_bool1) bool_s T.b_bool bt_bool (ta_cons (t_cmp (op_eqA hr) eq_s (t_var 0) (t_var 2)) ta_nil)) (t_cmp (op_eqA hr) eq_s (t_var 1) t_str))))))
theorem mk_compared {f : Addr} {fd : FuncData} (F : Fun K "compared" "compared" s_compared f fd) (hm : mg "compared" = some (.ref f)) (T : Gb w K cl mg) : Fn P w K mg base cl "compared" 1 3 fn_compared :=
  ⟨f, fd, ["one", "op", "other"], ok_compared F T, hm, F.kp, (F.binds (ps := ["one", "op", "other"]) fun _ _ _ _ _ _ us hl => match us, hl with | [_, _, _], _ => rfl)⟩
abbrev s_atom_truth : Stmt := (top 45)
theorem sc_atom_truth : FnScope ["kind", "data", "row", "place", "other"] ["kind", "data", "row"] (defScope s_atom_truth) :=
  ⟨rfl, rfl, rfl, by decide +kernel, rfl, by decide +kernel, by decide +kernel⟩
noncomputable def sem_atom_truth : MS :=
  (sSeq (sIf (mTest (mInK c_CONSTANTS (mVar 0)))
  (sRet (mIxK c_CONSTANTS (mVar 0)))
  sPass)
  (sSeq (sSet 3 (mOp ixA (mVar 2) (mOp ixD (mVar 1) (mC (.int 0)))))
  (sSeq (sIf (mTest (mOp eqD (mVar 0) (mC (.str "empty"))))
  (sRet (mOp isND (mVar 3) (mC .non)))
  sPass)
  (sSeq (sIf (mTest (mOp isND (mVar 3) (mC .non)))
  (sRet (mC .non))
  sPass)
  (sSeq (sIf (mTest (mOp eqD (mVar 0) (mC (.str "compare"))))
  (sRet (mFn (ar 3 fn_compared) (mCons (mVar 3) (mCons (mOp ixD (mVar 1) (mC (.int 1))) (mCons (mOp ixD (mVar 1) (mC (.int 2))) mNil)))))
  sPass)
  (sSeq (sIf (mTest (mOp eqD (mVar 0) (mC (.str "among"))))
  (sRet (mOp inD (mVar 3) (mOp ixD (mVar 1) (mC (.int 1)))))
  sPass)
  (sSeq (sIf (mTest (mOp eqD (mVar 0) (mC (.str "begins"))))
  (sRet (mMt "str" startsD (mVar 3) (mCons (mOp ixD (mVar 1) (mC (.int 1))) mNil)))
  sPass)
  (sSeq (sSet 4 (mOp ixA (mVar 2) (mOp ixD (mVar 1) (mC (.int 2)))))
  (sSeq (sIf (mTest (mOp isND (mVar 4) (mC .non)))
  (sRet (mC .non))
  sPass)
  (sRet (mFn (ar 3 fn_compared) (mCons (mVar 3) (mCons (mOp ixD (mVar 1) (mC (.int 1))) (mCons (mIte (mTest (mOp neD (mOp ixD (mVar 1) (mC (.int 3))) (mC (.int 0)))) (mOp addD (mVar 4) (mOp ixD (mVar 1) (mC (.int 3)))) (mVar 4)) mNil))))))))))))))
noncomputable def fn_atom_truth : List D → Store → Res D := runB 5 sem_atom_truth
theorem ok_atom_truth {f : Addr} {fd : FuncData} (F : Fun K "atom_truth" "atom_truth" s_atom_truth f fd) (T : Gb w K cl mg) (G_compared : Fn P w K mg base cl "compared" 1 3 fn_compared) :
    FnOk P w K mg base (L2.CX P w) 2 f fd ["kind", "data", "row"] (spOf K cl 3 fn_atom_truth) :=
  fn_sem F sc_atom_truth rfl fun cdv A outer s H E hr =>
  (s_cons (s_if (tt_inK T.g_CONSTANTS (t_var 0))
  (s_one (s_ret (t_ixK T.g_CONSTANTS (t_var 0))))
  s_nil)
  (s_cons (s_set 3 sc_atom_truth.nd (t_ixA hr (t_var 2) (t_ix ix_seq ix_s (t_var 1) t_int)))
  (s_cons (s_if (tt_cmp (op_eqA hr) eq_s (t_var 0) t_str)
  (s_one (s_ret (t_cmp op_isA isN_s (t_var 3) t_non)))
  s_nil)
  (s_cons (s_if (tt_cmp op_isA isN_s (t_var 3) t_non)
  (s_one (s_ret t_non))
  s_nil)
  (s_cons (s_if (tt_cmp (op_eqA hr) eq_s (t_var 0) t_str)
  (s_one (s_ret (t_callF G_compared (hr.mono (by decide)) (takes_of rfl rfl rfl rfl) (ta_cons (t_var 3) (ta_cons (t_ix ix_seq ix_s (t_var 1) t_int) (ta_cons (t_ix ix_seq ix_s (t_var 1) t_int) ta_nil))))))
  s_nil)
  (s_cons (s_if (tt_cmp (op_eqA hr) eq_s (t_var 0) t_str)
  (s_one (s_ret (t_cmp op_inA in_s (t_var 3) (t_ix ix_seq ix_s (t_var 1) t_int))))
  s_nil)
  (s_cons (s_if (tt_cmp (op_eqA hr) eq_s (t_var 0) t_str)
  (s_one (s_ret (t_bm PySem.F.plainAttrs_str PySem.F.slot_str_startswith PySem.F.type_str_startswith mt_startswith starts_s (t_var 3) (ta_cons (t_ix ix_seq ix_s (t_var 1) t_int) ta_nil))))
  s_nil)
  (s_cons (s_set 4 sc_atom_truth.nd (t_ixA hr (t_var 2) (t_ix ix_seq ix_s (t_var 1) t_int)))
  (s_cons (s_if (tt_cmp op_isA isN_s (t_var 4) t_non)
  (s_one (s_ret t_non))
  s_nil)
  (s_one (s_ret (t_callF G_compared (hr.mono (by decide)) (takes_of rfl rfl rfl rfl) (ta_cons (t_var 3) (ta_cons (t_ix ix_seq ix_s (t_var 1) t_int) (ta_cons (t_ite (tt_cmp (op_neA hr) ne_s (t_ix ix_seq ix_s (t_var 1) t_int) t_int) (t_op op_addA add_s (t_var 4) (t_ix ix_seq ix_s (t_var 1) t_int)) (t_var 4)) ta_nil)))))))))))))))
theorem mk_atom_truth {f : Addr} {fd : FuncData} (F : Fun K "atom_truth" "atom_truth" s_atom_truth f fd) (hm : mg "atom_truth" = some (.ref f)) (T : Gb w K cl mg) (G_compared : Fn P w K mg base cl "compared" 1 3 fn_compared) : Fn P w K mg base cl "atom_truth" 2 3 fn_atom_truth :=
  ⟨f, fd, ["kind", "data", "row"], ok_atom_truth F T G_compared, hm, F.kp, (F.binds (ps := ["kind", "data", "row"]) fun _ _ _ _ _ _ us hl => match us, hl with | [_, _, _], _ => rfl)⟩
abbrev s_truth_of : Stmt := (top 44)
theorem sc_truth_of : FnScope ["test", "row", "kind", "truths", "decisive", "part"] ["test", "row"] (defScope s_truth_of) :=
  ⟨rfl, rfl, rfl, by decide +kernel, rfl, by decide +kernel, by decide +kernel⟩
noncomputable def sem_truth_of (rec : List D → Store → Res D) : MS :=
  (sSeq (sSet 2 (mMeth [("Test", fn_Test_kind)] "kind" 1 (mVar 0) mNil))
  (sSeq (sIf (mNot (mTru (mMeth [("Test", fn_Test_parts)] "parts" 1 (mVar 0) mNil)))
  (sRet (mFn (ar 3 fn_atom_truth) (mCons (mVar 2) (mCons (mMeth [("Test", fn_Test_data)] "data" 1 (mVar 0) mNil) (mCons (mVar 1) mNil)))))
  sPass)
  (sSeq (sSet 3 (mComp (mIt (mMeth [("Test", fn_Test_parts)] "parts" 1 (mVar 0) mNil)) (ptN 5) mYes (mFn (ar 2 rec) (mCons (mVar 5) (mCons (mVar 1) mNil))) [5] frzD))
  (sSeq (sIf (mTest (mOp eqD (mVar 2) (mC (.str "not"))))
  (sRet (mIte (mTest (mOp isND (mOp ixD (mVar 3) (mC (.int 0))) (mC .non))) (mC .non) (mNotV (mOp ixD (mVar 3) (mC (.int 0))))))
  sPass)
  (sSeq (sIf (mTest (mOp eqD (mVar 2) (mC (.str "sure"))))
  (sRet (mOp isTD (mOp ixD (mVar 3) (mC (.int 0))) (mC (.bl true))))
  sPass)
  (sSeq (sSet 4 (mOp eqD (mVar 2) (mC (.str "or"))))
  (sSeq (sIf (mTest (mOp inD (mVar 4) (mVar 3)))
  (sRet (mVar 4))
  sPass)
  (sRet (mIte (mTest (mOp inD (mC .non) (mVar 3))) (mC .non) (mNotV (mVar 4)))))))))))
noncomputable def fn_truth_of : Nat → List D → Store → Res D
  | 0 => fun _ _ => .stk
  | j + 1 => runB 6 (sem_truth_of (fn_truth_of j))
theorem ok_truth_of {k : Nat} {rec : List D → Store → Res D} {f : Addr} {fd : FuncData} (hk : 2 ≤ k) (F : Fun K "truth_of" "truth_of" s_truth_of f fd) (T : Gb w K cl mg) (G_Test_data : MFn P w K mg base cl "Test" "data" 1 1 fn_Test_data) (G_Test_kind : MFn P w K mg base cl "Test" "kind" 1 1 fn_Test_kind) (G_Test_parts : MFn P w K mg base cl "Test" "parts" 1 1 fn_Test_parts) (G_atom_truth : Fn P w K mg base cl "atom_truth" 2 3 fn_atom_truth) (G_truth_of : Fn P w K mg base cl "truth_of" k 2 rec) :
    FnOk P w K mg base (L2.CX P w) (k + 1) f fd ["test", "row"] (spOf K cl 2 ((runB 6 (sem_truth_of rec)))) :=
  fn_sem F sc_truth_of rfl fun cdv A outer s H E hr =>
  (s_cons (s_set 2 sc_truth_of.nd (t_meth0 (mt_cons G_Test_kind mt_nil) mt_ex (hr.mono (by omega)) (takes_of rfl rfl rfl rfl) (t_var 0)))
  (s_cons (s_if (tt_not (tt_tru (t_meth0 (mt_cons G_Test_parts mt_nil) mt_ex (hr.mono (by omega)) (takes_of rfl rfl rfl rfl) (t_var 0))))
  (s_one (s_ret (t_callF G_atom_truth (hr.mono (by omega)) (takes_of rfl rfl rfl rfl) (ta_cons (t_var 2) (ta_cons (t_meth0 (mt_cons G_Test_data mt_nil) mt_ex (hr.mono (by omega)) (takes_of rfl rfl rfl rfl) (t_var 0)) (ta_cons (t_var 1) ta_nil))))))
  s_nil)
  (s_cons (s_setLc 3 [("part", 5)] frz_s rfl sc_truth_of.nd (i_seq (t_meth0 (mt_cons G_Test_parts mt_nil) mt_ex (hr.mono (by omega)) (takes_of rfl rfl rfl rfl) (t_var 0))) (blkOk_by (N := ["test", "row", "kind", "truths", "decisive", "part"]) (sc := defScope s_truth_of) (by decide +kernel)) (fun _ _ _ _ _ => (g_name 5 sc_truth_of.nd)) (fun _ _ _ _ _ => tts_nil) (fun _ _ _ _ _ => (t_callF G_truth_of (hr.mono (by omega)) takes0 (ta_cons (t_var 5) (ta_cons (t_var 1) ta_nil)))) (sw_true rfl rfl rfl (by decide +kernel)))
  (s_cons (s_if (tt_cmp (op_eqA hr) eq_s (t_var 2) t_str)
  (s_one (s_ret (t_ite (tt_cmp op_isA isN_s (t_ix ix_seq ix_s (t_var 3) t_int) t_non) t_non (t_not (t_ix ix_seq ix_s (t_var 3) t_int)))))
  s_nil)
  (s_cons (s_if (tt_cmp (op_eqA hr) eq_s (t_var 2) t_str)
  (s_one (s_ret (t_cmp op_isT isT_s (t_ix ix_seq ix_s (t_var 3) t_int) t_bl)))
  s_nil)
  (s_cons (s_set 4 sc_truth_of.nd (t_cmp (op_eqA hr) eq_s (t_var 2) t_str))
  (s_cons (s_if (tt_cmp op_inA in_s (t_var 4) (t_var 3))
  (s_one (s_ret (t_var 4)))
  s_nil)
  (s_one (s_ret (t_ite (tt_cmp op_inA in_s t_non (t_var 3)) t_non (t_not (t_var 4))))))))))))
theorem mk_truth_of {f : Addr} {fd : FuncData} (F : Fun K "truth_of" "truth_of" s_truth_of f fd) (hm : mg "truth_of" = some (.ref f)) (T : Gb w K cl mg) (G_Test_data : MFn P w K mg base cl "Test" "data" 1 1 fn_Test_data) (G_Test_kind : MFn P w K mg base cl "Test" "kind" 1 1 fn_Test_kind) (G_Test_parts : MFn P w K mg base cl "Test" "parts" 1 1 fn_Test_parts) (G_atom_truth : Fn P w K mg base cl "atom_truth" 2 3 fn_atom_truth) : ∀ j : Nat, Fn P w K mg base cl "truth_of" (2 + 1 * j) 2 (fn_truth_of j)
  | 0 => ⟨f, fd, ["test", "row"], fn_stk.mono (by omega), hm, F.kp, (F.binds (ps := ["test", "row"]) fun _ _ _ _ _ _ us hl => match us, hl with | [_, _], _ => rfl)⟩
  | j + 1 => ⟨f, fd, ["test", "row"], ok_truth_of (Nat.le_add_right _ _) F T G_Test_data G_Test_kind G_Test_parts G_atom_truth (mk_truth_of F hm T G_Test_data G_Test_kind G_Test_parts G_atom_truth j), hm, F.kp, (F.binds (ps := ["test", "row"]) fun _ _ _ _ _ _ us hl => match us, hl with | [_, _], _ => rfl)⟩
abbrev s_Test_truth : Stmt := (inClass (top 25) 8)
theorem sc_Test_truth : FnScope ["self", "row", "path"] ["self", "row"] (defScope s_Test_truth) :=
  ⟨rfl, rfl, rfl, by decide +kernel, rfl, by decide +kernel, by decide +kernel⟩
noncomputable def sem_Test_truth : MS :=
  (sSeq (sIf (mNot (mTru (mUn (isiD k_dict) (mVar 1))))
  (sRaise "BadRow" 2 2 [("column", 1)] (mCons (mC .non) mNil))
  sPass)
  (sSeq (sFor (mIt (mMeth [("Test", fn_Test_paths)] "paths" 1 (mVar 0) mNil)) (ptN 2)
  (sIf (mTest (mOp notInA (mVar 2) (mVar 1)))
  (sRaise "BadRow" 2 2 [("column", 1)] (mCons (mVar 2) mNil))
  sPass))
  (sRet (mFn (ar 2 (fn_truth_of 20)) (mCons (mVar 0) (mCons (mVar 1) mNil))))))
noncomputable def fn_Test_truth : List D → Store → Res D := runB 3 sem_Test_truth
theorem ok_Test_truth {f : Addr} {fd : FuncData} (F : Fun K "truth" "Test.truth" s_Test_truth f fd) (T : Gb w K cl mg) (G_BadRow_init : ErrF P w K mg base cl "BadRow" 1 2 ["self", "column"] [("column", 1)]) (G_Test_paths : MFn P w K mg base cl "Test" "paths" 31 1 fn_Test_paths) (G_truth_of : Fn P w K mg base cl "truth_of" 22 2 (fn_truth_of 20)) :
    FnOk P w K mg base (L2.CX P w) 32 f fd ["self", "row"] (spOf K cl 2 fn_Test_truth) :=
  fn_sem F sc_Test_truth rfl fun cdv A outer s H E hr =>
  (s_cons (s_if (tt_not (tt_tru (t_isi is_dict T.b_isinstance T.b_dict bt_dict (t_var 1))))
  (s_one (s_raiseF (N := ["self", "column"]) G_BadRow_init (hr.mono (by decide)) (takes_of rfl rfl rfl rfl) (ta_cons t_non ta_nil) (by decide) (by decide)))
  s_nil)
  (s_cons (s_for (passes_of rfl) rfl (i_seq (t_meth0 (mt_cons G_Test_paths mt_nil) mt_ex (hr.mono (by decide)) (takes_of rfl rfl rfl rfl) (t_var 0))) (g_name 2 sc_Test_truth.nd)
  (s_one (s_if (tt_cmp (op_notInD2 hr) notInA_s (t_var 2) (t_var 1))
  (s_one (s_raiseF (N := ["self", "column"]) G_BadRow_init (hr.mono (by decide)) (takes_of rfl rfl rfl rfl) (ta_cons (t_var 2) ta_nil) (by decide) (by decide)))
  s_nil)))
  (s_one (s_ret (t_callF G_truth_of (hr.mono (by decide)) (takes_of rfl rfl rfl rfl) (ta_cons (t_var 0) (ta_cons (t_var 1) ta_nil)))))))
theorem mk_Test_truth {f : Addr} {fd : FuncData} (F : Fun K "truth" "Test.truth" s_Test_truth f fd) {C : Addr} (hcl : cl "Test" = some C) (hc : Cls K C) (hm : Meth K C "truth" f) (T : Gb w K cl mg) (G_BadRow_init : ErrF P w K mg base cl "BadRow" 1 2 ["self", "column"] [("column", 1)]) (G_Test_paths : MFn P w K mg base cl "Test" "paths" 31 1 fn_Test_paths) (G_truth_of : Fn P w K mg base cl "truth_of" 22 2 (fn_truth_of 20)) : MFn P w K mg base cl "Test" "truth" 32 2 fn_Test_truth :=
  ⟨C, f, fd, ["self", "row"], hcl, hc, hm, ok_Test_truth F T G_BadRow_init G_Test_paths G_truth_of, (F.binds (ps := ["self", "row"]) fun _ _ _ _ _ _ us hl => match us, hl with | [_, _], _ => rfl)⟩
abbrev s_law_draw : Stmt := (top 48)
theorem sc_law_draw : FnScope ["_law_well", "_law_many", "_law_number_here", "_law_found"] ["_law_well", "_law_many"] (defScope s_law_draw) :=
  ⟨rfl, rfl, rfl, by decide +kernel, rfl, by decide +kernel, by decide +kernel⟩
noncomputable def sem_law_draw : MS :=
  (sSeq (sIf (mTest (mOp gtD (mOp ixD (mVar 0) (mC (.int 0))) (mC (.int 0))))
  (sSeq (sSet 3 (mOp modD (mFn intD (mCons (mOp ixD (mVar 0) (mC (.int 0))) mNil)) (mVar 1)))
  (sSeq (sPut (mVar 0) (mC (.int 0)) (mOp fdivD (mOp ixD (mVar 0) (mC (.int 0))) (mVar 1)))
  (sRet (mVar 3))))
  sPass)
  (sSeq (sPut (mVar 0) (mC (.int 2)) (mOp addD (mOp ixD (mVar 0) (mC (.int 2))) (mC (.int 1))))
  (sSeq (sSet 2 (mOp modD (mFn intD (mCons (mOp mulD (mOp addD (mOp addD (mOp ixD (mVar 0) (mC (.int 1))) (mOp mulD (mC (.int 104729)) (mOp ixD (mVar 0) (mC (.int 2))))) (mC (.int 11))) (mC (.int 48271))) mNil)) (mC (.int 2147483647))))
  (sSeq (sSet 2 (mOp modD (mFn intD (mCons (mOp mulD (mVar 2) (mOp addD (mOp addD (mOp fdivD (mVar 2) (mC (.int 1009))) (mC (.int 69621))) (mOp ixD (mVar 0) (mC (.int 2))))) mNil)) (mC (.int 2147483587))))
  (sRet (mOp modD (mFn intD (mCons (mOp fdivD (mOp modD (mFn intD (mCons (mOp mulD (mVar 2) (mOp addD (mOp fdivD (mVar 2) (mC (.int 2003))) (mC (.int 40692)))) mNil)) (mC (.int 2147483563))) (mC (.int 3))) mNil)) (mVar 1)))))))
noncomputable def fn_law_draw : List D → Store → Res D := runB 4 sem_law_draw
theorem ok_law_draw {f : Addr} {fd : FuncData} (F : Fun K "_law_draw" "_law_draw" s_law_draw f fd) (T : Gb w K cl mg) :
    FnOk P w K mg base (L2.CX P w) 1 f fd ["_law_well", "_law_many"] (spOf K cl 2 fn_law_draw) :=
  fn_sem F sc_law_draw rfl fun cdv A outer s H E hr =>
  (s_cons (s_if (tt_cmp op_gt gt_s (t_ix ix_seq ix_s (t_var 0) t_int) t_int)
  (s_cons (s_set 3 sc_law_draw.nd (t_op op_mod mod_s (t_callTy (call_int1) int_s T.b_int bt_int (ta_cons (t_ix ix_seq ix_s (t_var 0) t_int) ta_nil)) (t_var 1)))
  (s_cons (s_put (t_var 0) t_int (t_op op_fdivW fdiv_s (t_ix ix_seq ix_s (t_var 0) t_int) (t_var 1)))
  (s_one (s_ret (t_var 3)))))
  s_nil)
  (s_cons (s_put (t_var 0) t_int (t_op op_addA add_s (t_ix ix_seq ix_s (t_var 0) t_int) t_int))
  (s_cons (s_set 2 sc_law_draw.nd (t_op op_mod mod_s (t_callTy (call_int1) int_s T.b_int bt_int (ta_cons (t_op op_mulA mul_s (t_op op_addA add_s (t_op op_addA add_s (t_ix ix_seq ix_s (t_var 0) t_int) (t_op op_mulA mul_s t_int (t_ix ix_seq ix_s (t_var 0) t_int))) t_int) t_int) ta_nil)) t_int))
  (s_cons (s_set 2 sc_law_draw.nd (t_op op_mod mod_s (t_callTy (call_int1) int_s T.b_int bt_int (ta_cons (t_op op_mulA mul_s (t_var 2) (t_op op_addA add_s (t_op op_addA add_s (t_op op_fdivW fdiv_s (t_var 2) t_int) t_int) (t_ix ix_seq ix_s (t_var 0) t_int))) ta_nil)) t_int))
  (s_one (s_ret (t_op op_mod mod_s (t_callTy (call_int1) int_s T.b_int bt_int (ta_cons (t_op op_fdivW fdiv_s (t_op op_mod mod_s (t_callTy (call_int1) int_s T.b_int bt_int (ta_cons (t_op op_mulA mul_s (t_var 2) (t_op op_addA add_s (t_op op_fdivW fdiv_s (t_var 2) t_int) t_int)) ta_nil)) t_int) t_int) ta_nil)) (t_var 1))))))))
theorem mk_law_draw {f : Addr} {fd : FuncData} (F : Fun K "_law_draw" "_law_draw" s_law_draw f fd) (hm : mg "_law_draw" = some (.ref f)) (T : Gb w K cl mg) : Fn P w K mg base cl "_law_draw" 1 2 fn_law_draw :=
  ⟨f, fd, ["_law_well", "_law_many"], ok_law_draw F T, hm, F.kp, (F.binds (ps := ["_law_well", "_law_many"]) fun _ _ _ _ _ _ us hl => match us, hl with | [_, _], _ => rfl)⟩
abbrev s_law_fault : Stmt := (top 64)
theorem sc_law_fault : FnScope ["_law_test", "_law_row_here", "_law_told", "e"] ["_law_test", "_law_row_here"] (defScope s_law_fault) :=
  ⟨rfl, rfl, rfl, by decide +kernel, rfl, by decide +kernel, by decide +kernel⟩
noncomputable def sem_law_fault : MS :=
  (sSeq (sTryM [⟨[("WorkError", false), ("BadTest", false), ("BadRow", true)], some 3, 2, (mFn tupD (mCons (mC (.str "bad")) (mCons (mUn (xfD ["BadRow"] "column") (mVar 3)) mNil)))⟩]
  (sSet 2 (mMeth [("Test", fn_Test_truth)] "truth" 2 (mVar 0) (mCons (mVar 1) mNil))))
  (sRet (mVar 2)))
noncomputable def fn_law_fault : List D → Store → Res D := runB 4 sem_law_fault
theorem ok_law_fault {f : Addr} {fd : FuncData} (F : Fun K "_law_fault" "_law_fault" s_law_fault f fd) (T : Gb w K cl mg) (G_Test_truth : MFn P w K mg base cl "Test" "truth" 32 2 fn_Test_truth) :
    FnOk P w K mg base (L2.CX P w) 33 f fd ["_law_test", "_law_row_here"] (spOf K cl 2 fn_law_fault) :=
  fn_sem F sc_law_fault rfl fun cdv A outer s H E hr =>
  (s_cons (s_tryMN T.rs sc_law_fault.nd (takes_of rfl rfl rfl rfl) (fun W pn xe tk po => (s_one (s_set 2 sc_law_fault.nd (t_meth (mt_cons G_Test_truth mt_nil) mt_ex (hr.mono (by decide)) tk (t_var 0) (ta_cons (t_var 1) ta_nil)))))
  (hm_name 3 T.t_BadRow (fun a oe C d pn hz hf => (s_one (s_set 2 sc_law_fault.nd (t_tup (ta_cons t_str (ta_cons (t_xf 3 T.xa_column hz hf) ta_nil)))))) hm_nil))
  (s_one (s_ret (t_var 2))))
theorem mk_law_fault {f : Addr} {fd : FuncData} (F : Fun K "_law_fault" "_law_fault" s_law_fault f fd) (hm : mg "_law_fault" = some (.ref f)) (T : Gb w K cl mg) (G_Test_truth : MFn P w K mg base cl "Test" "truth" 32 2 fn_Test_truth) : Fn P w K mg base cl "_law_fault" 33 2 fn_law_fault :=
  ⟨f, fd, ["_law_test", "_law_row_here"], ok_law_fault F T G_Test_truth, hm, F.kp, (F.binds (ps := ["_law_test", "_law_row_here"]) fun _ _ _ _ _ _ us hl => match us, hl with | [_, _], _ => rfl)⟩
abbrev s_law_pick : Stmt := (top 49)
theorem sc_law_pick : FnScope ["_law_well", "_law_some"] ["_law_well", "_law_some"] (defScope s_law_pick) :=
  ⟨rfl, rfl, rfl, by decide +kernel, rfl, by decide +kernel, by decide +kernel⟩
noncomputable def sem_law_pick : MS :=
  (sRet (mOp ixD (mVar 1) (mFn (ar 2 fn_law_draw) (mCons (mVar 0) (mCons (mFn lenD (mCons (mVar 1) mNil)) mNil)))))
noncomputable def fn_law_pick : List D → Store → Res D := runB 2 sem_law_pick
theorem ok_law_pick {f : Addr} {fd : FuncData} (F : Fun K "_law_pick" "_law_pick" s_law_pick f fd) (T : Gb w K cl mg) (G_law_draw : Fn P w K mg base cl "_law_draw" 1 2 fn_law_draw) :
    FnOk P w K mg base (L2.CX P w) 2 f fd ["_law_well", "_law_some"] (spOf K cl 2 fn_law_pick) :=
  fn_sem F sc_law_pick rfl fun cdv A outer s H E hr =>
  (s_one (s_ret (t_ix ix_seq ix_s (t_var 1) (t_callF G_law_draw (hr.mono (by decide)) (takes_of rfl rfl rfl rfl) (ta_cons (t_var 0) (ta_cons (t_callB (call_len) len_s T.b_len bt_len (ta_cons (t_var 1) ta_nil)) ta_nil))))))
theorem mk_law_pick {f : Addr} {fd : FuncData} (F : Fun K "_law_pick" "_law_pick" s_law_pick f fd) (hm : mg "_law_pick" = some (.ref f)) (T : Gb w K cl mg) (G_law_draw : Fn P w K mg base cl "_law_draw" 1 2 fn_law_draw) : Fn P w K mg base cl "_law_pick" 2 2 fn_law_pick :=
  ⟨f, fd, ["_law_well", "_law_some"], ok_law_pick F T G_law_draw, hm, F.kp, (F.binds (ps := ["_law_well", "_law_some"]) fun _ _ _ _ _ _ us hl => match us, hl with | [_, _], _ => rfl)⟩
abbrev s_law_lacking_right : Stmt := (top 66)
theorem sc_law_lacking_right : FnScope ["_law_well", "_law_test", "_law_row_here", "_law_some", "_law_gone", "_law_less", "_law_path"] ["_law_well", "_law_test", "_law_row_here"] (defScope s_law_lacking_right) :=
  ⟨rfl, rfl, rfl, by decide +kernel, rfl, by decide +kernel, by decide +kernel⟩
noncomputable def sem_law_lacking_right : MS :=
  (sSeq (sIf (mTest (mOp neD (mFn (ar 2 fn_law_fault) (mCons (mVar 1) (mCons (mFn (ar 2 fn_law_pick) (mCons (mVar 0) (mCons (mFn lstD (mCons (mC .non) (mCons (mFn lstD mNil) (mCons (mC (.str "a")) (mCons (mC (.int 3)) (mCons (mC (.bl true)) (mCons (mFn tupD (mCons (mC (.int 1)) mNil)) (mCons (mFn lstD (mCons (mVar 2) mNil)) mNil)))))))) mNil))) mNil))) (mFn tupD (mCons (mC (.str "bad")) (mCons (mC .non) mNil)))))
  (sRet (mC (.bl false)))
  sPass)
  (sSeq (sSet 3 (mMeth [("Test", fn_Test_paths)] "paths" 1 (mVar 1) mNil))
  (sSeq (sIf (mTest (mOp eqL0 (mVar 3) (mFn lstD mNil)))
  (sRet (mOp eqD (mFn (ar 2 fn_law_fault) (mCons (mVar 1) (mCons (mC (.dct [])) mNil))) (mMeth [("Test", fn_Test_truth)] "truth" 2 (mVar 1) (mCons (mVar 2) mNil))))
  sPass)
  (sSeq (sSet 4 (mComp (mIt (mVar 3)) (ptN 6) (mTest (mOp eqD (mFn (ar 2 fn_law_draw) (mCons (mVar 0) (mCons (mC (.int 2)) mNil))) (mC (.int 0)))) (mVar 6) [6] frzD))
  (sSeq (sSet 5 (mUn frzR (mFn (dctP dlv) (mCons (mComp (mItK (mVar 2)) (ptN 6) (mTest (mOp notInD (mVar 6) (mVar 4))) (mFn tupD (mCons (mVar 6) (mCons (mOp ixA (mVar 2) (mVar 6)) mNil))) [6] frzD) mNil))))
  (sRet (mOrV (mOp eqL0 (mVar 4) (mFn lstD mNil)) (mOp eqD (mFn (ar 2 fn_law_fault) (mCons (mVar 1) (mCons (mVar 5) mNil))) (mFn tupD (mCons (mC (.str "bad")) (mCons (mOp ixD (mVar 4) (mC (.int 0))) mNil)))))))))))
noncomputable def fn_law_lacking_right : List D → Store → Res D := runB 7 sem_law_lacking_right
theorem ok_law_lacking_right {f : Addr} {fd : FuncData} (F : Fun K "_law_lacking_right" "_law_lacking_right" s_law_lacking_right f fd) (T : Gb w K cl mg) (G_Test_paths : MFn P w K mg base cl "Test" "paths" 31 1 fn_Test_paths) (G_Test_truth : MFn P w K mg base cl "Test" "truth" 32 2 fn_Test_truth) (G_law_draw : Fn P w K mg base cl "_law_draw" 1 2 fn_law_draw) (G_law_fault : Fn P w K mg base cl "_law_fault" 33 2 fn_law_fault) (G_law_pick : Fn P w K mg base cl "_law_pick" 2 2 fn_law_pick) :
    FnOk P w K mg base (L2.CX P w) 34 f fd ["_law_well", "_law_test", "_law_row_here"] (spOf K cl 3 fn_law_lacking_right) :=
  fn_sem F sc_law_lacking_right rfl fun cdv A outer s H E hr =>
  (s_cons (s_if (tt_cmp (op_neA hr) ne_s (t_callF G_law_fault (hr.mono (by decide)) (takes_of rfl rfl rfl rfl) (ta_cons (t_var 1) (ta_cons (t_callF G_law_pick (hr.mono (by decide)) (takes_of rfl rfl rfl rfl) (ta_cons (t_var 0) (ta_cons (t_lst (ta_cons t_non (ta_cons (t_lst ta_nil) (ta_cons t_str (ta_cons t_int (ta_cons t_bl (ta_cons (t_tup (ta_cons t_int ta_nil)) (ta_cons (t_lst (ta_cons (t_var 2) ta_nil)) ta_nil)))))))) ta_nil))) ta_nil))) (t_tup (ta_cons t_str (ta_cons t_non ta_nil))))
  (s_one (s_ret t_bl))
  s_nil)
  (s_cons (s_set 3 sc_law_lacking_right.nd (t_meth0 (mt_cons G_Test_paths mt_nil) mt_ex (hr.mono (by decide)) (takes_of rfl rfl rfl rfl) (t_var 1)))
  (s_cons (s_if (tt_cmp (op_eqL0 hr) eqL0_s (t_var 3) (t_lst ta_nil))
  (s_one (s_ret (t_cmp (op_eqA hr) eq_s (t_callF G_law_fault (hr.mono (by decide)) (takes_of rfl rfl rfl rfl) (ta_cons (t_var 1) (ta_cons t_dict0 ta_nil))) (t_meth (mt_cons G_Test_truth mt_nil) mt_ex (hr.mono (by decide)) (takes_of rfl rfl rfl rfl) (t_var 1) (ta_cons (t_var 2) ta_nil)))))
  s_nil)
  (s_cons (s_set 4 sc_law_lacking_right.nd (t_lc [("_law_path", 6)] frz_s rfl sc_law_lacking_right.nd (i_seq (t_var 3)) (blkOk_by (N := ["_law_well", "_law_test", "_law_row_here", "_law_some", "_law_gone", "_law_less", "_law_path"]) (sc := defScope s_law_lacking_right) (by decide +kernel)) (fun _ _ _ _ _ => (g_name 6 sc_law_lacking_right.nd)) (fun _ _ _ _ _ => (tts_one (tt_cmp (op_eqA hr) eq_s (t_callF G_law_draw (hr.mono (by decide)) takes0 (ta_cons (t_var 0) (ta_cons t_int ta_nil))) t_int))) (fun _ _ _ _ _ => (t_var 6))))
  (s_cons (s_set 5 sc_law_lacking_right.nd (t_frzR (t_callTy (call_dictP rfl) dctP_s T.b_dict bt_dict' (ta_cons (t_lc [("_law_path", 6)] frz_s rfl sc_law_lacking_right.nd (i_dict (t_var 2)) (blkOk_by (N := ["_law_well", "_law_test", "_law_row_here", "_law_some", "_law_gone", "_law_less", "_law_path"]) (sc := defScope s_law_lacking_right) (by decide +kernel)) (fun _ _ _ _ _ => (g_name 6 sc_law_lacking_right.nd)) (fun _ _ _ _ _ => (tts_one (tt_cmp op_notInA notIn_s (t_var 6) (t_var 4)))) (fun _ _ _ _ _ => (t_tup (ta_cons (t_var 6) (ta_cons (t_ixA hr (t_var 2) (t_var 6)) ta_nil))))) ta_nil))))
  (s_one (s_ret (t_or (t_cmp (op_eqL0 hr) eqL0_s (t_var 4) (t_lst ta_nil)) (t_one (t_cmp (op_eqA hr) eq_s (t_callF G_law_fault (hr.mono (by decide)) (takes_of rfl rfl rfl rfl) (ta_cons (t_var 1) (ta_cons (t_var 5) ta_nil))) (t_tup (ta_cons t_str (ta_cons (t_ix ix_seq ix_s (t_var 4) t_int) ta_nil)))))))))))))
theorem mk_law_lacking_right {f : Addr} {fd : FuncData} (F : Fun K "_law_lacking_right" "_law_lacking_right" s_law_lacking_right f fd) (hm : mg "_law_lacking_right" = some (.ref f)) (T : Gb w K cl mg) (G_Test_paths : MFn P w K mg base cl "Test" "paths" 31 1 fn_Test_paths) (G_Test_truth : MFn P w K mg base cl "Test" "truth" 32 2 fn_Test_truth) (G_law_draw : Fn P w K mg base cl "_law_draw" 1 2 fn_law_draw) (G_law_fault : Fn P w K mg base cl "_law_fault" 33 2 fn_law_fault) (G_law_pick : Fn P w K mg base cl "_law_pick" 2 2 fn_law_pick) : Fn P w K mg base cl "_law_lacking_right" 34 3 fn_law_lacking_right :=
  ⟨f, fd, ["_law_well", "_law_test", "_law_row_here"], ok_law_lacking_right F T G_Test_paths G_Test_truth G_law_draw G_law_fault G_law_pick, hm, F.kp, (F.binds (ps := ["_law_well", "_law_test", "_law_row_here"]) fun _ _ _ _ _ _ us hl => match us, hl with | [_, _, _], _ => rfl)⟩
abbrev s_law_layout : Stmt := (top 53)
theorem sc_law_layout : FnScope ["_law_well", "_law_most", "_law_pool", "_law_turn", "_law_found", "_law_lean", "_law_k", "_law_kind"] ["_law_well", "_law_most"] (defScope s_law_layout) :=
  ⟨rfl, rfl, rfl, by decide +kernel, rfl, by decide +kernel, by decide +kernel⟩
noncomputable def sem_law_layout : MS :=
  (sSeq (sSet 2 (mFn lstD (mCons (mC (.str "a")) (mCons (mC (.str "b")) (mCons (mC (.str "boss.a")) (mCons (mC (.str "boss.unit.c")) (mCons (mC (.str "1.a")) (mCons (mC (.str "2.a")) (mCons (mC (.str "1.boss.b")) (mCons (mC (.str "3.x.y.z")) (mCons (mC (.str "a1")) (mCons (mC (.str "in1")) mNil))))))))))))
  (sSeq (sPar 3 4 (mCons (mFn (ar 2 fn_law_draw) (mCons (mVar 0) (mCons (mC (.int 10)) mNil))) (mCons (mFn lstL mNil) mNil)))
  (sSeq (sSet 5 (mFn (ar 2 fn_law_draw) (mCons (mVar 0) (mCons (mC (.int 3)) mNil))))
  (sSeq (sFor (mRng rng1 (mCons (mOp addD (mC (.int 1)) (mFn (ar 2 fn_law_draw) (mCons (mVar 0) (mCons (mVar 1) mNil)))) mNil)) (ptN 6)
  (sSeq (sSet 7 (mIte (mTest (mOp eqD (mVar 5) (mC (.int 2)))) (mFn (ar 2 fn_law_pick) (mCons (mVar 0) (mCons (mFn lstD (mCons (mC (.str "number")) (mCons (mC (.str "text")) mNil))) mNil))) (mOp ixD (mFn lstD (mCons (mC (.str "number")) (mCons (mC (.str "text")) mNil))) (mVar 5))))
  (sExpr (mMt "list" appD (mVar 4) (mCons (mFn tupD (mCons (mOp ixD (mVar 2) (mOp modD (mFn intD (mCons (mOp addD (mVar 3) (mOp mulD (mC (.int 3)) (mVar 6))) mNil)) (mC (.int 10)))) (mCons (mVar 7) (mCons (mOp eqD (mFn (ar 2 fn_law_draw) (mCons (mVar 0) (mCons (mC (.int 3)) mNil))) (mC (.int 0))) mNil)))) mNil)))))
  (sRet (mUn frzI (mVar 4)))))))
noncomputable def fn_law_layout : List D → Store → Res D := runB 8 sem_law_layout
theorem ok_law_layout {f : Addr} {fd : FuncData} (F : Fun K "_law_layout" "_law_layout" s_law_layout f fd) (T : Gb w K cl mg) (G_law_draw : Fn P w K mg base cl "_law_draw" 1 2 fn_law_draw) (G_law_pick : Fn P w K mg base cl "_law_pick" 2 2 fn_law_pick) :
    FnOk P w K mg base (L2.CX P w) 3 f fd ["_law_well", "_law_most"] (spOf K cl 2 fn_law_layout) :=
  fn_sem F sc_law_layout rfl fun cdv A outer s H E hr =>
  (s_cons (s_set 2 sc_law_layout.nd (t_lst (ta_cons t_str (ta_cons t_str (ta_cons t_str (ta_cons t_str (ta_cons t_str (ta_cons t_str (ta_cons t_str (ta_cons t_str (ta_cons t_str (ta_cons t_str ta_nil))))))))))))
  (s_cons (s_par 3 4 sc_law_layout.nd (ta_cons (t_callF G_law_draw (hr.mono (by decide)) (takes_of rfl rfl rfl rfl) (ta_cons (t_var 0) (ta_cons t_int ta_nil))) (ta_cons (t_lstL ta_nil) ta_nil)))
  (s_cons (s_set 5 sc_law_layout.nd (t_callF G_law_draw (hr.mono (by decide)) (takes_of rfl rfl rfl rfl) (ta_cons (t_var 0) (ta_cons t_int ta_nil))))
  (s_cons (s_for (passes_of rfl) rfl (i_range1 T.b_range (ta_cons (t_op op_addA add_s t_int (t_callF G_law_draw (hr.mono (by decide)) (takes_of rfl rfl rfl rfl) (ta_cons (t_var 0) (ta_cons (t_var 1) ta_nil)))) ta_nil)) (g_name 6 sc_law_layout.nd)
  (s_cons (s_set 7 sc_law_layout.nd (t_ite (tt_cmp (op_eqA hr) eq_s (t_var 5) t_int) (t_callF G_law_pick (hr.mono (by decide)) (takes_of rfl rfl rfl rfl) (ta_cons (t_var 0) (ta_cons (t_lst (ta_cons t_str (ta_cons t_str ta_nil))) ta_nil))) (t_ix ix_seq ix_s (t_lst (ta_cons t_str (ta_cons t_str ta_nil))) (t_var 5))))
  (s_one (s_expr (t_bm PySem.F.plainAttrs_list PySem.F.slot_list_append PySem.F.type_list_append mt_append app_s (t_var 4) (ta_cons (t_tup (ta_cons (t_ix ix_seq ix_s (t_var 2) (t_op op_mod mod_s (t_callTy (call_int1) int_s T.b_int bt_int (ta_cons (t_op op_addA add_s (t_var 3) (t_op op_mulA mul_s t_int (t_var 6))) ta_nil)) t_int)) (ta_cons (t_var 7) (ta_cons (t_cmp (op_eqA hr) eq_s (t_callF G_law_draw (hr.mono (by decide)) (takes_of rfl rfl rfl rfl) (ta_cons (t_var 0) (ta_cons t_int ta_nil))) t_int) ta_nil)))) ta_nil))))))
  (s_one (s_ret (t_frzI (t_var 4))))))))
theorem mk_law_layout {f : Addr} {fd : FuncData} (F : Fun K "_law_layout" "_law_layout" s_law_layout f fd) (hm : mg "_law_layout" = some (.ref f)) (T : Gb w K cl mg) (G_law_draw : Fn P w K mg base cl "_law_draw" 1 2 fn_law_draw) (G_law_pick : Fn P w K mg base cl "_law_pick" 2 2 fn_law_pick) : Fn P w K mg base cl "_law_layout" 3 2 fn_law_layout :=
  ⟨f, fd, ["_law_well", "_law_most"], ok_law_layout F T G_law_draw G_law_pick, hm, F.kp, (F.binds (ps := ["_law_well", "_law_most"]) fun _ _ _ _ _ _ us hl => match us, hl with | [_, _], _ => rfl)⟩
abbrev s_combine : Stmt := (top 27)
theorem sc_combine : FnScope ["kind", "one", "other"] ["kind", "one", "other"] (defScope s_combine) :=
  ⟨rfl, rfl, rfl, by decide +kernel, rfl, by decide +kernel, by decide +kernel⟩
noncomputable def sem_combine : MS :=
  (sSeq (sIf (mNot (mTru (mUn (isCD [("Test", true)]) (mVar 2))))
  (sRaise "BadTest" 2 2 [("why", 1)] (mCons (mC (.str "part")) mNil))
  sPass)
  (sRet (mFn (ar 1 fn_limited) (mCons (mUn frzI (mMake "Test" 4 fn_Test_init (mCons (mVar 0) (mCons (mFn tupD mNil) (mCons (mFn tupD (mCons (mVar 1) (mCons (mVar 2) mNil))) mNil))))) mNil))))
noncomputable def fn_combine : List D → Store → Res D := runB 3 sem_combine
theorem ok_combine {f : Addr} {fd : FuncData} (F : Fun K "combine" "combine" s_combine f fd) (T : Gb w K cl mg) (G_BadTest_init : ErrF P w K mg base cl "BadTest" 1 2 ["self", "why"] [("why", 1)]) (G_Test_init : Mkr P w K mg base cl "Test" 1 4 fn_Test_init) (G_limited : Fn P w K mg base cl "limited" 31 1 fn_limited) :
    FnOk P w K mg base (L2.CX P w) 32 f fd ["kind", "one", "other"] (spOf K cl 3 fn_combine) :=
  fn_sem F sc_combine rfl fun cdv A outer s H E hr =>
  (s_cons (s_if (tt_not (tt_tru (t_isC T.ic_Test T.b_isinstance (t_var 2))))
  (s_one (s_raiseF (N := ["self", "why"]) G_BadTest_init (hr.mono (by decide)) (takes_of rfl rfl rfl rfl) (ta_cons t_str ta_nil) (by decide) (by decide)))
  s_nil)
  (s_one (s_ret (t_callF G_limited (hr.mono (by decide)) (takes_of rfl rfl rfl rfl) (ta_cons (t_frzI (t_make G_Test_init (hr.mono (by decide)) (takes_of rfl rfl rfl rfl) (ta_cons (t_var 0) (ta_cons (t_tup ta_nil) (ta_cons (t_tup (ta_cons (t_var 1) (ta_cons (t_var 2) ta_nil))) ta_nil))))) ta_nil)))))
theorem mk_combine {f : Addr} {fd : FuncData} (F : Fun K "combine" "combine" s_combine f fd) (hm : mg "combine" = some (.ref f)) (T : Gb w K cl mg) (G_BadTest_init : ErrF P w K mg base cl "BadTest" 1 2 ["self", "why"] [("why", 1)]) (G_Test_init : Mkr P w K mg base cl "Test" 1 4 fn_Test_init) (G_limited : Fn P w K mg base cl "limited" 31 1 fn_limited) : Fn P w K mg base cl "combine" 32 3 fn_combine :=
  ⟨f, fd, ["kind", "one", "other"], ok_combine F T G_BadTest_init G_Test_init G_limited, hm, F.kp, (F.binds (ps := ["kind", "one", "other"]) fun _ _ _ _ _ _ us hl => match us, hl with | [_, _, _], _ => rfl)⟩
abbrev s_Test_and : Stmt := (inClass (top 25) 9)
theorem sc_Test_and : FnScope ["self", "other"] ["self", "other"] (defScope s_Test_and) :=
  ⟨rfl, rfl, rfl, by decide +kernel, rfl, by decide +kernel, by decide +kernel⟩
noncomputable def sem_Test_and : MS :=
  (sRet (mFn (ar 3 fn_combine) (mCons (mC (.str "and")) (mCons (mVar 0) (mCons (mVar 1) mNil)))))
noncomputable def fn_Test_and : List D → Store → Res D := runB 2 sem_Test_and
theorem ok_Test_and {f : Addr} {fd : FuncData} (F : Fun K "__and__" "Test.__and__" s_Test_and f fd) (T : Gb w K cl mg) (G_combine : Fn P w K mg base cl "combine" 32 3 fn_combine) :
    FnOk P w K mg base (L2.CX P w) 33 f fd ["self", "other"] (spOf K cl 2 fn_Test_and) :=
  fn_sem F sc_Test_and rfl fun cdv A outer s H E hr =>
  (s_one (s_ret (t_callF G_combine (hr.mono (by decide)) (takes_of rfl rfl rfl rfl) (ta_cons t_str (ta_cons (t_var 0) (ta_cons (t_var 1) ta_nil))))))
theorem mk_Test_and {f : Addr} {fd : FuncData} (F : Fun K "__and__" "Test.__and__" s_Test_and f fd) {C : Addr} (hcl : cl "Test" = some C) (hc : Cls K C) (hm : Meth K C "__and__" f) (T : Gb w K cl mg) (G_combine : Fn P w K mg base cl "combine" 32 3 fn_combine) : MFn P w K mg base cl "Test" "__and__" 33 2 fn_Test_and :=
  ⟨C, f, fd, ["self", "other"], hcl, hc, hm, ok_Test_and F T G_combine, (F.binds (ps := ["self", "other"]) fun _ _ _ _ _ _ us hl => match us, hl with | [_, _], _ => rfl)⟩
abbrev s_Test_or : Stmt := (inClass (top 25) 10)
theorem sc_Test_or : FnScope ["self", "other"] ["self", "other"] (defScope s_Test_or) :=
  ⟨rfl, rfl, rfl, by decide +kernel, rfl, by decide +kernel, by decide +kernel⟩
noncomputable def sem_Test_or : MS :=
  (sRet (mFn (ar 3 fn_combine) (mCons (mC (.str "or")) (mCons (mVar 0) (mCons (mVar 1) mNil)))))
noncomputable def fn_Test_or : List D → Store → Res D := runB 2 sem_Test_or
theorem ok_Test_or {f : Addr} {fd : FuncData} (F : Fun K "__or__" "Test.__or__" s_Test_or f fd) (T : Gb w K cl mg) (G_combine : Fn P w K mg base cl "combine" 32 3 fn_combine) :
    FnOk P w K mg base (L2.CX P w) 33 f fd ["self", "other"] (spOf K cl 2 fn_Test_or) :=
  fn_sem F sc_Test_or rfl fun cdv A outer s H E hr =>
  (s_one (s_ret (t_callF G_combine (hr.mono (by decide)) (takes_of rfl rfl rfl rfl) (ta_cons t_str (ta_cons (t_var 0) (ta_cons (t_var 1) ta_nil))))))
theorem mk_Test_or {f : Addr} {fd : FuncData} (F : Fun K "__or__" "Test.__or__" s_Test_or f fd) {C : Addr} (hcl : cl "Test" = some C) (hc : Cls K C) (hm : Meth K C "__or__" f) (T : Gb w K cl mg) (G_combine : Fn P w K mg base cl "combine" 32 3 fn_combine) : MFn P w K mg base cl "Test" "__or__" 33 2 fn_Test_or :=
  ⟨C, f, fd, ["self", "other"], hcl, hc, hm, ok_Test_or F T G_combine, (F.binds (ps := ["self", "other"]) fun _ _ _ _ _ _ us hl => match us, hl with | [_, _], _ => rfl)⟩
abbrev s_is_integer : Stmt := (top 12)
theorem sc_is_integer : FnScope ["thing"] ["thing"] (defScope s_is_integer) :=
  ⟨rfl, rfl, rfl, by decide +kernel, rfl, by decide +kernel, by decide +kernel⟩
noncomputable def sem_is_integer : MS :=
  (sRet (mAndV (mUn (isiD k_int) (mVar 0)) (mNotV (mUn (isiD k_bool) (mVar 0)))))
noncomputable def fn_is_integer : List D → Store → Res D := runB 1 sem_is_integer
theorem ok_is_integer {f : Addr} {fd : FuncData} (F : Fun K "is_integer" "is_integer" s_is_integer f fd) (T : Gb w K cl mg) :
    FnOk P w K mg base (L2.CX P w) 1 f fd ["thing"] (spOf K cl 1 fn_is_integer) :=
  fn_sem F sc_is_integer rfl fun cdv A outer s H E hr =>
  (s_one (s_ret (t_and (t_isi is_int T.b_isinstance T.b_int bt_int (t_var 0)) (t_one (t_not (t_isi is_bool T.b_isinstance T.b_bool bt_bool (t_var 0)))))))
theorem mk_is_integer {f : Addr} {fd : FuncData} (F : Fun K "is_integer" "is_integer" s_is_integer f fd) (hm : mg "is_integer" = some (.ref f)) (T : Gb w K cl mg) : Fn P w K mg base cl "is_integer" 1 1 fn_is_integer :=
  ⟨f, fd, ["thing"], ok_is_integer F T, hm, F.kp, (F.binds (ps := ["thing"]) fun _ _ _ _ _ _ us hl => match us, hl with | [_], _ => rfl)⟩
abbrev s_is_name : Stmt := (top 15)
theorem sc_is_name : FnScope ["thing", "char"] ["thing"] (defScope s_is_name) :=
  ⟨rfl, rfl, rfl, by decide +kernel, rfl, by decide +kernel, by decide +kernel⟩
noncomputable def sem_is_name : MS :=
  (sSeq (sIf (mOr (mNot (mTru (mUn (isiD k_str) (mVar 0)))) (mNot (mTest (mChain leD leD (mC (.int 1)) (mFn lenD (mCons (mVar 0) mNil)) (mC (.int 8))))))
  (sRet (mC (.bl false)))
  sPass)
  (sSeq (sIf (mOr (mTest (mOp notInD (mOp ixD (mVar 0) (mC (.int 0))) (mC c_LETTERS))) (mTest (mOp inD (mVar 0) (mC c_KEPT_WORDS))))
  (sRet (mC (.bl false)))
  sPass)
  (sSeq (sFor (mIt (mVar 0)) (ptN 1)
  (sIf (mAnd (mTest (mOp notInD (mVar 1) (mC c_LETTERS))) (mTest (mOp notInD (mVar 1) (mC c_DIGITS))))
  (sRet (mC (.bl false)))
  sPass))
  (sRet (mC (.bl true))))))
noncomputable def fn_is_name : List D → Store → Res D := runB 2 sem_is_name
theorem ok_is_name {f : Addr} {fd : FuncData} (F : Fun K "is_name" "is_name" s_is_name f fd) (T : Gb w K cl mg) :
    FnOk P w K mg base (L2.CX P w) 1 f fd ["thing"] (spOf K cl 1 fn_is_name) :=
  fn_sem F sc_is_name rfl fun cdv A outer s H E hr =>
  (s_cons (s_if (PW.pt (tw_or (tt_not (tt_tru (t_isi is_str T.b_isinstance T.b_str bt_str (t_var 0)))) (tw_or1 (tt_not (tt_chain op_leA le_s op_leA le_s t_int (t_callB (call_len) len_s T.b_len bt_len (ta_cons (t_var 0) ta_nil)) t_int)))))
  (s_one (s_ret t_bl))
  s_nil)
  (s_cons (s_if (PW.pt (tw_or (tt_cmp op_notInA notIn_s (t_ix ix_seq ix_s (t_var 0) t_int) (t_glob' T.g_LETTERS)) (tw_or1 (tt_cmp op_inA in_s (t_var 0) (t_glob' T.g_KEPT_WORDS)))))
  (s_one (s_ret t_bl))
  s_nil)
  (s_cons (s_for (passes_of rfl) rfl (i_seq (t_var 0)) (g_name 1 sc_is_name.nd)
  (s_one (s_if (PW.pt (tw_and (tt_cmp op_notInA notIn_s (t_var 1) (t_glob' T.g_LETTERS)) (tw_and1 (tt_cmp op_notInA notIn_s (t_var 1) (t_glob' T.g_DIGITS)))))
  (s_one (s_ret t_bl))
  s_nil)))
  (s_one (s_ret t_bl)))))
theorem mk_is_name {f : Addr} {fd : FuncData} (F : Fun K "is_name" "is_name" s_is_name f fd) (hm : mg "is_name" = some (.ref f)) (T : Gb w K cl mg) : Fn P w K mg base cl "is_name" 1 1 fn_is_name :=
  ⟨f, fd, ["thing"], ok_is_name F T, hm, F.kp, (F.binds (ps := ["thing"]) fun _ _ _ _ _ _ us hl => match us, hl with | [_], _ => rfl)⟩
abbrev s_is_path : Stmt := (top 16)
theorem sc_is_path : FnScope ["thing", "pieces", "piece"] ["thing"] (defScope s_is_path) :=
  ⟨rfl, rfl, rfl, by decide +kernel, rfl, by decide +kernel, by decide +kernel⟩
noncomputable def sem_is_path : MS :=
  (sSeq (sIf (mNot (mTru (mUn (isiD k_str) (mVar 0))))
  (sRet (mC (.bl false)))
  sPass)
  (sSeq (sSet 1 (mMt "str" splitD (mVar 0) (mCons (mC (.str ".")) mNil)))
  (sSeq (sIf (mOr (mTest (mOp gtD (mFn lenD (mCons (mVar 1) mNil)) (mC c_MOST_PIECES))) (mNot (mTru (mFn (ar 1 fn_is_name) (mCons (mOp ixD (mVar 1) (mUn negD (mC (.int 1)))) mNil)))))
  (sRet (mC (.bl false)))
  sPass)
  (sSeq (sIf (mTest (mOp inD (mOp ixD (mVar 1) (mC (.int 0))) (mC c_SLOT_NUMBERS)))
  (sSet 1 (mSl slD (mVar 1) (mPart (mC (.int 1))) mNoPart))
  sPass)
  (sRet (mFn allD (mCons (mComp (mIt (mVar 1)) (ptN 2) mYes (mFn (ar 1 fn_is_name) (mCons (mVar 2) mNil)) [2] frzD) mNil)))))))
noncomputable def fn_is_path : List D → Store → Res D := runB 3 sem_is_path
theorem ok_is_path {f : Addr} {fd : FuncData} (F : Fun K "is_path" "is_path" s_is_path f fd) (T : Gb w K cl mg) (G_is_name : Fn P w K mg base cl "is_name" 1 1 fn_is_name) :
    FnOk P w K mg base (L2.CX P w) 2 f fd ["thing"] (spOf K cl 1 fn_is_path) :=
  fn_sem F sc_is_path rfl fun cdv A outer s H E hr =>
  (s_cons (s_if (tt_not (tt_tru (t_isi is_str T.b_isinstance T.b_str bt_str (t_var 0))))
  (s_one (s_ret t_bl))
  s_nil)
  (s_cons (s_set 1 sc_is_path.nd (t_bm PySem.F.plainAttrs_str PySem.F.slot_str_split PySem.F.type_str_split mt_split split_s (t_var 0) (ta_cons t_str ta_nil)))
  (s_cons (s_if (PW.pt (tw_or (tt_cmp op_gt gt_s (t_callB (call_len) len_s T.b_len bt_len (ta_cons (t_var 1) ta_nil)) (t_glob' T.g_MOST_PIECES)) (tw_or1 (tt_not (tt_tru (t_callF G_is_name (hr.mono (by decide)) (takes_of rfl rfl rfl rfl) (ta_cons (t_ix ix_seq ix_s (t_var 1) (t_un un_neg neg_s t_int)) ta_nil)))))))
  (s_one (s_ret t_bl))
  s_nil)
  (s_cons (s_if (tt_cmp op_inA in_s (t_ix ix_seq ix_s (t_var 1) t_int) (t_glob' T.g_SLOT_NUMBERS))
  (s_one (s_set 1 sc_is_path.nd (t_sl sl_all sl_s (t_var 1) (tp_some t_int) tp_none)))
  s_nil)
  (s_one (s_ret (t_callB (cr_all rfl) all_s T.b_all bt_all (ta_cons (t_lc [("piece", 2)] frz_s rfl sc_is_path.nd (i_seq (t_var 1)) (blkOk_by (N := ["thing", "pieces", "piece"]) (sc := defScope s_is_path) (by decide +kernel)) (fun _ _ _ _ _ => (g_name 2 sc_is_path.nd)) (fun _ _ _ _ _ => tts_nil) (fun _ _ _ _ _ => (t_callF G_is_name (hr.mono (by decide)) takes0 (ta_cons (t_var 2) ta_nil)))) ta_nil))))))))
theorem mk_is_path {f : Addr} {fd : FuncData} (F : Fun K "is_path" "is_path" s_is_path f fd) (hm : mg "is_path" = some (.ref f)) (T : Gb w K cl mg) (G_is_name : Fn P w K mg base cl "is_name" 1 1 fn_is_name) : Fn P w K mg base cl "is_path" 2 1 fn_is_path :=
  ⟨f, fd, ["thing"], ok_is_path F T G_is_name, hm, F.kp, (F.binds (ps := ["thing"]) fun _ _ _ _ _ _ us hl => match us, hl with | [_], _ => rfl)⟩
abbrev s_need_operator : Stmt := (top 33)
theorem sc_need_operator : FnScope ["op"] ["op"] (defScope s_need_operator) :=
  ⟨rfl, rfl, rfl, by decide +kernel, rfl, by decide +kernel, by decide +kernel⟩
noncomputable def sem_need_operator : MS :=
  (sIf (mOr (mNot (mTru (mUn (isiD k_str) (mVar 0)))) (mTest (mOp notInD (mVar 0) (mC c_OPERATORS))))
  (sRaise "BadTest" 2 2 [("why", 1)] (mCons (mC (.str "op")) mNil))
  sPass)
noncomputable def fn_need_operator : List D → Store → Res D := runB 1 sem_need_operator
theorem ok_need_operator {f : Addr} {fd : FuncData} (F : Fun K "need_operator" "need_operator" s_need_operator f fd) (T : Gb w K cl mg) (G_BadTest_init : ErrF P w K mg base cl "BadTest" 1 2 ["self", "why"] [("why", 1)]) :
    FnOk P w K mg base (L2.CX P w) 3 f fd ["op"] (spOf K cl 1 fn_need_operator) :=
  fn_sem F sc_need_operator rfl fun cdv A outer s H E hr =>
  (s_one (s_if (PW.pt (tw_or (tt_not (tt_tru (t_isi is_str T.b_isinstance T.b_str bt_str (t_var 0)))) (tw_or1 (tt_cmp op_notInA notIn_s (t_var 0) (t_glob' T.g_OPERATORS)))))
  (s_one (s_raiseF (N := ["self", "why"]) G_BadTest_init (hr.mono (by decide)) (takes_of rfl rfl rfl rfl) (ta_cons t_str ta_nil) (by decide) (by decide)))
  s_nil))
theorem mk_need_operator {f : Addr} {fd : FuncData} (F : Fun K "need_operator" "need_operator" s_need_operator f fd) (hm : mg "need_operator" = some (.ref f)) (T : Gb w K cl mg) (G_BadTest_init : ErrF P w K mg base cl "BadTest" 1 2 ["self", "why"] [("why", 1)]) : Fn P w K mg base cl "need_operator" 3 1 fn_need_operator :=
  ⟨f, fd, ["op"], ok_need_operator F T G_BadTest_init, hm, F.kp, (F.binds (ps := ["op"]) fun _ _ _ _ _ _ us hl => match us, hl with | [_], _ => rfl)⟩
abbrev s_need_path : Stmt := (top 32)
theorem sc_need_path : FnScope ["thing"] ["thing"] (defScope s_need_path) :=
  ⟨rfl, rfl, rfl, by decide +kernel, rfl, by decide +kernel, by decide +kernel⟩
noncomputable def sem_need_path : MS :=
  (sIf (mNot (mTru (mFn (ar 1 fn_is_path) (mCons (mVar 0) mNil))))
  (sRaise "BadTest" 2 2 [("why", 1)] (mCons (mC (.str "path")) mNil))
  sPass)
noncomputable def fn_need_path : List D → Store → Res D := runB 1 sem_need_path
theorem ok_need_path {f : Addr} {fd : FuncData} (F : Fun K "need_path" "need_path" s_need_path f fd) (T : Gb w K cl mg) (G_BadTest_init : ErrF P w K mg base cl "BadTest" 1 2 ["self", "why"] [("why", 1)]) (G_is_path : Fn P w K mg base cl "is_path" 2 1 fn_is_path) :
    FnOk P w K mg base (L2.CX P w) 3 f fd ["thing"] (spOf K cl 1 fn_need_path) :=
  fn_sem F sc_need_path rfl fun cdv A outer s H E hr =>
  (s_one (s_if (tt_not (tt_tru (t_callF G_is_path (hr.mono (by decide)) (takes_of rfl rfl rfl rfl) (ta_cons (t_var 0) ta_nil))))
  (s_one (s_raiseF (N := ["self", "why"]) G_BadTest_init (hr.mono (by decide)) (takes_of rfl rfl rfl rfl) (ta_cons t_str ta_nil) (by decide) (by decide)))
  s_nil))
theorem mk_need_path {f : Addr} {fd : FuncData} (F : Fun K "need_path" "need_path" s_need_path f fd) (hm : mg "need_path" = some (.ref f)) (T : Gb w K cl mg) (G_BadTest_init : ErrF P w K mg base cl "BadTest" 1 2 ["self", "why"] [("why", 1)]) (G_is_path : Fn P w K mg base cl "is_path" 2 1 fn_is_path) : Fn P w K mg base cl "need_path" 3 1 fn_need_path :=
  ⟨f, fd, ["thing"], ok_need_path F T G_BadTest_init G_is_path, hm, F.kp, (F.binds (ps := ["thing"]) fun _ _ _ _ _ _ us hl => match us, hl with | [_], _ => rfl)⟩
abbrev s_against : Stmt := (top 35)
theorem sc_against : FnScope ["path", "op", "other", "more"] ["path", "op", "other", "more"] (defScope s_against) :=
  ⟨rfl, rfl, rfl, by decide +kernel, rfl, by decide +kernel, by decide +kernel⟩
noncomputable def sem_against : MS :=
  (sSeq (sExpr (mFn (ar 1 fn_need_path) (mCons (mVar 0) mNil)))
  (sSeq (sExpr (mFn (ar 1 fn_need_operator) (mCons (mVar 1) mNil)))
  (sSeq (sIf (mOr (mNot (mTru (mFn (ar 1 fn_is_path) (mCons (mVar 2) mNil)))) (mTest (mOp eqD (mVar 2) (mVar 0))))
  (sRaise "BadTest" 2 2 [("why", 1)] (mCons (mC (.str "path")) mNil))
  sPass)
  (sSeq (sIf (mNot (mTru (mFn (ar 1 fn_is_integer) (mCons (mVar 3) mNil))))
  (sRaise "BadTest" 2 2 [("why", 1)] (mCons (mC (.str "more")) mNil))
  sPass)
  (sRet (mUn frzI (mMake "Test" 4 fn_Test_init (mCons (mC (.str "against")) (mCons (mFn tupD (mCons (mVar 0) (mCons (mVar 1) (mCons (mVar 2) (mCons (mVar 3) mNil))))) (mCons (mFn tupD mNil) mNil))))))))))
noncomputable def fn_against : List D → Store → Res D := runB 4 sem_against
theorem ok_against {f : Addr} {fd : FuncData} (F : Fun K "against" "against" s_against f fd) (T : Gb w K cl mg) (G_BadTest_init : ErrF P w K mg base cl "BadTest" 1 2 ["self", "why"] [("why", 1)]) (G_Test_init : Mkr P w K mg base cl "Test" 1 4 fn_Test_init) (G_is_integer : Fn P w K mg base cl "is_integer" 1 1 fn_is_integer) (G_is_path : Fn P w K mg base cl "is_path" 2 1 fn_is_path) (G_need_operator : Fn P w K mg base cl "need_operator" 3 1 fn_need_operator) (G_need_path : Fn P w K mg base cl "need_path" 3 1 fn_need_path) :
    FnOk P w K mg base (L2.CX P w) 4 f fd ["path", "op", "other", "more"] (spOf K cl 4 fn_against) :=
  fn_sem F sc_against rfl fun cdv A outer s H E hr =>
  (s_cons (s_expr (t_callF G_need_path (hr.mono (by decide)) (takes_of rfl rfl rfl rfl) (ta_cons (t_var 0) ta_nil)))
  (s_cons (s_expr (t_callF G_need_operator (hr.mono (by decide)) (takes_of rfl rfl rfl rfl) (ta_cons (t_var 1) ta_nil)))
  (s_cons (s_if (PW.pt (tw_or (tt_not (tt_tru (t_callF G_is_path (hr.mono (by decide)) (takes_of rfl rfl rfl rfl) (ta_cons (t_var 2) ta_nil)))) (tw_or1 (tt_cmp (op_eqA hr) eq_s (t_var 2) (t_var 0)))))
  (s_one (s_raiseF (N := ["self", "why"]) G_BadTest_init (hr.mono (by decide)) (takes_of rfl rfl rfl rfl) (ta_cons t_str ta_nil) (by decide) (by decide)))
  s_nil)
  (s_cons (s_if (tt_not (tt_tru (t_callF G_is_integer (hr.mono (by decide)) (takes_of rfl rfl rfl rfl) (ta_cons (t_var 3) ta_nil))))
  (s_one (s_raiseF (N := ["self", "why"]) G_BadTest_init (hr.mono (by decide)) (takes_of rfl rfl rfl rfl) (ta_cons t_str ta_nil) (by decide) (by decide)))
  s_nil)
  (s_one (s_ret (t_frzI (t_make G_Test_init (hr.mono (by decide)) (takes_of rfl rfl rfl rfl) (ta_cons t_str (ta_cons (t_tup (ta_cons (t_var 0) (ta_cons (t_var 1) (ta_cons (t_var 2) (ta_cons (t_var 3) ta_nil))))) (ta_cons (t_tup ta_nil) ta_nil)))))))))))
theorem mk_against {f : Addr} {fd : FuncData} (F : FunD K "against" "against" (defArgs s_against) (defBody s_against) (defScope s_against) [] [("more", (.int 0))] f fd) (hm : mg "against" = some (.ref f)) (T : Gb w K cl mg) (G_BadTest_init : ErrF P w K mg base cl "BadTest" 1 2 ["self", "why"] [("why", 1)]) (G_Test_init : Mkr P w K mg base cl "Test" 1 4 fn_Test_init) (G_is_integer : Fn P w K mg base cl "is_integer" 1 1 fn_is_integer) (G_is_path : Fn P w K mg base cl "is_path" 2 1 fn_is_path) (G_need_operator : Fn P w K mg base cl "need_operator" 3 1 fn_need_operator) (G_need_path : Fn P w K mg base cl "need_path" 3 1 fn_need_path) : FnK P w K mg base cl "against" 4 3 "more" (.int 0) fn_against :=
  fnK_mk (ps := ["path", "op", "other", "more"]) F (ok_against (funD_fun F) T G_BadTest_init G_Test_init G_is_integer G_is_path G_need_operator G_need_path) hm rfl (fun _ => .int _) (fun _ _ _ _ _ _ us ws h1 h2 => match us, ws, h1, h2 with | [_, _, _], [_], _, _ => rfl) (fun _ _ _ _ _ _ us ws h1 h2 => match us, ws, h1, h2 with | [_, _, _], [_], _, _ => ⟨_, _, _, _, _, _, rfl, rfl, rfl⟩)
abbrev s_always : Stmt := (top 39)
theorem sc_always : FnScope [] [] (defScope s_always) :=
  ⟨rfl, rfl, rfl, by decide +kernel, rfl, by decide +kernel, by decide +kernel⟩
noncomputable def sem_always : MS :=
  (sRet (mUn frzI (mMake "Test" 4 fn_Test_init (mCons (mC (.str "always")) (mCons (mFn tupD mNil) (mCons (mFn tupD mNil) mNil))))))
noncomputable def fn_always : List D → Store → Res D := runB 0 sem_always
theorem ok_always {f : Addr} {fd : FuncData} (F : Fun K "always" "always" s_always f fd) (T : Gb w K cl mg) (G_Test_init : Mkr P w K mg base cl "Test" 1 4 fn_Test_init) :
    FnOk P w K mg base (L2.CX P w) 3 f fd [] (spOf K cl 0 fn_always) :=
  fn_sem F sc_always rfl fun cdv A outer s H E hr =>
  (s_one (s_ret (t_frzI (t_make G_Test_init (hr.mono (by decide)) (takes_of rfl rfl rfl rfl) (ta_cons t_str (ta_cons (t_tup ta_nil) (ta_cons (t_tup ta_nil) ta_nil)))))))
theorem mk_always {f : Addr} {fd : FuncData} (F : Fun K "always" "always" s_always f fd) (hm : mg "always" = some (.ref f)) (T : Gb w K cl mg) (G_Test_init : Mkr P w K mg base cl "Test" 1 4 fn_Test_init) : Fn P w K mg base cl "always" 3 0 fn_always :=
  ⟨f, fd, [], ok_always F T G_Test_init, hm, F.kp, (F.binds (ps := []) fun _ _ _ _ _ _ us hl => match us, hl with | [], _ => rfl)⟩
abbrev s_is_sequence : Stmt := (top 13)
theorem sc_is_sequence : FnScope ["thing"] ["thing"] (defScope s_is_sequence) :=
  ⟨rfl, rfl, rfl, by decide +kernel, rfl, by decide +kernel, by decide +kernel⟩
noncomputable def sem_is_sequence : MS :=
  (sRet (mUn (isiD k_list_tuple) (mVar 0)))
noncomputable def fn_is_sequence : List D → Store → Res D := runB 1 sem_is_sequence
theorem ok_is_sequence {f : Addr} {fd : FuncData} (F : Fun K "is_sequence" "is_sequence" s_is_sequence f fd) (T : Gb w K cl mg) :
    FnOk P w K mg base (L2.CX P w) 1 f fd ["thing"] (spOf K cl 1 fn_is_sequence) :=
  fn_sem F sc_is_sequence rfl fun cdv A outer s H E hr =>
  (s_one (s_ret (t_isi2 is_list_tuple T.b_isinstance T.b_list bt_list T.b_tuple bt_tuple (t_var 0))))
theorem mk_is_sequence {f : Addr} {fd : FuncData} (F : Fun K "is_sequence" "is_sequence" s_is_sequence f fd) (hm : mg "is_sequence" = some (.ref f)) (T : Gb w K cl mg) : Fn P w K mg base cl "is_sequence" 1 1 fn_is_sequence :=
  ⟨f, fd, ["thing"], ok_is_sequence F T, hm, F.kp, (F.binds (ps := ["thing"]) fun _ _ _ _ _ _ us hl => match us, hl with | [_], _ => rfl)⟩
abbrev s_is_text : Stmt := (top 14)
theorem sc_is_text : FnScope ["thing", "char"] ["thing"] (defScope s_is_text) :=
  ⟨rfl, rfl, rfl, by decide +kernel, rfl, by decide +kernel, by decide +kernel⟩
noncomputable def sem_is_text : MS :=
  (sSeq (sIf (mNot (mTru (mUn (isiD k_str) (mVar 0))))
  (sRet (mC (.bl false)))
  sPass)
  (sSeq (sFor (mIt (mVar 0)) (ptN 1)
  (sIf (mTest (mOp notInD (mVar 1) (mC c_CHARS)))
  (sRet (mC (.bl false)))
  sPass))
  (sRet (mC (.bl true)))))
noncomputable def fn_is_text : List D → Store → Res D := runB 2 sem_is_text
theorem ok_is_text {f : Addr} {fd : FuncData} (F : Fun K "is_text" "is_text" s_is_text f fd) (T : Gb w K cl mg) :
    FnOk P w K mg base (L2.CX P w) 1 f fd ["thing"] (spOf K cl 1 fn_is_text) :=
  fn_sem F sc_is_text rfl fun cdv A outer s H E hr =>
  (s_cons (s_if (tt_not (tt_tru (t_isi is_str T.b_isinstance T.b_str bt_str (t_var 0))))
  (s_one (s_ret t_bl))
  s_nil)
  (s_cons (s_for (passes_of rfl) rfl (i_seq (t_var 0)) (g_name 1 sc_is_text.nd)
  (s_one (s_if (tt_cmp op_notInA notIn_s (t_var 1) (t_glob' T.g_CHARS))
  (s_one (s_ret t_bl))
  s_nil)))
  (s_one (s_ret t_bl))))
theorem mk_is_text {f : Addr} {fd : FuncData} (F : Fun K "is_text" "is_text" s_is_text f fd) (hm : mg "is_text" = some (.ref f)) (T : Gb w K cl mg) : Fn P w K mg base cl "is_text" 1 1 fn_is_text :=
  ⟨f, fd, ["thing"], ok_is_text F T, hm, F.kp, (F.binds (ps := ["thing"]) fun _ _ _ _ _ _ us hl => match us, hl with | [_], _ => rfl)⟩
abbrev s_kind_of : Stmt := (top 17)
theorem sc_kind_of : FnScope ["value"] ["value"] (defScope s_kind_of) :=
  ⟨rfl, rfl, rfl, by decide +kernel, rfl, by decide +kernel, by decide +kernel⟩
noncomputable def sem_kind_of : MS :=
  (sSeq (sIf (mTru (mFn (ar 1 fn_is_integer) (mCons (mVar 0) mNil)))
  (sRet (mC (.str "number")))
  sPass)
  (sSeq (sIf (mTru (mFn (ar 1 fn_is_text) (mCons (mVar 0) mNil)))
  (sRet (mC (.str "text")))
  sPass)
  (sRet (mC .non))))
noncomputable def fn_kind_of : List D → Store → Res D := runB 1 sem_kind_of
theorem ok_kind_of {f : Addr} {fd : FuncData} (F : Fun K "kind_of" "kind_of" s_kind_of f fd) (T : Gb w K cl mg) (G_is_integer : Fn P w K mg base cl "is_integer" 1 1 fn_is_integer) (G_is_text : Fn P w K mg base cl "is_text" 1 1 fn_is_text) :
    FnOk P w K mg base (L2.CX P w) 2 f fd ["value"] (spOf K cl 1 fn_kind_of) :=
  fn_sem F sc_kind_of rfl fun cdv A outer s H E hr =>
  (s_cons (s_if (tt_tru (t_callF G_is_integer (hr.mono (by decide)) (takes_of rfl rfl rfl rfl) (ta_cons (t_var 0) ta_nil)))
  (s_one (s_ret t_str))
  s_nil)
  (s_cons (s_if (tt_tru (t_callF G_is_text (hr.mono (by decide)) (takes_of rfl rfl rfl rfl) (ta_cons (t_var 0) ta_nil)))
  (s_one (s_ret t_str))
  s_nil)
  (s_one (s_ret t_non))))
theorem mk_kind_of {f : Addr} {fd : FuncData} (F : Fun K "kind_of" "kind_of" s_kind_of f fd) (hm : mg "kind_of" = some (.ref f)) (T : Gb w K cl mg) (G_is_integer : Fn P w K mg base cl "is_integer" 1 1 fn_is_integer) (G_is_text : Fn P w K mg base cl "is_text" 1 1 fn_is_text) : Fn P w K mg base cl "kind_of" 2 1 fn_kind_of :=
  ⟨f, fd, ["value"], ok_kind_of F T G_is_integer G_is_text, hm, F.kp, (F.binds (ps := ["value"]) fun _ _ _ _ _ _ us hl => match us, hl with | [_], _ => rfl)⟩
abbrev s_among : Stmt := (top 36)
theorem sc_among : FnScope ["path", "values", "value"] ["path", "values"] (defScope s_among) :=
  ⟨rfl, rfl, rfl, by decide +kernel, rfl, by decide +kernel, by decide +kernel⟩
noncomputable def sem_among : MS :=
  (sSeq (sExpr (mFn (ar 1 fn_need_path) (mCons (mVar 0) mNil)))
  (sSeq (sIf (mOr (mNot (mTru (mFn (ar 1 fn_is_sequence) (mCons (mVar 1) mNil)))) (mNot (mTest (mChain leD leD (mC (.int 1)) (mFn lenD (mCons (mVar 1) mNil)) (mC c_MOST_VALUES)))))
  (sRaise "BadTest" 2 2 [("why", 1)] (mCons (mC (.str "value")) mNil))
  sPass)
  (sSeq (sIf (mTru (mFn anyD (mCons (mComp (mIt (mVar 1)) (ptN 2) mYes (mOp isND (mFn (ar 1 fn_kind_of) (mCons (mVar 2) mNil)) (mC .non)) [2] frzD) mNil)))
  (sRaise "BadTest" 2 2 [("why", 1)] (mCons (mC (.str "value")) mNil))
  sPass)
  (sRet (mUn frzI (mMake "Test" 4 fn_Test_init (mCons (mC (.str "among")) (mCons (mFn tupD (mCons (mVar 0) (mCons (mFn tupleD (mCons (mVar 1) mNil)) mNil))) (mCons (mFn tupD mNil) mNil)))))))))
noncomputable def fn_among : List D → Store → Res D := runB 3 sem_among
theorem ok_among {f : Addr} {fd : FuncData} (F : Fun K "among" "among" s_among f fd) (T : Gb w K cl mg) (G_BadTest_init : ErrF P w K mg base cl "BadTest" 1 2 ["self", "why"] [("why", 1)]) (G_Test_init : Mkr P w K mg base cl "Test" 1 4 fn_Test_init) (G_is_sequence : Fn P w K mg base cl "is_sequence" 1 1 fn_is_sequence) (G_kind_of : Fn P w K mg base cl "kind_of" 2 1 fn_kind_of) (G_need_path : Fn P w K mg base cl "need_path" 3 1 fn_need_path) :
    FnOk P w K mg base (L2.CX P w) 4 f fd ["path", "values"] (spOf K cl 2 fn_among) :=
  fn_sem F sc_among rfl fun cdv A outer s H E hr =>
  (s_cons (s_expr (t_callF G_need_path (hr.mono (by decide)) (takes_of rfl rfl rfl rfl) (ta_cons (t_var 0) ta_nil)))
  (s_cons (s_if (PW.pt (tw_or (tt_not (tt_tru (t_callF G_is_sequence (hr.mono (by decide)) (takes_of rfl rfl rfl rfl) (ta_cons (t_var 1) ta_nil)))) (tw_or1 (tt_not (tt_chain op_leA le_s op_leA le_s t_int (t_callB (call_len) len_s T.b_len bt_len (ta_cons (t_var 1) ta_nil)) (t_glob' T.g_MOST_VALUES))))))
  (s_one (s_raiseF (N := ["self", "why"]) G_BadTest_init (hr.mono (by decide)) (takes_of rfl rfl rfl rfl) (ta_cons t_str ta_nil) (by decide) (by decide)))
  s_nil)
  (s_cons (s_if (tt_tru (t_callB (cr_any rfl) any_s T.b_any bt_any (ta_cons (t_lc [("value", 2)] frz_s rfl sc_among.nd (i_seq (t_var 1)) (blkOk_by (N := ["path", "values", "value"]) (sc := defScope s_among) (by decide +kernel)) (fun _ _ _ _ _ => (g_name 2 sc_among.nd)) (fun _ _ _ _ _ => tts_nil) (fun _ _ _ _ _ => (t_cmp op_isA isN_s (t_callF G_kind_of (hr.mono (by decide)) takes0 (ta_cons (t_var 2) ta_nil)) t_non))) ta_nil)))
  (s_one (s_raiseF (N := ["self", "why"]) G_BadTest_init (hr.mono (by decide)) (takes_of rfl rfl rfl rfl) (ta_cons t_str ta_nil) (by decide) (by decide)))
  s_nil)
  (s_one (s_ret (t_frzI (t_make G_Test_init (hr.mono (by decide)) (takes_of rfl rfl rfl rfl) (ta_cons t_str (ta_cons (t_tup (ta_cons (t_var 0) (ta_cons (t_callTy (call_tuple_of) tuple_s T.b_tuple bt_tuple (ta_cons (t_var 1) ta_nil)) ta_nil))) (ta_cons (t_tup ta_nil) ta_nil))))))))))
theorem mk_among {f : Addr} {fd : FuncData} (F : Fun K "among" "among" s_among f fd) (hm : mg "among" = some (.ref f)) (T : Gb w K cl mg) (G_BadTest_init : ErrF P w K mg base cl "BadTest" 1 2 ["self", "why"] [("why", 1)]) (G_Test_init : Mkr P w K mg base cl "Test" 1 4 fn_Test_init) (G_is_sequence : Fn P w K mg base cl "is_sequence" 1 1 fn_is_sequence) (G_kind_of : Fn P w K mg base cl "kind_of" 2 1 fn_kind_of) (G_need_path : Fn P w K mg base cl "need_path" 3 1 fn_need_path) : Fn P w K mg base cl "among" 4 2 fn_among :=
  ⟨f, fd, ["path", "values"], ok_among F T G_BadTest_init G_Test_init G_is_sequence G_kind_of G_need_path, hm, F.kp, (F.binds (ps := ["path", "values"]) fun _ _ _ _ _ _ us hl => match us, hl with | [_, _], _ => rfl)⟩
abbrev s_begins : Stmt := (top 37)
theorem sc_begins : FnScope ["path", "prefix"] ["path", "prefix"] (defScope s_begins) :=
  ⟨rfl, rfl, rfl, by decide +kernel, rfl, by decide +kernel, by decide +kernel⟩
noncomputable def sem_begins : MS :=
  (sSeq (sExpr (mFn (ar 1 fn_need_path) (mCons (mVar 0) mNil)))
  (sSeq (sIf (mNot (mTru (mFn (ar 1 fn_is_text) (mCons (mVar 1) mNil))))
  (sRaise "BadTest" 2 2 [("why", 1)] (mCons (mC (.str "value")) mNil))
  sPass)
  (sRet (mUn frzI (mMake "Test" 4 fn_Test_init (mCons (mC (.str "begins")) (mCons (mFn tupD (mCons (mVar 0) (mCons (mVar 1) mNil))) (mCons (mFn tupD mNil) mNil))))))))
noncomputable def fn_begins : List D → Store → Res D := runB 2 sem_begins
theorem ok_begins {f : Addr} {fd : FuncData} (F : Fun K "begins" "begins" s_begins f fd) (T : Gb w K cl mg) (G_BadTest_init : ErrF P w K mg base cl "BadTest" 1 2 ["self", "why"] [("why", 1)]) (G_Test_init : Mkr P w K mg base cl "Test" 1 4 fn_Test_init) (G_is_text : Fn P w K mg base cl "is_text" 1 1 fn_is_text) (G_need_path : Fn P w K mg base cl "need_path" 3 1 fn_need_path) :
    FnOk P w K mg base (L2.CX P w) 4 f fd ["path", "prefix"] (spOf K cl 2 fn_begins) :=
  fn_sem F sc_begins rfl fun cdv A outer s H E hr =>
  (s_cons (s_expr (t_callF G_need_path (hr.mono (by decide)) (takes_of rfl rfl rfl rfl) (ta_cons (t_var 0) ta_nil)))
  (s_cons (s_if (tt_not (tt_tru (t_callF G_is_text (hr.mono (by decide)) (takes_of rfl rfl rfl rfl) (ta_cons (t_var 1) ta_nil))))
  (s_one (s_raiseF (N := ["self", "why"]) G_BadTest_init (hr.mono (by decide)) (takes_of rfl rfl rfl rfl) (ta_cons t_str ta_nil) (by decide) (by decide)))
  s_nil)
  (s_one (s_ret (t_frzI (t_make G_Test_init (hr.mono (by decide)) (takes_of rfl rfl rfl rfl) (ta_cons t_str (ta_cons (t_tup (ta_cons (t_var 0) (ta_cons (t_var 1) ta_nil))) (ta_cons (t_tup ta_nil) ta_nil)))))))))
theorem mk_begins {f : Addr} {fd : FuncData} (F : Fun K "begins" "begins" s_begins f fd) (hm : mg "begins" = some (.ref f)) (T : Gb w K cl mg) (G_BadTest_init : ErrF P w K mg base cl "BadTest" 1 2 ["self", "why"] [("why", 1)]) (G_Test_init : Mkr P w K mg base cl "Test" 1 4 fn_Test_init) (G_is_text : Fn P w K mg base cl "is_text" 1 1 fn_is_text) (G_need_path : Fn P w K mg base cl "need_path" 3 1 fn_need_path) : Fn P w K mg base cl "begins" 4 2 fn_begins :=
  ⟨f, fd, ["path", "prefix"], ok_begins F T G_BadTest_init G_Test_init G_is_text G_need_path, hm, F.kp, (F.binds (ps := ["path", "prefix"]) fun _ _ _ _ _ _ us hl => match us, hl with | [_, _], _ => rfl)⟩
abbrev s_compare : Stmt := (top 34)
theorem sc_compare : FnScope ["path", "op", "value"] ["path", "op", "value"] (defScope s_compare) :=
  ⟨rfl, rfl, rfl, by decide +kernel, rfl, by decide +kernel, by decide +kernel⟩
noncomputable def sem_compare : MS :=
  (sSeq (sExpr (mFn (ar 1 fn_need_path) (mCons (mVar 0) mNil)))
  (sSeq (sExpr (mFn (ar 1 fn_need_operator) (mCons (mVar 1) mNil)))
  (sSeq (sIf (mTest (mOp isND (mFn (ar 1 fn_kind_of) (mCons (mVar 2) mNil)) (mC .non)))
  (sRaise "BadTest" 2 2 [("why", 1)] (mCons (mC (.str "value")) mNil))
  sPass)
  (sRet (mUn frzI (mMake "Test" 4 fn_Test_init (mCons (mC (.str "compare")) (mCons (mFn tupD (mCons (mVar 0) (mCons (mVar 1) (mCons (mVar 2) mNil)))) (mCons (mFn tupD mNil) mNil)))))))))
noncomputable def fn_compare : List D → Store → Res D := runB 3 sem_compare
theorem ok_compare {f : Addr} {fd : FuncData} (F : Fun K "compare" "compare" s_compare f fd) (T : Gb w K cl mg) (G_BadTest_init : ErrF P w K mg base cl "BadTest" 1 2 ["self", "why"] [("why", 1)]) (G_Test_init : Mkr P w K mg base cl "Test" 1 4 fn_Test_init) (G_kind_of : Fn P w K mg base cl "kind_of" 2 1 fn_kind_of) (G_need_operator : Fn P w K mg base cl "need_operator" 3 1 fn_need_operator) (G_need_path : Fn P w K mg base cl "need_path" 3 1 fn_need_path) :
    FnOk P w K mg base (L2.CX P w) 4 f fd ["path", "op", "value"] (spOf K cl 3 fn_compare) :=
  fn_sem F sc_compare rfl fun cdv A outer s H E hr =>
  (s_cons (s_expr (t_callF G_need_path (hr.mono (by decide)) (takes_of rfl rfl rfl rfl) (ta_cons (t_var 0) ta_nil)))
  (s_cons (s_expr (t_callF G_need_operator (hr.mono (by decide)) (takes_of rfl rfl rfl rfl) (ta_cons (t_var 1) ta_nil)))
  (s_cons (s_if (tt_cmp op_isA isN_s (t_callF G_kind_of (hr.mono (by decide)) (takes_of rfl rfl rfl rfl) (ta_cons (t_var 2) ta_nil)) t_non)
  (s_one (s_raiseF (N := ["self", "why"]) G_BadTest_init (hr.mono (by decide)) (takes_of rfl rfl rfl rfl) (ta_cons t_str ta_nil) (by decide) (by decide)))
  s_nil)
  (s_one (s_ret (t_frzI (t_make G_Test_init (hr.mono (by decide)) (takes_of rfl rfl rfl rfl) (ta_cons t_str (ta_cons (t_tup (ta_cons (t_var 0) (ta_cons (t_var 1) (ta_cons (t_var 2) ta_nil)))) (ta_cons (t_tup ta_nil) ta_nil))))))))))
theorem mk_compare {f : Addr} {fd : FuncData} (F : Fun K "compare" "compare" s_compare f fd) (hm : mg "compare" = some (.ref f)) (T : Gb w K cl mg) (G_BadTest_init : ErrF P w K mg base cl "BadTest" 1 2 ["self", "why"] [("why", 1)]) (G_Test_init : Mkr P w K mg base cl "Test" 1 4 fn_Test_init) (G_kind_of : Fn P w K mg base cl "kind_of" 2 1 fn_kind_of) (G_need_operator : Fn P w K mg base cl "need_operator" 3 1 fn_need_operator) (G_need_path : Fn P w K mg base cl "need_path" 3 1 fn_need_path) : Fn P w K mg base cl "compare" 4 3 fn_compare :=
  ⟨f, fd, ["path", "op", "value"], ok_compare F T G_BadTest_init G_Test_init G_kind_of G_need_operator G_need_path, hm, F.kp, (F.binds (ps := ["path", "op", "value"]) fun _ _ _ _ _ _ us hl => match us, hl with | [_, _, _], _ => rfl)⟩
abbrev s_empty : Stmt := (top 38)
theorem sc_empty : FnScope ["path"] ["path"] (defScope s_empty) :=
  ⟨rfl, rfl, rfl, by decide +kernel, rfl, by decide +kernel, by decide +kernel⟩
noncomputable def sem_empty : MS :=
  (sSeq (sExpr (mFn (ar 1 fn_need_path) (mCons (mVar 0) mNil)))
  (sRet (mUn frzI (mMake "Test" 4 fn_Test_init (mCons (mC (.str "empty")) (mCons (mFn tupD (mCons (mVar 0) mNil)) (mCons (mFn tupD mNil) mNil)))))))
noncomputable def fn_empty : List D → Store → Res D := runB 1 sem_empty
theorem ok_empty {f : Addr} {fd : FuncData} (F : Fun K "empty" "empty" s_empty f fd) (T : Gb w K cl mg) (G_Test_init : Mkr P w K mg base cl "Test" 1 4 fn_Test_init) (G_need_path : Fn P w K mg base cl "need_path" 3 1 fn_need_path) :
    FnOk P w K mg base (L2.CX P w) 4 f fd ["path"] (spOf K cl 1 fn_empty) :=
  fn_sem F sc_empty rfl fun cdv A outer s H E hr =>
  (s_cons (s_expr (t_callF G_need_path (hr.mono (by decide)) (takes_of rfl rfl rfl rfl) (ta_cons (t_var 0) ta_nil)))
  (s_one (s_ret (t_frzI (t_make G_Test_init (hr.mono (by decide)) (takes_of rfl rfl rfl rfl) (ta_cons t_str (ta_cons (t_tup (ta_cons (t_var 0) ta_nil)) (ta_cons (t_tup ta_nil) ta_nil))))))))
theorem mk_empty {f : Addr} {fd : FuncData} (F : Fun K "empty" "empty" s_empty f fd) (hm : mg "empty" = some (.ref f)) (T : Gb w K cl mg) (G_Test_init : Mkr P w K mg base cl "Test" 1 4 fn_Test_init) (G_need_path : Fn P w K mg base cl "need_path" 3 1 fn_need_path) : Fn P w K mg base cl "empty" 4 1 fn_empty :=
  ⟨f, fd, ["path"], ok_empty F T G_Test_init G_need_path, hm, F.kp, (F.binds (ps := ["path"]) fun _ _ _ _ _ _ us hl => match us, hl with | [_], _ => rfl)⟩
abbrev s_never : Stmt := (top 40)
theorem sc_never : FnScope [] [] (defScope s_never) :=
  ⟨rfl, rfl, rfl, by decide +kernel, rfl, by decide +kernel, by decide +kernel⟩
noncomputable def sem_never : MS :=
  (sRet (mUn frzI (mMake "Test" 4 fn_Test_init (mCons (mC (.str "never")) (mCons (mFn tupD mNil) (mCons (mFn tupD mNil) mNil))))))
noncomputable def fn_never : List D → Store → Res D := runB 0 sem_never
theorem ok_never {f : Addr} {fd : FuncData} (F : Fun K "never" "never" s_never f fd) (T : Gb w K cl mg) (G_Test_init : Mkr P w K mg base cl "Test" 1 4 fn_Test_init) :
    FnOk P w K mg base (L2.CX P w) 3 f fd [] (spOf K cl 0 fn_never) :=
  fn_sem F sc_never rfl fun cdv A outer s H E hr =>
  (s_one (s_ret (t_frzI (t_make G_Test_init (hr.mono (by decide)) (takes_of rfl rfl rfl rfl) (ta_cons t_str (ta_cons (t_tup ta_nil) (ta_cons (t_tup ta_nil) ta_nil)))))))
theorem mk_never {f : Addr} {fd : FuncData} (F : Fun K "never" "never" s_never f fd) (hm : mg "never" = some (.ref f)) (T : Gb w K cl mg) (G_Test_init : Mkr P w K mg base cl "Test" 1 4 fn_Test_init) : Fn P w K mg base cl "never" 3 0 fn_never :=
  ⟨f, fd, [], ok_never F T G_Test_init, hm, F.kp, (F.binds (ps := []) fun _ _ _ _ _ _ us hl => match us, hl with | [], _ => rfl)⟩
abbrev s_sure : Stmt := (top 28)
theorem sc_sure : FnScope ["test"] ["test"] (defScope s_sure) :=
  ⟨rfl, rfl, rfl, by decide +kernel, rfl, by decide +kernel, by decide +kernel⟩
noncomputable def sem_sure : MS :=
  (sSeq (sIf (mNot (mTru (mUn (isCD [("Test", true)]) (mVar 0))))
  (sRaise "BadTest" 2 2 [("why", 1)] (mCons (mC (.str "part")) mNil))
  sPass)
  (sRet (mFn (ar 1 fn_limited) (mCons (mUn frzI (mMake "Test" 4 fn_Test_init (mCons (mC (.str "sure")) (mCons (mFn tupD mNil) (mCons (mFn tupD (mCons (mVar 0) mNil)) mNil))))) mNil))))
noncomputable def fn_sure : List D → Store → Res D := runB 1 sem_sure
theorem ok_sure {f : Addr} {fd : FuncData} (F : Fun K "sure" "sure" s_sure f fd) (T : Gb w K cl mg) (G_BadTest_init : ErrF P w K mg base cl "BadTest" 1 2 ["self", "why"] [("why", 1)]) (G_Test_init : Mkr P w K mg base cl "Test" 1 4 fn_Test_init) (G_limited : Fn P w K mg base cl "limited" 31 1 fn_limited) :
    FnOk P w K mg base (L2.CX P w) 32 f fd ["test"] (spOf K cl 1 fn_sure) :=
  fn_sem F sc_sure rfl fun cdv A outer s H E hr =>
  (s_cons (s_if (tt_not (tt_tru (t_isC T.ic_Test T.b_isinstance (t_var 0))))
  (s_one (s_raiseF (N := ["self", "why"]) G_BadTest_init (hr.mono (by decide)) (takes_of rfl rfl rfl rfl) (ta_cons t_str ta_nil) (by decide) (by decide)))
  s_nil)
  (s_one (s_ret (t_callF G_limited (hr.mono (by decide)) (takes_of rfl rfl rfl rfl) (ta_cons (t_frzI (t_make G_Test_init (hr.mono (by decide)) (takes_of rfl rfl rfl rfl) (ta_cons t_str (ta_cons (t_tup ta_nil) (ta_cons (t_tup (ta_cons (t_var 0) ta_nil)) ta_nil))))) ta_nil)))))
theorem mk_sure {f : Addr} {fd : FuncData} (F : Fun K "sure" "sure" s_sure f fd) (hm : mg "sure" = some (.ref f)) (T : Gb w K cl mg) (G_BadTest_init : ErrF P w K mg base cl "BadTest" 1 2 ["self", "why"] [("why", 1)]) (G_Test_init : Mkr P w K mg base cl "Test" 1 4 fn_Test_init) (G_limited : Fn P w K mg base cl "limited" 31 1 fn_limited) : Fn P w K mg base cl "sure" 32 1 fn_sure :=
  ⟨f, fd, ["test"], ok_sure F T G_BadTest_init G_Test_init G_limited, hm, F.kp, (F.binds (ps := ["test"]) fun _ _ _ _ _ _ us hl => match us, hl with | [_], _ => rfl)⟩
abbrev s_unsure : Stmt := (top 41)
theorem sc_unsure : FnScope [] [] (defScope s_unsure) :=
  ⟨rfl, rfl, rfl, by decide +kernel, rfl, by decide +kernel, by decide +kernel⟩
noncomputable def sem_unsure : MS :=
  (sRet (mUn frzI (mMake "Test" 4 fn_Test_init (mCons (mC (.str "unsure")) (mCons (mFn tupD mNil) (mCons (mFn tupD mNil) mNil))))))
noncomputable def fn_unsure : List D → Store → Res D := runB 0 sem_unsure
theorem ok_unsure {f : Addr} {fd : FuncData} (F : Fun K "unsure" "unsure" s_unsure f fd) (T : Gb w K cl mg) (G_Test_init : Mkr P w K mg base cl "Test" 1 4 fn_Test_init) :
    FnOk P w K mg base (L2.CX P w) 3 f fd [] (spOf K cl 0 fn_unsure) :=
  fn_sem F sc_unsure rfl fun cdv A outer s H E hr =>
  (s_one (s_ret (t_frzI (t_make G_Test_init (hr.mono (by decide)) (takes_of rfl rfl rfl rfl) (ta_cons t_str (ta_cons (t_tup ta_nil) (ta_cons (t_tup ta_nil) ta_nil)))))))
theorem mk_unsure {f : Addr} {fd : FuncData} (F : Fun K "unsure" "unsure" s_unsure f fd) (hm : mg "unsure" = some (.ref f)) (T : Gb w K cl mg) (G_Test_init : Mkr P w K mg base cl "Test" 1 4 fn_Test_init) : Fn P w K mg base cl "unsure" 3 0 fn_unsure :=
  ⟨f, fd, [], ok_unsure F T G_Test_init, hm, F.kp, (F.binds (ps := []) fun _ _ _ _ _ _ us hl => match us, hl with | [], _ => rfl)⟩
abbrev s_law_made : Stmt := (top 56)
theorem sc_law_made : FnScope ["_law_spec_here", "_law_word"] ["_law_spec_here"] (defScope s_law_made) :=
  ⟨rfl, rfl, rfl, by decide +kernel, rfl, by decide +kernel, by decide +kernel⟩
noncomputable def sem_law_made (rec : List D → Store → Res D) : MS :=
  (sSeq (sSet 1 (mOp ixD (mVar 0) (mC (.int 0))))
  (sSeq (sIf (mTest (mOp eqD (mVar 1) (mC (.str "and"))))
  (sRet (mBin "Test" fn_Test_and (mFn (ar 1 rec) (mCons (mOp ixD (mVar 0) (mC (.int 1))) mNil)) (mFn (ar 1 rec) (mCons (mOp ixD (mVar 0) (mC (.int 2))) mNil))))
  sPass)
  (sSeq (sIf (mTest (mOp eqD (mVar 1) (mC (.str "or"))))
  (sRet (mBin "Test" fn_Test_or (mFn (ar 1 rec) (mCons (mOp ixD (mVar 0) (mC (.int 1))) mNil)) (mFn (ar 1 rec) (mCons (mOp ixD (mVar 0) (mC (.int 2))) mNil))))
  sPass)
  (sSeq (sIf (mTest (mOp eqD (mVar 1) (mC (.str "not"))))
  (sRet (mInv "Test" fn_Test_invert (mFn (ar 1 rec) (mCons (mOp ixD (mVar 0) (mC (.int 1))) mNil))))
  sPass)
  (sSeq (sIf (mTest (mOp eqD (mVar 1) (mC (.str "sure"))))
  (sRet (mFn (ar 1 fn_sure) (mCons (mFn (ar 1 rec) (mCons (mOp ixD (mVar 0) (mC (.int 1))) mNil)) mNil)))
  sPass)
  (sSeq (sIf (mTest (mOp eqD (mVar 1) (mC (.str "compare"))))
  (sRet (mFn (ar 3 fn_compare) (mCons (mOp ixD (mVar 0) (mC (.int 1))) (mCons (mOp ixD (mVar 0) (mC (.int 2))) (mCons (mOp ixD (mVar 0) (mC (.int 3))) mNil)))))
  sPass)
  (sSeq (sIf (mTest (mOp eqD (mVar 1) (mC (.str "against"))))
  (sRet (mIte (mTest (mOp neD (mOp ixD (mVar 0) (mC (.int 4))) (mC (.int 0)))) (mFnK 3 fn_against (mCons (mOp ixD (mVar 0) (mC (.int 1))) (mCons (mOp ixD (mVar 0) (mC (.int 2))) (mCons (mOp ixD (mVar 0) (mC (.int 3))) mNil))) (mOp ixD (mVar 0) (mC (.int 4)))) (mFnD 3 (.int 0) fn_against (mCons (mOp ixD (mVar 0) (mC (.int 1))) (mCons (mOp ixD (mVar 0) (mC (.int 2))) (mCons (mOp ixD (mVar 0) (mC (.int 3))) mNil))))))
  sPass)
  (sSeq (sIf (mTest (mOp eqD (mVar 1) (mC (.str "among"))))
  (sRet (mFn (ar 2 fn_among) (mCons (mOp ixD (mVar 0) (mC (.int 1))) (mCons (mOp ixD (mVar 0) (mC (.int 2))) mNil))))
  sPass)
  (sSeq (sIf (mTest (mOp eqD (mVar 1) (mC (.str "begins"))))
  (sRet (mFn (ar 2 fn_begins) (mCons (mOp ixD (mVar 0) (mC (.int 1))) (mCons (mOp ixD (mVar 0) (mC (.int 2))) mNil))))
  sPass)
  (sSeq (sIf (mTest (mOp eqD (mVar 1) (mC (.str "empty"))))
  (sRet (mFn (ar 1 fn_empty) (mCons (mOp ixD (mVar 0) (mC (.int 1))) mNil)))
  sPass)
  (sRet (mTab [("always", fn_always), ("never", fn_never), ("unsure", fn_unsure)] (mVar 1)))))))))))))
noncomputable def fn_law_made : Nat → List D → Store → Res D
  | 0 => fun _ _ => .stk
  | j + 1 => runB 2 (sem_law_made (fn_law_made j))
theorem ok_law_made {k : Nat} {rec : List D → Store → Res D} {f : Addr} {fd : FuncData} (hk : 33 ≤ k) (F : Fun K "_law_made" "_law_made" s_law_made f fd) (T : Gb w K cl mg) (G_Test_and : MFn P w K mg base cl "Test" "__and__" 33 2 fn_Test_and) (G_Test_invert : MFn P w K mg base cl "Test" "__invert__" 32 1 fn_Test_invert) (G_Test_or : MFn P w K mg base cl "Test" "__or__" 33 2 fn_Test_or) (G_law_made : Fn P w K mg base cl "_law_made" k 1 rec) (G_against : FnK P w K mg base cl "against" 4 3 "more" (.int 0) fn_against) (G_always : Fn P w K mg base cl "always" 3 0 fn_always) (G_among : Fn P w K mg base cl "among" 4 2 fn_among) (G_begins : Fn P w K mg base cl "begins" 4 2 fn_begins) (G_compare : Fn P w K mg base cl "compare" 4 3 fn_compare) (G_empty : Fn P w K mg base cl "empty" 4 1 fn_empty) (G_never : Fn P w K mg base cl "never" 3 0 fn_never) (G_sure : Fn P w K mg base cl "sure" 32 1 fn_sure) (G_unsure : Fn P w K mg base cl "unsure" 3 0 fn_unsure) :
    FnOk P w K mg base (L2.CX P w) (k + 1) f fd ["_law_spec_here"] (spOf K cl 1 ((runB 2 (sem_law_made rec)))) :=
  fn_sem F sc_law_made rfl fun cdv A outer s H E hr =>
  (s_cons (s_set 1 sc_law_made.nd (t_ix ix_seq ix_s (t_var 0) t_int))
  (s_cons (s_if (tt_cmp (op_eqA hr) eq_s (t_var 1) t_str)
  (s_one (s_ret (t_bin' G_Test_and T.sf_Test (hr.mono (by omega)) (takes_of rfl rfl rfl rfl) (t_callF G_law_made (hr.mono (by omega)) (takes_of rfl rfl rfl rfl) (ta_cons (t_ix ix_seq ix_s (t_var 0) t_int) ta_nil)) (t_callF G_law_made (hr.mono (by omega)) (takes_of rfl rfl rfl rfl) (ta_cons (t_ix ix_seq ix_s (t_var 0) t_int) ta_nil)))))
  s_nil)
  (s_cons (s_if (tt_cmp (op_eqA hr) eq_s (t_var 1) t_str)
  (s_one (s_ret (t_bin' G_Test_or T.sf_Test (hr.mono (by omega)) (takes_of rfl rfl rfl rfl) (t_callF G_law_made (hr.mono (by omega)) (takes_of rfl rfl rfl rfl) (ta_cons (t_ix ix_seq ix_s (t_var 0) t_int) ta_nil)) (t_callF G_law_made (hr.mono (by omega)) (takes_of rfl rfl rfl rfl) (ta_cons (t_ix ix_seq ix_s (t_var 0) t_int) ta_nil)))))
  s_nil)
  (s_cons (s_if (tt_cmp (op_eqA hr) eq_s (t_var 1) t_str)
  (s_one (s_ret (t_inv G_Test_invert (hr.mono (by omega)) (takes_of rfl rfl rfl rfl) (t_callF G_law_made (hr.mono (by omega)) (takes_of rfl rfl rfl rfl) (ta_cons (t_ix ix_seq ix_s (t_var 0) t_int) ta_nil)))))
  s_nil)
  (s_cons (s_if (tt_cmp (op_eqA hr) eq_s (t_var 1) t_str)
  (s_one (s_ret (t_callF G_sure (hr.mono (by omega)) (takes_of rfl rfl rfl rfl) (ta_cons (t_callF G_law_made (hr.mono (by omega)) (takes_of rfl rfl rfl rfl) (ta_cons (t_ix ix_seq ix_s (t_var 0) t_int) ta_nil)) ta_nil))))
  s_nil)
  (s_cons (s_if (tt_cmp (op_eqA hr) eq_s (t_var 1) t_str)
  (s_one (s_ret (t_callF G_compare (hr.mono (by omega)) (takes_of rfl rfl rfl rfl) (ta_cons (t_ix ix_seq ix_s (t_var 0) t_int) (ta_cons (t_ix ix_seq ix_s (t_var 0) t_int) (ta_cons (t_ix ix_seq ix_s (t_var 0) t_int) ta_nil))))))
  s_nil)
  (s_cons (s_if (tt_cmp (op_eqA hr) eq_s (t_var 1) t_str)
  (s_one (s_ret (t_ite (tt_cmp (op_neA hr) ne_s (t_ix ix_seq ix_s (t_var 0) t_int) t_int) (t_callK G_against (hr.mono (by omega)) (takes_of rfl rfl rfl rfl) (ta_cons (t_ix ix_seq ix_s (t_var 0) t_int) (ta_cons (t_ix ix_seq ix_s (t_var 0) t_int) (ta_cons (t_ix ix_seq ix_s (t_var 0) t_int) ta_nil))) (t_ix ix_seq ix_s (t_var 0) t_int)) (t_callKd G_against (hr.mono (by omega)) (takes_of rfl rfl rfl rfl) (ta_cons (t_ix ix_seq ix_s (t_var 0) t_int) (ta_cons (t_ix ix_seq ix_s (t_var 0) t_int) (ta_cons (t_ix ix_seq ix_s (t_var 0) t_int) ta_nil)))))))
  s_nil)
  (s_cons (s_if (tt_cmp (op_eqA hr) eq_s (t_var 1) t_str)
  (s_one (s_ret (t_callF G_among (hr.mono (by omega)) (takes_of rfl rfl rfl rfl) (ta_cons (t_ix ix_seq ix_s (t_var 0) t_int) (ta_cons (t_ix ix_seq ix_s (t_var 0) t_int) ta_nil)))))
  s_nil)
  (s_cons (s_if (tt_cmp (op_eqA hr) eq_s (t_var 1) t_str)
  (s_one (s_ret (t_callF G_begins (hr.mono (by omega)) (takes_of rfl rfl rfl rfl) (ta_cons (t_ix ix_seq ix_s (t_var 0) t_int) (ta_cons (t_ix ix_seq ix_s (t_var 0) t_int) ta_nil)))))
  s_nil)
  (s_cons (s_if (tt_cmp (op_eqA hr) eq_s (t_var 1) t_str)
  (s_one (s_ret (t_callF G_empty (hr.mono (by omega)) (takes_of rfl rfl rfl rfl) (ta_cons (t_ix ix_seq ix_s (t_var 0) t_int) ta_nil))))
  s_nil)
  (s_one (s_ret (t_tab3 G_always G_never G_unsure (hr.mono (by omega)) (takes_of rfl rfl rfl rfl) (t_var 1))))))))))))))
theorem mk_law_made {f : Addr} {fd : FuncData} (F : Fun K "_law_made" "_law_made" s_law_made f fd) (hm : mg "_law_made" = some (.ref f)) (T : Gb w K cl mg) (G_Test_and : MFn P w K mg base cl "Test" "__and__" 33 2 fn_Test_and) (G_Test_invert : MFn P w K mg base cl "Test" "__invert__" 32 1 fn_Test_invert) (G_Test_or : MFn P w K mg base cl "Test" "__or__" 33 2 fn_Test_or) (G_against : FnK P w K mg base cl "against" 4 3 "more" (.int 0) fn_against) (G_always : Fn P w K mg base cl "always" 3 0 fn_always) (G_among : Fn P w K mg base cl "among" 4 2 fn_among) (G_begins : Fn P w K mg base cl "begins" 4 2 fn_begins) (G_compare : Fn P w K mg base cl "compare" 4 3 fn_compare) (G_empty : Fn P w K mg base cl "empty" 4 1 fn_empty) (G_never : Fn P w K mg base cl "never" 3 0 fn_never) (G_sure : Fn P w K mg base cl "sure" 32 1 fn_sure) (G_unsure : Fn P w K mg base cl "unsure" 3 0 fn_unsure) : ∀ j : Nat, Fn P w K mg base cl "_law_made" (33 + 1 * j) 1 (fn_law_made j)
  | 0 => ⟨f, fd, ["_law_spec_here"], fn_stk.mono (by omega), hm, F.kp, (F.binds (ps := ["_law_spec_here"]) fun _ _ _ _ _ _ us hl => match us, hl with | [_], _ => rfl)⟩
  | j + 1 => ⟨f, fd, ["_law_spec_here"], ok_law_made (Nat.le_add_right _ _) F T G_Test_and G_Test_invert G_Test_or (mk_law_made F hm T G_Test_and G_Test_invert G_Test_or G_against G_always G_among G_begins G_compare G_empty G_never G_sure G_unsure j) G_against G_always G_among G_begins G_compare G_empty G_never G_sure G_unsure, hm, F.kp, (F.binds (ps := ["_law_spec_here"]) fun _ _ _ _ _ _ us hl => match us, hl with | [_], _ => rfl)⟩
abbrev s_law_number : Stmt := (top 50)
theorem sc_law_number : FnScope ["_law_well"] ["_law_well"] (defScope s_law_number) :=
  ⟨rfl, rfl, rfl, by decide +kernel, rfl, by decide +kernel, by decide +kernel⟩
noncomputable def sem_law_number : MS :=
  (sSeq (sIf (mTest (mOp eqD (mFn (ar 2 fn_law_draw) (mCons (mVar 0) (mCons (mC (.int 9)) mNil))) (mC (.int 0))))
  (sRet (mOp mulD (mFn (ar 2 fn_law_pick) (mCons (mVar 0) (mCons (mFn lstD (mCons (mC (.int 1)) (mCons (mUn negD (mC (.int 1))) mNil))) mNil))) (mOp subD (mOp powD (mC (.int 10)) (mC (.int 29))) (mFn (ar 2 fn_law_draw) (mCons (mVar 0) (mCons (mC (.int 3)) mNil))))))
  sPass)
  (sRet (mOp subD (mFn (ar 2 fn_law_draw) (mCons (mVar 0) (mCons (mC (.int 7)) mNil))) (mC (.int 3)))))
noncomputable def fn_law_number : List D → Store → Res D := runB 1 sem_law_number
theorem ok_law_number {f : Addr} {fd : FuncData} (F : Fun K "_law_number" "_law_number" s_law_number f fd) (T : Gb w K cl mg) (G_law_draw : Fn P w K mg base cl "_law_draw" 1 2 fn_law_draw) (G_law_pick : Fn P w K mg base cl "_law_pick" 2 2 fn_law_pick) :
    FnOk P w K mg base (L2.CX P w) 3 f fd ["_law_well"] (spOf K cl 1 fn_law_number) :=
  fn_sem F sc_law_number rfl fun cdv A outer s H E hr =>
  (s_cons (s_if (tt_cmp (op_eqA hr) eq_s (t_callF G_law_draw (hr.mono (by decide)) (takes_of rfl rfl rfl rfl) (ta_cons (t_var 0) (ta_cons t_int ta_nil))) t_int)
  (s_one (s_ret (t_op op_mulA mul_s (t_callF G_law_pick (hr.mono (by decide)) (takes_of rfl rfl rfl rfl) (ta_cons (t_var 0) (ta_cons (t_lst (ta_cons t_int (ta_cons (t_un un_neg neg_s t_int) ta_nil))) ta_nil))) (t_op op_sub sub_s (t_op op_pow pow_s t_int t_int) (t_callF G_law_draw (hr.mono (by decide)) (takes_of rfl rfl rfl rfl) (ta_cons (t_var 0) (ta_cons t_int ta_nil)))))))
  s_nil)
  (s_one (s_ret (t_op op_sub sub_s (t_callF G_law_draw (hr.mono (by decide)) (takes_of rfl rfl rfl rfl) (ta_cons (t_var 0) (ta_cons t_int ta_nil))) t_int))))
theorem mk_law_number {f : Addr} {fd : FuncData} (F : Fun K "_law_number" "_law_number" s_law_number f fd) (hm : mg "_law_number" = some (.ref f)) (T : Gb w K cl mg) (G_law_draw : Fn P w K mg base cl "_law_draw" 1 2 fn_law_draw) (G_law_pick : Fn P w K mg base cl "_law_pick" 2 2 fn_law_pick) : Fn P w K mg base cl "_law_number" 3 1 fn_law_number :=
  ⟨f, fd, ["_law_well"], ok_law_number F T G_law_draw G_law_pick, hm, F.kp, (F.binds (ps := ["_law_well"]) fun _ _ _ _ _ _ us hl => match us, hl with | [_], _ => rfl)⟩
abbrev s_law_text : Stmt := (top 51)
theorem sc_law_text : FnScope ["_law_well", "_law_k"] ["_law_well"] (defScope s_law_text) :=
  ⟨rfl, rfl, rfl, by decide +kernel, rfl, by decide +kernel, by decide +kernel⟩
noncomputable def sem_law_text : MS :=
  (sRet (mMt "str" joinD (mC (.str "")) (mCons (mComp (mRng rng1 (mCons (mFn (ar 2 fn_law_draw) (mCons (mVar 0) (mCons (mC (.int 4)) mNil))) mNil)) (ptN 1) mYes (mFn (ar 2 fn_law_pick) (mCons (mVar 0) (mCons (mFn lstD (mCons (mC (.str "a")) (mCons (mC (.str "b")) (mCons (mC (.str " ")) (mCons (mC (.str "~")) (mCons (mC (.str "}")) (mCons (mC (.str "A")) mNil))))))) mNil))) [1] frzD) mNil)))
noncomputable def fn_law_text : List D → Store → Res D := runB 2 sem_law_text
theorem ok_law_text {f : Addr} {fd : FuncData} (F : Fun K "_law_text" "_law_text" s_law_text f fd) (T : Gb w K cl mg) (G_law_draw : Fn P w K mg base cl "_law_draw" 1 2 fn_law_draw) (G_law_pick : Fn P w K mg base cl "_law_pick" 2 2 fn_law_pick) :
    FnOk P w K mg base (L2.CX P w) 3 f fd ["_law_well"] (spOf K cl 1 fn_law_text) :=
  fn_sem F sc_law_text rfl fun cdv A outer s H E hr =>
  (s_one (s_ret (t_bm PySem.F.plainAttrs_str PySem.F.slot_str_join PySem.F.type_str_join mt_join join_s t_str (ta_cons (t_lc [("_law_k", 1)] frz_s rfl sc_law_text.nd (i_range1 T.b_range (ta_cons (t_callF G_law_draw (hr.mono (by decide)) (takes_of rfl rfl rfl rfl) (ta_cons (t_var 0) (ta_cons t_int ta_nil))) ta_nil)) (blkOk_by (N := ["_law_well", "_law_k"]) (sc := defScope s_law_text) (by decide +kernel)) (fun _ _ _ _ _ => (g_name 1 sc_law_text.nd)) (fun _ _ _ _ _ => tts_nil) (fun _ _ _ _ _ => (t_callF G_law_pick (hr.mono (by decide)) takes0 (ta_cons (t_var 0) (ta_cons (t_lst (ta_cons t_str (ta_cons t_str (ta_cons t_str (ta_cons t_str (ta_cons t_str (ta_cons t_str ta_nil))))))) ta_nil))))) ta_nil))))
theorem mk_law_text {f : Addr} {fd : FuncData} (F : Fun K "_law_text" "_law_text" s_law_text f fd) (hm : mg "_law_text" = some (.ref f)) (T : Gb w K cl mg) (G_law_draw : Fn P w K mg base cl "_law_draw" 1 2 fn_law_draw) (G_law_pick : Fn P w K mg base cl "_law_pick" 2 2 fn_law_pick) : Fn P w K mg base cl "_law_text" 3 1 fn_law_text :=
  ⟨f, fd, ["_law_well"], ok_law_text F T G_law_draw G_law_pick, hm, F.kp, (F.binds (ps := ["_law_well"]) fun _ _ _ _ _ _ us hl => match us, hl with | [_], _ => rfl)⟩
abbrev s_law_value : Stmt := (top 52)
theorem sc_law_value : FnScope ["_law_well", "_law_kind"] ["_law_well", "_law_kind"] (defScope s_law_value) :=
  ⟨rfl, rfl, rfl, by decide +kernel, rfl, by decide +kernel, by decide +kernel⟩
noncomputable def sem_law_value : MS :=
  (sRet (mIte (mTest (mOp eqD (mVar 1) (mC (.str "number")))) (mFn (ar 1 fn_law_number) (mCons (mVar 0) mNil)) (mFn (ar 1 fn_law_text) (mCons (mVar 0) mNil))))
noncomputable def fn_law_value : List D → Store → Res D := runB 2 sem_law_value
theorem ok_law_value {f : Addr} {fd : FuncData} (F : Fun K "_law_value" "_law_value" s_law_value f fd) (T : Gb w K cl mg) (G_law_number : Fn P w K mg base cl "_law_number" 3 1 fn_law_number) (G_law_text : Fn P w K mg base cl "_law_text" 3 1 fn_law_text) :
    FnOk P w K mg base (L2.CX P w) 4 f fd ["_law_well", "_law_kind"] (spOf K cl 2 fn_law_value) :=
  fn_sem F sc_law_value rfl fun cdv A outer s H E hr =>
  (s_one (s_ret (t_ite (tt_cmp (op_eqA hr) eq_s (t_var 1) t_str) (t_callF G_law_number (hr.mono (by decide)) (takes_of rfl rfl rfl rfl) (ta_cons (t_var 0) ta_nil)) (t_callF G_law_text (hr.mono (by decide)) (takes_of rfl rfl rfl rfl) (ta_cons (t_var 0) ta_nil)))))
theorem mk_law_value {f : Addr} {fd : FuncData} (F : Fun K "_law_value" "_law_value" s_law_value f fd) (hm : mg "_law_value" = some (.ref f)) (T : Gb w K cl mg) (G_law_number : Fn P w K mg base cl "_law_number" 3 1 fn_law_number) (G_law_text : Fn P w K mg base cl "_law_text" 3 1 fn_law_text) : Fn P w K mg base cl "_law_value" 4 2 fn_law_value :=
  ⟨f, fd, ["_law_well", "_law_kind"], ok_law_value F T G_law_number G_law_text, hm, F.kp, (F.binds (ps := ["_law_well", "_law_kind"]) fun _ _ _ _ _ _ us hl => match us, hl with | [_, _], _ => rfl)⟩
abbrev s_law_near_value : Stmt := (top 61)
theorem sc_law_near_value : FnScope ["_law_well", "_law_values", "_law_kind", "_law_value_here"] ["_law_well", "_law_values", "_law_kind"] (defScope s_law_near_value) :=
  ⟨rfl, rfl, rfl, by decide +kernel, rfl, by decide +kernel, by decide +kernel⟩
noncomputable def sem_law_near_value : MS :=
  (sSeq (sIf (mOr (mTest (mOp eqL0 (mVar 1) (mFn lstD mNil))) (mTest (mOp eqD (mFn (ar 2 fn_law_draw) (mCons (mVar 0) (mCons (mC (.int 3)) mNil))) (mC (.int 0)))))
  (sRet (mFn (ar 2 fn_law_value) (mCons (mVar 0) (mCons (mVar 2) mNil))))
  sPass)
  (sSeq (sSet 3 (mFn (ar 2 fn_law_pick) (mCons (mVar 0) (mCons (mVar 1) mNil))))
  (sSeq (sIf (mTru (mUn (isiD k_str) (mVar 3)))
  (sRet (mFn (ar 2 fn_law_pick) (mCons (mVar 0) (mCons (mFn lstD (mCons (mVar 3) (mCons (mOp addD (mVar 3) (mC (.str " "))) (mCons (mOp addD (mVar 3) (mC (.str "a"))) (mCons (mSl slD (mVar 3) mNoPart (mPart (mUn negD (mC (.int 1))))) mNil))))) mNil))))
  sPass)
  (sRet (mOp subD (mOp addD (mVar 3) (mFn (ar 2 fn_law_draw) (mCons (mVar 0) (mCons (mC (.int 3)) mNil)))) (mC (.int 1)))))))
noncomputable def fn_law_near_value : List D → Store → Res D := runB 4 sem_law_near_value
theorem ok_law_near_value {f : Addr} {fd : FuncData} (F : Fun K "_law_near_value" "_law_near_value" s_law_near_value f fd) (T : Gb w K cl mg) (G_law_draw : Fn P w K mg base cl "_law_draw" 1 2 fn_law_draw) (G_law_pick : Fn P w K mg base cl "_law_pick" 2 2 fn_law_pick) (G_law_value : Fn P w K mg base cl "_law_value" 4 2 fn_law_value) :
    FnOk P w K mg base (L2.CX P w) 5 f fd ["_law_well", "_law_values", "_law_kind"] (spOf K cl 3 fn_law_near_value) :=
  fn_sem F sc_law_near_value rfl fun cdv A outer s H E hr =>
  (s_cons (s_if (PW.pt (tw_or (tt_cmp (op_eqL0 hr) eqL0_s (t_var 1) (t_lst ta_nil)) (tw_or1 (tt_cmp (op_eqA hr) eq_s (t_callF G_law_draw (hr.mono (by decide)) (takes_of rfl rfl rfl rfl) (ta_cons (t_var 0) (ta_cons t_int ta_nil))) t_int))))
  (s_one (s_ret (t_callF G_law_value (hr.mono (by decide)) (takes_of rfl rfl rfl rfl) (ta_cons (t_var 0) (ta_cons (t_var 2) ta_nil)))))
  s_nil)
  (s_cons (s_set 3 sc_law_near_value.nd (t_callF G_law_pick (hr.mono (by decide)) (takes_of rfl rfl rfl rfl) (ta_cons (t_var 0) (ta_cons (t_var 1) ta_nil))))
  (s_cons (s_if (tt_tru (t_isi is_str T.b_isinstance T.b_str bt_str (t_var 3)))
  (s_one (s_ret (t_callF G_law_pick (hr.mono (by decide)) (takes_of rfl rfl rfl rfl) (ta_cons (t_var 0) (ta_cons (t_lst (ta_cons (t_var 3) (ta_cons (t_op op_addA add_s (t_var 3) t_str) (ta_cons (t_op op_addA add_s (t_var 3) t_str) (ta_cons (t_sl sl_all sl_s (t_var 3) tp_none (tp_some (t_un un_neg neg_s t_int))) ta_nil))))) ta_nil)))))
  s_nil)
  (s_one (s_ret (t_op op_sub sub_s (t_op op_addA add_s (t_var 3) (t_callF G_law_draw (hr.mono (by decide)) (takes_of rfl rfl rfl rfl) (ta_cons (t_var 0) (ta_cons t_int ta_nil)))) t_int))))))
theorem mk_law_near_value {f : Addr} {fd : FuncData} (F : Fun K "_law_near_value" "_law_near_value" s_law_near_value f fd) (hm : mg "_law_near_value" = some (.ref f)) (T : Gb w K cl mg) (G_law_draw : Fn P w K mg base cl "_law_draw" 1 2 fn_law_draw) (G_law_pick : Fn P w K mg base cl "_law_pick" 2 2 fn_law_pick) (G_law_value : Fn P w K mg base cl "_law_value" 4 2 fn_law_value) : Fn P w K mg base cl "_law_near_value" 5 3 fn_law_near_value :=
  ⟨f, fd, ["_law_well", "_law_values", "_law_kind"], ok_law_near_value F T G_law_draw G_law_pick G_law_value, hm, F.kp, (F.binds (ps := ["_law_well", "_law_values", "_law_kind"]) fun _ _ _ _ _ _ us hl => match us, hl with | [_, _, _], _ => rfl)⟩
abbrev s_law_values_of : Stmt := (top 62)
theorem sc_law_values_of : FnScope ["_law_spec_here", "_law_found", "_law_part"] ["_law_spec_here"] (defScope s_law_values_of) :=
  ⟨rfl, rfl, rfl, by decide +kernel, rfl, by decide +kernel, by decide +kernel⟩
noncomputable def sem_law_values_of (rec : List D → Store → Res D) : MS :=
  (sSeq (sIf (mTest (mOp inD (mOp ixD (mVar 0) (mC (.int 0))) (mFn tupD (mCons (mC (.str "and")) (mCons (mC (.str "or")) (mCons (mC (.str "not")) (mCons (mC (.str "sure")) mNil)))))))
  (sSeq (sSet 1 (mFn lstD mNil))
  (sSeq (sFor (mIt (mSl slD (mVar 0) (mPart (mC (.int 1))) mNoPart)) (ptN 2)
  (sSet 1 (mOp addD (mVar 1) (mFn (ar 1 rec) (mCons (mVar 2) mNil)))))
  (sRet (mVar 1))))
  sPass)
  (sSeq (sIf (mTest (mOp eqD (mOp ixD (mVar 0) (mC (.int 0))) (mC (.str "compare"))))
  (sRet (mFn lstD (mCons (mOp ixD (mVar 0) (mC (.int 3))) mNil)))
  sPass)
  (sSeq (sIf (mTest (mOp eqD (mOp ixD (mVar 0) (mC (.int 0))) (mC (.str "among"))))
  (sRet (mFn listD (mCons (mOp ixD (mVar 0) (mC (.int 2))) mNil)))
  sPass)
  (sRet (mIte (mTest (mOp eqD (mOp ixD (mVar 0) (mC (.int 0))) (mC (.str "begins")))) (mFn lstD (mCons (mOp ixD (mVar 0) (mC (.int 2))) mNil)) (mFn lstD mNil))))))
noncomputable def fn_law_values_of : Nat → List D → Store → Res D
  | 0 => fun _ _ => .stk
  | j + 1 => runB 3 (sem_law_values_of (fn_law_values_of j))
theorem ok_law_values_of {k : Nat} {rec : List D → Store → Res D} {f : Addr} {fd : FuncData} (hk : 0 ≤ k) (F : Fun K "_law_values_of" "_law_values_of" s_law_values_of f fd) (T : Gb w K cl mg) (G_law_values_of : Fn P w K mg base cl "_law_values_of" k 1 rec) :
    FnOk P w K mg base (L2.CX P w) (k + 1) f fd ["_law_spec_here"] (spOf K cl 1 ((runB 3 (sem_law_values_of rec)))) :=
  fn_sem F sc_law_values_of rfl fun cdv A outer s H E hr =>
  (s_cons (s_if (tt_cmp op_inA in_s (t_ix ix_seq ix_s (t_var 0) t_int) (t_tup (ta_cons t_str (ta_cons t_str (ta_cons t_str (ta_cons t_str ta_nil))))))
  (s_cons (s_set 1 sc_law_values_of.nd (t_lst ta_nil))
  (s_cons (s_for (passes_of rfl) rfl (i_seq (t_sl sl_all sl_s (t_var 0) (tp_some t_int) tp_none)) (g_name 2 sc_law_values_of.nd)
  (s_one (s_set 1 sc_law_values_of.nd (t_op op_addA add_s (t_var 1) (t_callF G_law_values_of (hr.mono (by omega)) (takes_of rfl rfl rfl rfl) (ta_cons (t_var 2) ta_nil))))))
  (s_one (s_ret (t_var 1)))))
  s_nil)
  (s_cons (s_if (tt_cmp (op_eqA hr) eq_s (t_ix ix_seq ix_s (t_var 0) t_int) t_str)
  (s_one (s_ret (t_lst (ta_cons (t_ix ix_seq ix_s (t_var 0) t_int) ta_nil))))
  s_nil)
  (s_cons (s_if (tt_cmp (op_eqA hr) eq_s (t_ix ix_seq ix_s (t_var 0) t_int) t_str)
  (s_one (s_ret (t_callTy (call_list_of) list_s T.b_list bt_list (ta_cons (t_ix ix_seq ix_s (t_var 0) t_int) ta_nil))))
  s_nil)
  (s_one (s_ret (t_ite (tt_cmp (op_eqA hr) eq_s (t_ix ix_seq ix_s (t_var 0) t_int) t_str) (t_lst (ta_cons (t_ix ix_seq ix_s (t_var 0) t_int) ta_nil)) (t_lst ta_nil)))))))
theorem mk_law_values_of {f : Addr} {fd : FuncData} (F : Fun K "_law_values_of" "_law_values_of" s_law_values_of f fd) (hm : mg "_law_values_of" = some (.ref f)) (T : Gb w K cl mg) : ∀ j : Nat, Fn P w K mg base cl "_law_values_of" (0 + 1 * j) 1 (fn_law_values_of j)
  | 0 => ⟨f, fd, ["_law_spec_here"], fn_stk.mono (by omega), hm, F.kp, (F.binds (ps := ["_law_spec_here"]) fun _ _ _ _ _ _ us hl => match us, hl with | [_], _ => rfl)⟩
  | j + 1 => ⟨f, fd, ["_law_spec_here"], ok_law_values_of (Nat.le_add_right _ _) F T (mk_law_values_of F hm T j), hm, F.kp, (F.binds (ps := ["_law_spec_here"]) fun _ _ _ _ _ _ us hl => match us, hl with | [_], _ => rfl)⟩
abbrev s_law_near_row : Stmt := (top 63)
theorem sc_law_near_row : FnScope ["_law_well", "_law_layout_here", "_law_spec_here", "_law_row_here", "_law_values", "_law_path", "_law_kind", "_law_flag", "_law_some", "_law_value_here"] ["_law_well", "_law_layout_here", "_law_spec_here"] (defScope s_law_near_row) :=
  ⟨rfl, rfl, rfl, by decide +kernel, rfl, by decide +kernel, by decide +kernel⟩
noncomputable def sem_law_near_row : MS :=
  (sSeq (sSet 3 mDctL)
  (sSeq (sSet 4 (mFn (ar 1 (fn_law_values_of 20)) (mCons (mVar 2) mNil)))
  (sSeq (sFor (mIt (mVar 1)) (ptT (psC (ptN 5) (psC (ptN 6) (psC (ptN 7) psN))))
  (sSeq (sSet 8 (mComp (mIt (mVar 4)) (ptN 9) (mTest (mOp eqD (mUn (isiD k_str) (mVar 9)) (mOp eqD (mVar 6) (mC (.str "text"))))) (mVar 9) [9] frzD))
  (sPutA (mVar 3) (mVar 5) (mIte (mTest (mOp eqD (mFn (ar 2 fn_law_draw) (mCons (mVar 0) (mCons (mC (.int 4)) mNil))) (mC (.int 0)))) (mC .non) (mFn (ar 3 fn_law_near_value) (mCons (mVar 0) (mCons (mVar 8) (mCons (mVar 6) mNil))))))))
  (sRet (mVar 3)))))
noncomputable def fn_law_near_row : List D → Store → Res D := runB 10 sem_law_near_row
theorem ok_law_near_row {f : Addr} {fd : FuncData} (F : Fun K "_law_near_row" "_law_near_row" s_law_near_row f fd) (T : Gb w K cl mg) (G_law_draw : Fn P w K mg base cl "_law_draw" 1 2 fn_law_draw) (G_law_near_value : Fn P w K mg base cl "_law_near_value" 5 3 fn_law_near_value) (G_law_values_of : Fn P w K mg base cl "_law_values_of" 20 1 (fn_law_values_of 20)) :
    FnOk P w K mg base (L2.CX P w) 21 f fd ["_law_well", "_law_layout_here", "_law_spec_here"] (spOf K cl 3 fn_law_near_row) :=
  fn_sem F sc_law_near_row rfl fun cdv A outer s H E hr =>
  (s_cons (s_set 3 sc_law_near_row.nd t_dictL)
  (s_cons (s_set 4 sc_law_near_row.nd (t_callF G_law_values_of (hr.mono (by decide)) (takes_of rfl rfl rfl rfl) (ta_cons (t_var 2) ta_nil)))
  (s_cons (s_for (passes_of rfl) rfl (i_seq (t_var 1)) (g_tup rfl (gs_cons (g_name 5 sc_law_near_row.nd) (gs_cons (g_name 6 sc_law_near_row.nd) (gs_cons (g_name 7 sc_law_near_row.nd) gs_nil))) (ps_lenS (ps_lenS (ps_lenS ps_len0))))
  (s_cons (s_setLc 8 [("_law_value_here", 9)] frz_s rfl sc_law_near_row.nd (i_seq (t_var 4)) (blkOk_by (N := ["_law_well", "_law_layout_here", "_law_spec_here", "_law_row_here", "_law_values", "_law_path", "_law_kind", "_law_flag", "_law_some", "_law_value_here"]) (sc := defScope s_law_near_row) (by decide +kernel)) (fun _ _ _ _ _ => (g_name 9 sc_law_near_row.nd)) (fun _ _ _ _ _ => (tts_one (tt_cmp (op_eqA hr) eq_s (t_isi is_str T.b_isinstance T.b_str bt_str (t_var 9)) (t_cmp (op_eqA hr) eq_s (t_var 6) t_str)))) (fun _ _ _ _ _ => (t_var 9)) (sw_true rfl rfl rfl (by decide +kernel)))
  (s_one (s_putA hr (t_var 3) (t_var 5) (t_ite (tt_cmp (op_eqA hr) eq_s (t_callF G_law_draw (hr.mono (by decide)) (takes_of rfl rfl rfl rfl) (ta_cons (t_var 0) (ta_cons t_int ta_nil))) t_int) t_non (t_callF G_law_near_value (hr.mono (by decide)) (takes_of rfl rfl rfl rfl) (ta_cons (t_var 0) (ta_cons (t_var 8) (ta_cons (t_var 6) ta_nil)))))))))
  (s_one (s_ret (t_var 3))))))
theorem mk_law_near_row {f : Addr} {fd : FuncData} (F : Fun K "_law_near_row" "_law_near_row" s_law_near_row f fd) (hm : mg "_law_near_row" = some (.ref f)) (T : Gb w K cl mg) (G_law_draw : Fn P w K mg base cl "_law_draw" 1 2 fn_law_draw) (G_law_near_value : Fn P w K mg base cl "_law_near_value" 5 3 fn_law_near_value) (G_law_values_of : Fn P w K mg base cl "_law_values_of" 20 1 (fn_law_values_of 20)) : Fn P w K mg base cl "_law_near_row" 21 3 fn_law_near_row :=
  ⟨f, fd, ["_law_well", "_law_layout_here", "_law_spec_here"], ok_law_near_row F T G_law_draw G_law_near_value G_law_values_of, hm, F.kp, (F.binds (ps := ["_law_well", "_law_layout_here", "_law_spec_here"]) fun _ _ _ _ _ _ us hl => match us, hl with | [_, _, _], _ => rfl)⟩
abbrev s_law_same : Stmt := (top 65)
theorem sc_law_same : FnScope ["_law_told", "_law_due"] ["_law_told", "_law_due"] (defScope s_law_same) :=
  ⟨rfl, rfl, rfl, by decide +kernel, rfl, by decide +kernel, by decide +kernel⟩
noncomputable def sem_law_same : MS :=
  (sSeq (sIf (mTest (mOp isND (mVar 1) (mC .non)))
  (sRet (mOp isND (mVar 0) (mC .non)))
  sPass)
  (sRet (mAndV (mUn (isiD k_bool) (mVar 0)) (mOp eqD (mVar 0) (mVar 1)))))
noncomputable def fn_law_same : List D → Store → Res D := runB 2 sem_law_same
theorem ok_law_same {f : Addr} {fd : FuncData} (F : Fun K "_law_same" "_law_same" s_law_same f fd) (T : Gb w K cl mg) :
    FnOk P w K mg base (L2.CX P w) 1 f fd ["_law_told", "_law_due"] (spOf K cl 2 fn_law_same) :=
  fn_sem F sc_law_same rfl fun cdv A outer s H E hr =>
  (s_cons (s_if (tt_cmp op_isA isN_s (t_var 1) t_non)
  (s_one (s_ret (t_cmp op_isA isN_s (t_var 0) t_non)))
  s_nil)
  (s_one (s_ret (t_and (t_isi is_bool T.b_isinstance T.b_bool bt_bool (t_var 0)) (t_one (t_cmp (op_eqA hr) eq_s (t_var 0) (t_var 1)))))))
theorem mk_law_same {f : Addr} {fd : FuncData} (F : Fun K "_law_same" "_law_same" s_law_same f fd) (hm : mg "_law_same" = some (.ref f)) (T : Gb w K cl mg) : Fn P w K mg base cl "_law_same" 1 2 fn_law_same :=
  ⟨f, fd, ["_law_told", "_law_due"], ok_law_same F T, hm, F.kp, (F.binds (ps := ["_law_told", "_law_due"]) fun _ _ _ _ _ _ us hl => match us, hl with | [_, _], _ => rfl)⟩
abbrev s_law_atom : Stmt := (top 54)
theorem sc_law_atom : FnScope ["_law_well", "_law_layout_here", "_law_path", "_law_kind", "_law_flag", "_law_others", "_law_way", "_law_op", "_law_more", "_law_one", "_law_k"] ["_law_well", "_law_layout_here"] (defScope s_law_atom) :=
  ⟨rfl, rfl, rfl, by decide +kernel, rfl, by decide +kernel, by decide +kernel⟩
noncomputable def sem_law_atom : MS :=
  (sSeq (sAsg (ptT (psC (ptN 2) (psC (ptN 3) (psC (ptN 4) psN)))) (mFn (ar 2 fn_law_pick) (mCons (mVar 0) (mCons (mVar 1) mNil))))
  (sSeq (sSet 5 (mComp (mIt (mVar 1)) (ptN 9) (mAnd (mTest (mOp neD (mOp ixD (mVar 9) (mC (.int 0))) (mVar 2))) (mTest (mOp eqD (mOp ixD (mVar 9) (mC (.int 1))) (mVar 3)))) (mOp ixD (mVar 9) (mC (.int 0))) [9] frzD))
  (sSeq (sSet 6 (mFn (ar 2 fn_law_draw) (mCons (mVar 0) (mCons (mC (.int 10)) mNil))))
  (sSeq (sSet 7 (mFn (ar 2 fn_law_pick) (mCons (mVar 0) (mCons (mFn lstD (mCons (mC (.str "<")) (mCons (mC (.str "<=")) (mCons (mC (.str "==")) (mCons (mC (.str "!=")) (mCons (mC (.str ">")) (mCons (mC (.str ">=")) mNil))))))) mNil))))
  (sSeq (sIf (mOr (mTest (mOp ltD (mVar 6) (mC (.int 3)))) (mAnd (mTest (mOp eqD (mVar 6) (mC (.int 3)))) (mTest (mOp eqL0 (mVar 5) (mFn lstD mNil)))))
  (sRet (mFn tupD (mCons (mC (.str "compare")) (mCons (mVar 2) (mCons (mVar 7) (mCons (mFn (ar 2 fn_law_value) (mCons (mVar 0) (mCons (mVar 3) mNil))) mNil))))))
  sPass)
  (sSeq (sIf (mAnd (mTest (mOp ltD (mVar 6) (mC (.int 6)))) (mTest (mOp neL0 (mVar 5) (mFn lstD mNil))))
  (sSeq (sSet 8 (mIte (mTest (mOp eqD (mVar 3) (mC (.str "text")))) (mC (.int 0)) (mOp subD (mFn (ar 2 fn_law_draw) (mCons (mVar 0) (mCons (mC (.int 5)) mNil))) (mC (.int 2)))))
  (sRet (mFn tupD (mCons (mC (.str "against")) (mCons (mVar 2) (mCons (mVar 7) (mCons (mFn (ar 2 fn_law_pick) (mCons (mVar 0) (mCons (mVar 5) mNil))) (mCons (mVar 8) mNil))))))))
  sPass)
  (sSeq (sIf (mTest (mOp eqD (mVar 6) (mC (.int 6))))
  (sRet (mFn tupD (mCons (mC (.str "among")) (mCons (mVar 2) (mCons (mComp (mRng rng1 (mCons (mOp addD (mC (.int 1)) (mFn (ar 2 fn_law_draw) (mCons (mVar 0) (mCons (mC (.int 3)) mNil)))) mNil)) (ptN 10) mYes (mFn (ar 2 fn_law_value) (mCons (mVar 0) (mCons (mVar 3) mNil))) [10] frzD) mNil)))))
  sPass)
  (sSeq (sIf (mAnd (mTest (mOp eqD (mVar 6) (mC (.int 7)))) (mTest (mOp eqD (mVar 3) (mC (.str "text")))))
  (sRet (mFn tupD (mCons (mC (.str "begins")) (mCons (mVar 2) (mCons (mFn (ar 1 fn_law_text) (mCons (mVar 0) mNil)) mNil)))))
  sPass)
  (sSeq (sIf (mAnd (mTest (mOp eqD (mVar 6) (mC (.int 9)))) (mTest (mOp eqD (mFn (ar 2 fn_law_draw) (mCons (mVar 0) (mCons (mC (.int 2)) mNil))) (mC (.int 0)))))
  (sRet (mFn tupD (mCons (mFn (ar 2 fn_law_pick) (mCons (mVar 0) (mCons (mFn lstD (mCons (mC (.str "always")) (mCons (mC (.str "never")) (mCons (mC (.str "unsure")) mNil)))) mNil))) mNil)))
  sPass)
  (sRet (mFn tupD (mCons (mC (.str "empty")) (mCons (mVar 2) mNil)))))))))))))
noncomputable def fn_law_atom : List D → Store → Res D := runB 11 sem_law_atom
theorem ok_law_atom {f : Addr} {fd : FuncData} (F : Fun K "_law_atom" "_law_atom" s_law_atom f fd) (T : Gb w K cl mg) (G_law_draw : Fn P w K mg base cl "_law_draw" 1 2 fn_law_draw) (G_law_pick : Fn P w K mg base cl "_law_pick" 2 2 fn_law_pick) (G_law_text : Fn P w K mg base cl "_law_text" 3 1 fn_law_text) (G_law_value : Fn P w K mg base cl "_law_value" 4 2 fn_law_value) :
    FnOk P w K mg base (L2.CX P w) 5 f fd ["_law_well", "_law_layout_here"] (spOf K cl 2 fn_law_atom) :=
  fn_sem F sc_law_atom rfl fun cdv A outer s H E hr =>
  (s_cons (s_asg (t_callF G_law_pick (hr.mono (by decide)) (takes_of rfl rfl rfl rfl) (ta_cons (t_var 0) (ta_cons (t_var 1) ta_nil))) (g_tup rfl (gs_cons (g_name 2 sc_law_atom.nd) (gs_cons (g_name 3 sc_law_atom.nd) (gs_cons (g_name 4 sc_law_atom.nd) gs_nil))) (ps_lenS (ps_lenS (ps_lenS ps_len0)))))
  (s_cons (s_setLc 5 [("_law_one", 9)] frz_s rfl sc_law_atom.nd (i_seq (t_var 1)) (blkOk_by (N := ["_law_well", "_law_layout_here", "_law_path", "_law_kind", "_law_flag", "_law_others", "_law_way", "_law_op", "_law_more", "_law_one", "_law_k"]) (sc := defScope s_law_atom) (by decide +kernel)) (fun _ _ _ _ _ => (g_name 9 sc_law_atom.nd)) (fun _ _ _ _ _ => (tts_one (PW.pt (tw_and (tt_cmp (op_neA hr) ne_s (t_ix ix_seq ix_s (t_var 9) t_int) (t_var 2)) (tw_and1 (tt_cmp (op_eqA hr) eq_s (t_ix ix_seq ix_s (t_var 9) t_int) (t_var 3))))))) (fun _ _ _ _ _ => (t_ix ix_seq ix_s (t_var 9) t_int)) (sw_true rfl rfl rfl (by decide +kernel)))
  (s_cons (s_set 6 sc_law_atom.nd (t_callF G_law_draw (hr.mono (by decide)) (takes_of rfl rfl rfl rfl) (ta_cons (t_var 0) (ta_cons t_int ta_nil))))
  (s_cons (s_set 7 sc_law_atom.nd (t_callF G_law_pick (hr.mono (by decide)) (takes_of rfl rfl rfl rfl) (ta_cons (t_var 0) (ta_cons (t_lst (ta_cons t_str (ta_cons t_str (ta_cons t_str (ta_cons t_str (ta_cons t_str (ta_cons t_str ta_nil))))))) ta_nil))))
  (s_cons (s_if (PW.pt (tw_or (tt_cmp op_ltA lt_s (t_var 6) t_int) (tw_or1 (PW.pt (tw_and (tt_cmp (op_eqA hr) eq_s (t_var 6) t_int) (tw_and1 (tt_cmp (op_eqL0 hr) eqL0_s (t_var 5) (t_lst ta_nil))))))))
  (s_one (s_ret (t_tup (ta_cons t_str (ta_cons (t_var 2) (ta_cons (t_var 7) (ta_cons (t_callF G_law_value (hr.mono (by decide)) (takes_of rfl rfl rfl rfl) (ta_cons (t_var 0) (ta_cons (t_var 3) ta_nil))) ta_nil)))))))
  s_nil)
  (s_cons (s_if (PW.pt (tw_and (tt_cmp op_ltA lt_s (t_var 6) t_int) (tw_and1 (tt_cmp (op_neL0 hr) neL0_s (t_var 5) (t_lst ta_nil)))))
  (s_cons (s_set 8 sc_law_atom.nd (t_ite (tt_cmp (op_eqA hr) eq_s (t_var 3) t_str) t_int (t_op op_sub sub_s (t_callF G_law_draw (hr.mono (by decide)) (takes_of rfl rfl rfl rfl) (ta_cons (t_var 0) (ta_cons t_int ta_nil))) t_int)))
  (s_one (s_ret (t_tup (ta_cons t_str (ta_cons (t_var 2) (ta_cons (t_var 7) (ta_cons (t_callF G_law_pick (hr.mono (by decide)) (takes_of rfl rfl rfl rfl) (ta_cons (t_var 0) (ta_cons (t_var 5) ta_nil))) (ta_cons (t_var 8) ta_nil)))))))))
  s_nil)
  (s_cons (s_if (tt_cmp (op_eqA hr) eq_s (t_var 6) t_int)
  (s_one (s_ret (t_tup (ta_cons t_str (ta_cons (t_var 2) (ta_cons (t_lc [("_law_k", 10)] frz_s rfl sc_law_atom.nd (i_range1 T.b_range (ta_cons (t_op op_addA add_s t_int (t_callF G_law_draw (hr.mono (by decide)) (takes_of rfl rfl rfl rfl) (ta_cons (t_var 0) (ta_cons t_int ta_nil)))) ta_nil)) (blkOk_by (N := ["_law_well", "_law_layout_here", "_law_path", "_law_kind", "_law_flag", "_law_others", "_law_way", "_law_op", "_law_more", "_law_one", "_law_k"]) (sc := defScope s_law_atom) (by decide +kernel)) (fun _ _ _ _ _ => (g_name 10 sc_law_atom.nd)) (fun _ _ _ _ _ => tts_nil) (fun _ _ _ _ _ => (t_callF G_law_value (hr.mono (by decide)) takes0 (ta_cons (t_var 0) (ta_cons (t_var 3) ta_nil))))) ta_nil))))))
  s_nil)
  (s_cons (s_if (PW.pt (tw_and (tt_cmp (op_eqA hr) eq_s (t_var 6) t_int) (tw_and1 (tt_cmp (op_eqA hr) eq_s (t_var 3) t_str))))
  (s_one (s_ret (t_tup (ta_cons t_str (ta_cons (t_var 2) (ta_cons (t_callF G_law_text (hr.mono (by decide)) (takes_of rfl rfl rfl rfl) (ta_cons (t_var 0) ta_nil)) ta_nil))))))
  s_nil)
  (s_cons (s_if (PW.pt (tw_and (tt_cmp (op_eqA hr) eq_s (t_var 6) t_int) (tw_and1 (tt_cmp (op_eqA hr) eq_s (t_callF G_law_draw (hr.mono (by decide)) (takes_of rfl rfl rfl rfl) (ta_cons (t_var 0) (ta_cons t_int ta_nil))) t_int))))
  (s_one (s_ret (t_tup (ta_cons (t_callF G_law_pick (hr.mono (by decide)) (takes_of rfl rfl rfl rfl) (ta_cons (t_var 0) (ta_cons (t_lst (ta_cons t_str (ta_cons t_str (ta_cons t_str ta_nil)))) ta_nil))) ta_nil))))
  s_nil)
  (s_one (s_ret (t_tup (ta_cons t_str (ta_cons (t_var 2) ta_nil))))))))))))))
theorem mk_law_atom {f : Addr} {fd : FuncData} (F : Fun K "_law_atom" "_law_atom" s_law_atom f fd) (hm : mg "_law_atom" = some (.ref f)) (T : Gb w K cl mg) (G_law_draw : Fn P w K mg base cl "_law_draw" 1 2 fn_law_draw) (G_law_pick : Fn P w K mg base cl "_law_pick" 2 2 fn_law_pick) (G_law_text : Fn P w K mg base cl "_law_text" 3 1 fn_law_text) (G_law_value : Fn P w K mg base cl "_law_value" 4 2 fn_law_value) : Fn P w K mg base cl "_law_atom" 5 2 fn_law_atom :=
  ⟨f, fd, ["_law_well", "_law_layout_here"], ok_law_atom F T G_law_draw G_law_pick G_law_text G_law_value, hm, F.kp, (F.binds (ps := ["_law_well", "_law_layout_here"]) fun _ _ _ _ _ _ us hl => match us, hl with | [_, _], _ => rfl)⟩
abbrev s_law_spec : Stmt := (top 55)
theorem sc_law_spec : FnScope ["_law_well", "_law_layout_here", "_law_deep", "_law_way"] ["_law_well", "_law_layout_here", "_law_deep"] (defScope s_law_spec) :=
  ⟨rfl, rfl, rfl, by decide +kernel, rfl, by decide +kernel, by decide +kernel⟩
noncomputable def sem_law_spec (rec : List D → Store → Res D) : MS :=
  (sSeq (sSet 3 (mIte (mTest (mOp gtD (mVar 2) (mC (.int 0)))) (mFn (ar 2 fn_law_draw) (mCons (mVar 0) (mCons (mC (.int 8)) mNil))) (mC (.int 0))))
  (sSeq (sIf (mTest (mOp ltD (mVar 3) (mC (.int 3))))
  (sRet (mFn (ar 2 fn_law_atom) (mCons (mVar 0) (mCons (mVar 1) mNil))))
  sPass)
  (sSeq (sIf (mTest (mOp ltD (mVar 3) (mC (.int 5))))
  (sRet (mFn tupD (mCons (mC (.str "and")) (mCons (mFn (ar 3 rec) (mCons (mVar 0) (mCons (mVar 1) (mCons (mOp subD (mVar 2) (mC (.int 1))) mNil)))) (mCons (mFn (ar 3 rec) (mCons (mVar 0) (mCons (mVar 1) (mCons (mOp subD (mVar 2) (mC (.int 1))) mNil)))) mNil)))))
  sPass)
  (sSeq (sIf (mTest (mOp eqD (mVar 3) (mC (.int 5))))
  (sRet (mFn tupD (mCons (mC (.str "or")) (mCons (mFn (ar 3 rec) (mCons (mVar 0) (mCons (mVar 1) (mCons (mOp subD (mVar 2) (mC (.int 1))) mNil)))) (mCons (mFn (ar 3 rec) (mCons (mVar 0) (mCons (mVar 1) (mCons (mOp subD (mVar 2) (mC (.int 1))) mNil)))) mNil)))))
  sPass)
  (sRet (mFn tupD (mCons (mOp ixD (mFn lstD (mCons (mC (.str "not")) (mCons (mC (.str "sure")) mNil))) (mOp subD (mVar 3) (mC (.int 6)))) (mCons (mFn (ar 3 rec) (mCons (mVar 0) (mCons (mVar 1) (mCons (mOp subD (mVar 2) (mC (.int 1))) mNil)))) mNil))))))))
noncomputable def fn_law_spec : Nat → List D → Store → Res D
  | 0 => fun _ _ => .stk
  | j + 1 => runB 4 (sem_law_spec (fn_law_spec j))
theorem ok_law_spec {k : Nat} {rec : List D → Store → Res D} {f : Addr} {fd : FuncData} (hk : 5 ≤ k) (F : Fun K "_law_spec" "_law_spec" s_law_spec f fd) (T : Gb w K cl mg) (G_law_atom : Fn P w K mg base cl "_law_atom" 5 2 fn_law_atom) (G_law_draw : Fn P w K mg base cl "_law_draw" 1 2 fn_law_draw) (G_law_spec : Fn P w K mg base cl "_law_spec" k 3 rec) :
    FnOk P w K mg base (L2.CX P w) (k + 1) f fd ["_law_well", "_law_layout_here", "_law_deep"] (spOf K cl 3 ((runB 4 (sem_law_spec rec)))) :=
  fn_sem F sc_law_spec rfl fun cdv A outer s H E hr =>
  (s_cons (s_set 3 sc_law_spec.nd (t_ite (tt_cmp op_gt gt_s (t_var 2) t_int) (t_callF G_law_draw (hr.mono (by omega)) (takes_of rfl rfl rfl rfl) (ta_cons (t_var 0) (ta_cons t_int ta_nil))) t_int))
  (s_cons (s_if (tt_cmp op_ltA lt_s (t_var 3) t_int)
  (s_one (s_ret (t_callF G_law_atom (hr.mono (by omega)) (takes_of rfl rfl rfl rfl) (ta_cons (t_var 0) (ta_cons (t_var 1) ta_nil)))))
  s_nil)
  (s_cons (s_if (tt_cmp op_ltA lt_s (t_var 3) t_int)
  (s_one (s_ret (t_tup (ta_cons t_str (ta_cons (t_callF G_law_spec (hr.mono (by omega)) (takes_of rfl rfl rfl rfl) (ta_cons (t_var 0) (ta_cons (t_var 1) (ta_cons (t_op op_sub sub_s (t_var 2) t_int) ta_nil)))) (ta_cons (t_callF G_law_spec (hr.mono (by omega)) (takes_of rfl rfl rfl rfl) (ta_cons (t_var 0) (ta_cons (t_var 1) (ta_cons (t_op op_sub sub_s (t_var 2) t_int) ta_nil)))) ta_nil))))))
  s_nil)
  (s_cons (s_if (tt_cmp (op_eqA hr) eq_s (t_var 3) t_int)
  (s_one (s_ret (t_tup (ta_cons t_str (ta_cons (t_callF G_law_spec (hr.mono (by omega)) (takes_of rfl rfl rfl rfl) (ta_cons (t_var 0) (ta_cons (t_var 1) (ta_cons (t_op op_sub sub_s (t_var 2) t_int) ta_nil)))) (ta_cons (t_callF G_law_spec (hr.mono (by omega)) (takes_of rfl rfl rfl rfl) (ta_cons (t_var 0) (ta_cons (t_var 1) (ta_cons (t_op op_sub sub_s (t_var 2) t_int) ta_nil)))) ta_nil))))))
  s_nil)
  (s_one (s_ret (t_tup (ta_cons (t_ix ix_seq ix_s (t_lst (ta_cons t_str (ta_cons t_str ta_nil))) (t_op op_sub sub_s (t_var 3) t_int)) (ta_cons (t_callF G_law_spec (hr.mono (by omega)) (takes_of rfl rfl rfl rfl) (ta_cons (t_var 0) (ta_cons (t_var 1) (ta_cons (t_op op_sub sub_s (t_var 2) t_int) ta_nil)))) ta_nil)))))))))
theorem mk_law_spec {f : Addr} {fd : FuncData} (F : Fun K "_law_spec" "_law_spec" s_law_spec f fd) (hm : mg "_law_spec" = some (.ref f)) (T : Gb w K cl mg) (G_law_atom : Fn P w K mg base cl "_law_atom" 5 2 fn_law_atom) (G_law_draw : Fn P w K mg base cl "_law_draw" 1 2 fn_law_draw) : ∀ j : Nat, Fn P w K mg base cl "_law_spec" (5 + 1 * j) 3 (fn_law_spec j)
  | 0 => ⟨f, fd, ["_law_well", "_law_layout_here", "_law_deep"], fn_stk.mono (by omega), hm, F.kp, (F.binds (ps := ["_law_well", "_law_layout_here", "_law_deep"]) fun _ _ _ _ _ _ us hl => match us, hl with | [_, _, _], _ => rfl)⟩
  | j + 1 => ⟨f, fd, ["_law_well", "_law_layout_here", "_law_deep"], ok_law_spec (Nat.le_add_right _ _) F T G_law_atom G_law_draw (mk_law_spec F hm T G_law_atom G_law_draw j), hm, F.kp, (F.binds (ps := ["_law_well", "_law_layout_here", "_law_deep"]) fun _ _ _ _ _ _ us hl => match us, hl with | [_, _, _], _ => rfl)⟩
abbrev s_law_compared : Stmt := (top 57)
theorem sc_law_compared : FnScope ["_law_one", "_law_op", "_law_other"] ["_law_one", "_law_op", "_law_other"] (defScope s_law_compared) :=
  ⟨rfl, rfl, rfl, by decide +kernel, rfl, by decide +kernel, by decide +kernel⟩
noncomputable def sem_law_compared : MS :=
  (sSeq (sIf (mTest (mOp eqD (mVar 1) (mC (.str "<"))))
  (sRet (mOp ltD (mVar 0) (mVar 2)))
  sPass)
  (sSeq (sIf (mTest (mOp eqD (mVar 1) (mC (.str "<="))))
  (sRet (mOp leD (mVar 0) (mVar 2)))
  sPass)
  (sSeq (sIf (mTest (mOp eqD (mVar 1) (mC (.str "=="))))
  (sRet (mOp eqD (mVar 0) (mVar 2)))
  sPass)
  (sSeq (sIf (mTest (mOp eqD (mVar 1) (mC (.str "!="))))
  (sRet (mOp neD (mVar 0) (mVar 2)))
  sPass)
  (sRet (mIte (mTest (mOp eqD (mVar 1) (mC (.str ">")))) (mOp gtA (mVar 0) (mVar 2)) (mOp geA (mVar 0) (mVar 2))))))))
noncomputable def fn_law_compared : List D → Store → Res D := runB 3 sem_law_compared
theorem ok_law_compared {f : Addr} {fd : FuncData} (F : Fun K "_law_compared" "_law_compared" s_law_compared f fd) (T : Gb w K cl mg) :
    FnOk P w K mg base (L2.CX P w) 1 f fd ["_law_one", "_law_op", "_law_other"] (spOf K cl 3 fn_law_compared) :=
  fn_sem F sc_law_compared rfl fun cdv A outer s H E hr =>
  (s_cons (s_if (tt_cmp (op_eqA hr) eq_s (t_var 1) t_str)
  (s_one (s_ret (t_cmp op_ltA lt_s (t_var 0) (t_var 2))))
  s_nil)
  (s_cons (s_if (tt_cmp (op_eqA hr) eq_s (t_var 1) t_str)
  (s_one (s_ret (t_cmp op_leA le_s (t_var 0) (t_var 2))))
  s_nil)
  (s_cons (s_if (tt_cmp (op_eqA hr) eq_s (t_var 1) t_str)
  (s_one (s_ret (t_cmp (op_eqA hr) eq_s (t_var 0) (t_var 2))))
  s_nil)
  (s_cons (s_if (tt_cmp (op_eqA hr) eq_s (t_var 1) t_str)
  (s_one (s_ret (t_cmp (op_neA hr) ne_s (t_var 0) (t_var 2))))
  s_nil)
  (s_one (s_ret (t_ite (tt_cmp (op_eqA hr) eq_s (t_var 1) t_str) (t_cmp op_gtA gtA_s (t_var 0) (t_var 2)) (t_cmp op_geA geA_s (t_var 0) (t_var 2)))))))))
theorem mk_law_compared {f : Addr} {fd : FuncData} (F : Fun K "_law_compared" "_law_compared" s_law_compared f fd) (hm : mg "_law_compared" = some (.ref f)) (T : Gb w K cl mg) : Fn P w K mg base cl "_law_compared" 1 3 fn_law_compared :=
  ⟨f, fd, ["_law_one", "_law_op", "_law_other"], ok_law_compared F T, hm, F.kp, (F.binds (ps := ["_law_one", "_law_op", "_law_other"]) fun _ _ _ _ _ _ us hl => match us, hl with | [_, _, _], _ => rfl)⟩
abbrev s_law_atom_truth : Stmt := (top 58)
theorem sc_law_atom_truth : FnScope ["_law_spec_here", "_law_row_here", "_law_word", "_law_place", "_law_other", "_law_value_here"] ["_law_spec_here", "_law_row_here"] (defScope s_law_atom_truth) :=
  ⟨rfl, rfl, rfl, by decide +kernel, rfl, by decide +kernel, by decide +kernel⟩
noncomputable def sem_law_atom_truth : MS :=
  (sSeq (sSet 2 (mOp ixD (mVar 0) (mC (.int 0))))
  (sSeq (sIf (mTest (mOp eqD (mFn lenD (mCons (mVar 0) mNil)) (mC (.int 1))))
  (sRet (mOp ixA (mDisp [((mC (.str "always")), (mC (.bl true))), ((mC (.str "never")), (mC (.bl false))), ((mC (.str "unsure")), (mC .non))] dfz) (mVar 2)))
  sPass)
  (sSeq (sSet 3 (mOp ixA (mVar 1) (mOp ixD (mVar 0) (mC (.int 1)))))
  (sSeq (sIf (mTest (mOp eqD (mVar 2) (mC (.str "empty"))))
  (sRet (mOp isND (mVar 3) (mC .non)))
  sPass)
  (sSeq (sIf (mOr (mTest (mOp isND (mVar 3) (mC .non))) (mAnd (mTest (mOp eqD (mVar 2) (mC (.str "against")))) (mTest (mOp isND (mOp ixA (mVar 1) (mOp ixD (mVar 0) (mC (.int 3)))) (mC .non)))))
  (sRet (mC .non))
  sPass)
  (sSeq (sIf (mTest (mOp eqD (mVar 2) (mC (.str "compare"))))
  (sRet (mFn (ar 3 fn_law_compared) (mCons (mVar 3) (mCons (mOp ixD (mVar 0) (mC (.int 2))) (mCons (mOp ixD (mVar 0) (mC (.int 3))) mNil)))))
  sPass)
  (sSeq (sIf (mTest (mOp eqD (mVar 2) (mC (.str "among"))))
  (sRet (mOp gtD (mFn lenD (mCons (mComp (mIt (mOp ixD (mVar 0) (mC (.int 2)))) (ptN 5) (mTest (mOp eqD (mVar 5) (mVar 3))) (mVar 5) [5] frzD) mNil)) (mC (.int 0))))
  sPass)
  (sSeq (sIf (mTest (mOp eqD (mVar 2) (mC (.str "begins"))))
  (sRet (mOp eqD (mSl slD (mVar 3) mNoPart (mPart (mFn lenD (mCons (mOp ixD (mVar 0) (mC (.int 2))) mNil)))) (mOp ixD (mVar 0) (mC (.int 2)))))
  sPass)
  (sSeq (sSet 4 (mOp ixA (mVar 1) (mOp ixD (mVar 0) (mC (.int 3)))))
  (sRet (mFn (ar 3 fn_law_compared) (mCons (mVar 3) (mCons (mOp ixD (mVar 0) (mC (.int 2))) (mCons (mIte (mTru (mUn (isiD k_str) (mVar 4))) (mVar 4) (mOp addD (mVar 4) (mOp ixD (mVar 0) (mC (.int 4))))) mNil))))))))))))))
noncomputable def fn_law_atom_truth : List D → Store → Res D := runB 6 sem_law_atom_truth
theorem ok_law_atom_truth {f : Addr} {fd : FuncData} (F : Fun K "_law_atom_truth" "_law_atom_truth" s_law_atom_truth f fd) (T : Gb w K cl mg) (G_law_compared : Fn P w K mg base cl "_law_compared" 1 3 fn_law_compared) :
    FnOk P w K mg base (L2.CX P w) 2 f fd ["_law_spec_here", "_law_row_here"] (spOf K cl 2 fn_law_atom_truth) :=
  fn_sem F sc_law_atom_truth rfl fun cdv A outer s H E hr =>
  (s_cons (s_set 2 sc_law_atom_truth.nd (t_ix ix_seq ix_s (t_var 0) t_int))
  (s_cons (s_if (tt_cmp (op_eqA hr) eq_s (t_callB (call_len) len_s T.b_len bt_len (ta_cons (t_var 0) ta_nil)) t_int)
  (s_one (s_ret (t_ixA hr (t_dispF (dp_cons t_str t_bl (dp_cons t_str t_bl (dp_cons t_str t_non dp_nil)))) (t_var 2))))
  s_nil)
  (s_cons (s_set 3 sc_law_atom_truth.nd (t_ixA hr (t_var 1) (t_ix ix_seq ix_s (t_var 0) t_int)))
  (s_cons (s_if (tt_cmp (op_eqA hr) eq_s (t_var 2) t_str)
  (s_one (s_ret (t_cmp op_isA isN_s (t_var 3) t_non)))
  s_nil)
  (s_cons (s_if (PW.pt (tw_or (tt_cmp op_isA isN_s (t_var 3) t_non) (tw_or1 (PW.pt (tw_and (tt_cmp (op_eqA hr) eq_s (t_var 2) t_str) (tw_and1 (tt_cmp op_isA isN_s (t_ixA hr (t_var 1) (t_ix ix_seq ix_s (t_var 0) t_int)) t_non)))))))
  (s_one (s_ret t_non))
  s_nil)
  (s_cons (s_if (tt_cmp (op_eqA hr) eq_s (t_var 2) t_str)
  (s_one (s_ret (t_callF G_law_compared (hr.mono (by decide)) (takes_of rfl rfl rfl rfl) (ta_cons (t_var 3) (ta_cons (t_ix ix_seq ix_s (t_var 0) t_int) (ta_cons (t_ix ix_seq ix_s (t_var 0) t_int) ta_nil))))))
  s_nil)
  (s_cons (s_if (tt_cmp (op_eqA hr) eq_s (t_var 2) t_str)
  (s_one (s_ret (t_cmp op_gt gt_s (t_callB (call_len) len_s T.b_len bt_len (ta_cons (t_lc [("_law_value_here", 5)] frz_s rfl sc_law_atom_truth.nd (i_seq (t_ix ix_seq ix_s (t_var 0) t_int)) (blkOk_by (N := ["_law_spec_here", "_law_row_here", "_law_word", "_law_place", "_law_other", "_law_value_here"]) (sc := defScope s_law_atom_truth) (by decide +kernel)) (fun _ _ _ _ _ => (g_name 5 sc_law_atom_truth.nd)) (fun _ _ _ _ _ => (tts_one (tt_cmp (op_eqA hr) eq_s (t_var 5) (t_var 3)))) (fun _ _ _ _ _ => (t_var 5))) ta_nil)) t_int)))
  s_nil)
  (s_cons (s_if (tt_cmp (op_eqA hr) eq_s (t_var 2) t_str)
  (s_one (s_ret (t_cmp (op_eqA hr) eq_s (t_sl sl_all sl_s (t_var 3) tp_none (tp_some (t_callB (call_len) len_s T.b_len bt_len (ta_cons (t_ix ix_seq ix_s (t_var 0) t_int) ta_nil)))) (t_ix ix_seq ix_s (t_var 0) t_int))))
  s_nil)
  (s_cons (s_set 4 sc_law_atom_truth.nd (t_ixA hr (t_var 1) (t_ix ix_seq ix_s (t_var 0) t_int)))
  (s_one (s_ret (t_callF G_law_compared (hr.mono (by decide)) (takes_of rfl rfl rfl rfl) (ta_cons (t_var 3) (ta_cons (t_ix ix_seq ix_s (t_var 0) t_int) (ta_cons (t_ite (tt_tru (t_isi is_str T.b_isinstance T.b_str bt_str (t_var 4))) (t_var 4) (t_op op_addA add_s (t_var 4) (t_ix ix_seq ix_s (t_var 0) t_int))) ta_nil)))))))))))))))
theorem mk_law_atom_truth {f : Addr} {fd : FuncData} (F : Fun K "_law_atom_truth" "_law_atom_truth" s_law_atom_truth f fd) (hm : mg "_law_atom_truth" = some (.ref f)) (T : Gb w K cl mg) (G_law_compared : Fn P w K mg base cl "_law_compared" 1 3 fn_law_compared) : Fn P w K mg base cl "_law_atom_truth" 2 2 fn_law_atom_truth :=
  ⟨f, fd, ["_law_spec_here", "_law_row_here"], ok_law_atom_truth F T G_law_compared, hm, F.kp, (F.binds (ps := ["_law_spec_here", "_law_row_here"]) fun _ _ _ _ _ _ us hl => match us, hl with | [_, _], _ => rfl)⟩
abbrev s_law_truth : Stmt := (top 59)
theorem sc_law_truth : FnScope ["_law_spec_here", "_law_row_here", "_law_word", "_law_truths", "_law_last", "_law_part"] ["_law_spec_here", "_law_row_here"] (defScope s_law_truth) :=
  ⟨rfl, rfl, rfl, by decide +kernel, rfl, by decide +kernel, by decide +kernel⟩
noncomputable def sem_law_truth (rec : List D → Store → Res D) : MS :=
  (sSeq (sSet 2 (mOp ixD (mVar 0) (mC (.int 0))))
  (sSeq (sIf (mTest (mOp notInD (mVar 2) (mFn tupD (mCons (mC (.str "and")) (mCons (mC (.str "or")) (mCons (mC (.str "not")) (mCons (mC (.str "sure")) mNil)))))))
  (sRet (mFn (ar 2 fn_law_atom_truth) (mCons (mVar 0) (mCons (mVar 1) mNil))))
  sPass)
  (sSeq (sSet 3 (mComp (mIt (mSl slD (mVar 0) (mPart (mC (.int 1))) mNoPart)) (ptN 5) mYes (mFn (ar 2 rec) (mCons (mVar 5) (mCons (mVar 1) mNil))) [5] frzD))
  (sSeq (sIf (mTest (mOp eqD (mVar 2) (mC (.str "sure"))))
  (sRet (mOp isTD (mOp ixD (mVar 3) (mC (.int 0))) (mC (.bl true))))
  sPass)
  (sSeq (sIf (mTest (mOp eqD (mVar 2) (mC (.str "not"))))
  (sRet (mIte (mTest (mOp isND (mOp ixD (mVar 3) (mC (.int 0))) (mC .non))) (mC .non) (mNotV (mOp ixD (mVar 3) (mC (.int 0))))))
  sPass)
  (sSeq (sSet 4 (mOp eqD (mVar 2) (mC (.str "or"))))
  (sSeq (sIf (mTest (mOp inD (mVar 4) (mVar 3)))
  (sRet (mVar 4))
  sPass)
  (sRet (mIte (mTest (mOp inD (mC .non) (mVar 3))) (mC .non) (mNotV (mVar 4)))))))))))
noncomputable def fn_law_truth : Nat → List D → Store → Res D
  | 0 => fun _ _ => .stk
  | j + 1 => runB 6 (sem_law_truth (fn_law_truth j))
theorem ok_law_truth {k : Nat} {rec : List D → Store → Res D} {f : Addr} {fd : FuncData} (hk : 2 ≤ k) (F : Fun K "_law_truth" "_law_truth" s_law_truth f fd) (T : Gb w K cl mg) (G_law_atom_truth : Fn P w K mg base cl "_law_atom_truth" 2 2 fn_law_atom_truth) (G_law_truth : Fn P w K mg base cl "_law_truth" k 2 rec) :
    FnOk P w K mg base (L2.CX P w) (k + 1) f fd ["_law_spec_here", "_law_row_here"] (spOf K cl 2 ((runB 6 (sem_law_truth rec)))) :=
  fn_sem F sc_law_truth rfl fun cdv A outer s H E hr =>
  (s_cons (s_set 2 sc_law_truth.nd (t_ix ix_seq ix_s (t_var 0) t_int))
  (s_cons (s_if (tt_cmp op_notInA notIn_s (t_var 2) (t_tup (ta_cons t_str (ta_cons t_str (ta_cons t_str (ta_cons t_str ta_nil))))))
  (s_one (s_ret (t_callF G_law_atom_truth (hr.mono (by omega)) (takes_of rfl rfl rfl rfl) (ta_cons (t_var 0) (ta_cons (t_var 1) ta_nil)))))
  s_nil)
  (s_cons (s_setLc 3 [("_law_part", 5)] frz_s rfl sc_law_truth.nd (i_seq (t_sl sl_all sl_s (t_var 0) (tp_some t_int) tp_none)) (blkOk_by (N := ["_law_spec_here", "_law_row_here", "_law_word", "_law_truths", "_law_last", "_law_part"]) (sc := defScope s_law_truth) (by decide +kernel)) (fun _ _ _ _ _ => (g_name 5 sc_law_truth.nd)) (fun _ _ _ _ _ => tts_nil) (fun _ _ _ _ _ => (t_callF G_law_truth (hr.mono (by omega)) takes0 (ta_cons (t_var 5) (ta_cons (t_var 1) ta_nil)))) (sw_true rfl rfl rfl (by decide +kernel)))
  (s_cons (s_if (tt_cmp (op_eqA hr) eq_s (t_var 2) t_str)
  (s_one (s_ret (t_cmp op_isT isT_s (t_ix ix_seq ix_s (t_var 3) t_int) t_bl)))
  s_nil)
  (s_cons (s_if (tt_cmp (op_eqA hr) eq_s (t_var 2) t_str)
  (s_one (s_ret (t_ite (tt_cmp op_isA isN_s (t_ix ix_seq ix_s (t_var 3) t_int) t_non) t_non (t_not (t_ix ix_seq ix_s (t_var 3) t_int)))))
  s_nil)
  (s_cons (s_set 4 sc_law_truth.nd (t_cmp (op_eqA hr) eq_s (t_var 2) t_str))
  (s_cons (s_if (tt_cmp op_inA in_s (t_var 4) (t_var 3))
  (s_one (s_ret (t_var 4)))
  s_nil)
  (s_one (s_ret (t_ite (tt_cmp op_inA in_s t_non (t_var 3)) t_non (t_not (t_var 4))))))))))))
theorem mk_law_truth {f : Addr} {fd : FuncData} (F : Fun K "_law_truth" "_law_truth" s_law_truth f fd) (hm : mg "_law_truth" = some (.ref f)) (T : Gb w K cl mg) (G_law_atom_truth : Fn P w K mg base cl "_law_atom_truth" 2 2 fn_law_atom_truth) : ∀ j : Nat, Fn P w K mg base cl "_law_truth" (2 + 1 * j) 2 (fn_law_truth j)
  | 0 => ⟨f, fd, ["_law_spec_here", "_law_row_here"], fn_stk.mono (by omega), hm, F.kp, (F.binds (ps := ["_law_spec_here", "_law_row_here"]) fun _ _ _ _ _ _ us hl => match us, hl with | [_, _], _ => rfl)⟩
  | j + 1 => ⟨f, fd, ["_law_spec_here", "_law_row_here"], ok_law_truth (Nat.le_add_right _ _) F T G_law_atom_truth (mk_law_truth F hm T G_law_atom_truth j), hm, F.kp, (F.binds (ps := ["_law_spec_here", "_law_row_here"]) fun _ _ _ _ _ _ us hl => match us, hl with | [_, _], _ => rfl)⟩
abbrev s_joined : Stmt := (top 29)
theorem sc_joined : FnScope ["kind", "tests", "start", "result", "test"] ["kind", "tests", "start"] (defScope s_joined) :=
  ⟨rfl, rfl, rfl, by decide +kernel, rfl, by decide +kernel, by decide +kernel⟩
noncomputable def sem_joined : MS :=
  (sSeq (sIf (mOr (mNot (mTru (mFn (ar 1 fn_is_sequence) (mCons (mVar 1) mNil)))) (mNot (mTru (mFn allD (mCons (mComp (mIt (mVar 1)) (ptN 4) mYes (mUn (isCD [("Test", true)]) (mVar 4)) [4] frzD) mNil)))))
  (sRaise "BadTest" 2 2 [("why", 1)] (mCons (mC (.str "part")) mNil))
  sPass)
  (sSeq (sIf (mNot (mTru (mVar 1)))
  (sRet (mVar 2))
  sPass)
  (sSeq (sSet 3 (mOp ixD (mVar 1) (mC (.int 0))))
  (sSeq (sFor (mIt (mSl slD (mVar 1) (mPart (mC (.int 1))) mNoPart)) (ptN 4)
  (sSet 3 (mFn (ar 3 fn_combine) (mCons (mVar 0) (mCons (mVar 3) (mCons (mVar 4) mNil))))))
  (sRet (mVar 3))))))
noncomputable def fn_joined : List D → Store → Res D := runB 5 sem_joined
theorem ok_joined {f : Addr} {fd : FuncData} (F : Fun K "joined" "joined" s_joined f fd) (T : Gb w K cl mg) (G_BadTest_init : ErrF P w K mg base cl "BadTest" 1 2 ["self", "why"] [("why", 1)]) (G_combine : Fn P w K mg base cl "combine" 32 3 fn_combine) (G_is_sequence : Fn P w K mg base cl "is_sequence" 1 1 fn_is_sequence) :
    FnOk P w K mg base (L2.CX P w) 33 f fd ["kind", "tests", "start"] (spOf K cl 3 fn_joined) :=
  fn_sem F sc_joined rfl fun cdv A outer s H E hr =>
  (s_cons (s_if (PW.pt (tw_or (tt_not (tt_tru (t_callF G_is_sequence (hr.mono (by decide)) (takes_of rfl rfl rfl rfl) (ta_cons (t_var 1) ta_nil)))) (tw_or1 (tt_not (tt_tru (t_callB (cr_all rfl) all_s T.b_all bt_all (ta_cons (t_lc [("test", 4)] frz_s rfl sc_joined.nd (i_seq (t_var 1)) (blkOk_by (N := ["kind", "tests", "start", "result", "test"]) (sc := defScope s_joined) (by decide +kernel)) (fun _ _ _ _ _ => (g_name 4 sc_joined.nd)) (fun _ _ _ _ _ => tts_nil) (fun _ _ _ _ _ => (t_isC T.ic_Test T.b_isinstance (t_var 4)))) ta_nil)))))))
  (s_one (s_raiseF (N := ["self", "why"]) G_BadTest_init (hr.mono (by decide)) (takes_of rfl rfl rfl rfl) (ta_cons t_str ta_nil) (by decide) (by decide)))
  s_nil)
  (s_cons (s_if (tt_not (tt_tru (t_var 1)))
  (s_one (s_ret (t_var 2)))
  s_nil)
  (s_cons (s_set 3 sc_joined.nd (t_ix ix_seq ix_s (t_var 1) t_int))
  (s_cons (s_for (passes_of rfl) rfl (i_seq (t_sl sl_all sl_s (t_var 1) (tp_some t_int) tp_none)) (g_name 4 sc_joined.nd)
  (s_one (s_set 3 sc_joined.nd (t_callF G_combine (hr.mono (by decide)) (takes_of rfl rfl rfl rfl) (ta_cons (t_var 0) (ta_cons (t_var 3) (ta_cons (t_var 4) ta_nil)))))))
  (s_one (s_ret (t_var 3)))))))
theorem mk_joined {f : Addr} {fd : FuncData} (F : Fun K "joined" "joined" s_joined f fd) (hm : mg "joined" = some (.ref f)) (T : Gb w K cl mg) (G_BadTest_init : ErrF P w K mg base cl "BadTest" 1 2 ["self", "why"] [("why", 1)]) (G_combine : Fn P w K mg base cl "combine" 32 3 fn_combine) (G_is_sequence : Fn P w K mg base cl "is_sequence" 1 1 fn_is_sequence) : Fn P w K mg base cl "joined" 33 3 fn_joined :=
  ⟨f, fd, ["kind", "tests", "start"], ok_joined F T G_BadTest_init G_combine G_is_sequence, hm, F.kp, (F.binds (ps := ["kind", "tests", "start"]) fun _ _ _ _ _ _ us hl => match us, hl with | [_, _, _], _ => rfl)⟩
abbrev s_all_of : Stmt := (top 30)
theorem sc_all_of : FnScope ["tests"] ["tests"] (defScope s_all_of) :=
  ⟨rfl, rfl, rfl, by decide +kernel, rfl, by decide +kernel, by decide +kernel⟩
noncomputable def sem_all_of : MS :=
  (sRet (mFn (ar 3 fn_joined) (mCons (mC (.str "and")) (mCons (mVar 0) (mCons (mFn (ar 0 fn_always) mNil) mNil)))))
noncomputable def fn_all_of : List D → Store → Res D := runB 1 sem_all_of
theorem ok_all_of {f : Addr} {fd : FuncData} (F : Fun K "all_of" "all_of" s_all_of f fd) (T : Gb w K cl mg) (G_always : Fn P w K mg base cl "always" 3 0 fn_always) (G_joined : Fn P w K mg base cl "joined" 33 3 fn_joined) :
    FnOk P w K mg base (L2.CX P w) 34 f fd ["tests"] (spOf K cl 1 fn_all_of) :=
  fn_sem F sc_all_of rfl fun cdv A outer s H E hr =>
  (s_one (s_ret (t_callF G_joined (hr.mono (by decide)) (takes_of rfl rfl rfl rfl) (ta_cons t_str (ta_cons (t_var 0) (ta_cons (t_callF0 G_always (hr.mono (by decide)) (takes_of rfl rfl rfl rfl)) ta_nil))))))
theorem mk_all_of {f : Addr} {fd : FuncData} (F : Fun K "all_of" "all_of" s_all_of f fd) (hm : mg "all_of" = some (.ref f)) (T : Gb w K cl mg) (G_always : Fn P w K mg base cl "always" 3 0 fn_always) (G_joined : Fn P w K mg base cl "joined" 33 3 fn_joined) : Fn P w K mg base cl "all_of" 34 1 fn_all_of :=
  ⟨f, fd, ["tests"], ok_all_of F T G_always G_joined, hm, F.kp, (F.binds (ps := ["tests"]) fun _ _ _ _ _ _ us hl => match us, hl with | [_], _ => rfl)⟩
abbrev s_any_of : Stmt := (top 31)
theorem sc_any_of : FnScope ["tests"] ["tests"] (defScope s_any_of) :=
  ⟨rfl, rfl, rfl, by decide +kernel, rfl, by decide +kernel, by decide +kernel⟩
noncomputable def sem_any_of : MS :=
  (sRet (mFn (ar 3 fn_joined) (mCons (mC (.str "or")) (mCons (mVar 0) (mCons (mFn (ar 0 fn_never) mNil) mNil)))))
noncomputable def fn_any_of : List D → Store → Res D := runB 1 sem_any_of
theorem ok_any_of {f : Addr} {fd : FuncData} (F : Fun K "any_of" "any_of" s_any_of f fd) (T : Gb w K cl mg) (G_joined : Fn P w K mg base cl "joined" 33 3 fn_joined) (G_never : Fn P w K mg base cl "never" 3 0 fn_never) :
    FnOk P w K mg base (L2.CX P w) 34 f fd ["tests"] (spOf K cl 1 fn_any_of) :=
  fn_sem F sc_any_of rfl fun cdv A outer s H E hr =>
  (s_one (s_ret (t_callF G_joined (hr.mono (by decide)) (takes_of rfl rfl rfl rfl) (ta_cons t_str (ta_cons (t_var 0) (ta_cons (t_callF0 G_never (hr.mono (by decide)) (takes_of rfl rfl rfl rfl)) ta_nil))))))
theorem mk_any_of {f : Addr} {fd : FuncData} (F : Fun K "any_of" "any_of" s_any_of f fd) (hm : mg "any_of" = some (.ref f)) (T : Gb w K cl mg) (G_joined : Fn P w K mg base cl "joined" 33 3 fn_joined) (G_never : Fn P w K mg base cl "never" 3 0 fn_never) : Fn P w K mg base cl "any_of" 34 1 fn_any_of :=
  ⟨f, fd, ["tests"], ok_any_of F T G_joined G_never, hm, F.kp, (F.binds (ps := ["tests"]) fun _ _ _ _ _ _ us hl => match us, hl with | [_], _ => rfl)⟩
abbrev s_law_right : Stmt := (top 67)
theorem sc_law_right : FnScope ["_law_well", "_law_layout_here", "_law_specs", "_law_tests", "_law_turn", "_law_plain", "_law_row_here", "_law_shown", "_law_k", "_law_truths", "_law_both", "_law_some", "_law_due", "_law_spec_here"] ["_law_well"] (defScope s_law_right) :=
  ⟨rfl, rfl, rfl, by decide +kernel, rfl, by decide +kernel, by decide +kernel⟩
noncomputable def sem_law_right : MS :=
  (sSeq (sSet 1 (mFn (ar 2 fn_law_layout) (mCons (mVar 0) (mCons (mC (.int 4)) mNil))))
  (sSeq (sSet 2 (mComp (mRng rng1 (mCons (mC (.int 3)) mNil)) (ptN 8) mYes (mFn (ar 3 (fn_law_spec 20)) (mCons (mVar 0) (mCons (mVar 1) (mCons (mFn (ar 2 fn_law_draw) (mCons (mVar 0) (mCons (mC (.int 5)) mNil))) mNil)))) [8] frzD))
  (sSeq (sSet 3 (mComp (mIt (mVar 2)) (ptN 13) mYes (mFn (ar 1 (fn_law_made 20)) (mCons (mVar 13) mNil)) [13] frzD))
  (sSeq (sFor (mRng rng1 (mCons (mC (.int 12)) mNil)) (ptN 4)
  (sSeq (sSet 6 (mFn (ar 3 fn_law_near_row) (mCons (mVar 0) (mCons (mVar 1) (mCons (mOp ixD (mVar 2) (mOp modD (mFn intD (mCons (mVar 4) mNil)) (mC (.int 3)))) mNil)))))
  (sSeq (ghz 6 (sPutA (mVar 6) (mC (.str "further")) (mC (.int 7))))
  (sSeq (sSet 7 (mFn reprD (mCons (mVar 6) mNil)))
  (sSeq (sFor (mRng rng1 (mCons (mC (.int 3)) mNil)) (ptN 8)
  (sSeq (sSet 12 (mFn (ar 2 (fn_law_truth 20)) (mCons (mOp ixD (mVar 2) (mVar 8)) (mCons (mVar 6) mNil))))
  (sIf (mOr (mNot (mTru (mFn (ar 2 fn_law_same) (mCons (mMeth [("Test", fn_Test_truth)] "truth" 2 (mOp ixD (mVar 3) (mVar 8)) (mCons (mVar 6) mNil)) (mCons (mVar 12) mNil))))) (mNot (mTru (mFn (ar 2 fn_law_same) (mCons (mMeth [("Test", fn_Test_truth)] "truth" 2 (mOp ixD (mVar 3) (mVar 8)) (mCons (mVar 6) mNil)) (mCons (mVar 12) mNil))))))
  (sRet (mC (.bl false)))
  sPass)))
  (sSeq (sSet 9 (mComp (mIt (mVar 2)) (ptN 13) mYes (mFn (ar 2 (fn_law_truth 20)) (mCons (mVar 13) (mCons (mVar 6) mNil))) [13] frzD))
  (sSeq (sSet 10 (mIte (mTest (mOp inD (mC (.bl false)) (mVar 9))) (mC (.bl false)) (mIte (mTest (mOp inD (mC .non) (mVar 9))) (mC .non) (mC (.bl true)))))
  (sSeq (sSet 11 (mIte (mTest (mOp inD (mC (.bl true)) (mVar 9))) (mC (.bl true)) (mIte (mTest (mOp inD (mC .non) (mVar 9))) (mC .non) (mC (.bl false)))))
  (sSeq (sIf (mOr (mNot (mTru (mFn (ar 2 fn_law_same) (mCons (mMeth [("Test", fn_Test_truth)] "truth" 2 (mFn (ar 1 fn_all_of) (mCons (mVar 3) mNil)) (mCons (mVar 6) mNil)) (mCons (mVar 10) mNil))))) (mNot (mTru (mFn (ar 2 fn_law_same) (mCons (mMeth [("Test", fn_Test_truth)] "truth" 2 (mFn (ar 1 fn_any_of) (mCons (mVar 3) mNil)) (mCons (mVar 6) mNil)) (mCons (mVar 11) mNil))))))
  (sRet (mC (.bl false)))
  sPass)
  (sIf (mOr (mTest (mOp neD (mFn reprD (mCons (mVar 6) mNil)) (mVar 7))) (mNot (mTru (mFn (ar 3 fn_law_lacking_right) (mCons (mVar 0) (mCons (mOp ixD (mVar 3) (mC (.int 0))) (mCons (mVar 6) mNil)))))))
  (sRet (mC (.bl false)))
  sPass))))))))))
  (sSeq (sSet 5 (mFn lstD (mCons (mMeth [("Test", fn_Test_truth)] "truth" 2 (mFn (ar 0 fn_always) mNil) (mCons (mC (.dct [])) mNil)) (mCons (mMeth [("Test", fn_Test_truth)] "truth" 2 (mFn (ar 0 fn_never) mNil) (mCons (mC (.dct [])) mNil)) (mCons (mMeth [("Test", fn_Test_truth)] "truth" 2 (mFn (ar 0 fn_unsure) mNil) (mCons (mC (.dct [])) mNil)) (mCons (mMeth [("Test", fn_Test_truth)] "truth" 2 (mFn (ar 1 fn_sure) (mCons (mFn (ar 0 fn_unsure) mNil) mNil)) (mCons (mC (.dct [])) mNil)) (mCons (mMeth [("Test", fn_Test_truth)] "truth" 2 (mInv "Test" fn_Test_invert (mFn (ar 0 fn_unsure) mNil)) (mCons (mC (.dct [])) mNil)) mNil)))))))
  (sRet (mOp eqD (mVar 5) (mFn lstD (mCons (mC (.bl true)) (mCons (mC (.bl false)) (mCons (mC .non) (mCons (mC (.bl false)) (mCons (mC .non) mNil)))))))))))))
noncomputable def fn_law_right : List D → Store → Res D := runB 14 sem_law_right
theorem ok_law_right {f : Addr} {fd : FuncData} (F : Fun K "_law_right" "_law_right" s_law_right f fd) (T : Gb w K cl mg) (G_Test_invert : MFn P w K mg base cl "Test" "__invert__" 32 1 fn_Test_invert) (G_Test_truth : MFn P w K mg base cl "Test" "truth" 32 2 fn_Test_truth) (G_law_draw : Fn P w K mg base cl "_law_draw" 1 2 fn_law_draw) (G_law_lacking_right : Fn P w K mg base cl "_law_lacking_right" 34 3 fn_law_lacking_right) (G_law_layout : Fn P w K mg base cl "_law_layout" 3 2 fn_law_layout) (G_law_made : Fn P w K mg base cl "_law_made" 53 1 (fn_law_made 20)) (G_law_near_row : Fn P w K mg base cl "_law_near_row" 21 3 fn_law_near_row) (G_law_same : Fn P w K mg base cl "_law_same" 1 2 fn_law_same) (G_law_spec : Fn P w K mg base cl "_law_spec" 25 3 (fn_law_spec 20)) (G_law_truth : Fn P w K mg base cl "_law_truth" 22 2 (fn_law_truth 20)) (G_all_of : Fn P w K mg base cl "all_of" 34 1 fn_all_of) (G_always : Fn P w K mg base cl "always" 3 0 fn_always) (G_any_of : Fn P w K mg base cl "any_of" 34 1 fn_any_of) (G_never : Fn P w K mg base cl "never" 3 0 fn_never) (G_sure : Fn P w K mg base cl "sure" 32 1 fn_sure) (G_unsure : Fn P w K mg base cl "unsure" 3 0 fn_unsure) :
    FnQ P w K mg base (L2.CX P w) 54 f fd ["_law_well"] (spOf K cl 1 fn_law_right) :=
  fn_semQ F sc_law_right rfl fun cdv A outer s H E hq hr =>
  (s_cons (s_set 1 sc_law_right.nd (t_callF G_law_layout (hr.mono (by decide)) (takes_of rfl rfl rfl rfl) (ta_cons (t_var 0) (ta_cons t_int ta_nil))))
  (s_cons (s_setLc 2 [("_law_k", 8)] frz_s rfl sc_law_right.nd (i_range1 T.b_range (ta_cons t_int ta_nil)) (blkOk_by (N := ["_law_well", "_law_layout_here", "_law_specs", "_law_tests", "_law_turn", "_law_plain", "_law_row_here", "_law_shown", "_law_k", "_law_truths", "_law_both", "_law_some", "_law_due", "_law_spec_here"]) (sc := defScope s_law_right) (by decide +kernel)) (fun _ _ _ _ _ => (g_name 8 sc_law_right.nd)) (fun _ _ _ _ _ => tts_nil) (fun _ _ _ _ _ => (t_callF G_law_spec (hr.mono (by decide)) takes0 (ta_cons (t_var 0) (ta_cons (t_var 1) (ta_cons (t_callF G_law_draw (hr.mono (by decide)) takes0 (ta_cons (t_var 0) (ta_cons t_int ta_nil))) ta_nil))))) (sw_true rfl rfl rfl (by decide +kernel)))
  (s_cons (s_setLc 3 [("_law_spec_here", 13)] frz_s rfl sc_law_right.nd (i_seq (t_var 2)) (blkOk_by (N := ["_law_well", "_law_layout_here", "_law_specs", "_law_tests", "_law_turn", "_law_plain", "_law_row_here", "_law_shown", "_law_k", "_law_truths", "_law_both", "_law_some", "_law_due", "_law_spec_here"]) (sc := defScope s_law_right) (by decide +kernel)) (fun _ _ _ _ _ => (g_name 13 sc_law_right.nd)) (fun _ _ _ _ _ => tts_nil) (fun _ _ _ _ _ => (t_callF G_law_made (hr.mono (by decide)) takes0 (ta_cons (t_var 13) ta_nil))) (sw_true rfl rfl rfl (by decide +kernel)))
  (s_cons (s_for (passes_of rfl) rfl (i_range1 T.b_range (ta_cons t_int ta_nil)) (g_name 4 sc_law_right.nd)
  (s_cons (s_set 6 sc_law_right.nd (t_callF G_law_near_row (hr.mono (by decide)) (takes_of rfl rfl rfl rfl) (ta_cons (t_var 0) (ta_cons (t_var 1) (ta_cons (t_ix ix_seq ix_s (t_var 2) (t_op op_mod mod_s (t_callTy (call_int1) int_s T.b_int bt_int (ta_cons (t_var 4) ta_nil)) t_int)) ta_nil)))))
  (s_cons (s_ghz (s_putA hr (t_var 6) t_str t_int))
  (s_cons (s_set 7 sc_law_right.nd (t_callB (cr_repr hq hr) repr_s T.b_repr bt_repr (ta_cons (t_var 6) ta_nil)))
  (s_cons (s_for (passes_of rfl) rfl (i_range1 T.b_range (ta_cons t_int ta_nil)) (g_name 8 sc_law_right.nd)
  (s_cons (s_set 12 sc_law_right.nd (t_callF G_law_truth (hr.mono (by decide)) (takes_of rfl rfl rfl rfl) (ta_cons (t_ix ix_seq ix_s (t_var 2) (t_var 8)) (ta_cons (t_var 6) ta_nil))))
  (s_one (s_if (PW.pt (tw_or (tt_not (tt_tru (t_callF G_law_same (hr.mono (by decide)) (takes_of rfl rfl rfl rfl) (ta_cons (t_meth (mt_cons G_Test_truth mt_nil) mt_ex (hr.mono (by decide)) (takes_of rfl rfl rfl rfl) (t_ix ix_seq ix_s (t_var 3) (t_var 8)) (ta_cons (t_var 6) ta_nil)) (ta_cons (t_var 12) ta_nil))))) (tw_or1 (tt_not (tt_tru (t_callF G_law_same (hr.mono (by decide)) (takes_of rfl rfl rfl rfl) (ta_cons (t_meth (mt_cons G_Test_truth mt_nil) mt_ex (hr.mono (by decide)) (takes_of rfl rfl rfl rfl) (t_ix ix_seq ix_s (t_var 3) (t_var 8)) (ta_cons (t_var 6) ta_nil)) (ta_cons (t_var 12) ta_nil))))))))
  (s_one (s_ret t_bl))
  s_nil))))
  (s_cons (s_setLc 9 [("_law_spec_here", 13)] frz_s rfl sc_law_right.nd (i_seq (t_var 2)) (blkOk_by (N := ["_law_well", "_law_layout_here", "_law_specs", "_law_tests", "_law_turn", "_law_plain", "_law_row_here", "_law_shown", "_law_k", "_law_truths", "_law_both", "_law_some", "_law_due", "_law_spec_here"]) (sc := defScope s_law_right) (by decide +kernel)) (fun _ _ _ _ _ => (g_name 13 sc_law_right.nd)) (fun _ _ _ _ _ => tts_nil) (fun _ _ _ _ _ => (t_callF G_law_truth (hr.mono (by decide)) takes0 (ta_cons (t_var 13) (ta_cons (t_var 6) ta_nil)))) (sw_true rfl rfl rfl (by decide +kernel)))
  (s_cons (s_set 10 sc_law_right.nd (t_ite (tt_cmp op_inA in_s t_bl (t_var 9)) t_bl (t_ite (tt_cmp op_inA in_s t_non (t_var 9)) t_non t_bl)))
  (s_cons (s_set 11 sc_law_right.nd (t_ite (tt_cmp op_inA in_s t_bl (t_var 9)) t_bl (t_ite (tt_cmp op_inA in_s t_non (t_var 9)) t_non t_bl)))
  (s_cons (s_if (PW.pt (tw_or (tt_not (tt_tru (t_callF G_law_same (hr.mono (by decide)) (takes_of rfl rfl rfl rfl) (ta_cons (t_meth (mt_cons G_Test_truth mt_nil) mt_ex (hr.mono (by decide)) (takes_of rfl rfl rfl rfl) (t_callF G_all_of (hr.mono (by decide)) (takes_of rfl rfl rfl rfl) (ta_cons (t_var 3) ta_nil)) (ta_cons (t_var 6) ta_nil)) (ta_cons (t_var 10) ta_nil))))) (tw_or1 (tt_not (tt_tru (t_callF G_law_same (hr.mono (by decide)) (takes_of rfl rfl rfl rfl) (ta_cons (t_meth (mt_cons G_Test_truth mt_nil) mt_ex (hr.mono (by decide)) (takes_of rfl rfl rfl rfl) (t_callF G_any_of (hr.mono (by decide)) (takes_of rfl rfl rfl rfl) (ta_cons (t_var 3) ta_nil)) (ta_cons (t_var 6) ta_nil)) (ta_cons (t_var 11) ta_nil))))))))
  (s_one (s_ret t_bl))
  s_nil)
  (s_one (s_if (PW.pt (tw_or (tt_cmp (op_neA hr) ne_s (t_callB (cr_repr hq hr) repr_s T.b_repr bt_repr (ta_cons (t_var 6) ta_nil)) (t_var 7)) (tw_or1 (tt_not (tt_tru (t_callF G_law_lacking_right (hr.mono (by decide)) (takes_of rfl rfl rfl rfl) (ta_cons (t_var 0) (ta_cons (t_ix ix_seq ix_s (t_var 3) t_int) (ta_cons (t_var 6) ta_nil)))))))))
  (s_one (s_ret t_bl))
  s_nil)))))))))))
  (s_cons (s_set 5 sc_law_right.nd (t_lst (ta_cons (t_meth (mt_cons G_Test_truth mt_nil) mt_ex (hr.mono (by decide)) (takes_of rfl rfl rfl rfl) (t_callF0 G_always (hr.mono (by decide)) (takes_of rfl rfl rfl rfl)) (ta_cons t_dict0 ta_nil)) (ta_cons (t_meth (mt_cons G_Test_truth mt_nil) mt_ex (hr.mono (by decide)) (takes_of rfl rfl rfl rfl) (t_callF0 G_never (hr.mono (by decide)) (takes_of rfl rfl rfl rfl)) (ta_cons t_dict0 ta_nil)) (ta_cons (t_meth (mt_cons G_Test_truth mt_nil) mt_ex (hr.mono (by decide)) (takes_of rfl rfl rfl rfl) (t_callF0 G_unsure (hr.mono (by decide)) (takes_of rfl rfl rfl rfl)) (ta_cons t_dict0 ta_nil)) (ta_cons (t_meth (mt_cons G_Test_truth mt_nil) mt_ex (hr.mono (by decide)) (takes_of rfl rfl rfl rfl) (t_callF G_sure (hr.mono (by decide)) (takes_of rfl rfl rfl rfl) (ta_cons (t_callF0 G_unsure (hr.mono (by decide)) (takes_of rfl rfl rfl rfl)) ta_nil)) (ta_cons t_dict0 ta_nil)) (ta_cons (t_meth (mt_cons G_Test_truth mt_nil) mt_ex (hr.mono (by decide)) (takes_of rfl rfl rfl rfl) (t_inv G_Test_invert (hr.mono (by decide)) (takes_of rfl rfl rfl rfl) (t_callF0 G_unsure (hr.mono (by decide)) (takes_of rfl rfl rfl rfl))) (ta_cons t_dict0 ta_nil)) ta_nil)))))))
  (s_one (s_ret (t_cmp (op_eqA hr) eq_s (t_var 5) (t_lst (ta_cons t_bl (ta_cons t_bl (ta_cons t_non (ta_cons t_bl (ta_cons t_non ta_nil))))))))))))))
theorem mk_law_right {f : Addr} {fd : FuncData} (F : Fun K "_law_right" "_law_right" s_law_right f fd) (hm : mg "_law_right" = some (.ref f)) (T : Gb w K cl mg) (G_Test_invert : MFn P w K mg base cl "Test" "__invert__" 32 1 fn_Test_invert) (G_Test_truth : MFn P w K mg base cl "Test" "truth" 32 2 fn_Test_truth) (G_law_draw : Fn P w K mg base cl "_law_draw" 1 2 fn_law_draw) (G_law_lacking_right : Fn P w K mg base cl "_law_lacking_right" 34 3 fn_law_lacking_right) (G_law_layout : Fn P w K mg base cl "_law_layout" 3 2 fn_law_layout) (G_law_made : Fn P w K mg base cl "_law_made" 53 1 (fn_law_made 20)) (G_law_near_row : Fn P w K mg base cl "_law_near_row" 21 3 fn_law_near_row) (G_law_same : Fn P w K mg base cl "_law_same" 1 2 fn_law_same) (G_law_spec : Fn P w K mg base cl "_law_spec" 25 3 (fn_law_spec 20)) (G_law_truth : Fn P w K mg base cl "_law_truth" 22 2 (fn_law_truth 20)) (G_all_of : Fn P w K mg base cl "all_of" 34 1 fn_all_of) (G_always : Fn P w K mg base cl "always" 3 0 fn_always) (G_any_of : Fn P w K mg base cl "any_of" 34 1 fn_any_of) (G_never : Fn P w K mg base cl "never" 3 0 fn_never) (G_sure : Fn P w K mg base cl "sure" 32 1 fn_sure) (G_unsure : Fn P w K mg base cl "unsure" 3 0 fn_unsure) : FnR P w K mg base cl "_law_right" 54 1 fn_law_right :=
  ⟨f, fd, ["_law_well"], ok_law_right F T G_Test_invert G_Test_truth G_law_draw G_law_lacking_right G_law_layout G_law_made G_law_near_row G_law_same G_law_spec G_law_truth G_all_of G_always G_any_of G_never G_sure G_unsure, hm, F.kp, (F.binds (ps := ["_law_well"]) fun _ _ _ _ _ _ us hl => match us, hl with | [_], _ => rfl)⟩
abbrev s_law_source : Stmt := (top 47)
theorem sc_law_source : FnScope ["_law_cell", "_law_number_here"] ["_law_cell"] (defScope s_law_source) :=
  ⟨rfl, rfl, rfl, by decide +kernel, rfl, by decide +kernel, by decide +kernel⟩
noncomputable def sem_law_source : MS :=
  (sSeq (sSet 1 (mIte (mTest (mOp geD (mVar 0) (mC (.int 0)))) (mVar 0) (mOp subD (mOp subD (mC (.int 0)) (mOp mulD (mC (.int 3)) (mVar 0))) (mC (.int 1)))))
  (sRet (mFn lstL (mCons (mOp mulD (mVar 1) (mFn intD (mCons (mOp geD (mVar 1) (mOp powD (mC (.int 10)) (mC (.int 18)))) mNil))) (mCons (mOp modD (mFn intD (mCons (mVar 1) mNil)) (mC (.int 2147483629))) (mCons (mC (.int 0)) mNil))))))
noncomputable def fn_law_source : List D → Store → Res D := runB 2 sem_law_source
theorem ok_law_source {f : Addr} {fd : FuncData} (F : Fun K "_law_source" "_law_source" s_law_source f fd) (T : Gb w K cl mg) :
    FnOk P w K mg base (L2.CX P w) 1 f fd ["_law_cell"] (spOf K cl 1 fn_law_source) :=
  fn_sem F sc_law_source rfl fun cdv A outer s H E hr =>
  (s_cons (s_set 1 sc_law_source.nd (t_ite (tt_cmp op_ge ge_s (t_var 0) t_int) (t_var 0) (t_op op_sub sub_s (t_op op_sub sub_s t_int (t_op op_mulA mul_s t_int (t_var 0))) t_int)))
  (s_one (s_ret (t_lstL (ta_cons (t_op op_mulA mul_s (t_var 1) (t_callTy (call_int1) int_s T.b_int bt_int (ta_cons (t_cmp op_ge ge_s (t_var 1) (t_op op_pow pow_s t_int t_int)) ta_nil))) (ta_cons (t_op op_mod mod_s (t_callTy (call_int1) int_s T.b_int bt_int (ta_cons (t_var 1) ta_nil)) t_int) (ta_cons t_int ta_nil)))))))
theorem mk_law_source {f : Addr} {fd : FuncData} (F : Fun K "_law_source" "_law_source" s_law_source f fd) (hm : mg "_law_source" = some (.ref f)) (T : Gb w K cl mg) : Fn P w K mg base cl "_law_source" 1 1 fn_law_source :=
  ⟨f, fd, ["_law_cell"], ok_law_source F T, hm, F.kp, (F.binds (ps := ["_law_cell"]) fun _ _ _ _ _ _ us hl => match us, hl with | [_], _ => rfl)⟩
abbrev s_law : Stmt := (top 68)
theorem sc_law : FnScope ["_law_script", "_law_cell"] ["_law_script"] (defScope s_law) :=
  ⟨rfl, rfl, rfl, by decide +kernel, rfl, by decide +kernel, by decide +kernel⟩
noncomputable def sem_law : MS :=
  (sRet (mFn allD (mCons (mComp (mIt (mOp addD (mSl slD (mVar 0) mNoPart (mPart (mC (.int 3)))) (mFn lstD (mCons (mC (.int 0)) mNil)))) (ptN 1) mYes (mFn (ar 1 fn_law_right) (mCons (mFn (ar 1 fn_law_source) (mCons (mVar 1) mNil)) mNil)) [1] frzD) mNil)))
noncomputable def fn_law : List D → Store → Res D := runB 2 sem_law
theorem ok_law {f : Addr} {fd : FuncData} (F : Fun K "law" "law" s_law f fd) (T : Gb w K cl mg) (G_law_right : FnR P w K mg base cl "_law_right" 54 1 fn_law_right) (G_law_source : Fn P w K mg base cl "_law_source" 1 1 fn_law_source) :
    FnQ P w K mg base (L2.CX P w) 55 f fd ["_law_script"] (spOf K cl 1 fn_law) :=
  fn_semQ F sc_law rfl fun cdv A outer s H E hq hr =>
  (s_one (s_ret (t_callB (cr_all rfl) all_s T.b_all bt_all (ta_cons (t_lc [("_law_cell", 1)] frz_s rfl sc_law.nd (i_seq (t_op op_addA add_s (t_sl sl_all sl_s (t_var 0) tp_none (tp_some t_int)) (t_lst (ta_cons t_int ta_nil)))) (blkOk_by (N := ["_law_script", "_law_cell"]) (sc := defScope s_law) (by decide +kernel)) (fun _ _ _ _ _ => (g_name 1 sc_law.nd)) (fun _ _ _ _ _ => tts_nil) (fun _ _ _ _ _ => (t_callR G_law_right hq (hr.mono (by decide)) takes0 (ta_cons (t_callF G_law_source (hr.mono (by decide)) takes0 (ta_cons (t_var 1) ta_nil)) ta_nil)))) ta_nil))))
end
end G
namespace G
open PySem L2
/-! ### names, paths, values -/
abbrev LET : Str := "abcdefghijklmnopqrstuvwxyz"
abbrev DIG : Str := "0123456789"
def kptL : List Str := ["and", "or", "not", "sure", "in", "is", "empty", "begins", "always", "never", "unsure"]
def kpt (t : Str) : Bool := inV (.str t) (kptL.map V.str)
def lod (c : Nat) : Bool := decide (c ∈ cs LET) || decide (c ∈ cs DIG)
def rn (t : Str) : Bool := decide (1 ≤ t.length) && decide (t.length ≤ 8) && (match cs t with
  | [] => false
  | c :: _ => decide (c ∈ cs LET)) && !kpt t && (cs t).all lod
theorem notInS {c : Nat} {z : Str} {S : Store} : notInD (.str ⟨#[c]⟩) (.str z) S = .ok (.bl (!decide (c ∈ cs z))) S := nrfl rfl
theorem kept_in {t : Str} {S : Store} : inD (.str t) c_KEPT_WORDS S = .ok (.bl (kpt t)) S := nrfl rfl
theorem atI_0 {α : Type} {x : α} {xs : List α} : atI (x :: xs) 0 = some x := atI_nat (j := 0) rfl
abbrev oneD (c : Nat) : D := .str ⟨#[c]⟩
theorem name_loop {t : D} {S : Store} {all : List D} : ∀ (l : List Nat) (o : Option D), ∃ o', forL ⟨all, none⟩ (ptN 1) (sIf (mAnd (mTest (mOp notInD (mVar 1) (mC c_LETTERS))) (mTest (mOp notInD (mVar 1) (mC c_DIGITS)))) (sRet (mC (.bl false))) sPass) (l.map oneD) [some t, o] S
    = if l.all lod = true then .nx [some t, o'] S else .rt (.bl false) S
  | [], o => ⟨o, by simpa using for_nil⟩
  | c :: l, o => by
    obtain ⟨o', e⟩ := name_loop (t := t) (S := S) (all := all) l (some (oneD c))
    refine ⟨o', ?_⟩
    rw [List.map_cons, for_cons (ρ1 := [some t, some (oneD c)]) rfl, List.all_cons]
    have hL : notInD (oneD c) c_LETTERS S = .ok (.bl (!decide (c ∈ cs LET))) S := notInS
    have hD : notInD (oneD c) c_DIGITS S = .ok (.bl (!decide (c ∈ cs DIG))) S := notInS
    by_cases h1 : c ∈ cs LET
    · have hl : lod c = true := by simp [lod, h1]
      rw [hl, Bool.true_and, ← e]
      simp [hL, h1]
    · by_cases h2 : c ∈ cs DIG
      · have hl : lod c = true := by simp [lod, h2]
        rw [hl, Bool.true_and, ← e]
        simp [hL, hD, h1, h2]
      · have hl : lod c = false := by simp [lod, h1, h2]
        rw [hl]
        simp [hL, hD, h1, h2]
theorem is_name_ok {t : Str} {S : Store} (ht : t.length ≤ 1000) : fn_is_name [.str t] S = .ok (.bl (rn t)) S := by
  have hz : t.length ≤ sizeLine := sz (by omega)
  unfold fn_is_name
  rw [run_eq]
  simp only [sem_is_name, startD]
  by_cases k1 : 1 ≤ t.length
  · have k1' : (1 : Int) ≤ (t.length : Nat) := by omega
    by_cases k2 : t.length ≤ 8
    · have k2' : ((t.length : Nat) : Int) ≤ 8 := by omega
      obtain ⟨c, l, el⟩ : ∃ c l, cs t = c :: l := by
        cases e : cs t with
        | nil => rw [len_cs, e] at k1; simp at k1
        | cons c l => exact ⟨c, l, rfl⟩
      have e0 : atI t.cps.toList 0 = some c := (congrArg (fun x => atI x 0) el).trans atI_0
      have hL : notInD (oneD c) c_LETTERS S = .ok (.bl (!decide (c ∈ cs LET))) S := notInS
      obtain ⟨o', e⟩ := name_loop (t := .str t) (S := S) (all := t.cps.toList.map oneD) (cs t) none
      have e : forL ⟨t.cps.toList.map oneD, none⟩ (ptN 1) (sIf (mAnd (mTest (mOp notInD (mVar 1) (mC c_LETTERS))) (mTest (mOp notInD (mVar 1) (mC c_DIGITS)))) (sRet (mC (.bl false))) sPass) (t.cps.toList.map oneD) [some (.str t), none] S = _ := e
      by_cases k3 : c ∈ cs LET
      · by_cases k4 : kpt t = true
        · simp [hz, k_str, k1', k2', e0, hL, k3, kept_in, k4, rn]
        · by_cases k5 : (cs t).all lod = true
          · rw [if_pos k5] at e
            simp [hz, k_str, k1', k2', e0, hL, k3, kept_in, k4, e]
            simp only [rn, el, k1, k2, k3, k4]
            rw [← el, k5]
            rfl
          · rw [if_neg k5] at e
            simp [hz, k_str, k1', k2', e0, hL, k3, kept_in, k4, e]
            simp only [rn, k5]
            simp
      · simp [hz, k_str, k1', k2', e0, hL, k3]
        simp [rn, el, k3]
    · have k2' : ¬ ((t.length : Nat) : Int) ≤ 8 := by omega
      simp [hz, k_str, k1', k2', rn, k2]
  · have k1' : ¬ (1 : Int) ≤ (t.length : Nat) := by omega
    simp [hz, k_str, k1', rn, k1]
theorem spl_len (Z : List Nat) : ∀ (xs : List Nat) (k : Nat) (acc p : List Nat), p ∈ TL.spl Z k acc xs → p.length ≤ acc.length + xs.length
  | [], k, acc, p, h => by
    have : TL.spl Z k acc [] = [acc] := by cases k <;> rfl
    rw [this] at h
    simp at h
    subst h
    simp
  | c :: r, 0, acc, p, h => by
    unfold TL.spl at h
    split at h
    · rcases List.mem_cons.mp h with rfl | h
      · simp
      · have := spl_len Z r _ _ _ h
        simp at this ⊢
        omega
    · have := spl_len Z r _ _ _ h
      simp at this ⊢
      omega
  | c :: r, k + 1, acc, p, h => by
    have := spl_len Z r k acc p h
    simp
    omega
theorem split_len {t p : Str} (h : p ∈ Txt.split t ".") : p.length ≤ t.length := by
  have e := TL.split_spl t "." (by decide) (TL.kind_ok (by decide +kernel))
  have h1 : TL.tl p ∈ (Txt.split t ".").map TL.tl := List.mem_map.mpr ⟨p, h, rfl⟩
  rw [e] at h1
  have := spl_len _ _ _ _ _ h1
  rw [TL.len_tl p, TL.len_tl t]
  simpa using this
theorem split_ne (t : Str) : Txt.split t "." ≠ [] := List.length_pos_iff.mp (PyProof.Rows.split_pos t ".")
def slotL : List Str := ["1", "2", "3"]
def slt (t : Str) : Bool := inV (.str t) (slotL.map V.str)
/-- a path by its pieces -/
def rp (ps : List Str) : Bool := decide (ps.length ≤ 4) && rn (ps.getLastD "") && (slt (ps.headD "") || rn (ps.headD "")) && ps.tail.all rn
theorem atI_last {α : Type} (x : α) (xs : List α) : atI (xs ++ [x]) (-1) = some x := by
  unfold atI ixN
  rw [if_neg (by omega)]
  rw [if_pos (by simp; omega)]
  show (xs ++ [x])[((((xs ++ [x]).length : Nat) : Int) + -1).toNat]? = _
  have : ((((xs ++ [x]).length : Nat) : Int) + -1).toNat = xs.length := by simp; omega
  rw [this]
  simp
theorem is_path_ok {t : Str} {S : Store} (ht : t.length ≤ 900) : fn_is_path [.str t] S = .ok (.bl (rp (Txt.split t "."))) S := by
  unfold fn_is_path
  rw [run_eq]
  simp only [sem_is_path, startD]
  have h := split_ne t
  have hl : (Txt.split t ".").length ≤ 1000 := Nat.le_trans (PyProof.Rows.split_le t ".") (by omega)
  have hp : ∀ p ∈ Txt.split t ".", p.length ≤ 1000 := fun p hp => by have := split_len hp; omega
  have hsp : splitD (.str t) [.str "."] S = .ok (.lst ((Txt.split t ".").map D.str)) S := if_pos ⟨rfl, sz (by omega)⟩
  generalize Txt.split t "." = ps at *
  obtain ⟨p, qs, rfl⟩ := List.exists_cons_of_ne_nil h
  obtain ⟨rs, q, e⟩ : ∃ rs q, p :: qs = rs ++ [q] := ⟨_, _, (List.dropLast_concat_getLast h).symm⟩
  have eL : atI ((p :: qs).map D.str) (-1) = some (.str q) := by
    rw [e, List.map_append]
    exact atI_last _ _
  have eF : atI ((p :: qs).map D.str) 0 = some (.str p) := atI_0
  have gl : (p :: qs).getLastD "" = q := by rw [e]; simp
  have hq : q.length ≤ 1000 := hp q (by rw [e]; simp)
  have n1 := is_name_ok (S := S) hq
  have hs : inD (.str p) c_SLOT_NUMBERS S = .ok (.bl (slt p)) S := nrfl rfl
  have cu : cutD ((p :: qs).map D.str) (some 1) none = qs.map D.str := by
    unfold cutD HT.sIx
    simp
    exact List.take_of_length_le (by simp)
  have cm := fun all => comp_map (S := S) (all := all) (p := ptN 2) (e := mFn (ar 1 fn_is_name) (mCons (mVar 2) mNil)) (ρ := [some (.str t), some (.lst (qs.map D.str)), none]) D.str (fun c => .bl (rn c)) qs 0 (fun x hx => ⟨_, rfl, by
    have := is_name_ok (S := S) (hp x (by simp [hx]))
    simp [this]⟩) (sz (by simp at hl; omega))
  have cm2 := fun all => comp_map (S := S) (all := all) (p := ptN 2) (e := mFn (ar 1 fn_is_name) (mCons (mVar 2) mNil)) (ρ := [some (.str t), some (.lst ((p :: qs).map D.str)), none]) D.str (fun c => .bl (rn c)) (p :: qs) 0 (fun x hx => ⟨_, rfl, by
    have := is_name_ok (S := S) (hp x hx)
    simp [this]⟩) (sz (by simp at hl ⊢; omega))
  have ea : allD [.lst (qs.map fun c => .bl (rn c))] S = .ok (.bl (qs.all rn)) S := all_bl _ _
  have ea2 : allD [.lst ((p :: qs).map fun c => .bl (rn c))] S = .ok (.bl ((p :: qs).all rn)) S := all_bl _ _
  have mp : c_MOST_PIECES = .int 4 := rfl
  generalize hds : (p :: qs).map D.str = ds at *
  generalize hes : (p :: qs).map (fun c => D.bl (rn c)) = es at *
  have ld : ds.length = (p :: qs).length := by rw [← hds]; simp
  by_cases c1 : (p :: qs).length ≤ 4
  · have c1' : ¬ (4 : Int) < (ds.length : Nat) := by rw [ld]; omega
    by_cases c2 : rn q = true
    · by_cases c3 : slt p = true
      · simp [k_str, tyD, hsp, mp, c1', eL, n1, c2, eF, hs, c3, cu, wipeD, cm, ea]
        simp only [rp, c1, gl, c2]
        simp [c3]
      · simp [k_str, tyD, hsp, mp, c1', eL, n1, c2, eF, hs, c3, wipeD, cm2, ea2]
        simp only [rp, c1, gl, c2]
        simp [c3]
    · simp [k_str, tyD, hsp, mp, c1', eL, n1, c2]
      simp only [rp, gl, c2]
      simp
  · have c1' : (4 : Int) < (ds.length : Nat) := by rw [ld]; omega
    simp [k_str, tyD, hsp, mp, c1']
    simp [rp, c1]
    intro q
    simp at c1
    omega
abbrev CH : Str := " !\"#$&'()*+,-./0123456789:;<=>?@ABCDEFGHIJKLMNOPQRSTUVWXYZ[\\]^_`abcdefghijklmnopqrstuvwxyz{|}~"
theorem text_loop {t : D} {S : Store} {all : List D} : ∀ (l : List Nat) (o : Option D), ∃ o', forL ⟨all, none⟩ (ptN 1) (sIf (mTest (mOp notInD (mVar 1) (mC c_CHARS))) (sRet (mC (.bl false))) sPass) (l.map oneD) [some t, o] S
    = if l.all (fun c => decide (c ∈ cs CH)) = true then .nx [some t, o'] S else .rt (.bl false) S
  | [], o => ⟨o, by simpa using for_nil⟩
  | c :: l, o => by
    obtain ⟨o', e⟩ := text_loop (t := t) (S := S) (all := all) l (some (oneD c))
    refine ⟨o', ?_⟩
    rw [List.map_cons, for_cons (ρ1 := [some t, some (oneD c)]) rfl, List.all_cons]
    have hL : notInD (oneD c) c_CHARS S = .ok (.bl (!decide (c ∈ cs CH))) S := notInS
    by_cases h1 : c ∈ cs CH
    · rw [decide_eq_true h1, Bool.true_and, ← e]
      simp [hL, h1]
    · rw [decide_eq_false h1]
      simp [hL, h1]
def txB (t : Str) : Bool := (cs t).all fun c => decide (c ∈ cs CH)
theorem is_text_ok {t : Str} {S : Store} (hz : t.length ≤ 1000) : fn_is_text [.str t] S = .ok (.bl (txB t)) S := by
  have hzz : t.length ≤ sizeLine := sz (by omega)
  unfold fn_is_text
  rw [run_eq]
  simp only [sem_is_text, startD]
  obtain ⟨o', e⟩ := text_loop (t := .str t) (S := S) (all := t.cps.toList.map oneD) (cs t) none
  have e : forL ⟨t.cps.toList.map oneD, none⟩ (ptN 1) (sIf (mTest (mOp notInD (mVar 1) (mC c_CHARS))) (sRet (mC (.bl false))) sPass) (t.cps.toList.map oneD) [some (.str t), none] S = _ := e
  by_cases h : txB t = true
  · rw [if_pos (show (cs t).all (fun c => decide (c ∈ cs CH)) = true from h)] at e
    simp [k_str, hzz, e, h]
  · rw [if_neg (show ¬ (cs t).all (fun c => decide (c ∈ cs CH)) = true from h)] at e
    simp [k_str, hzz, e, h]
theorem kind_text {t : Str} {S : Store} (hz : t.length ≤ 1000) : fn_kind_of [.str t] S = .ok (if txB t = true then .str "text" else .non) S := by
  have hi : fn_is_integer [.str t] S = .ok (.bl false) S := by
    unfold fn_is_integer
    rw [run_eq]
    simp only [sem_is_integer, startD]
    simp [k_int]
  unfold fn_kind_of
  rw [run_eq]
  simp only [sem_kind_of, startD]
  by_cases h : txB t = true
  · simp [hi, is_text_ok hz, h]
  · simp [hi, is_text_ok hz, h]
theorem kind_int {i : Int} {S : Store} : fn_kind_of [.int i] S = .ok (.str "number") S := by
  have hi : fn_is_integer [.int i] S = .ok (.bl true) S := by
    unfold fn_is_integer
    rw [run_eq]
    simp only [sem_is_integer, startD]
    simp [k_int, k_bool]
  unfold fn_kind_of
  rw [run_eq]
  simp only [sem_kind_of, startD]
  simp [hi]
end G
namespace G
open PySem L2
/-! ### wells -/
def WellAt (n : Nat) (S : Store) : Prop := ∃ a b c : Int, sg S n = some (.lst [.int a, .int b, .int c])
/-- drawn from the well at n; else only new objects -/
structure Go (n : Nat) (S S' : Store) : Prop where
  fr : Fr [n] S S'
  we : WellAt n S'
section
variable {n : Nat} {S S1 S2 : Store}
theorem Go.rf (h : WellAt n S) : Go n S S := ⟨Fr.rf _ _, h⟩
theorem Go.tr (a : Go n S S1) (b : Go n S1 S2) : Go n S S2 := ⟨a.fr.tr b.fr, b.we⟩
theorem WellAt.ext (h : WellAt n S) (e : Ext S S1) : WellAt n S1 := by
  obtain ⟨a, b, c, h⟩ := h
  exact ⟨a, b, c, e.get h⟩
theorem Go.ext (a : Go n S S1) (e : Ext S1 S2) : Go n S S2 := ⟨a.fr.tr (Fr.ext e), a.we.ext e⟩
theorem WellAt.go (h : WellAt n S) (e : Ext S S1) : Go n S S1 := ⟨Fr.ext e, h.ext e⟩
theorem Go.get {k : Nat} {m : MO} (a : Go n S S1) (h : sg S k = some m) (hk : k ≠ n) : sg S1 k = some m := a.fr.get h (by rw [List.mem_singleton]; exact hk)
theorem w0 (a b c : D) : atI [a, b, c] 0 = some a := rfl
theorem w1 (a b c : D) : atI [a, b, c] 1 = some b := rfl
theorem w2 (a b c : D) : atI [a, b, c] 2 = some c := rfl
theorem draw {many : Int} (h : WellAt n S) (h0 : 0 < many := by decide) (h1 : many ≤ 1000 := by decide) :
    Ok (fn_law_draw [.ref n, .int many] S) fun d S' => Go n S S' ∧ ∃ r : Nat, d = .int r ∧ (r : Int) < many := by
  obtain ⟨a, b, c, hS⟩ := h
  have h9 : many.natAbs.log2 < 9000 := by
    have q : ∀ n : Nat, n ≤ 1000 → n.log2 < 9000 := by decide +kernel
    exact q _ (by omega)
  have hn : n < S.length := sg_lt hS
  have mp : ∀ x : Int, ∃ r : Nat, x % many = (r : Int) ∧ (r : Int) < many := fun x => ⟨(x % many).toNat, by have := Int.emod_nonneg x (show many ≠ 0 by omega); omega, by have := Int.emod_nonneg x (show many ≠ 0 by omega); have := Int.emod_lt_of_pos x h0; omega⟩
  have b0 : ixN 3 0 = some 0 := rfl
  have b2 : ixN 3 2 = some 2 := rfl
  have l1 : sm64 104729 = true := by decide
  have l3 : sm64 48271 = true := by decide
  have d1 : Nat.log2 1009 < 9000 := by decide +kernel
  have d2 : Nat.log2 2003 < 9000 := by decide +kernel
  have d3 : Nat.log2 3 < 9000 := by decide +kernel
  have s1 : ∀ x : Int, sm64 (x % 2147483647) = true := fun x => sm_mod _ (by decide) (by decide)
  have s2 : ∀ x : Int, sm64 (x % 2147483587) = true := fun x => sm_mod _ (by decide) (by decide)
  have pu : ∀ x y z : Int, Go n S (sp S n (.lst [.int x, .int y, .int z])) := fun x y z => ⟨Fr.put (by simp), x, y, z, sg_sp hn⟩
  unfold fn_law_draw
  rw [run_eq]
  simp only [sem_law_draw, startD]
  by_cases c1 : 0 < a
  · simp [hS, hn, rP, w0, w1, w2, b0, b2, c1, h0, h9]
    obtain ⟨r, e1, e2⟩ := mp a
    rw [e1]
    exact ⟨pu _ _ _, r, rfl, e2⟩
  · simp [hS, hn, rP, w0, w1, w2, b0, b2, c1, h0, h9, l1, l3, d1, d2, d3, s1, s2]
    refine ⟨pu _ _ _, ?_⟩
    obtain ⟨r, e1, e2⟩ := mp _
    rw [e1]
    exact ⟨r, rfl, e2⟩
theorem pick (xs : List D) (h : WellAt n S) (h0 : xs ≠ [] := by exact fun h => nomatch h) (h9 : xs.length ≤ 1000 := by decide) :
    Ok (fn_law_pick [.ref n, .lst xs] S) fun d S' => Go n S S' ∧ d ∈ xs := by
  have hl : 0 < xs.length := List.length_pos_iff.mpr h0
  unfold fn_law_pick
  rw [run_eq]
  simp only [sem_law_pick, startD]
  simp
  generalize hx : fn_law_draw _ _ = x
  obtain ⟨_, S1, rfl, g1, r, rfl, l1⟩ := Ok.g hx (draw (many := (xs.length : Int)) h (by omega) (by omega))
  have ex : atI xs (r : Int) = some xs[r] := atI_nat (List.getElem?_eq_getElem (by omega))
  simp [ex]
  exact g1
end
end G
namespace G
open PySem L2
/-! ### tests -/
abbrev tst (k : Str) (d p : List D) : D := .ins "Test" [("_kind", .str k), ("_data", .tup d), ("_parts", .tup p)]
inductive At where
  | cmp (p op : Str) (v : D)
  | agn (p op q : Str) (m : Int)
  | amg (p : Str) (vs : List D)
  | bgn (p t : Str)
  | emp (p : Str)
  | cst (w : Str)
inductive Sp where
  | lf (a : At)
  | and (x y : Sp)
  | or (x y : Sp)
  | not (x : Sp)
  | sure (x : Sp)
def At.t : At → D
  | .cmp p op v => tst "compare" [.str p, .str op, v] []
  | .agn p op q m => tst "against" [.str p, .str op, .str q, .int m] []
  | .amg p vs => tst "among" [.str p, .tup vs] []
  | .bgn p t => tst "begins" [.str p, .str t] []
  | .emp p => tst "empty" [.str p] []
  | .cst w => tst w [] []
def Sp.t : Sp → D
  | .lf a => a.t
  | .and x y => tst "and" [] [x.t, y.t]
  | .or x y => tst "or" [] [x.t, y.t]
  | .not x => tst "not" [] [x.t]
  | .sure x => tst "sure" [] [x.t]
def Sp.lv : Sp → List At
  | .lf a => [a]
  | .and x y => x.lv ++ y.lv
  | .or x y => x.lv ++ y.lv
  | .not x => x.lv
  | .sure x => x.lv
def Sp.ht : Sp → Nat
  | .lf _ => 0
  | .and x y => max x.ht y.ht + 1
  | .or x y => max x.ht y.ht + 1
  | .not x => x.ht + 1
  | .sure x => x.ht + 1
theorem At.isIns (a : At) : ∃ k d, a.t = tst k d [] := by cases a <;> exact ⟨_, _, rfl⟩
section
variable {S : Store} {k d p : D} {fs : List (Str × D)}
theorem tinit : fn_Test_init [.ref S.length, k, d, p] (S ++ [.ins "Test" []]) = .ok .non (S ++ [.ins "Test" [("_kind", k), ("_data", d), ("_parts", p)]]) := by
  unfold fn_Test_init
  rw [run_eq]
  simp only [sem_Test_init, startD]
  simp [putFD]
theorem atoms_at {a : At} {j : Nat} : fn_Test_atoms (j + 1) [a.t] S = .ok (.lst [a.t]) S := by
  obtain ⟨k, d, e⟩ := a.isIns
  rw [e]
  unfold fn_Test_atoms
  rw [run_eq]
  simp only [sem_Test_atoms, startD]
  simp
theorem flat_len {α β : Type} (f : α → β) : ∀ ls : List (List α), (ls.map fun l => l.map f).flatten = ls.flatten.map f
  | [] => rfl
  | l :: ls => by
    rw [List.map_cons, List.flatten_cons, List.flatten_cons, List.map_append, flat_len f ls]
theorem Sp.isIns (s : Sp) : ∃ k d p, s.t = tst k d p := by
  cases s with
  | lf a => obtain ⟨k, d, e⟩ := a.isIns; exact ⟨k, d, [], e⟩
  | _ => exact ⟨_, _, _, rfl⟩
theorem comp_id {ds : List D} {i k : Nat} {ρ : Sl} (hi : i < ρ.length) (hz : k + ds.length ≤ sizeLine) : compL ⟨ds, none⟩ (ptN i) mYes (mVar i) ρ ds k S = .ok ds S := by
  have c := comp_pure (it := ⟨ds, none⟩) (p := ptN i) (t := mYes) (e := mVar i) (ρ := ρ) (S := S) grd_none id id (fun _ => true) ds k (fun d _ => ⟨_, rfl, rfl, fun _ => by
    unfold mVar
    simp [List.getElem?_set_self hi]⟩) hz
  rw [List.map_id, List.filter_eq_self.mpr (fun _ _ => rfl), List.map_id] at c
  exact c
theorem atoms_of {k : Str} {xs : List Sp} {j : Nat} (h0 : xs ≠ []) (h : ∀ x ∈ xs, fn_Test_atoms j [x.t] S = .ok (.lst (x.lv.map At.t)) S) (hz : ((xs.map Sp.lv).flatten).length ≤ 1000) :
    fn_Test_atoms (j + 1) [tst k [] (xs.map Sp.t)] S = .ok (.lst ((xs.map Sp.lv).flatten.map At.t)) S := by
  have ne : (xs.map Sp.t).isEmpty = false := by
    cases xs with
    | nil => exact absurd rfl h0
    | cons a l => rfl
  have ef : (xs.map fun x => x.lv.map At.t).flatten = (xs.map Sp.lv).flatten.map At.t := by
    rw [← flat_len, List.map_map]
    rfl
  have c := comp2_pure (it := ⟨xs.map Sp.t, none⟩) (p := ptN 1) (t := mYes) (mi1 := mIt (mMeth [("Test", fn_Test_atoms j)] "atoms" 1 (mVar 1) mNil)) (p1 := ptN 2) (t1 := mYes) (e := mVar 2) (vs1 := [2]) (ρ := [some (tst k [] (xs.map Sp.t)), none, none]) (S := S) grd_none Sp.t (fun x => x.lv.map At.t) xs 0
    (fun x hx => by
      obtain ⟨k1, d1, p1, e1⟩ := x.isIns
      have h1 := h x hx
      rw [e1] at h1
      refine ⟨_, ⟨x.lv.map At.t, none⟩, rfl, rfl, ?_, fun k hk => comp_id (by simp [wipeD]) hk⟩
      simp [e1, h1]) (by rw [ef, List.length_map]; exact sz (by omega))
  rw [ef] at c
  unfold fn_Test_atoms
  rw [run_eq]
  simp only [sem_Test_atoms, startD]
  simp [ne, wipeD, c]
theorem atoms_ok : ∀ (s : Sp) (j : Nat), s.ht < j → s.lv.length ≤ 1000 → fn_Test_atoms j [s.t] S = .ok (.lst (s.lv.map At.t)) S
  | s, 0, h, _ => absurd h (Nat.not_lt_zero _)
  | .lf a, j + 1, _, _ => by simpa [Sp.t, Sp.lv] using atoms_at
  | .and x y, j + 1, h, hz => by
    simp only [Sp.ht] at h
    simp only [Sp.lv, List.length_append] at hz
    have := atoms_of (S := S) (k := "and") (xs := [x, y]) (j := j) (by simp) (fun z hz' => by
      simp only [List.mem_cons, List.not_mem_nil, or_false] at hz'
      rcases hz' with rfl | rfl
      · exact atoms_ok _ j (by omega) (by omega)
      · exact atoms_ok _ j (by omega) (by omega)) (by simp; omega)
    simpa [Sp.t, Sp.lv] using this
  | .or x y, j + 1, h, hz => by
    simp only [Sp.ht] at h
    simp only [Sp.lv, List.length_append] at hz
    have := atoms_of (S := S) (k := "or") (xs := [x, y]) (j := j) (by simp) (fun z hz' => by
      simp only [List.mem_cons, List.not_mem_nil, or_false] at hz'
      rcases hz' with rfl | rfl
      · exact atoms_ok _ j (by omega) (by omega)
      · exact atoms_ok _ j (by omega) (by omega)) (by simp; omega)
    simpa [Sp.t, Sp.lv] using this
  | .not x, j + 1, h, hz => by
    simp only [Sp.ht] at h
    simp only [Sp.lv] at hz
    have := atoms_of (S := S) (k := "not") (xs := [x]) (j := j) (by simp) (fun z hz' => by
      rw [List.mem_singleton.mp hz']
      exact atoms_ok _ j (by omega) (by omega)) (by simp; omega)
    simpa [Sp.t, Sp.lv] using this
  | .sure x, j + 1, h, hz => by
    simp only [Sp.ht] at h
    simp only [Sp.lv] at hz
    have := atoms_of (S := S) (k := "sure") (xs := [x]) (j := j) (by simp) (fun z hz' => by
      rw [List.mem_singleton.mp hz']
      exact atoms_ok _ j (by omega) (by omega)) (by simp; omega)
    simpa [Sp.t, Sp.lv] using this
theorem ints_map : ∀ l : List Int, intsO (l.map D.int) = some l
  | [] => rfl
  | a :: l => by
    rw [List.map_cons]
    unfold intsO
    rw [ints_map l]
    rfl
theorem mx_nat : ∀ (l : List Nat) (n : Nat), (l.map fun x : Nat => (x : Int)).foldl (fun a b => if a < b then b else a) (n : Int) = ((l.foldl max n : Nat) : Int)
  | [], n => rfl
  | m :: l, n => by
    rw [List.map_cons, List.foldl_cons, List.foldl_cons]
    have : (if (n : Int) < m then (m : Int) else n) = ((max n m : Nat) : Int) := by
      split <;> omega
    rw [this]
    exact mx_nat l _
theorem levels_of {k : Str} {xs : List Sp} {d : List D} {j : Nat} (h : ∀ x ∈ xs, fn_Test_levels j [x.t] S = .ok (.int x.ht) S) (hz : xs.length ≤ 2) :
    fn_Test_levels (j + 1) [tst k d (xs.map Sp.t)] S = .ok (.int ((xs.map fun x => x.ht + 1).foldl max 0 : Nat)) S := by
  have c := comp_pure (it := ⟨xs.map Sp.t, none⟩) (p := ptN 1) (t := mYes) (e := mOp addD (mMeth [("Test", fn_Test_levels j)] "levels" 1 (mVar 1) mNil) (mC (.int 1))) (ρ := [some (tst k d (xs.map Sp.t)), none]) (S := S) grd_none Sp.t (fun x => .int ((x.ht + 1 : Nat) : Int)) (fun _ => true) xs 0
    (fun x hx => by
      obtain ⟨k1, d1, p1, e1⟩ := x.isIns
      have h1 := h x hx
      rw [e1] at h1
      refine ⟨_, rfl, rfl, fun _ => ?_⟩
      simp [e1, h1]) (sz (by omega))
  rw [List.filter_eq_self.mpr (fun _ _ => rfl)] at c
  have zl : 1 + xs.length ≤ sizeLine := sz (by omega)
  unfold fn_Test_levels
  rw [run_eq]
  simp only [sem_Test_levels, startD]
  have ei : intsO (.int 0 :: xs.map (fun x => D.int ((x.ht : Int) + 1))) = some (0 :: xs.map (fun x => (x.ht : Int) + 1)) := by
    have := ints_map (0 :: xs.map (fun x => (x.ht : Int) + 1))
    rw [List.map_cons, List.map_map] at this
    exact this
  have em : mxI (0 :: xs.map (fun x => (x.ht : Int) + 1)) = some (((xs.map fun x => x.ht + 1).foldl max 0 : Nat) : Int) := by
    have := mx_nat (xs.map fun x => x.ht + 1) 0
    rw [List.map_map] at this
    unfold mxI
    exact congrArg some this
  simp [wipeD, c, zl, exD, lsOf, ei, em]
theorem levels_ok : ∀ (s : Sp) (j : Nat), s.ht < j → fn_Test_levels j [s.t] S = .ok (.int s.ht) S
  | s, 0, h => absurd h (Nat.not_lt_zero _)
  | .lf a, j + 1, _ => by
    obtain ⟨k, d, e⟩ := a.isIns
    have := levels_of (S := S) (k := k) (xs := []) (d := d) (j := j) (by simp) (by simp)
    simpa [Sp.t, Sp.ht, e] using this
  | .and x y, j + 1, h => by
    simp only [Sp.ht] at h
    have := levels_of (S := S) (k := "and") (xs := [x, y]) (d := []) (j := j) (fun z hz' => by
      simp only [List.mem_cons, List.not_mem_nil, or_false] at hz'
      rcases hz' with rfl | rfl
      · exact levels_ok _ j (by omega)
      · exact levels_ok _ j (by omega)) (by simp)
    have e : [x.ht + 1, y.ht + 1].foldl max 0 = max x.ht y.ht + 1 := by simp
    simp only [List.map_cons, List.map_nil, e] at this
    exact this
  | .or x y, j + 1, h => by
    simp only [Sp.ht] at h
    have := levels_of (S := S) (k := "or") (xs := [x, y]) (d := []) (j := j) (fun z hz' => by
      simp only [List.mem_cons, List.not_mem_nil, or_false] at hz'
      rcases hz' with rfl | rfl
      · exact levels_ok _ j (by omega)
      · exact levels_ok _ j (by omega)) (by simp)
    have e : [x.ht + 1, y.ht + 1].foldl max 0 = max x.ht y.ht + 1 := by simp
    simp only [List.map_cons, List.map_nil, e] at this
    exact this
  | .not x, j + 1, h => by
    simp only [Sp.ht] at h
    have := levels_of (S := S) (k := "not") (xs := [x]) (d := []) (j := j) (fun z hz' => by
      rw [List.mem_singleton.mp hz']
      exact levels_ok _ j (by omega)) (by simp)
    simpa [Sp.t, Sp.ht] using this
  | .sure x, j + 1, h => by
    simp only [Sp.ht] at h
    have := levels_of (S := S) (k := "sure") (xs := [x]) (d := []) (j := j) (fun z hz' => by
      rw [List.mem_singleton.mp hz']
      exact levels_ok _ j (by omega)) (by simp)
    simpa [Sp.t, Sp.ht] using this
/-- the test is neither too large nor too deep -/
def Sp.fine (s : Sp) : Prop := s.lv.length ≤ 48 ∧ s.ht ≤ 24
theorem limited_ok {s : Sp} (h : s.fine) : fn_limited [s.t] S = .ok s.t S := by
  obtain ⟨h1, h2⟩ := h
  have ha := atoms_ok (S := S) s 30 (by omega) (by omega)
  have hl := levels_ok (S := S) s 30 (by omega)
  obtain ⟨k, d, p, e⟩ := s.isIns
  rw [e] at ha hl ⊢
  unfold fn_limited
  rw [run_eq]
  simp only [sem_limited, startD]
  simp [ha, hl, c_MOST_ATOMS, c_MOST_LEVELS]
  have g1 : ¬ (48 : Int) < s.lv.length := by omega
  have g2 : ¬ (24 : Int) < s.ht := by omega
  simp [g1, g2]
  rw [hl]
  simp [g2]
end
end G
namespace G
open PySem L2
/-! ### the makers of tests -/
structure Pth (t : Str) : Prop where
  len : t.length ≤ 900
  ok : rp (Txt.split t ".") = true
  so : PyData.strOk t = true
def opsL : List Str := ["<", "<=", "==", "!=", ">", ">="]
inductive Val : D → Str → Prop
  | n (i : Int) : Val (.int i) "number"
  | t (x : Str) (h : x.length ≤ 1000) (h1 : txB x = true) : Val (.str x) "text"
inductive At.wf : At → Prop
  | cmp {p op v k} : Pth p → op ∈ opsL → Val v k → wf (.cmp p op v)
  | agn {p op q m} : Pth p → op ∈ opsL → Pth q → q ≠ p → wf (.agn p op q m)
  | amg {p vs} : Pth p → vs ≠ [] → vs.length ≤ 8 → (∀ v ∈ vs, ∃ k, Val v k) → wf (.amg p vs)
  | bgn {p t} : Pth p → t.length ≤ 1000 → txB t = true → wf (.bgn p t)
  | emp {p} : Pth p → wf (.emp p)
  | cst {w} : w ∈ (["always", "never", "unsure"] : List Str) → wf (.cst w)
section
variable {S : Store}
theorem need_path_ok {p : Str} (h : Pth p) : fn_need_path [.str p] S = .ok .non S := by
  unfold fn_need_path
  rw [run_eq]
  simp only [sem_need_path, startD]
  simp [is_path_ok h.len, h.ok]
theorem need_op_ok {p : Str} (h : p ∈ opsL) : fn_need_operator [.str p] S = .ok .non S := by
  have e : notInD (.str p) c_OPERATORS S = .ok (.bl false) S := by
    simp only [opsL, List.mem_cons, List.not_mem_nil, or_false] at h
    rcases h with rfl | rfl | rfl | rfl | rfl | rfl <;> exact nrfl rfl
  unfold fn_need_operator
  rw [run_eq]
  simp only [sem_need_operator, startD]
  simp [e, k_str]
theorem Val.kind {v : D} {k : Str} (h : Val v k) : fn_kind_of [v] S = .ok (.str k) S := by
  cases h with
  | n i => exact kind_int
  | t x h h1 =>
    rw [kind_text h, if_pos h1]
theorem compare_ok {p op : Str} {v : D} {k : Str} (hp : Pth p) (ho : op ∈ opsL) (hv : Val v k) : fn_compare [.str p, .str op, v] S = .ok (At.cmp p op v).t (S ++ [.dead]) := by
  unfold fn_compare
  rw [run_eq]
  simp only [sem_compare, startD]
  simp [need_path_ok hp, need_op_ok ho, hv.kind, tinit, At.t]
theorem against_ok {p op q : Str} {m : Int} (hp : Pth p) (ho : op ∈ opsL) (hq : Pth q) (hn : q ≠ p) : fn_against [.str p, .str op, .str q, .int m] S = .ok (At.agn p op q m).t (S ++ [.dead]) := by
  have hi : fn_is_integer [.int m] S = .ok (.bl true) S := by
    unfold fn_is_integer
    rw [run_eq]
    simp only [sem_is_integer, startD]
    simp [k_int, k_bool]
  unfold fn_against
  rw [run_eq]
  simp only [sem_against, startD]
  simp [need_path_ok hp, need_op_ok ho, is_path_ok hq.len, hq.ok, hn, hi, tinit, At.t]
theorem seq_lst {xs : List D} : fn_is_sequence [.lst xs] S = .ok (.bl true) S := by
  unfold fn_is_sequence
  rw [run_eq]
  simp only [sem_is_sequence, startD]
  simp [k_list_tuple]
theorem among_ok {p : Str} {vs : List D} (hp : Pth p) (h0 : vs ≠ []) (h8 : vs.length ≤ 8) (hv : ∀ v ∈ vs, ∃ k, Val v k) : fn_among [.str p, .lst vs] S = .ok (At.amg p vs).t (S ++ [.dead]) := by
  have hl : 0 < vs.length := List.length_pos_iff.mpr h0
  have c := comp_pure (it := ⟨vs, none⟩) (p := ptN 2) (t := mYes) (e := mOp isND (mFn (ar 1 fn_kind_of) (mCons (mVar 2) mNil)) (mC .non)) (ρ := [some (.str p), some (.lst vs), none]) (S := S) grd_none id (fun _ => .bl false) (fun _ => true) vs 0
    (fun x hx => by
      obtain ⟨k, hk⟩ := hv x hx
      refine ⟨_, rfl, rfl, fun _ => ?_⟩
      simp [hk.kind]) (sz (by omega))
  rw [List.map_id, List.filter_eq_self.mpr (fun _ _ => rfl)] at c
  have ea : anyD [.lst (vs.map fun _ => D.bl false)] S = .ok (.bl false) S := by
    show ofO ((blsO (vs.map fun _ => .bl false)).map fun bs => D.bl (bs.any id)) S = _
    rw [bls_map (fun _ => false)]
    simp
  have g1 : (1 : Int) ≤ vs.length := by omega
  have g2 : (vs.length : Int) ≤ 8 := by omega
  unfold fn_among
  rw [run_eq]
  simp only [sem_among, startD]
  simp [need_path_ok hp, seq_lst, c_MOST_VALUES, g1, g2, wipeD, c, ea, tinit, At.t]
theorem begins_ok {p t : Str} (hp : Pth p) (h : t.length ≤ 1000) (ht : txB t = true) : fn_begins [.str p, .str t] S = .ok (At.bgn p t).t (S ++ [.dead]) := by
  unfold fn_begins
  rw [run_eq]
  simp only [sem_begins, startD]
  simp [need_path_ok hp, is_text_ok h, ht, tinit, At.t]
theorem empty_ok {p : Str} (hp : Pth p) : fn_empty [.str p] S = .ok (At.emp p).t (S ++ [.dead]) := by
  unfold fn_empty
  rw [run_eq]
  simp only [sem_empty, startD]
  simp [need_path_ok hp, tinit, At.t]
theorem always_ok : fn_always [] S = .ok (At.cst "always").t (S ++ [.dead]) := by
  unfold fn_always
  rw [run_eq]
  simp only [sem_always, startD]
  simp [tinit, At.t]
theorem never_ok : fn_never [] S = .ok (At.cst "never").t (S ++ [.dead]) := by
  unfold fn_never
  rw [run_eq]
  simp only [sem_never, startD]
  simp [tinit, At.t]
theorem unsure_ok : fn_unsure [] S = .ok (At.cst "unsure").t (S ++ [.dead]) := by
  unfold fn_unsure
  rw [run_eq]
  simp only [sem_unsure, startD]
  simp [tinit, At.t]
theorem combine_and {x y : Sp} (h : (Sp.and x y).fine) : fn_combine [.str "and", x.t, y.t] S = .ok (Sp.and x y).t (S ++ [.dead]) := by
  have hl := limited_ok (S := S ++ [.dead]) h
  obtain ⟨k, d, p, e⟩ := y.isIns
  simp only [Sp.t, e] at hl ⊢
  unfold fn_combine
  rw [run_eq]
  simp only [sem_combine, startD]
  simp [tinit, hl]
theorem combine_or {x y : Sp} (h : (Sp.or x y).fine) : fn_combine [.str "or", x.t, y.t] S = .ok (Sp.or x y).t (S ++ [.dead]) := by
  have hl := limited_ok (S := S ++ [.dead]) h
  obtain ⟨k, d, p, e⟩ := y.isIns
  simp only [Sp.t, e] at hl ⊢
  unfold fn_combine
  rw [run_eq]
  simp only [sem_combine, startD]
  simp [tinit, hl]
theorem and_ok {x y : Sp} (h : (Sp.and x y).fine) : fn_Test_and [x.t, y.t] S = .ok (Sp.and x y).t (S ++ [.dead]) := by
  unfold fn_Test_and
  rw [run_eq]
  simp only [sem_Test_and, startD]
  simp [combine_and h]
theorem or_ok {x y : Sp} (h : (Sp.or x y).fine) : fn_Test_or [x.t, y.t] S = .ok (Sp.or x y).t (S ++ [.dead]) := by
  unfold fn_Test_or
  rw [run_eq]
  simp only [sem_Test_or, startD]
  simp [combine_or h]
theorem not_ok {x : Sp} (h : (Sp.not x).fine) : fn_Test_invert [x.t] S = .ok (Sp.not x).t (S ++ [.dead]) := by
  have hl := limited_ok (S := S ++ [.dead]) h
  simp only [Sp.t] at hl ⊢
  unfold fn_Test_invert
  rw [run_eq]
  simp only [sem_Test_invert, startD]
  simp [tinit, hl]
theorem sure_ok {x : Sp} (h : (Sp.sure x).fine) : fn_sure [x.t] S = .ok (Sp.sure x).t (S ++ [.dead]) := by
  have hl := limited_ok (S := S ++ [.dead]) h
  obtain ⟨k, d, p, e⟩ := x.isIns
  simp only [Sp.t, e] at hl ⊢
  unfold fn_sure
  rw [run_eq]
  simp only [sem_sure, startD]
  simp [tinit, hl]
end
end G
namespace G
open PySem L2
/-! ### the law's words for tests, and the tests made of them -/
def At.enc : At → D
  | .cmp p op v => .tup [.str "compare", .str p, .str op, v]
  | .agn p op q m => .tup [.str "against", .str p, .str op, .str q, .int m]
  | .amg p vs => .tup [.str "among", .str p, .lst vs]
  | .bgn p t => .tup [.str "begins", .str p, .str t]
  | .emp p => .tup [.str "empty", .str p]
  | .cst w => .tup [.str w]
def Sp.enc : Sp → D
  | .lf a => a.enc
  | .and x y => .tup [.str "and", x.enc, y.enc]
  | .or x y => .tup [.str "or", x.enc, y.enc]
  | .not x => .tup [.str "not", x.enc]
  | .sure x => .tup [.str "sure", x.enc]
def Sp.wf (s : Sp) : Prop := ∀ a ∈ s.lv, a.wf
section
variable {S : Store}
theorem t3_0 {a b c : D} : atI [a, b, c] 0 = some a := rfl
theorem t3_1 {a b c : D} : atI [a, b, c] 1 = some b := rfl
theorem t3_2 {a b c : D} : atI [a, b, c] 2 = some c := rfl
theorem t1_0 {a : D} : atI [a] 0 = some a := rfl
theorem t2_0 {a b : D} : atI [a, b] 0 = some a := rfl
theorem t2_1 {a b : D} : atI [a, b] 1 = some b := rfl
theorem t4_0 {a b c d : D} : atI [a, b, c, d] 0 = some a := rfl
theorem t4_1 {a b c d : D} : atI [a, b, c, d] 1 = some b := rfl
theorem t4_2 {a b c d : D} : atI [a, b, c, d] 2 = some c := rfl
theorem t4_3 {a b c d : D} : atI [a, b, c, d] 3 = some d := rfl
theorem t5_0 {a b c d e : D} : atI [a, b, c, d, e] 0 = some a := rfl
theorem t5_1 {a b c d e : D} : atI [a, b, c, d, e] 1 = some b := rfl
theorem t5_2 {a b c d e : D} : atI [a, b, c, d, e] 2 = some c := rfl
theorem t5_3 {a b c d e : D} : atI [a, b, c, d, e] 3 = some d := rfl
theorem t5_4 {a b c d e : D} : atI [a, b, c, d, e] 4 = some e := rfl
theorem made_at {a : At} {j : Nat} (h : a.wf) : fn_law_made (j + 1) [a.enc] S = .ok a.t (S ++ [.dead]) := by
  cases h with
  | cmp hp ho hv =>
    unfold fn_law_made
    rw [run_eq]
    simp only [sem_law_made, startD, At.enc]
    simp [t4_0, t4_1, t4_2, t4_3, compare_ok hp ho hv]
  | @agn p op q m hp ho hq hn =>
    unfold fn_law_made
    rw [run_eq]
    simp only [sem_law_made, startD, At.enc]
    by_cases hm : m = 0
    · simp [t5_0, t5_1, t5_2, t5_3, t5_4, hm, against_ok hp ho hq hn]
    · simp [t5_0, t5_1, t5_2, t5_3, t5_4, hm, against_ok hp ho hq hn]
  | amg hp h0 h8 hv =>
    unfold fn_law_made
    rw [run_eq]
    simp only [sem_law_made, startD, At.enc]
    simp [t3_0, t3_1, t3_2, among_ok hp h0 h8 hv]
  | bgn hp h1 ht =>
    unfold fn_law_made
    rw [run_eq]
    simp only [sem_law_made, startD, At.enc]
    simp [t3_0, t3_1, t3_2, begins_ok hp h1 ht]
  | emp hp =>
    unfold fn_law_made
    rw [run_eq]
    simp only [sem_law_made, startD, At.enc]
    simp [t2_0, t2_1, empty_ok hp]
  | cst hw =>
    unfold fn_law_made
    rw [run_eq]
    simp only [sem_law_made, startD, At.enc]
    simp only [List.mem_cons, List.not_mem_nil, or_false] at hw
    rcases hw with rfl | rfl | rfl
    · simp [t1_0, always_ok]
    · simp [t1_0, never_ok]
    · simp [t1_0, unsure_ok]
theorem Ext.dead {S1 : Store} (h : Ext S S1) : Ext S (S1 ++ [.dead]) := h.tr .one
theorem made_ok : ∀ (s : Sp) (j : Nat) (S : Store), s.ht < j → s.fine → s.wf → Ok (fn_law_made j [s.enc] S) fun d S' => d = s.t ∧ Ext S S'
  | s, 0, _, h, _, _ => absurd h (Nat.not_lt_zero _)
  | .lf a, j + 1, S, _, _, h => Ok.of (made_at (h a (by simp [Sp.lv]))) ⟨rfl, .one⟩
  | .and x y, j + 1, S, h, hf, hw => by
    simp only [Sp.ht] at h
    obtain ⟨f1, f2⟩ := hf
    simp only [Sp.lv, Sp.ht, List.length_append] at f1 f2
    unfold fn_law_made
    rw [run_eq]
    simp only [sem_law_made, startD, Sp.enc]
    simp [t3_0, t3_1, t3_2]
    generalize hx : fn_law_made j _ _ = x1
    obtain ⟨_, S1, rfl, rfl, e1⟩ := Ok.g hx (made_ok x j S (by omega) ⟨by omega, by omega⟩ fun a ha => hw a (by simp [Sp.lv, ha]))
    obtain ⟨k1, d1, p1, q1⟩ := x.isIns
    simp [t3_2]
    generalize hy : fn_law_made j _ _ = x2
    obtain ⟨_, S2, rfl, rfl, e2⟩ := Ok.g hy (made_ok y j S1 (by omega) ⟨by omega, by omega⟩ fun a ha => hw a (by simp [Sp.lv, ha]))
    obtain ⟨k2, d2, p2, q2⟩ := y.isIns
    have ha := and_ok (S := S2) (x := x) (y := y) ⟨by simp only [Sp.lv, List.length_append]; omega, by simp only [Sp.ht]; omega⟩
    simp only [Sp.t, q1, q2] at ha ⊢
    simp [ha]
    exact (e1.tr e2).dead
  | .or x y, j + 1, S, h, hf, hw => by
    simp only [Sp.ht] at h
    obtain ⟨f1, f2⟩ := hf
    simp only [Sp.lv, Sp.ht, List.length_append] at f1 f2
    unfold fn_law_made
    rw [run_eq]
    simp only [sem_law_made, startD, Sp.enc]
    simp [t3_0, t3_1, t3_2]
    generalize hx : fn_law_made j _ _ = x1
    obtain ⟨_, S1, rfl, rfl, e1⟩ := Ok.g hx (made_ok x j S (by omega) ⟨by omega, by omega⟩ fun a ha => hw a (by simp [Sp.lv, ha]))
    obtain ⟨k1, d1, p1, q1⟩ := x.isIns
    simp [t3_2]
    generalize hy : fn_law_made j _ _ = x2
    obtain ⟨_, S2, rfl, rfl, e2⟩ := Ok.g hy (made_ok y j S1 (by omega) ⟨by omega, by omega⟩ fun a ha => hw a (by simp [Sp.lv, ha]))
    obtain ⟨k2, d2, p2, q2⟩ := y.isIns
    have ha := or_ok (S := S2) (x := x) (y := y) ⟨by simp only [Sp.lv, List.length_append]; omega, by simp only [Sp.ht]; omega⟩
    simp only [Sp.t, q1, q2] at ha ⊢
    simp [ha]
    exact (e1.tr e2).dead
  | .not x, j + 1, S, h, hf, hw => by
    simp only [Sp.ht] at h
    obtain ⟨f1, f2⟩ := hf
    simp only [Sp.lv, Sp.ht] at f1 f2
    unfold fn_law_made
    rw [run_eq]
    simp only [sem_law_made, startD, Sp.enc]
    simp [t2_0, t2_1]
    generalize hx : fn_law_made j _ _ = x1
    obtain ⟨_, S1, rfl, rfl, e1⟩ := Ok.g hx (made_ok x j S (by omega) ⟨by omega, by omega⟩ fun a ha => hw a (by simp [Sp.lv, ha]))
    obtain ⟨k1, d1, p1, q1⟩ := x.isIns
    have ha := not_ok (S := S1) (x := x) ⟨by simp only [Sp.lv]; omega, by simp only [Sp.ht]; omega⟩
    simp only [Sp.t, q1] at ha ⊢
    simp [ha]
    exact e1.dead
  | .sure x, j + 1, S, h, hf, hw => by
    simp only [Sp.ht] at h
    obtain ⟨f1, f2⟩ := hf
    simp only [Sp.lv, Sp.ht] at f1 f2
    unfold fn_law_made
    rw [run_eq]
    simp only [sem_law_made, startD, Sp.enc]
    simp [t2_0, t2_1]
    generalize hx : fn_law_made j _ _ = x1
    obtain ⟨_, S1, rfl, rfl, e1⟩ := Ok.g hx (made_ok x j S (by omega) ⟨by omega, by omega⟩ fun a ha => hw a (by simp [Sp.lv, ha]))
    obtain ⟨k1, d1, p1, q1⟩ := x.isIns
    have ha := sure_ok (S := S1) (x := x) ⟨by simp only [Sp.lv]; omega, by simp only [Sp.ht]; omega⟩
    simp only [Sp.t, q1] at ha ⊢
    simp [ha]
    exact e1.dead
end
end G
namespace G
open PySem L2
/-! ### columns -/
abbrev Col := Str × Str × Bool
def colD (b : Bool) (p k : Str) (f : Bool) : D := if b = true then .lst [.str p, .str k, .bl f] else .tup [.str p, .str k, .bl f]
def colT (c : Col) : D := colD false c.1 c.2.1 c.2.2
def Knd (k : Str) : Prop := k ∈ (["number", "text"] : List Str)
theorem kind_mem {d : D} (h : d ∈ [D.str "number", D.str "text"]) : ∃ k, Knd k ∧ d = .str k := by
  simp only [List.mem_cons, List.not_mem_nil, or_false] at h
  rcases h with rfl | rfl <;> exact ⟨_, by simp [Knd], rfl⟩
structure LayOk (L : List Col) : Prop where
  p : ∀ c ∈ L, Pth c.1
  k : ∀ c ∈ L, Knd c.2.1
  nd : (L.map (·.1)).Nodup
  h0 : 1 ≤ L.length
  h90 : L.length ≤ 90
  zz : ∀ c ∈ L, c.1 ≠ "further"
  sh : ∀ c ∈ L, c.1.length ≤ 20
section
variable {n a : Nat} {S : Store}
theorem Go.two {S1 : Store} (h : Go n S S1) : Fr [n, a] S S1 := h.fr.sub (by simp)
theorem Go.of2 {S1 : Store} (fr : Fr [n, a] S S1) (na : S.length ≤ a) (we : WellAt n S1) : Go n S S1 := ⟨fr.mono fun i hi hl => by
    simp only [List.mem_cons, List.not_mem_nil, or_false] at hi
    rcases hi with rfl | rfl
    · simp
    · omega, we⟩
theorem Go.fr0 {S1 S2 : Store} (g : Go n S S1) (f : Fr [] S1 S2) : Go n S S2 := by
  obtain ⟨x, y, z, e⟩ := g.we
  exact ⟨g.fr.tr (f.sub (by simp)), x, y, z, f.get e (by simp)⟩
end
end G
namespace G
open PySem L2
/-! ### drawn values -/
inductive Va : D → Str → Prop
  | n (i : Int) (h : i.natAbs ≤ 1000000000000000000000000000000) : Va (.int i) "number"
  | t (x : Str) (h : x.length ≤ 3) (h1 : txB x = true) : Va (.str x) "text"
theorem Va.val {v : D} {k : Str} (h : Va v k) : Val v k := by
  cases h with
  | n i h => exact .n i
  | t x h h1 => exact .t x (by omega) h1
def OneC (d : D) : Prop := ∃ c : Nat, d = .str ⟨#[c]⟩ ∧ c ∈ cs CH
theorem onesC : ∀ {ys : List D}, (∀ y ∈ ys, OneC y) → ∃ l : List Nat, stsO ys = some (l.map fun c => (⟨#[c]⟩ : Str)) ∧ l.length = ys.length ∧ ∀ c ∈ l, c ∈ cs CH
  | [], _ => ⟨[], rfl, rfl, fun c h => nomatch h⟩
  | y :: ys, h => by
    obtain ⟨c, rfl, hc⟩ := h y (by simp)
    obtain ⟨l, e, hl, hcs⟩ := onesC (ys := ys) fun z hz => h z (by simp [hz])
    refine ⟨c :: l, ?_, by simp [hl], fun d hd => ?_⟩
    · unfold stsO
      rw [e]
      rfl
    · rcases List.mem_cons.mp hd with rfl | hd
      · exact hc
      · exact hcs d hd
theorem join_onesC (l : List Nat) : (Txt.join "" (l.map fun c => (⟨#[c]⟩ : Str))).cps.toList = l := by
  rw [TL.join_eq]
  have h := TL.tl_join ("" : Str) (l.map fun c => (⟨#[c]⟩ : Str))
  have e : (TL.tl ("" : Str)) = [] := rfl
  rw [e] at h
  refine h.trans ?_
  clear h e
  induction l with
  | nil => rfl
  | cons c l ih =>
    cases l with
    | nil => rfl
    | cons d l =>
      show [c] ++ ([] ++ TL.joinL [] (List.map TL.tl (List.map (fun c => (⟨#[c]⟩ : Str)) (d :: l)))) = _
      rw [ih]
      rfl
theorem join_sum : ∀ l : List Nat, ((l.map fun c => (⟨#[c]⟩ : Str)).map fun b : Str => b.length).sum = l.length
  | [] => rfl
  | c :: l => by
    rw [List.map_cons, List.map_cons, List.sum_cons, join_sum l, List.length_cons]
    show 1 + _ = _
    omega
theorem join_ok {S : Store} {ys : List D} {bs : List Str} (h : stsO ys = some bs) (hl : (bs.map fun b : Str => b.length).sum ≤ 100000) : joinD (.str "") [.lst ys] S = .ok (.str (Txt.join "" bs)) S := by
  unfold joinD
  simp [h]
  rw [show (Str.ofString "").length = 0 from rfl]
  omega
theorem CH_in : (97 ∈ cs CH ∧ 98 ∈ cs CH) ∧ (32 ∈ cs CH ∧ 126 ∈ cs CH) ∧ (125 ∈ cs CH ∧ 65 ∈ cs CH) := by decide +kernel
section
variable {n : Nat} {S : Store}
theorem text_d (h : WellAt n S) : Ok (fn_law_text [.ref n] S) fun d S' => Go n S S' ∧ Va d "text" := by
  unfold fn_law_text
  rw [run_eq]
  simp only [sem_law_text, startD]
  simp
  generalize hx : fn_law_draw _ _ = x
  obtain ⟨_, S1, rfl, g1, r, rfl, hr⟩ := Ok.g hx (draw (many := 4) h)
  have sm : smR (r : Int) = true := by
    have : ∀ n : Nat, n < 4 → smR (n : Int) = true := by decide +kernel
    exact this _ (by omega)
  simp [sm, wipeD]
  generalize hc : compL _ _ _ _ _ _ _ _ = c
  obtain ⟨ys, S2, rfl, l2, q2, g2⟩ := Ok.g hc (compE (fun S' => Go n S S') OneC (fun _ _ => grd_none) (fun d hd => ⟨_, rfl, fun S' hS => by
    simp
    generalize hx : fn_law_pick _ _ = x
    obtain ⟨d, S3, rfl, g3, hd⟩ := Ok.g hx (pick [.str "a", .str "b", .str " ", .str "~", .str "}", .str "A"] hS.we)
    simp
    refine ⟨hS.tr g3, ?_⟩
    simp only [List.mem_cons, List.not_mem_nil, or_false] at hd
    rcases hd with rfl | rfl | rfl | rfl | rfl | rfl
    · exact ⟨97, rfl, CH_in.1.1⟩
    · exact ⟨98, rfl, CH_in.1.2⟩
    · exact ⟨32, rfl, CH_in.2.1.1⟩
    · exact ⟨126, rfl, CH_in.2.1.2⟩
    · exact ⟨125, rfl, CH_in.2.2.1⟩
    · exact ⟨65, rfl, CH_in.2.2.2⟩⟩) g1 (sz (by simp; omega)))
  obtain ⟨l, es, ll, hl⟩ := onesC q2
  have l3 : l.length ≤ 3 := by rw [ll, l2]; simp; omega
  have hj := join_ok (S := S2) es (by rw [join_sum]; omega)
  simp [hj]
  refine ⟨g2, .t _ ?_ ?_⟩
  · show (Txt.join "" _).cps.size ≤ 3
    rw [← Array.length_toList, join_onesC]
    omega
  · unfold txB
    show (Txt.join "" _).cps.toList.all _ = true
    rw [join_onesC]
    exact List.all_eq_true.mpr fun c hc => decide_eq_true (hl c hc)
theorem number_d (h : WellAt n S) : Ok (fn_law_number [.ref n] S) fun d S' => Go n S S' ∧ Va d "number" := by
  unfold fn_law_number
  rw [run_eq]
  simp only [sem_law_number, startD]
  simp
  generalize hx : fn_law_draw _ _ = x
  obtain ⟨_, S1, rfl, g1, r, rfl, hr⟩ := Ok.g hx (draw (many := 9) h)
  by_cases h0 : r = 0
  · simp [h0]
    generalize hx : fn_law_pick _ _ = x
    obtain ⟨d, S2, rfl, g2, hd⟩ := Ok.g hx (pick [.int 1, .int (-1)] g1.we)
    simp
    generalize hx : fn_law_draw _ _ = x
    obtain ⟨_, S3, rfl, g3, r3, rfl, hr3⟩ := Ok.g hx (draw (many := 3) g2.we)
    have gA := (g1.tr g2).tr g3
    simp only [List.mem_cons, List.not_mem_nil, or_false] at hd
    rcases hd with rfl | rfl
    · have s1 : sm64 1 = true := by decide
      simp [s1]
      exact ⟨gA, .n _ (by omega)⟩
    · have s1 : sm64 (-1) = true := by decide
      simp [s1]
      exact ⟨gA, .n _ (by omega)⟩
  · simp [h0]
    generalize hx : fn_law_draw _ _ = x
    obtain ⟨_, S2, rfl, g2, r2, rfl, hr2⟩ := Ok.g hx (draw (many := 7) g1.we)
    simp
    exact ⟨g1.tr g2, .n _ (by omega)⟩
theorem value_d {k : Str} (hk : Knd k) (h : WellAt n S) : Ok (fn_law_value [.ref n, .str k] S) fun d S' => Go n S S' ∧ Va d k := by
  unfold fn_law_value
  rw [run_eq]
  simp only [sem_law_value, startD]
  simp only [Knd, List.mem_cons, List.not_mem_nil, or_false] at hk
  rcases hk with rfl | rfl
  · simp
    generalize hx : fn_law_number _ _ = x
    obtain ⟨d, S1, rfl, g1, v⟩ := Ok.g hx (number_d h)
    simp
    exact ⟨g1, v⟩
  · simp
    generalize hx : fn_law_text _ _ = x
    obtain ⟨d, S1, rfl, g1, v⟩ := Ok.g hx (text_d h)
    simp
    exact ⟨g1, v⟩
end
end G
namespace G
open PySem L2
/-! ### drawn layouts, atoms, tests -/
def poolL : List Str := ["a", "b", "boss.a", "boss.unit.c", "1.a", "2.a", "1.boss.b", "3.x.y.z", "a1", "in1"]
def pathAt (t i : Nat) : Str := poolL.getD ((t + 3 * i) % 10) ""
def pchk (t : Nat) : Bool := decide ((pathAt t 0).length ≤ 900) && rp (Txt.split (pathAt t 0) ".") && PyData.strOk (pathAt t 0)
theorem pchk_ok : ∀ t < 10, pchk t = true := by decide +kernel
theorem path_pth (t i : Nat) : Pth (pathAt t i) := by
  have h := pchk_ok ((t + 3 * i) % 10) (by omega)
  have e : pathAt ((t + 3 * i) % 10) 0 = pathAt t i := by
    unfold pathAt
    congr 1
    omega
  unfold pchk at h
  rw [e] at h
  simp only [Bool.and_eq_true, decide_eq_true_eq] at h
  exact ⟨h.1.1, h.1.2, h.2⟩
theorem path_zz0 : ∀ t < 10, pathAt t 0 ≠ "further" := by decide +kernel
theorem path_zz (t i : Nat) : pathAt t i ≠ "further" := by
  have h := path_zz0 ((t + 3 * i) % 10) (by omega)
  have e : pathAt ((t + 3 * i) % 10) 0 = pathAt t i := by
    unfold pathAt
    congr 1
    omega
  rwa [e] at h
theorem path_nd : ∀ t < 10, ∀ j < 5, ((List.range j).map (pathAt t)).Nodup := by decide +kernel
theorem path_sh0 : ∀ t < 10, (pathAt t 0).length ≤ 20 := by decide +kernel
theorem path_sh (t i : Nat) : (pathAt t i).length ≤ 20 := by
  have h := path_sh0 ((t + 3 * i) % 10) (by omega)
  have e : pathAt ((t + 3 * i) % 10) 0 = pathAt t i := by
    unfold pathAt
    congr 1
    omega
  rwa [e] at h
def Lay (d : D) : Prop := ∃ L, d = .lst (L.map colT) ∧ LayOk L
inductive LyI (n a t l : Nat) (S : Store) (j : Nat) : Sl → Store → Prop
  | mk {L : List Col} {o6 o7 : Option D} {S' : Store} (fr : Fr [n, a] S S') (we : WellAt n S') (at_ : sg S' a = some (.lst (L.map colT))) (hp : L.map (·.1) = (List.range j).map (pathAt t)) (hk : ∀ c ∈ L, Knd c.2.1) :
    LyI n a t l S j [some (.ref n), some (.int 4), some (.lst (poolL.map D.str)), some (.int (t : Nat)), some (.ref a), some (.int (l : Nat)), o6, o7] S'
section
variable {n : Nat} {S : Store}
theorem layout_d (h : WellAt n S) : Ok (fn_law_layout [.ref n, .int 4] S) fun d S' => Go n S S' ∧ Lay d := by
  have hn : n < S.length := by
    obtain ⟨a, b, c, e⟩ := h
    exact sg_lt e
  unfold fn_law_layout
  rw [run_eq]
  simp only [sem_law_layout, startD]
  simp
  generalize hx : fn_law_draw _ _ = x
  obtain ⟨_, S1, rfl, g1, t, rfl, ht⟩ := Ok.g hx (draw (many := 10) h)
  simp
  generalize hx : fn_law_draw _ _ = x
  have w1 := g1.we.ext (S1 := S1 ++ [.lst []]) .one
  obtain ⟨_, S2, rfl, g2, l, rfl, hl⟩ := Ok.g hx (draw (many := 3) w1)
  simp
  generalize hx : fn_law_draw _ _ = x
  obtain ⟨_, S3, rfl, g3, m, rfl, hm⟩ := Ok.g hx (draw (many := 4) g2.we)
  have hle := g1.fr.le
  have sm : smR (1 + (m : Int)) = true := by
    have : ∀ n : Nat, n < 4 → smR (1 + (n : Int)) = true := by decide +kernel
    exact this _ (by omega)
  have at3 : sg S3 S1.length = some (.lst []) := (g2.tr g3).get sg_new (by omega)
  simp [sm]
  generalize hv : forL _ _ _ _ _ _ = v
  obtain ⟨ρ4, S4, rfl, I4⟩ := OkN.g hv (forI (LyI n S1.length t l S) (fun _ _ _ _ => grd_none)
    (fun j d hj ρ S' hI => by
      cases hI with
      | @mk L o6 o7 _ fr we at_ hp hk =>
      have hj' : j < (1 + (m : Int)).toNat := by
        have := (List.getElem?_eq_some_iff.mp hj).1
        simpa using this
      obtain rfl : d = .int (j : Nat) := by
        rw [List.getElem?_map, List.getElem?_range hj'] at hj
        exact (Option.some.inj hj).symm
      refine ⟨_, rfl, ?_⟩
      have fin : ∀ Sa Sb k f, Go n S' Sa → Sb = sp Sa S1.length (.lst ((L ++ [(pathAt t j, k, f)]).map colT)) → Knd k → ∀ o6 o7, LyI n S1.length t l S (j + 1) [some (.ref n), some (.int 4), some (.lst (poolL.map D.str)), some (.int (t : Nat)), some (.ref S1.length), some (.int (l : Nat)), o6, o7] Sb := fun Sa Sb k f ga eb hk' o6 o7 => by
        have ata := ga.get at_ (by omega)
        subst eb
        refine ⟨(fr.tr ga.two).tr (Fr.put (by simp)), ?_, sg_sp (sg_lt ata), ?_, fun c hc => ?_⟩
        · obtain ⟨x, y, z, e⟩ := ga.we
          exact ⟨x, y, z, (sg_ne (by omega)).trans e⟩
        · rw [List.map_append, hp, List.range_succ, List.map_append]
          rfl
        · rcases List.mem_append.mp hc with hc | hc
          · exact hk c hc
          · rw [List.mem_singleton.mp hc]
            exact hk'
      have hkk : ∃ k Sk, Knd k ∧ Go n S' Sk ∧ (if (l : Int) = 2 then fn_law_pick [.ref n, .lst [.str "number", .str "text"]] S' else ofO (atI [D.str "number", D.str "text"] (l : Int)) S') = .ok (.str k) Sk := by
        by_cases h2 : (l : Int) = 2
        · rw [if_pos h2]
          obtain ⟨d, Sk, e, g, hd⟩ := (pick [.str "number", .str "text"] we).ex
          obtain ⟨k, hk, rfl⟩ := kind_mem hd
          exact ⟨k, Sk, hk, g, e⟩
        · rw [if_neg h2]
          have : l = 0 ∨ l = 1 := by omega
          rcases this with rfl | rfl
          · exact ⟨"number", S', by simp [Knd], .rf we, rfl⟩
          · exact ⟨"text", S', by simp [Knd], .rf we, rfl⟩
      obtain ⟨k, Sk, hkn, gk, ek⟩ := hkk
      have ep : atI (poolL.map D.str) (((t : Int) + 3 * (j : Int)) % 10) = some (.str (pathAt t j)) := by
        rw [show ((t : Int) + 3 * (j : Int)) % 10 = (((t + 3 * j) % 10 : Nat) : Int) by omega]
        refine atI_nat ?_
        have hlt : (t + 3 * j) % 10 < poolL.length := by show _ < 10; omega
        unfold pathAt
        rw [List.getElem?_map, List.getElem?_eq_getElem hlt, List.getD_eq_getElem?_getD, List.getElem?_eq_getElem hlt]
        rfl
      have s3 : sm64 3 = true := by decide
      have l10 : Nat.log2 10 < 9000 := by decide +kernel
      simp
      rw [ek]
      have atk := gk.get at_ (by omega)
      simp [s3, l10, ep]
      generalize hx : fn_law_draw _ _ = x
      obtain ⟨_, Sd, rfl, gd, r, rfl, hr⟩ := Ok.g hx (draw (many := 3) gk.we)
      have atd := gd.get atk (by omega)
      have lL : L.length = j := by
        have := congrArg List.length hp
        simpa using this
      have hz : L.length < sizeLine := Nat.lt_of_lt_of_le (show L.length < 1000 by omega) (sz (n := 1000) (by omega))
      simp [atd, atk, hz]
      exact fin Sd _ k (decide (r = 0)) (gk.tr gd) (by simp [colT, colD]) hkn _ _) (.mk (L := []) (g1.two.tr ((Fr.ext .one).tr (g2.two.tr g3.two))) g3.we at3 rfl fun c hc => nomatch hc))
  cases I4 with
  | @mk L o6 o7 _ fr we at_ hp hk =>
  simp [at_]
  have lL : L.length = (1 + (m : Int)).toNat := by
    have := congrArg List.length hp
    simpa using this
  rw [List.length_map, List.length_range] at hp
  refine ⟨.of2 (fr.tr (Fr.put (by simp))) hle ?_, L, rfl, fun c hc => ?_, hk, ?_, by omega, by omega, fun c hc => ?_, fun c hc => ?_⟩
  · obtain ⟨x, y, z, e⟩ := we
    exact ⟨x, y, z, (sg_ne (by omega)).trans e⟩
  · have : c.1 ∈ L.map (·.1) := List.mem_map_of_mem hc
    rw [hp] at this
    obtain ⟨i, _, e⟩ := List.mem_map.mp this
    rw [← e]
    exact path_pth _ _
  · rw [hp]
    exact path_nd t (by omega) _ (by omega)
  · have : c.1 ∈ L.map (·.1) := List.mem_map_of_mem hc
    rw [hp] at this
    obtain ⟨i, _, e⟩ := List.mem_map.mp this
    rw [← e]
    exact path_zz _ _
  · have : c.1 ∈ L.map (·.1) := List.mem_map_of_mem hc
    rw [hp] at this
    obtain ⟨i, _, e⟩ := List.mem_map.mp this
    rw [← e]
    exact path_sh _ _
end
end G
namespace G
open PySem L2
/-! ### drawn tests -/
def Kin (L : List Col) (p k : Str) : Prop := ∃ f, (p, k, f) ∈ L
inductive At.ty (L : List Col) : At → Prop
  | cmp {p op v k} : Kin L p k → Va v k → ty L (.cmp p op v)
  | agn {p op q m k} : Kin L p k → Kin L q k → (k = "text" → m = 0) → ty L (.agn p op q m)
  | amg {p vs k} : Kin L p k → (∀ v ∈ vs, Va v k) → vs.length ≤ 3 → ty L (.amg p vs)
  | bgn {p t} : Kin L p "text" → t.length ≤ 3 → ty L (.bgn p t)
  | emp {p k} : Kin L p k → ty L (.emp p)
  | cst {w} : ty L (.cst w)
def AtE (L : List Col) (d : D) : Prop := ∃ a : At, a.wf ∧ a.ty L ∧ d = a.enc
theorem op_mem {d : D} (h : d ∈ [D.str "<", .str "<=", .str "==", .str "!=", .str ">", .str ">="]) : ∃ op, op ∈ opsL ∧ d = .str op := by
  simp only [List.mem_cons, List.not_mem_nil, or_false] at h
  rcases h with rfl | rfl | rfl | rfl | rfl | rfl <;> exact ⟨_, by simp [opsL], rfl⟩
section
variable {n : Nat} {S : Store}
theorem atom_d {L : List Col} (hL : LayOk L) (h : WellAt n S) : Ok (fn_law_atom [.ref n, .lst (L.map colT)] S) fun d S' => Go n S S' ∧ AtE L d := by
  unfold fn_law_atom
  rw [run_eq]
  simp only [sem_law_atom, startD]
  simp
  generalize hx : fn_law_pick _ _ = x
  have h90 := hL.h90
  obtain ⟨d1, S1, rfl, g1, hd1⟩ := Ok.g hx (pick (L.map colT) h (fun e => by
    have := hL.h0
    rw [List.map_eq_nil_iff] at e
    rw [e] at this
    cases this) (by rw [List.length_map]; omega))
  obtain ⟨⟨p, k, f⟩, hc, rfl⟩ := List.mem_map.mp hd1
  have hp : Pth p := hL.p _ hc
  have hk : Knd k := hL.k _ hc
  have hi : Kin L p k := ⟨f, hc⟩
  have c := comp_pure (it := ⟨L.map colT, none⟩) (p := ptN 9) (t := mAnd (mTest (mOp neD (mOp ixD (mVar 9) (mC (.int 0))) (mVar 2))) (mTest (mOp eqD (mOp ixD (mVar 9) (mC (.int 1))) (mVar 3)))) (e := mOp ixD (mVar 9) (mC (.int 0))) (ρ := [some (.ref n), some (.lst (L.map colT)), some (.str p), some (.str k), some (.bl f), none, none, none, none, none, none]) (S := S1) grd_none colT (fun c => .str c.1) (fun c => !decide (c.1 = p) && decide (c.2.1 = k)) L 0
    (fun c hc => by
      refine ⟨_, rfl, ?_, fun _ => ?_⟩
      · by_cases e : c.1 = p
        · simp [colT, colD, t3_0, e]
        · simp [colT, colD, t3_0, t3_1, e]
      · simp [colT, colD, t3_0]) (sz (by omega))
  obtain ⟨os, hos, ho⟩ : ∃ os : List Str, ((L.filter fun c => !decide (c.1 = p) && decide (c.2.1 = k)).map fun c => D.str c.1) = os.map D.str ∧ ∀ q ∈ os, Pth q ∧ q ≠ p ∧ Kin L q k := by
    refine ⟨(L.filter fun c => !decide (c.1 = p) && decide (c.2.1 = k)).map (·.1), by rw [List.map_map]; rfl, fun q hq => ?_⟩
    obtain ⟨c, hc, rfl⟩ := List.mem_map.mp hq
    have h1 := List.mem_filter.mp hc
    have h2 := Bool.and_eq_true_iff.mp h1.2
    refine ⟨hL.p _ h1.1, by simpa using h2.1, c.2.2, ?_⟩
    have e2 : c.2.1 = k := by simpa using h2.2
    rw [← e2]
    exact h1.1
  have lo : os.length ≤ 90 := by
    have := congrArg List.length hos
    rw [List.length_map, List.length_map] at this
    have := List.length_filter_le (fun c : Col => !decide (c.1 = p) && decide (c.2.1 = k)) L
    omega
  rw [hos] at c
  clear hos hd1
  have ec : colT (p, k, f) = .tup [.str p, .str k, .bl f] := rfl
  rw [ec]
  simp [wipeD, c]
  generalize hx : fn_law_draw _ _ = x
  obtain ⟨_, S2, rfl, g2, w, rfl, hw⟩ := Ok.g hx (draw (many := 10) g1.we)
  simp
  generalize hx : fn_law_pick _ _ = x
  obtain ⟨d3, S3, rfl, g3, hd3⟩ := Ok.g hx (pick [.str "<", .str "<=", .str "==", .str "!=", .str ">", .str ">="] g2.we)
  obtain ⟨op, hop, rfl⟩ := op_mem hd3
  have gA := (g1.tr g2).tr g3
  clear hd3 c ec
  simp
  by_cases cA : w < 3 ∨ (w = 3 ∧ os = [])
  · have eA : (if (w : Int) < 3 then Res.ok true S3 else if (w : Int) = 3 then Res.ok os.isEmpty S3 else Res.ok false S3) = Res.ok true S3 := by
      rcases cA with c | ⟨rfl, rfl⟩
      · rw [if_pos (by omega)]
      · rfl
    rw [eA]
    simp
    generalize hx : fn_law_value _ _ = x
    obtain ⟨v, S4, rfl, g4, hv⟩ := Ok.g hx (value_d hk g3.we)
    simp
    exact ⟨gA.tr g4, .cmp p op v, .cmp hp hop hv.val, .cmp hi hv, rfl⟩
  have eA : (if (w : Int) < 3 then Res.ok true S3 else if (w : Int) = 3 then Res.ok os.isEmpty S3 else Res.ok false S3) = Res.ok false S3 := by
    rw [if_neg (by omega)]
    by_cases c : (w : Int) = 3
    · rw [if_pos c]
      cases os with
      | nil => exact absurd (.inr ⟨by omega, rfl⟩) cA
      | cons a l => rfl
    · rw [if_neg c]
  rw [eA]
  simp
  by_cases cB : w < 6 ∧ os ≠ []
  · have e1 : (w : Int) < 6 := by omega
    have e2 : os.isEmpty = false := by
      cases os with
      | nil => exact absurd rfl cB.2
      | cons a l => rfl
    simp [e1, e2]
    have hmore : ∃ m S4, Go n S3 S4 ∧ (k = "text" → m = 0) ∧ (if k = "text" then Res.ok (D.int 0) S3 else (fn_law_draw [.ref n, .int 5] S3).bind (kOp [some (.ref n), some (.lst (L.map colT)), some (.str p), some (.str k), some (.bl f), some (.lst (os.map D.str)), some (.int (w : Nat)), some (.str op), none, none, none] subD (mC (.int 2)))) = Res.ok (D.int m) S4 := by
      by_cases e : k = "text"
      · rw [if_pos e]
        exact ⟨0, S3, .rf g3.we, fun _ => rfl, rfl⟩
      · rw [if_neg e]
        obtain ⟨_, S4, e4, g4, r, rfl, hr⟩ := (draw (many := 5) g3.we).ex
        rw [e4]
        exact ⟨_, S4, g4, fun h => absurd h e, by simp; rfl⟩
    obtain ⟨m, S4, g4, m0, em⟩ := hmore
    rw [em]
    simp
    generalize hx : fn_law_pick _ _ = x
    obtain ⟨d5, S5, rfl, g5, hd5⟩ := Ok.g hx (pick (os.map D.str) g4.we (by simpa using cB.2) (by rw [List.length_map]; omega))
    obtain ⟨q, hq, rfl⟩ := List.mem_map.mp hd5
    simp
    exact ⟨(gA.tr g4).tr g5, .agn p op q m, .agn hp hop (ho q hq).1 (ho q hq).2.1, .agn hi (ho q hq).2.2 m0, rfl⟩
  have eB : (if (w : Int) < 6 then Res.ok (!os.isEmpty) S3 else Res.ok false S3) = Res.ok false S3 := by
    by_cases c : (w : Int) < 6
    · rw [if_pos c]
      cases os with
      | nil => rfl
      | cons a l => exact absurd ⟨by omega, by simp⟩ cB
    · rw [if_neg c]
  rw [eB]
  simp
  by_cases c6 : w = 6
  · subst c6
    simp
    generalize hx : fn_law_draw _ _ = x
    obtain ⟨_, S4, rfl, g4, r, rfl, hr⟩ := Ok.g hx (draw (many := 3) g3.we)
    have sm : smR (1 + (r : Int)) = true := by
      have : ∀ n : Nat, n < 3 → smR (1 + (n : Int)) = true := by decide +kernel
      exact this _ (by omega)
    simp [sm, wipeD]
    generalize hc : compL _ _ _ _ _ _ _ _ = c
    obtain ⟨ys, S5, rfl, l5, q5, g5⟩ := Ok.g hc (compE (fun S' => Go n S S') (fun d => Va d k) (fun _ _ => grd_none) (fun d hd => ⟨_, rfl, fun S' hS => by
      simp
      generalize hx : fn_law_value _ _ = x
      obtain ⟨v, S6, rfl, g6, hv⟩ := Ok.g hx (value_d hk hS.we)
      simp
      exact ⟨hS.tr g6, hv⟩⟩) (gA.tr g4) (sz (by simp; omega)))
    rw [List.length_map, List.length_range] at l5
    simp
    exact ⟨g5, .amg p ys, .amg hp (fun e => by rw [e] at l5; simp at l5; omega) (by omega) (fun v hv => ⟨k, (q5 v hv).val⟩), .amg hi q5 (by omega), rfl⟩
  have c6' : ¬ (w : Int) = 6 := by omega
  simp [c6']
  by_cases c7 : w = 7 ∧ k = "text"
  · obtain ⟨rfl, rfl⟩ := c7
    simp
    generalize hx : fn_law_text _ _ = x
    obtain ⟨v, S4, rfl, g4, hv⟩ := Ok.g hx (text_d g3.we)
    simp
    cases hv with
    | t x h1 h2 => exact ⟨gA.tr g4, .bgn p x, .bgn hp (by omega) h2, .bgn hi h1, rfl⟩
  have e7 : (if (w : Int) = 7 then Res.ok (decide (k = "text")) S3 else Res.ok false S3) = Res.ok false S3 := by
    by_cases c : (w : Int) = 7
    · rw [if_pos c, decide_eq_false fun e => c7 ⟨by omega, e⟩]
    · rw [if_neg c]
  rw [e7]
  simp
  have fE : ∀ S', Go n S3 S' → Go n S S' ∧ AtE L (.tup [.str "empty", .str p]) := fun S' g => ⟨gA.tr g, .emp p, .emp hp, .emp hi, rfl⟩
  by_cases c9 : w = 9
  · subst c9
    simp
    generalize hx : fn_law_draw _ _ = x
    obtain ⟨_, S4, rfl, g4, r, rfl, hr⟩ := Ok.g hx (draw (many := 2) g3.we)
    by_cases hr0 : r = 0
    · simp [hr0]
      generalize hx : fn_law_pick _ _ = x
      obtain ⟨d5, S5, rfl, g5, hd5⟩ := Ok.g hx (pick [.str "always", .str "never", .str "unsure"] g4.we)
      simp
      refine ⟨(gA.tr g4).tr g5, ?_⟩
      simp only [List.mem_cons, List.not_mem_nil, or_false] at hd5
      rcases hd5 with rfl | rfl | rfl <;> exact ⟨.cst _, .cst (by simp), .cst, rfl⟩
    · simp [hr0]
      exact fE _ g4
  · have c9' : ¬ (w : Int) = 9 := by omega
    simp [c9']
    exact fE _ (.rf g3.we)
end
end G
namespace G
open PySem L2
def Sp.ty (L : List Col) (s : Sp) : Prop := ∀ a ∈ s.lv, a.ty L
def SpE (L : List Col) (h z : Nat) (x : D) : Prop := ∃ s : Sp, s.wf ∧ s.ty L ∧ s.ht ≤ h ∧ s.lv.length ≤ z ∧ x = s.enc
theorem AtE.sp {L : List Col} {h z : Nat} {x : D} (hx : AtE L x) (hz : 1 ≤ z) : SpE L h z x := by
  obtain ⟨a, hw, ht, rfl⟩ := hx
  exact ⟨.lf a, fun b hb => by rw [List.mem_singleton.mp hb]; exact hw, fun b hb => by rw [List.mem_singleton.mp hb]; exact ht, Nat.zero_le _, hz, rfl⟩
theorem SpE.and {L : List Col} {h z z' : Nat} {x y : D} (hx : SpE L h z x) (hy : SpE L h z' y) : SpE L (h + 1) (z + z') (.tup [.str "and", x, y]) := by
  obtain ⟨s, a1, a0, a2, a3, rfl⟩ := hx
  obtain ⟨t, b1, b0, b2, b3, rfl⟩ := hy
  exact ⟨.and s t, fun a ha => (List.mem_append.mp ha).elim (a1 a) (b1 a), fun a ha => (List.mem_append.mp ha).elim (a0 a) (b0 a), by simp only [Sp.ht]; omega, by simp only [Sp.lv, List.length_append]; omega, rfl⟩
theorem SpE.or {L : List Col} {h z z' : Nat} {x y : D} (hx : SpE L h z x) (hy : SpE L h z' y) : SpE L (h + 1) (z + z') (.tup [.str "or", x, y]) := by
  obtain ⟨s, a1, a0, a2, a3, rfl⟩ := hx
  obtain ⟨t, b1, b0, b2, b3, rfl⟩ := hy
  exact ⟨.or s t, fun a ha => (List.mem_append.mp ha).elim (a1 a) (b1 a), fun a ha => (List.mem_append.mp ha).elim (a0 a) (b0 a), by simp only [Sp.ht]; omega, by simp only [Sp.lv, List.length_append]; omega, rfl⟩
theorem SpE.not {L : List Col} {h z : Nat} {x : D} (hx : SpE L h z x) : SpE L (h + 1) z (.tup [.str "not", x]) := by
  obtain ⟨s, a1, a0, a2, a3, rfl⟩ := hx
  exact ⟨.not s, a1, a0, by simp only [Sp.ht]; omega, a3, rfl⟩
theorem SpE.sure {L : List Col} {h z : Nat} {x : D} (hx : SpE L h z x) : SpE L (h + 1) z (.tup [.str "sure", x]) := by
  obtain ⟨s, a1, a0, a2, a3, rfl⟩ := hx
  exact ⟨.sure s, a1, a0, by simp only [Sp.ht]; omega, a3, rfl⟩
theorem SpE.mono {L : List Col} {h z h' z' : Nat} {x : D} (hx : SpE L h z x) (h1 : h ≤ h') (h2 : z ≤ z') : SpE L h' z' x := by
  obtain ⟨s, a1, a0, a2, a3, rfl⟩ := hx
  exact ⟨s, a1, a0, by omega, by omega, rfl⟩
section
variable {n : Nat}
theorem spec_d {L : List Col} (hL : LayOk L) : ∀ (d j : Nat) (S : Store), d < j → WellAt n S → Ok (fn_law_spec j [.ref n, .lst (L.map colT), .int (d : Nat)] S) fun x S' => Go n S S' ∧ SpE L d (2 ^ d) x
  | d, 0, _, h, _ => absurd h (Nat.not_lt_zero _)
  | 0, j + 1, S, _, h => by
    unfold fn_law_spec
    rw [run_eq]
    simp only [sem_law_spec, startD]
    simp
    generalize hx : fn_law_atom _ _ = x
    obtain ⟨x, S1, rfl, g1, ha⟩ := Ok.g hx (atom_d hL h)
    simp
    exact ⟨g1, ha.sp (by omega)⟩
  | d + 1, j + 1, S, hj, h => by
    have e1 : ((d + 1 : Nat) : Int) - 1 = (d : Nat) := by omega
    have e0 : (0 : Int) < ((d + 1 : Nat) : Int) := by omega
    have p2 : 2 ^ (d + 1) = 2 ^ d + 2 ^ d := by rw [Nat.pow_succ]; omega
    have p1 : 1 ≤ 2 ^ d := Nat.one_le_two_pow
    unfold fn_law_spec
    rw [run_eq]
    simp only [sem_law_spec, startD]
    generalize hD : ((d + 1 : Nat) : Int) = D1 at e1 e0
    simp [e0]
    generalize hx : fn_law_draw _ _ = x
    obtain ⟨_, S1, rfl, g1, w, rfl, hw⟩ := Ok.g hx (draw (many := 8) h)
    simp
    by_cases c3 : (w : Int) < 3
    · simp [c3]
      generalize hx : fn_law_atom _ _ = x
      obtain ⟨x, S2, rfl, g2, ha⟩ := Ok.g hx (atom_d hL g1.we)
      simp
      exact ⟨g1.tr g2, ha.sp (by omega)⟩
    by_cases c5 : (w : Int) < 5
    · simp [c3, c5, e1]
      generalize hx : fn_law_spec j _ _ = x
      obtain ⟨x, S2, rfl, g2, hs⟩ := Ok.g hx (spec_d hL d j S1 (by omega) g1.we)
      simp [e1]
      generalize hx : fn_law_spec j _ _ = x
      obtain ⟨y, S3, rfl, g3, ht⟩ := Ok.g hx (spec_d hL d j S2 (by omega) g2.we)
      simp
      rw [p2]
      exact ⟨(g1.tr g2).tr g3, hs.and ht⟩
    by_cases c6 : (w : Int) = 5
    · simp [c3, c5, c6, e1]
      generalize hx : fn_law_spec j _ _ = x
      obtain ⟨x, S2, rfl, g2, hs⟩ := Ok.g hx (spec_d hL d j S1 (by omega) g1.we)
      simp [e1]
      generalize hx : fn_law_spec j _ _ = x
      obtain ⟨y, S3, rfl, g3, ht⟩ := Ok.g hx (spec_d hL d j S2 (by omega) g2.we)
      simp
      rw [p2]
      exact ⟨(g1.tr g2).tr g3, hs.or ht⟩
    have : w = 6 ∨ w = 7 := by omega
    rcases this with rfl | rfl
    · simp [t2_0, e1]
      generalize hx : fn_law_spec j _ _ = x
      obtain ⟨x, S2, rfl, g2, hs⟩ := Ok.g hx (spec_d hL d j S1 (by omega) g1.we)
      simp
      exact ⟨g1.tr g2, hs.not.mono (by omega) (by omega)⟩
    · simp [t2_1, e1]
      generalize hx : fn_law_spec j _ _ = x
      obtain ⟨x, S2, rfl, g2, hs⟩ := Ok.g hx (spec_d hL d j S1 (by omega) g1.we)
      simp
      exact ⟨g1.tr g2, hs.sure.mono (by omega) (by omega)⟩
end
end G
namespace G
open PySem L2
/-! ### tests are equal just if they have the same form -/
/-- the data of an atom -/
def At.dat : At → List D
  | .cmp p op v => [.str p, .str op, v]
  | .agn p op q m => [.str p, .str op, .str q, .int m]
  | .amg p vs => [.str p, .tup vs]
  | .bgn p t => [.str p, .str t]
  | .emp p => [.str p]
  | .cst _ => []
def At.knd : At → Str
  | .cmp _ _ _ => "compare"
  | .agn _ _ _ _ => "against"
  | .amg _ _ => "among"
  | .bgn _ _ => "begins"
  | .emp _ => "empty"
  | .cst w => w
theorem At.t_eq (a : At) : a.t = tst a.knd a.dat [] := by cases a <;> rfl
def Sp.knd : Sp → Str
  | .lf a => a.knd
  | .and _ _ => "and"
  | .or _ _ => "or"
  | .not _ => "not"
  | .sure _ => "sure"
def Sp.dat : Sp → List D
  | .lf a => a.dat
  | _ => []
def Sp.ps : Sp → List Sp
  | .lf _ => []
  | .and x y => [x, y]
  | .or x y => [x, y]
  | .not x => [x]
  | .sure x => [x]
theorem Sp.t_eq (s : Sp) : s.t = tst s.knd s.dat (s.ps.map Sp.t) := by
  cases s with
  | lf a => exact a.t_eq
  | _ => rfl
theorem txB_ok {x : Str} (h : txB x = true) : PyData.strOk x = true := by
  have hc : ∀ c ∈ cs CH, c < 0x110000 := by decide +kernel
  unfold PyData.strOk
  rw [← Array.all_toList]
  unfold txB at h
  rw [List.all_eq_true] at h ⊢
  intro c hcm
  have := of_decide_eq_true (h c hcm)
  exact decide_eq_true (hc c this)
theorem Val.pl {v : D} {k : Str} (h : Val v k) : Pl 0 v := by
  cases h with
  | n i => exact .int
  | t x h h1 => exact .str (txB_ok h1)
theorem op_ok {op : Str} (h : op ∈ opsL) : PyData.strOk op = true := by
  simp only [opsL, List.mem_cons, List.not_mem_nil, or_false] at h
  rcases h with rfl | rfl | rfl | rfl | rfl | rfl <;> decide +kernel
theorem At.wf.pl {a : At} (h : a.wf) : ∀ d ∈ a.dat, Pl 1 d := by
  cases h with
  | cmp hp ho hv =>
    intro d hd
    simp only [At.dat, List.mem_cons, List.not_mem_nil, or_false] at hd
    rcases hd with rfl | rfl | rfl
    · exact .str hp.so
    · exact .str (op_ok ho)
    · exact hv.pl.mono (by omega)
  | agn hp ho hq hn =>
    intro d hd
    simp only [At.dat, List.mem_cons, List.not_mem_nil, or_false] at hd
    rcases hd with rfl | rfl | rfl | rfl
    · exact .str hp.so
    · exact .str (op_ok ho)
    · exact .str hq.so
    · exact .int
  | amg hp h0 h8 hv =>
    intro d hd
    simp only [At.dat, List.mem_cons, List.not_mem_nil, or_false] at hd
    rcases hd with rfl | rfl
    · exact .str hp.so
    · exact .tup fun v hv' => (hv v hv').elim fun k h => h.pl
  | bgn hp h1 ht =>
    intro d hd
    simp only [At.dat, List.mem_cons, List.not_mem_nil, or_false] at hd
    rcases hd with rfl | rfl
    · exact .str hp.so
    · exact .str (txB_ok ht)
  | emp hp =>
    intro d hd
    simp only [At.dat, List.mem_cons, List.not_mem_nil, or_false] at hd
    rcases hd with rfl
    exact .str hp.so
  | cst hw => intro d hd; cases hd
theorem Sp.wf.pl {s : Sp} (h : s.wf) : Pl 2 (.tup s.dat) := by
  cases s with
  | lf a => exact .tup (h a (by simp [Sp.lv])).pl
  | _ => exact .tup fun d hd => by cases hd
theorem Sp.wf.ps {s : Sp} (h : s.wf) : ∀ x ∈ s.ps, x.wf := by
  cases s with
  | lf a => intro x hx; cases hx
  | and y z =>
    intro x hx
    simp only [Sp.ps, List.mem_cons, List.not_mem_nil, or_false] at hx
    rcases hx with rfl | rfl
    · exact fun a ha => h a (by simp [Sp.lv, ha])
    · exact fun a ha => h a (by simp [Sp.lv, ha])
  | or y z =>
    intro x hx
    simp only [Sp.ps, List.mem_cons, List.not_mem_nil, or_false] at hx
    rcases hx with rfl | rfl
    · exact fun a ha => h a (by simp [Sp.lv, ha])
    · exact fun a ha => h a (by simp [Sp.lv, ha])
  | not y =>
    intro x hx
    rw [Sp.ps, List.mem_singleton] at hx
    subst hx
    exact h
  | sure y =>
    intro x hx
    rw [Sp.ps, List.mem_singleton] at hx
    subst hx
    exact h
end G
namespace G
open PySem L2
/-! ### sorted_plain of texts -/
theorem lt_bS {x y : Str} : decide (x.cps.toList < y.cps.toList) = bS x y := by
  unfold bS
  rw [Bool.eq_iff_iff, decide_eq_true_iff, ltCps_iff]
theorem lt_iff {x y : Str} : x.cps < y.cps ↔ bS x y = true := by
  unfold bS
  rw [ltCps_iff]
  exact Iff.rfl
theorem le_bS {x y : Str} (h : y.cps ≤ x.cps) : bS x y = false := by
  cases e : bS x y with
  | false => rfl
  | true => exact absurd (lt_iff.mpr e) (Array.not_lt.mpr h)
theorem sm_nat {i : Nat} (h : i ≤ 100000) : smR (i : Int) = true := by
  unfold smR
  simp
  omega
section
variable {S : Store}
/-- the place of an item in a sorted list -/
structure Plc (x : Str) (r : List Str) (k : Nat) : Prop where
  le : k ≤ r.length
  hi : ∀ i (h : i < r.length), k ≤ i → bS x r[i] = true
  lo : ∀ h : 0 < k, bS x (r[k - 1]'(by omega)) = false
theorem plc_while {r : List Str} {x : Str} {a : Nat} {it : Option D} (hS : sg S a = some (.lst (r.map D.str))) (hr : r.length ≤ 10000) :
    OkN (whileF (mAnd (mTest (mOp gtD (mVar 3) (mC (.int 0)))) (mTest (mOp ltD (mVar 2) (mOp ixD (mVar 1) (mOp subD (mVar 3) (mC (.int 1))))))) (sAug 3 subD (mC (.int 1))) wFuel [it, some (.ref a), some (.str x), some (.int r.length)] S)
      fun ρ' S' => S' = S ∧ ∃ k : Nat, ρ' = [it, some (.ref a), some (.str x), some (.int k)] ∧ Plc x r k := by
  generalize hx : whileF _ _ _ _ _ = v
  obtain ⟨ρ1, S1, rfl, ⟨m', e1, k, e2, e3, e4, e5⟩, hc⟩ := OkN.g hx (whI (fun m ρ S' => S' = S ∧ ∃ k : Nat, m = k ∧ ρ = [it, some (.ref a), some (.str x), some (.int k)] ∧ k ≤ r.length ∧ ∀ i (h : i < r.length), k ≤ i → bS x r[i] = true)
    (fun m ρ S' ⟨e1, k, e2, e3, e4, e5⟩ => by
      subst e1
      subst e2
      subst e3
      by_cases h0 : 0 < m
      · have hm : m - 1 < r.length := by omega
        have ei : atI (r.map D.str) ((m : Int) - 1) = some (.str r[m - 1]) := by
          rw [show (m : Int) - 1 = ((m - 1 : Nat) : Int) by omega]
          exact atI_nat (by rw [List.getElem?_map, List.getElem?_eq_getElem hm]; rfl)
        refine ⟨bS x r[m - 1], ?_, fun hb => ?_⟩
        · have g0 : (0 : Int) < (m : Int) := by omega
          simp [hS, h0, g0, ei, lt_iff]
        · simp
          refine ⟨m - 1, by omega, by omega, by omega, fun i h hi => ?_⟩
          by_cases q : i = m - 1
          · subst q
            exact hb
          · exact e5 i h (by omega)
      · refine ⟨false, ?_, fun z => nomatch z⟩
        simp
        exact fun h => absurd h h0) wFuel r.length _ S (by show _ < 1000000; omega) ⟨rfl, r.length, rfl, rfl, Nat.le_refl _, fun i h hi => by omega⟩)
  subst e1
  subst e2
  simp
  refine ⟨m', e3, e4, e5, fun h => ?_⟩
  subst e3
  have hm : m' - 1 < r.length := by omega
  have ei : atI (r.map D.str) ((m' : Int) - 1) = some (.str r[m' - 1]) := by
    rw [show (m' : Int) - 1 = ((m' - 1 : Nat) : Int) by omega]
    exact atI_nat (by rw [List.getElem?_map, List.getElem?_eq_getElem hm]; rfl)
  have g0 : (0 : Int) < (m' : Int) := by omega
  simp [hS, h, g0, ei] at hc
  exact le_bS hc
theorem plc_pw {x : Str} {r : List Str} {k : Nat} (h : Plc x r k) (hr : r.Pairwise wS) : (r.take k ++ [x] ++ r.drop k).Pairwise wS := by
  obtain ⟨le, hi, lo⟩ := h
  have hd : ∀ y ∈ r.drop k, wS x y := fun y hy => by
    obtain ⟨i, hi', rfl⟩ := List.getElem_of_mem hy
    rw [List.getElem_drop]
    exact bS_asym (hi _ _ (by omega))
  have ht : ∀ y ∈ r.take k, wS y x := fun y hy => by
    obtain ⟨i, hi', rfl⟩ := List.getElem_of_mem hy
    rw [List.length_take] at hi'
    rw [List.getElem_take]
    have h0 : 0 < k := by omega
    have hl := lo h0
    by_cases q : i = k - 1
    · subst q
      exact hl
    · exact wS_trans (List.pairwise_iff_getElem.mp hr i (k - 1) (by omega) (by omega) (by omega)) hl
  have hrt : (r.take k ++ r.drop k).Pairwise wS := by rw [List.take_append_drop]; exact hr
  rw [List.pairwise_append] at hrt
  rw [List.append_assoc, List.pairwise_append]
  refine ⟨hrt.1, ?_, fun y hy z hz => ?_⟩
  · rw [List.singleton_append, List.pairwise_cons]
    exact ⟨hd, hrt.2.1⟩
  · rcases List.mem_append.mp hz with hz | hz
    · rw [List.mem_singleton.mp hz]
      exact ht y hy
    · exact hrt.2.2 y hy z hz
theorem plc_perm {x : Str} {r : List Str} {k : Nat} : (r.take k ++ [x] ++ r.drop k).Perm (r ++ [x]) := by
  have h1 : (r.take k ++ [x] ++ r.drop k).Perm (r.take k ++ r.drop k ++ [x]) := by
    rw [List.append_assoc, List.append_assoc]
    exact List.Perm.append_left _ List.perm_append_comm
  rwa [List.take_append_drop] at h1
inductive SpI (l : List Str) (a : Nat) (S : Store) (j : Nat) : Sl → Store → Prop
  | mk {r : List Str} {o2 o3 : Option D} {S' : Store} (fr : Fr [a] S S') (at_ : sg S' a = some (.lst (r.map D.str))) (p : r.Perm (l.take j)) (w : r.Pairwise wS) : SpI l a S j [some (.lst (l.map D.str)), some (.ref a), o2, o3] S'
theorem sorted_ok {l : List Str} (hl : l.length ≤ 10000) : Ok (fn_sorted_plain [.lst (l.map D.str)] S) fun d S' => Fr [] S S' ∧ ∃ a, d = .ref a ∧ sg S' a = some (.lst ((srtS l).map D.str)) := by
  unfold fn_sorted_plain
  rw [run_eq]
  simp only [sem_sorted_plain, startD]
  simp
  generalize hv : forL _ _ _ _ _ _ = v
  obtain ⟨ρ4, S4, rfl, I4⟩ := OkN.g hv (forI (SpI l S.length S) (fun _ _ _ _ => grd_none)
    (fun j d hj ρ S' hI => by
      cases hI with
      | @mk r o2 o3 _ fr at_ p w =>
      have hjl : j < l.length := by
        have := (List.getElem?_eq_some_iff.mp hj).1
        simpa using this
      obtain rfl : d = .str l[j] := by
        rw [List.getElem?_map, List.getElem?_eq_getElem hjl] at hj
        exact (Option.some.inj hj).symm
      have hrl : r.length = j := by rw [p.length_eq, List.length_take]; omega
      refine ⟨_, rfl, ?_⟩
      simp [at_]
      generalize hw : whileF _ _ _ _ _ = w'
      obtain ⟨ρ5, S5, rfl, rfl, k, rfl, pl⟩ := OkN.g hw (plc_while (x := l[j]) (it := some (.lst (l.map D.str))) at_ (by omega))
      have hk : smR (k : Int) = true := sm_nat (by have := pl.le; omega)
      have hz : r.length < sizeLine := Nat.lt_of_lt_of_le (show r.length < 20000 by omega) (by rw [sizeLine_eq]; omega)
      simp [at_, hk, hz]
      rw [show (List.map D.str r).take k ++ D.str l[j] :: (List.map D.str r).drop k = (r.take k ++ [l[j]] ++ r.drop k).map D.str by simp]
      refine .mk (fr.tr (Fr.put (by simp))) (sg_sp (sg_lt at_)) ?_ (plc_pw pl w)
      rw [List.take_succ, List.getElem?_eq_getElem hjl]
      exact plc_perm.trans (p.append_right _)) (.mk (r := []) (Fr.ext .one) sg_new (by simp) .nil))
  cases I4 with
  | @mk r o2 o3 _ fr at_ p w =>
  rw [List.length_map, List.take_length] at p
  simp
  refine ⟨fr.mono fun i hi hlt => ?_, ?_⟩
  · rw [List.mem_singleton] at hi
    omega
  · rw [← srtS_eq p w]
    exact at_
end
/-! ### the paths of a test -/
def At.pth : At → List Str
  | .cmp p _ _ => [p]
  | .agn p _ q _ => [p, q]
  | .amg p _ => [p]
  | .bgn p _ => [p]
  | .emp p => [p]
  | .cst _ => []
def plA (l : List At) : List Str := (l.map At.pth).flatten
def Sp.pl (s : Sp) : List Str := plA s.lv
/-- ascending, each once, just these -/
structure Asc (P : List Str) (L : List Str) : Prop where
  pw : L.Pairwise wS
  nd : L.Nodup
  mem : ∀ x, x ∈ L ↔ x ∈ P
theorem Asc.uniq {P L M : List Str} (h : Asc P L) (h' : Asc P M) : L = M := by
  have p : L.Perm M := (List.perm_ext_iff_of_nodup h.nd h'.nd).mpr fun x => (h.mem x).trans (h'.mem x).symm
  exact List.Perm.eq_of_pairwise (fun x y _ _ h1 h2 => bS_tot h2 h1) h.pw h'.pw p
theorem asc_srt {P F : List Str} (hn : F.Nodup) (hm : ∀ x, x ∈ F ↔ x ∈ P) : Asc P (srtS F) :=
  ⟨srtS_pw F, (srtS_perm F).nodup_iff.mpr hn, fun x => ((srtS_perm F).mem_iff).trans (hm x)⟩
def tS (F : List Str) : List (Key × D) := F.map fun x : Str => (.inr x, .bl true)
theorem tS_any {F : List Str} {x : Str} : ((tS F).any fun kv => decide (kv.1 = .inr x)) = decide (x ∈ F) := by
  unfold tS
  rw [Bool.eq_iff_iff, List.any_map, List.any_eq_true, decide_eq_true_iff]
  constructor
  · rintro ⟨y, hy, h⟩
    have h : decide ((Sum.inr y : Key) = .inr x) = true := h
    have h := of_decide_eq_true h
    cases h
    exact hy
  · intro h
    exact ⟨x, h, decide_eq_true rfl⟩
theorem tS_put {F : List Str} {x : Str} : putKD (tS F) (.inr x) (.bl true) = tS (if x ∈ F then F else F ++ [x]) := by
  unfold putKD
  rw [tS_any]
  by_cases h : x ∈ F
  · rw [if_pos (decide_eq_true h), if_pos h]
    have : (fun kv : Key × D => if kv.1 = .inr x then (kv.1, D.bl true) else kv) ∘ (fun y : Str => ((.inr y : Key), D.bl true)) = fun y => (.inr y, .bl true) := by
      funext y
      simp only [Function.comp_apply]
      split <;> rfl
    unfold tS
    rw [List.map_map, this]
  · rw [if_neg (by simpa using h), if_neg h]
    unfold tS
    rw [List.map_append]
    rfl
section
variable {S : Store}
theorem tdata {k d p : D} : fn_Test_data [.ins "Test" [("_kind", k), ("_data", d), ("_parts", p)]] S = .ok d S := by
  unfold fn_Test_data
  rw [run_eq]
  simp only [sem_Test_data, startD]
  simp
theorem tkind {k d p : D} : fn_Test_kind [.ins "Test" [("_kind", k), ("_data", d), ("_parts", p)]] S = .ok k S := by
  unfold fn_Test_kind
  rw [run_eq]
  simp only [sem_Test_kind, startD]
  simp
theorem tparts {k d : D} {p : List D} (hz : p.length ≤ 1000) : fn_Test_parts [.ins "Test" [("_kind", k), ("_data", d), ("_parts", .tup p)]] S = .ok (.lst p) S := by
  have z : p.length ≤ sizeLine := Nat.le_trans hz (sz (n := 1000) (by omega))
  unfold fn_Test_parts
  rw [run_eq]
  simp only [sem_Test_parts, startD]
  simp [z]
theorem paths_of_ok {a : At} (ha : a.wf) : fn_paths_of [a.t] S = .ok (.lst (a.pth.map D.str)) S := by
  cases a with
  | cst w =>
    unfold fn_paths_of
    rw [run_eq]
    simp only [sem_paths_of, startD, At.t]
    have h : w ≠ "against" := by
      cases ha with
      | cst hw =>
        rintro rfl
        exact absurd hw (by decide +kernel)
    simp [tdata, tkind, h, At.pth]
  | _ =>
    unfold fn_paths_of
    rw [run_eq]
    simp only [sem_paths_of, startD, At.t]
    simp [tdata, tkind, t4_0, t4_1, t4_2, t3_0, t2_0, t1_0, At.pth]
theorem plA_take {l : List At} {j : Nat} (h : j < l.length) : plA (l.take (j + 1)) = plA (l.take j) ++ l[j].pth := by
  unfold plA
  rw [List.take_succ, List.getElem?_eq_getElem h, List.map_append, List.flatten_append]
  simp
theorem pth_len (a : At) : a.pth.length ≤ 2 := by cases a <;> simp [At.pth]
theorem plA_len : ∀ l : List At, (plA l).length ≤ 2 * l.length
  | [] => by simp [plA]
  | a :: l => by
    have := plA_len l
    have := pth_len a
    unfold plA at *
    simp only [List.map_cons, List.flatten_cons, List.length_append, List.length_cons]
    omega
inductive PaI (a : Nat) (o : Option D) (S : Store) (P : List Str) : Sl → Store → Prop
  | mk {F : List Str} {o2 o3 : Option D} {S' : Store} (fr : Fr [a] S S') (at_ : sg S' a = some (.dct (tS F))) (nd : F.Nodup) (mem : ∀ x, x ∈ F ↔ x ∈ P) (ln : F.length ≤ P.length) : PaI a o S P [o, some (.ref a), o2, o3] S'
def PaO (l : List At) (a : Nat) (o : Option D) (S : Store) (j : Nat) : Sl → Store → Prop := PaI a o S (plA (l.take j))
def PaN (P pth : List Str) (a : Nat) (o : Option D) (S : Store) (j : Nat) : Sl → Store → Prop := PaI a o S (P ++ pth.take j)
theorem paths_ok {s : Sp} (hw : s.wf) (hh : s.ht < 30) (hz : s.lv.length ≤ 1000) : Ok (fn_Test_paths [s.t] S) fun d S' => Fr [] S S' ∧ ∃ a L, d = .ref a ∧ sg S' a = some (.lst (L.map D.str)) ∧ Asc s.pl L := by
  have ha := atoms_ok (S := S ++ [.dct []]) s 30 hh hz
  unfold fn_Test_paths
  rw [run_eq]
  simp only [sem_Test_paths, startD]
  rw [s.t_eq] at ha ⊢
  simp [ha]
  generalize hv : forL _ _ _ _ _ _ = v
  obtain ⟨ρ4, S4, rfl, I4⟩ := OkN.g hv (forI (PaO s.lv S.length (some (tst s.knd s.dat (s.ps.map Sp.t))) S) (fun _ _ _ _ => grd_none)
    (fun j d hj ρ S' hI => by
      have hI : PaI _ _ _ _ _ _ := hI
      cases hI with
      | @mk F o2 o3 _ fr at_ nd mem ln =>
      have hjl : j < s.lv.length := by
        have := (List.getElem?_eq_some_iff.mp hj).1
        simpa using this
      obtain rfl : d = s.lv[j].t := by
        rw [List.getElem?_map, List.getElem?_eq_getElem hjl] at hj
        exact (Option.some.inj hj).symm
      have hwj := hw s.lv[j] (List.getElem_mem hjl)
      refine ⟨_, rfl, ?_⟩
      simp [paths_of_ok hwj]
      generalize hv : forL _ _ _ _ _ _ = v
      obtain ⟨ρ5, S5, rfl, I5⟩ := OkN.g hv (forI (PaN (plA (s.lv.take j)) s.lv[j].pth S.length (some (tst s.knd s.dat (s.ps.map Sp.t))) S) (fun _ _ _ _ => grd_none)
        (fun i d hi ρ S' hI => by
          have hI : PaI _ _ _ _ _ _ := hI
          cases hI with
          | @mk F o2 o3 _ fr at_ nd mem ln =>
          have hil : i < s.lv[j].pth.length := by
            have := (List.getElem?_eq_some_iff.mp hi).1
            simpa using this
          obtain rfl : d = .str s.lv[j].pth[i] := by
            rw [List.getElem?_map, List.getElem?_eq_getElem hil] at hi
            exact (Option.some.inj hi).symm
          have hlF : F.length < sizeLine := by
            have h1 := plA_len (s.lv.take j)
            have h2 := pth_len s.lv[j]
            rw [List.length_take] at h1
            rw [List.length_append, List.length_take] at ln
            exact Nat.lt_of_lt_of_le (show F.length < 20000 by omega) (by rw [sizeLine_eq]; omega)
          refine ⟨_, rfl, ?_⟩
          simp [putA_dct at_ (show keyO (.str s.lv[j].pth[i]) = some (.inr s.lv[j].pth[i]) from rfl) (by unfold tS; rw [List.length_map]; exact hlF), tS_put]
          refine PaI.mk (fr.tr (Fr.put (by simp))) (sg_sp (sg_lt at_)) ?_ (fun x => ?_) ?_
          · split
            · exact nd
            · rename_i h
              rw [List.nodup_append]
              refine ⟨nd, by simp, fun a ha b hb => ?_⟩
              rw [List.mem_singleton] at hb
              subst hb
              exact fun e => h (e ▸ ha)
          · rw [List.take_succ, List.getElem?_eq_getElem hil]
            split
            · rename_i h
              have hm := (mem _).mp h
              simp only [List.mem_append, Option.toList_some, List.mem_singleton] at hm ⊢
              rw [mem x, List.mem_append]
              constructor
              · exact fun h => h.elim .inl fun h => .inr (.inl h)
              · rintro (h | h | rfl)
                · exact .inl h
                · exact .inr h
                · exact hm
            · simp only [List.mem_append, Option.toList_some, List.mem_singleton, mem x]
              exact ⟨fun h => h.elim (fun h => h.elim .inl fun h => .inr (.inl h)) fun h => .inr (.inr h), fun h => h.elim (fun h => .inl (.inl h)) fun h => h.elim (fun h => .inl (.inr h)) .inr⟩
          · rw [List.take_succ, List.getElem?_eq_getElem hil]
            have hl2 : ((s.lv[j].pth.take i ++ (some s.lv[j].pth[i]).toList).length) = (s.lv[j].pth.take i).length + 1 := by rw [List.length_append]; rfl
            rw [List.length_append] at ln ⊢
            rw [hl2]
            split
            · omega
            · rw [List.length_append, List.length_singleton]
              omega) (PaI.mk fr at_ nd (fun x => by simpa using mem x) (by simpa using ln)))
      have I5 : PaI _ _ _ _ _ _ := I5
      rw [List.length_map, List.take_length, ← plA_take hjl] at I5
      simp
      exact I5) (PaI.mk (F := []) (Fr.ext .one) sg_new .nil (fun x => by simp [plA]) (by simp)))
  have I4 : PaI _ _ _ _ _ _ := I4
  rw [List.length_map, List.take_length] at I4
  cases I4 with
  | @mk F o2 o3 _ fr at_ nd mem ln =>
  have ek : (tS F).map (fun kv => keyD kv.1) = F.map D.str := by
    unfold tS
    rw [List.map_map]
    rfl
  simp [at_, ek]
  generalize hx : fn_sorted_plain _ _ = x
  obtain ⟨d, S5, rfl, f5, a, rfl, at5⟩ := Ok.g hx (sorted_ok (S := S4) (l := F) (by have := plA_len s.lv; omega))
  simp
  refine ⟨Fr.tr (fr.mono fun i hi hlt => ?_) f5, _, at5, asc_srt nd mem⟩
  rw [List.mem_singleton] at hi
  omega
end
end G
namespace G
open PySem L2
/-! ### truths of tests at rows -/
inductive SK : D → D → Prop
  | i {i j : Int} : SK (.int i) (.int j)
  | s {a b : Str} : SK (.str a) (.str b)
theorem Val.sk {x y : D} {k : Str} (h : Val x k) (h' : Val y k) : SK x y := by
  cases h with
  | n i => cases h' with | n j => exact .i
  | t a h1 h2 => cases h' with | t b h3 h4 => exact .s
def ltV (x y : D) : Bool := match x, y with
  | .int i, .int j => decide (i < j)
  | .str a, .str b => bS a b
  | _, _ => false
def eqVd (x y : D) : Bool := match x, y with
  | .int i, .int j => decide (i = j)
  | .str a, .str b => decide (a = b)
  | _, _ => false
def cmpB (op : Str) (x y : D) : Bool :=
  if op = "<" then ltV x y else if op = ">=" then !ltV x y else if op = "<=" then !ltV y x else if op = ">" then ltV y x else if op = "==" then eqVd x y else !eqVd x y
section
variable {S : Store}
theorem lt_ok {x y : D} (h : SK x y) : ltD x y S = .ok (.bl (ltV x y)) S := by
  cases h with
  | i => rfl
  | s =>
    unfold ltD ltV
    dsimp only
    rw [lt_bS]
theorem le_ok {x y : D} (h : SK x y) : leD x y S = .ok (.bl (!ltV y x)) S := by
  cases h with
  | i =>
    rename_i i j
    unfold leD ltV
    dsimp only
    congr 2
    rw [Bool.eq_iff_iff]
    simp
  | s =>
    unfold leD ltV
    dsimp only
    rw [lt_bS]
theorem eqs_ok {x y : D} (h : SK x y) : eqB S x y = some (eqVd x y) := by
  cases h with
  | i =>
    unfold eqB eqVd
    simp [scV, scal]
  | s =>
    unfold eqB eqVd
    simp [scV, scal]
theorem compared_ok {x y : D} {op : Str} (h : SK x y) (ho : op ∈ opsL) : fn_compared [x, .str op, y] S = .ok (.bl (cmpB op x y)) S := by
  have h1 := lt_ok (S := S) h
  have h2 := le_ok (S := S) h
  have h3 := eqs_ok (S := S) h
  have hin : ∀ a b : Str, inD (.str op) (.tup [.str a, .str b]) S = .ok (.bl (decide (op = a) || decide (op = b))) S := fun a b => by
    unfold inD inB
    simp [scV, scVs, inV, eqV, ofB]
    rw [show (a == op) = decide (op = a) by rw [Bool.eq_iff_iff, beq_iff_eq, decide_eq_true_iff]; exact eq_comm, show (b == op) = decide (op = b) by rw [Bool.eq_iff_iff, beq_iff_eq, decide_eq_true_iff]; exact eq_comm]
  simp only [opsL, List.mem_cons, List.not_mem_nil, or_false] at ho
  unfold fn_compared
  rw [run_eq]
  simp only [sem_compared, startD]
  rcases ho with rfl | rfl | rfl | rfl | rfl | rfl <;> simp [h1, h2, h3, hin, cmpB]
end
def swB (x : D) (t : Str) : Bool := match x with
  | .str a => Txt.startswith a t
  | _ => false
def plV (x : D) (m : Int) : D := match x with
  | .int j => .int (j + m)
  | d => d
def At.tr (rw : Str → D) : At → Option Bool
  | .cst w => if w = "always" then some true else if w = "never" then some false else none
  | .emp p => some (isNb (rw p))
  | .cmp p op v => if isNb (rw p) = true then none else some (cmpB op (rw p) v)
  | .amg p vs => if isNb (rw p) = true then none else some (vs.any fun v => eqVd v (rw p))
  | .bgn p t => if isNb (rw p) = true then none else some (swB (rw p) t)
  | .agn p op q m => if isNb (rw p) = true then none else if isNb (rw q) = true then none else some (cmpB op (rw p) (plV (rw q) m))
def Plc1 (rw : Str → D) (p k : Str) : Prop := rw p = .non ∨ Val (rw p) k
inductive At.ok (rw : Str → D) : At → Prop
  | cmp {p op v k} : op ∈ opsL → Val v k → Plc1 rw p k → ok rw (.cmp p op v)
  | agn {p op q : Str} {m : Int} {k : Str} : op ∈ opsL → (k = ("text" : Str) → m = 0) → Plc1 rw p k → Plc1 rw q k → ok rw (.agn p op q m)
  | amg {p vs k} : (∀ v ∈ vs, Val v k) → Plc1 rw p k → ok rw (.amg p vs)
  | bgn {p t} : Plc1 rw p "text" → ok rw (.bgn p t)
  | emp {p} : ok rw (.emp p)
  | cst {w} : w ∈ (["always", "never", "unsure"] : List Str) → ok rw (.cst w)
def oD (o : Option Bool) : D := match o with
  | some b => .bl b
  | none => .non
theorem isNb_non : isNb D.non = true := rfl
theorem isNb_str {x : Str} : isNb (D.str x) = false := rfl
theorem Val.nn {v : D} {k : Str} (h : Val v k) : isNb v = false := by cases h <;> rfl
theorem in_vals {x : D} {k : Str} {S : Store} (hx : Val x k) : ∀ {vs : List D}, (∀ v ∈ vs, Val v k) → ∃ u ws, scV x = some u ∧ scVs vs = some ws ∧ inV u ws = vs.any fun v => eqVd v x
  | [], _ => by
    cases hx with
    | n i => exact ⟨_, [], rfl, rfl, rfl⟩
    | t a _ _ => exact ⟨_, [], rfl, rfl, rfl⟩
  | v :: vs, h => by
    obtain ⟨u, ws, h1, h2, h3⟩ := in_vals (S := S) hx (vs := vs) fun y hy => h y (by simp [hy])
    have hv := h v (by simp)
    obtain ⟨y, hy, he⟩ : ∃ y, scV v = some y ∧ eqV y u = eqVd v x := by
      cases hx with
      | n i =>
        cases h1
        cases hv with | n j => exact ⟨_, rfl, by simp only [eqV, eqVd]; rw [Bool.eq_iff_iff, beq_iff_eq, decide_eq_true_iff]⟩
      | t a _ _ =>
        cases h1
        cases hv with | t b _ _ => exact ⟨_, rfl, by simp only [eqV, eqVd]; rw [Bool.eq_iff_iff, beq_iff_eq, decide_eq_true_iff]⟩
    refine ⟨u, y :: ws, h1, ?_, ?_⟩
    · unfold scVs
      rw [hy, h2]
    · unfold inV at h3 ⊢
      rw [List.any_cons, List.any_cons, he, h3]
section
variable {S : Store} {row : D} {rw : Str → D}
theorem atom_truth_ok {a : At} (h : a.ok rw) (hix : ∀ p ∈ a.pth, ixA row (.str p) S = .ok (rw p) S) : fn_atom_truth [.str a.knd, .tup a.dat, row] S = .ok (oD (a.tr rw)) S := by
  have lk : ∀ w ∈ (["compare", "against", "among", "begins", "empty"] : List Str), (c_CONSTANTS.lookup w).isSome = false := by decide +kernel
  cases h with
  | cst hw =>
    simp only [List.mem_cons, List.not_mem_nil, or_false] at hw
    unfold fn_atom_truth
    rw [run_eq]
    simp only [sem_atom_truth, startD, At.knd, At.dat]
    rcases hw with rfl | rfl | rfl
    · have : c_CONSTANTS.lookup ("always" : Str) = some (.bl true) := by rfl
      simp [this, At.tr, oD]
    · have : c_CONSTANTS.lookup ("never" : Str) = some (.bl false) := by rfl
      simp [this, At.tr, oD]
    · have : c_CONSTANTS.lookup ("unsure" : Str) = some .non := by rfl
      simp [this, At.tr, oD]
  | @emp p =>
    have h1 := hix p (by simp [At.pth])
    rw [v_ixA] at h1
    unfold fn_atom_truth
    rw [run_eq]
    simp only [sem_atom_truth, startD, At.knd, At.dat]
    simp [lk ("empty" : Str) (by simp), t1_0, h1, At.tr, oD]
  | @cmp p op v k ho hv hp =>
    have h1 := hix p (by simp [At.pth])
    rw [v_ixA] at h1
    unfold fn_atom_truth
    rw [run_eq]
    simp only [sem_atom_truth, startD, At.knd, At.dat]
    rcases hp with hp | hp
    · rw [hp] at h1
      simp [lk ("compare" : Str) (by simp), t3_0, t3_1, t3_2, h1, At.tr, oD, hp, isNb_non]
    · have := compared_ok (S := S) (hp.sk hv) ho
      simp [lk ("compare" : Str) (by simp), t3_0, t3_1, t3_2, h1, At.tr, oD, hp.nn, this]
  | @amg p vs k hv hp =>
    have h1 := hix p (by simp [At.pth])
    rw [v_ixA] at h1
    unfold fn_atom_truth
    rw [run_eq]
    simp only [sem_atom_truth, startD, At.knd, At.dat]
    rcases hp with hp | hp
    · rw [hp] at h1
      simp [lk ("among" : Str) (by simp), t2_0, t2_1, h1, At.tr, oD, hp, isNb_non]
    · obtain ⟨u, ws, q1, q2, q3⟩ := in_vals (S := S) hp hv
      have hin : inD (rw p) (.tup vs) S = .ok (.bl (vs.any fun v => eqVd v (rw p))) S := by
        unfold inD inB
        dsimp only
        rw [q1, q2, ← q3]
        rfl
      simp [lk ("among" : Str) (by simp), t2_0, t2_1, h1, At.tr, oD, hp.nn, hin]
  | @bgn p t hp =>
    have h1 := hix p (by simp [At.pth])
    rw [v_ixA] at h1
    unfold fn_atom_truth
    rw [run_eq]
    simp only [sem_atom_truth, startD, At.knd, At.dat]
    rcases hp with hp | hp
    · rw [hp] at h1
      simp [lk ("begins" : Str) (by simp), t2_0, t2_1, h1, At.tr, oD, hp, isNb_non]
    · generalize hv : rw p = v at *
      cases hp with
      | t x hx1 hx2 =>
      simp [lk ("begins" : Str) (by simp), t2_0, t2_1, h1, At.tr, oD, hv, isNb_str, swB]
  | @agn p op q m k ho hm hp hq =>
    have h1 := hix p (by simp [At.pth])
    rw [v_ixA] at h1
    have h2 := hix q (by simp [At.pth])
    rw [v_ixA] at h2
    unfold fn_atom_truth
    rw [run_eq]
    simp only [sem_atom_truth, startD, At.knd, At.dat]
    rcases hp with hp | hp
    · rw [hp] at h1
      simp [lk ("against" : Str) (by simp), t4_0, t4_1, t4_2, t4_3, h1, At.tr, oD, hp, isNb_non]
    · rcases hq with hq | hq
      · rw [hq] at h2
        simp [lk ("against" : Str) (by simp), t4_0, t4_1, t4_2, t4_3, h1, h2, At.tr, oD, hp.nn, hq, isNb_non]
      · have hs : SK (rw p) (plV (rw q) m) := by
          generalize rw p = u at hp
          generalize rw q = w at hq
          cases hp with
          | n i => cases hq with | n j => exact .i
          | t a _ _ => cases hq with | t b _ _ => exact .s
        have := compared_ok (S := S) hs ho
        have hn1 := hp.nn
        have hn2 := hq.nn
        by_cases h0 : m = 0
        · have hpl : plV (rw q) m = rw q := by
            rw [h0]
            cases e : rw q <;> simp [plV]
          have hpl0 : plV (rw q) 0 = rw q := by rw [h0] at hpl; exact hpl
          rw [hpl] at this
          simp [lk ("against" : Str) (by simp), t4_0, t4_1, t4_2, t4_3, h1, h2, At.tr, oD, hn1, hn2, h0, hpl0, this]
        · have hadd : addD (rw q) (.int m) S = .ok (plV (rw q) m) S := by
            have hk : k ≠ ("text" : Str) := fun e => h0 (hm e)
            generalize rw q = w at hq
            cases hq with
            | n j => rfl
            | t b _ _ => exact absurd rfl hk
          simp [lk ("against" : Str) (by simp), t4_0, t4_1, t4_2, t4_3, h1, h2, At.tr, oD, hn1, hn2, h0, hadd, this]
end
def Sp.tr (rw : Str → D) : Sp → Option Bool
  | .lf a => a.tr rw
  | .not x => (x.tr rw).map (!·)
  | .sure x => some (x.tr rw == some true)
  | .and x y => if (x.tr rw == some false || y.tr rw == some false) = true then some false else if ((x.tr rw).isNone || (y.tr rw).isNone) = true then none else some true
  | .or x y => if (x.tr rw == some true || y.tr rw == some true) = true then some true else if ((x.tr rw).isNone || (y.tr rw).isNone) = true then none else some false
def Sp.ok (rw : Str → D) (s : Sp) : Prop := ∀ a ∈ s.lv, a.ok rw
section
variable {S : Store} {row : D} {rw : Str → D}
theorem in_two {b : Bool} {x y : Option Bool} : inD (.bl b) (.lst [oD x, oD y]) S = .ok (.bl (x == some b || y == some b)) S := by
  rcases x with _ | _ | _ <;> rcases y with _ | _ | _ <;> cases b <;> rfl
theorem in_twoN {x y : Option Bool} : inD .non (.lst [oD x, oD y]) S = .ok (.bl (x.isNone || y.isNone)) S := by
  rcases x with _ | _ | _ <;> rcases y with _ | _ | _ <;> rfl
theorem inNN : inD .non (.lst [.non, .non]) S = .ok (.bl true) S := nrfl rfl
theorem inNB {b : Bool} : inD .non (.lst [.non, .bl b]) S = .ok (.bl true) S := nrfl rfl
theorem inBN {b : Bool} : inD .non (.lst [.bl b, .non]) S = .ok (.bl true) S := nrfl rfl
theorem inBB {a b : Bool} : inD .non (.lst [.bl a, .bl b]) S = .ok (.bl false) S := nrfl rfl
theorem is_oD {x : Option Bool} : isTD (oD x) (.bl true) S = .ok (.bl (x == some true)) S := by
  rcases x with _ | _ | _ <;> rfl
theorem isN_oD {x : Option Bool} : isNb (oD x) = x.isNone := by
  rcases x with _ | _ | _ <;> rfl
theorem plA_app (l m : List At) : plA (l ++ m) = plA l ++ plA m := by simp [plA]
theorem Sp.wf.kin {s : Sp} (h : s.ps = []) : ∃ a, s = .lf a := by
  cases s with
  | lf a => exact ⟨a, rfl⟩
  | _ => cases h
theorem truth_of_ok : ∀ (j : Nat) (s : Sp), s.ht < j → s.ok rw → (∀ p ∈ s.pl, ixA row (.str p) S = .ok (rw p) S) → fn_truth_of j [s.t, row] S = .ok (oD (s.tr rw)) S
  | 0, _, h, _, _ => absurd h (Nat.not_lt_zero _)
  | j + 1, .lf a, h, ho, hi => by
    have h1 := atom_truth_ok (S := S) (row := row) (ho a (by simp [Sp.lv])) (fun p hp => hi p (by simp [Sp.pl, plA, Sp.lv, hp]))
    have tp := fun k d => tparts (S := S) (k := k) (d := d) (p := []) (by simp)
    unfold fn_truth_of
    rw [run_eq]
    simp only [sem_truth_of, startD, Sp.t, At.t_eq]
    simp [tkind, tdata, tp, h1, Sp.tr]
  | j + 1, .not x, h, ho, hi => by
    have ih := truth_of_ok j x (by simp only [Sp.ht] at h; omega) ho hi
    have tp := fun k d p => tparts (S := S) (k := k) (d := d) (p := [p]) (by simp)
    unfold fn_truth_of
    rw [run_eq]
    simp only [sem_truth_of, startD, Sp.t]
    have c := comp_pure (it := ⟨[x.t], none⟩) (p := ptN 5) (t := mYes) (e := mFn (ar 2 (fn_truth_of j)) (mCons (mVar 5) (mCons (mVar 1) mNil))) (ρ := [some (tst "not" [] [x.t]), some row, some (.str "not"), none, none, none]) (S := S) grd_none Sp.t (fun x => oD (x.tr rw)) (fun _ => true) [x] 0
      (fun y hy => by
        rw [List.mem_singleton] at hy
        subst hy
        exact ⟨_, rfl, rfl, fun _ => by simp [ih]⟩) (sz (by simp))
    simp at c
    simp [tkind, tdata, tp, wipeD, c, t1_0, isN_oD, Sp.tr]
    rcases x.tr rw with _ | _ | _ <;> simp [oD]
  | j + 1, .sure x, h, ho, hi => by
    have ih := truth_of_ok j x (by simp only [Sp.ht] at h; omega) ho hi
    have tp := fun k d p => tparts (S := S) (k := k) (d := d) (p := [p]) (by simp)
    unfold fn_truth_of
    rw [run_eq]
    simp only [sem_truth_of, startD, Sp.t]
    have c := comp_pure (it := ⟨[x.t], none⟩) (p := ptN 5) (t := mYes) (e := mFn (ar 2 (fn_truth_of j)) (mCons (mVar 5) (mCons (mVar 1) mNil))) (ρ := [some (tst "sure" [] [x.t]), some row, some (.str "sure"), none, none, none]) (S := S) grd_none Sp.t (fun x => oD (x.tr rw)) (fun _ => true) [x] 0
      (fun y hy => by
        rw [List.mem_singleton] at hy
        subst hy
        exact ⟨_, rfl, rfl, fun _ => by simp [ih]⟩) (sz (by simp))
    simp at c
    simp [tkind, tdata, tp, wipeD, c, t1_0, is_oD, Sp.tr]
    rfl
  | j + 1, .and x y, h, ho, hi => by
    have ihx := truth_of_ok j x (by simp only [Sp.ht] at h; omega) (fun a ha => ho a (by simp [Sp.lv, ha])) (fun p hp => hi p (by simp only [Sp.pl, Sp.lv, plA_app]; exact List.mem_append_left _ hp))
    have ihy := truth_of_ok j y (by simp only [Sp.ht] at h; omega) (fun a ha => ho a (by simp [Sp.lv, ha])) (fun p hp => hi p (by simp only [Sp.pl, Sp.lv, plA_app]; exact List.mem_append_right _ hp))
    have tp := fun k d p q => tparts (S := S) (k := k) (d := d) (p := [p, q]) (by simp)
    unfold fn_truth_of
    rw [run_eq]
    simp only [sem_truth_of, startD, Sp.t]
    have c := comp_pure (it := ⟨[x.t, y.t], none⟩) (p := ptN 5) (t := mYes) (e := mFn (ar 2 (fn_truth_of j)) (mCons (mVar 5) (mCons (mVar 1) mNil))) (ρ := [some (tst "and" [] [x.t, y.t]), some row, some (.str "and"), none, none, none]) (S := S) grd_none Sp.t (fun x => oD (x.tr rw)) (fun _ => true) [x, y] 0
      (fun z hz => by
        simp only [List.mem_cons, List.not_mem_nil, or_false] at hz
        rcases hz with rfl | rfl
        · exact ⟨_, rfl, rfl, fun _ => by simp [ihx]⟩
        · exact ⟨_, rfl, rfl, fun _ => by simp [ihy]⟩) (sz (by simp))
    simp at c
    simp [tkind, tdata, tp, wipeD, c, in_two, in_twoN, Sp.tr]
    rcases x.tr rw with _ | _ | _ <;> rcases y.tr rw with _ | _ | _ <;> simp [oD, inNN, inNB, inBN, inBB]
  | j + 1, .or x y, h, ho, hi => by
    have ihx := truth_of_ok j x (by simp only [Sp.ht] at h; omega) (fun a ha => ho a (by simp [Sp.lv, ha])) (fun p hp => hi p (by simp only [Sp.pl, Sp.lv, plA_app]; exact List.mem_append_left _ hp))
    have ihy := truth_of_ok j y (by simp only [Sp.ht] at h; omega) (fun a ha => ho a (by simp [Sp.lv, ha])) (fun p hp => hi p (by simp only [Sp.pl, Sp.lv, plA_app]; exact List.mem_append_right _ hp))
    have tp := fun k d p q => tparts (S := S) (k := k) (d := d) (p := [p, q]) (by simp)
    unfold fn_truth_of
    rw [run_eq]
    simp only [sem_truth_of, startD, Sp.t]
    have c := comp_pure (it := ⟨[x.t, y.t], none⟩) (p := ptN 5) (t := mYes) (e := mFn (ar 2 (fn_truth_of j)) (mCons (mVar 5) (mCons (mVar 1) mNil))) (ρ := [some (tst "or" [] [x.t, y.t]), some row, some (.str "or"), none, none, none]) (S := S) grd_none Sp.t (fun x => oD (x.tr rw)) (fun _ => true) [x, y] 0
      (fun z hz => by
        simp only [List.mem_cons, List.not_mem_nil, or_false] at hz
        rcases hz with rfl | rfl
        · exact ⟨_, rfl, rfl, fun _ => by simp [ihx]⟩
        · exact ⟨_, rfl, rfl, fun _ => by simp [ihy]⟩) (sz (by simp))
    simp at c
    simp [tkind, tdata, tp, wipeD, c, in_two, in_twoN, Sp.tr]
    rcases x.tr rw with _ | _ | _ <;> rcases y.tr rw with _ | _ | _ <;> simp [oD, inNN, inNB, inBN, inBB]
end
/-- a row that has these paths -/
def RowAt (S : Store) (row : D) (rw : Str → D) (P : List Str) : Prop := ∃ kvs, (row = .dct kvs ∨ ∃ n, row = .ref n ∧ sg S n = some (.dct kvs)) ∧ ∀ p ∈ P, valK kvs (.inr p) = some (rw p)
section
variable {S S1 : Store} {row : D} {rw : Str → D} {P : List Str}
theorem RowAt.fr (h : RowAt S row rw P) (f : Fr [] S S1) : RowAt S1 row rw P := by
  obtain ⟨kvs, h1, h2⟩ := h
  refine ⟨kvs, ?_, h2⟩
  rcases h1 with h1 | ⟨n, h1, h3⟩
  · exact .inl h1
  · exact .inr ⟨n, h1, f.get h3 (by simp)⟩
theorem RowAt.dc (h : RowAt S row rw P) : ∃ kvs, dcOf S row = some kvs ∧ ∀ p ∈ P, valK kvs (.inr p) = some (rw p) := by
  obtain ⟨kvs, h1, h2⟩ := h
  refine ⟨kvs, ?_, h2⟩
  rcases h1 with rfl | ⟨n, rfl, h3⟩
  · rfl
  · exact dc_ref h3
theorem RowAt.kd (h : RowAt S row rw P) : G.kd S row = some .dct := by
  obtain ⟨kvs, h1, h2⟩ := h
  rcases h1 with rfl | ⟨n, rfl, h3⟩
  · rfl
  · unfold G.kd
    unfold sg at h3
    dsimp only
    rw [h3]
theorem RowAt.ix (h : RowAt S row rw P) : ∀ p ∈ P, ixA row (.str p) S = .ok (rw p) S := fun p hp => by
  obtain ⟨kvs, h1, h2⟩ := h.dc
  rw [v_ixA, h1, rIxA_str, h2 p hp]
  rfl
inductive TrI (o r : Option D) (a : Nat) (L : List D) (S : Store) (j : Nat) : Sl → Store → Prop
  | mk {o2 : Option D} : TrI o r a L S j [o, r, o2] S
theorem truth_ok {s : Sp} (hw : s.wf) (ho : s.ok rw) (hh : s.ht < 20) (hz : s.lv.length ≤ 1000) (hr : RowAt S row rw s.pl) : Ok (fn_Test_truth [s.t, row] S) fun d S' => d = oD (s.tr rw) ∧ Fr [] S S' := by
  unfold fn_Test_truth
  rw [run_eq]
  simp only [sem_Test_truth, startD]
  have es := s.t_eq
  have hp := paths_ok (S := S) hw (by omega) hz
  rw [es] at hp ⊢
  simp [hr.kd, k_dict]
  generalize hx : fn_Test_paths _ _ = x
  obtain ⟨d, S1, rfl, f1, a, L, rfl, at1, asc⟩ := Ok.g hx hp
  have r1 := hr.fr f1
  obtain ⟨kvs, e1, e2⟩ := r1.dc
  simp [at1]
  generalize hv : forL _ _ _ _ _ _ = v
  obtain ⟨ρ4, S4, rfl, I4⟩ := OkN.g hv (forI (TrI (some (tst s.knd s.dat (s.ps.map Sp.t))) (some row) a (L.map D.str) S1) (fun j ρ S' hI => by cases hI; exact grd_some at1)
    (fun j d hj ρ S' hI => by
      cases hI with
      | @mk o2 =>
      obtain ⟨p, hp, rfl⟩ := List.mem_map.mp (List.mem_of_getElem? hj)
      have hv := e2 p ((asc.mem p).mp hp)
      refine ⟨_, rfl, ?_⟩
      have hn : notInA (.str p) row S1 = .ok (.bl false) S1 := by
        rw [v_notInA, e1]
        show Res.ok (D.bl (!(valK kvs (.inr p)).isSome)) S1 = _
        rw [hv]
        rfl
      rw [v_notInA] at hn
      simp [hn]
      exact .mk) .mk)
  cases I4 with
  | mk =>
  have ht := truth_of_ok (S := S1) 20 s hh ho r1.ix
  rw [es] at ht
  simp [ht]
  exact f1
end
end G
namespace G
open PySem L2
/-! ### a text's beginning -/
theorem cut_sw (a t : Str) : decide (cutS a none (some (t.length : Int)) = t) = Txt.startswith a t := by
  have la : a.length = a.cps.toList.length := by rw [Array.length_toList]; rfl
  have lt : t.length = t.cps.toList.length := by rw [Array.length_toList]; rfl
  have h0 : ¬ ((t.length : Nat) : Int) < 0 := by omega
  have s1 : HT.sIx a.length 0 none = 0 := by unfold HT.sIx; simp
  have s2 : HT.sIx a.length a.length (some (t.length : Int)) = min t.length a.length := by unfold HT.sIx; simp [h0]
  have e : cutS a none (some (t.length : Int)) = ⟨(a.cps.toList.take (min t.length a.length)).toArray⟩ := by
    unfold cutS
    rw [s1, s2]
    simp
  have e2 : (cutS a none (some (t.length : Int)) = t) ↔ a.cps.toList.take (min t.length a.length) = t.cps.toList := by
    rw [e]
    constructor
    · intro h
      have h2 := congrArg (fun z : Str => z.cps.toList) h
      simpa using h2
    · intro h
      rw [h]
  unfold Txt.startswith
  rw [PySem.StrLaws.subAt_eq, Bool.eq_iff_iff, decide_eq_true_iff, e2, Bool.and_eq_true, decide_eq_true_iff, List.drop_zero, beq_iff_eq]
  constructor
  · intro h
    have hl := congrArg List.length h
    rw [List.length_take] at hl
    have : t.length ≤ a.length := by omega
    rw [Nat.min_eq_left this] at h
    exact ⟨by omega, h⟩
  · intro ⟨h1, h2⟩
    rw [Nat.min_eq_left (by omega)]
    exact h2
end G
namespace G
open PySem L2
/-! ### the law's own truths -/
section
variable {S : Store}
theorem gt_ok {x y : D} (h : SK x y) : gtA x y S = .ok (.bl (ltV y x)) S := by
  cases h with
  | i => rfl
  | s =>
    unfold gtA ltV
    dsimp only
    rw [lt_bS]
theorem ge_ok {x y : D} (h : SK x y) : geA x y S = .ok (.bl (!ltV x y)) S := by
  cases h with
  | i =>
    rename_i i j
    unfold geA ltV
    dsimp only
    congr 2
    rw [Bool.eq_iff_iff]
    simp
  | s =>
    unfold geA ltV
    dsimp only
    rw [lt_bS]
theorem law_compared_ok {x y : D} {op : Str} (h : SK x y) (ho : op ∈ opsL) : fn_law_compared [x, .str op, y] S = .ok (.bl (cmpB op x y)) S := by
  have h1 := lt_ok (S := S) h
  have h2 := le_ok (S := S) h
  have h3 := eqs_ok (S := S) h
  have h4 := gt_ok (S := S) h
  have h5 := ge_ok (S := S) h
  simp only [opsL, List.mem_cons, List.not_mem_nil, or_false] at ho
  unfold fn_law_compared
  rw [run_eq]
  simp only [sem_law_compared, startD]
  rcases ho with rfl | rfl | rfl | rfl | rfl | rfl <;> simp [h1, h2, h3, h4, h5, cmpB]
theorem ks_int : k_str Kd.int = false := rfl
theorem ks_str : k_str Kd.str = true := rfl
theorem kb_non : k_bool Kd.non = false := rfl
theorem kb_bl : k_bool Kd.bl = true := rfl
abbrev wds4 : D := .tup [.str "and", .str "or", .str "not", .str "sure"]
theorem nin_t {w : Str} (h : w ∈ (["and", "or", "not", "sure"] : List Str)) : notInD (.str w) wds4 S = .ok (.bl false) S := by
  simp only [List.mem_cons, List.not_mem_nil, or_false] at h
  rcases h with rfl | rfl | rfl | rfl <;> rfl
theorem nin_f {w : Str} (h : w ∈ (["compare", "against", "among", "begins", "empty", "always", "never", "unsure"] : List Str)) : notInD (.str w) wds4 S = .ok (.bl true) S := by
  simp only [List.mem_cons, List.not_mem_nil, or_false] at h
  rcases h with rfl | rfl | rfl | rfl | rfl | rfl | rfl | rfl <;> rfl
theorem cq2 {a b : D} : cutD [a, b] (some 1) none = [b] := rfl
theorem cq3 {a b c : D} : cutD [a, b, c] (some 1) none = [b, c] := rfl
end
section
variable {S : Store} {row : D} {rw : Str → D}
theorem law_atom_truth_ok {a : At} (hw : a.wf) (h : a.ok rw) (hix : ∀ p ∈ a.pth, ixA row (.str p) S = .ok (rw p) S) : fn_law_atom_truth [a.enc, row] S = .ok (oD (a.tr rw)) S := by
  cases h with
  | cst hw2 =>
    simp only [List.mem_cons, List.not_mem_nil, or_false] at hw2
    unfold fn_law_atom_truth
    rw [run_eq]
    simp only [sem_law_atom_truth, startD, At.enc]
    have v1 : valK (mrgD [(.inr "always", .bl true), (.inr "never", .bl false), (.inr "unsure", .non)]) (.inr "always") = some (.bl true) := rfl
    have v2 : valK (mrgD [(.inr "always", .bl true), (.inr "never", .bl false), (.inr "unsure", .non)]) (.inr "never") = some (.bl false) := rfl
    have v3 : valK (mrgD [(.inr "always", .bl true), (.inr "never", .bl false), (.inr "unsure", .non)]) (.inr "unsure") = some .non := rfl
    rcases hw2 with rfl | rfl | rfl
    · simp [t1_0, At.tr, oD, v1]
    · simp [t1_0, At.tr, oD, v2]
    · simp [t1_0, At.tr, oD, v3]
  | @emp p =>
    have h1 := hix p (by simp [At.pth])
    rw [v_ixA] at h1
    unfold fn_law_atom_truth
    rw [run_eq]
    simp only [sem_law_atom_truth, startD, At.enc]
    simp [t2_0, t2_1, h1, At.tr, oD]
  | @cmp p op v k ho hv hp =>
    have h1 := hix p (by simp [At.pth])
    rw [v_ixA] at h1
    unfold fn_law_atom_truth
    rw [run_eq]
    simp only [sem_law_atom_truth, startD, At.enc]
    rcases hp with hp | hp
    · rw [hp] at h1
      simp [t4_0, t4_1, t4_2, t4_3, h1, At.tr, oD, hp, isNb_non]
    · have := law_compared_ok (S := S) (hp.sk hv) ho
      simp [t4_0, t4_1, t4_2, t4_3, h1, At.tr, oD, hp.nn, this]
  | @amg p vs k hv hp =>
    have h1 := hix p (by simp [At.pth])
    rw [v_ixA] at h1
    have hl : vs.length ≤ 8 := by
      cases hw with
      | amg _ _ h8 _ => exact h8
    unfold fn_law_atom_truth
    rw [run_eq]
    simp only [sem_law_atom_truth, startD, At.enc]
    rcases hp with hp | hp
    · rw [hp] at h1
      simp [t3_0, t3_1, t3_2, h1, At.tr, oD, hp, isNb_non]
    · have c := comp_pure (it := ⟨vs, none⟩) (p := ptN 5) (t := mTest (mOp eqD (mVar 5) (mVar 3))) (e := mVar 5) (ρ := [some (At.amg p vs).enc, some row, some (.str "among"), some (rw p), none, none]) (S := S) grd_none id id (fun v => eqVd v (rw p)) vs 0
        (fun v hx => by
          have e := eqs_ok (S := S) ((hv v hx).sk hp)
          exact ⟨_, rfl, by simp [e], fun _ => by simp⟩) (sz (by omega))
      simp only [List.map_id, At.enc] at c
      simp [t3_0, t3_1, t3_2, h1, At.tr, oD, hp.nn, wipeD, c]
      rw [Bool.eq_iff_iff]
      simp [List.any_eq_true]
  | @bgn p t hp =>
    have h1 := hix p (by simp [At.pth])
    rw [v_ixA] at h1
    have lt : t.length ≤ sizeLine := by
      cases hw with
      | bgn _ h2 _ => exact sz (by omega)
    unfold fn_law_atom_truth
    rw [run_eq]
    simp only [sem_law_atom_truth, startD, At.enc]
    rcases hp with hp | hp
    · rw [hp] at h1
      simp [t3_0, t3_1, t3_2, h1, At.tr, oD, hp, isNb_non]
    · generalize hv : rw p = v at *
      cases hp with
      | t a hx1 hx2 =>
      have la : a.length ≤ sizeLine := sz (by omega)
      have c := cut_sw a t
      simp [t3_0, t3_1, t3_2, h1, At.tr, oD, hv, isNb_str, swB, la, lt]
      rw [c]
  | @agn p op q m k ho hm hp hq =>
    have h1 := hix p (by simp [At.pth])
    rw [v_ixA] at h1
    have h2 := hix q (by simp [At.pth])
    rw [v_ixA] at h2
    unfold fn_law_atom_truth
    rw [run_eq]
    simp only [sem_law_atom_truth, startD, At.enc]
    rcases hp with hp | hp
    · rw [hp] at h1
      simp [t5_0, t5_1, t5_2, t5_3, t5_4, h1, At.tr, oD, hp, isNb_non]
    · rcases hq with hq | hq
      · rw [hq] at h2
        simp [t5_0, t5_1, t5_2, t5_3, t5_4, h1, h2, At.tr, oD, hp.nn, hq, isNb_non]
      · have hs : SK (rw p) (plV (rw q) m) := by
          generalize rw p = u at hp
          generalize rw q = w at hq
          cases hp with
          | n i => cases hq with | n j => exact .i
          | t a _ _ => cases hq with | t b _ _ => exact .s
        have := law_compared_ok (S := S) hs ho
        have hn1 := hp.nn
        have hn2 := hq.nn
        generalize hwq : rw q = w at *
        cases hq with
        | n j =>
          simp only [plV] at this
          simp [t5_0, t5_1, t5_2, t5_3, t5_4, h1, h2, At.tr, oD, hn1, hn2, hwq, plV, this, ks_int]
        | t b _ _ =>
          simp only [plV] at this
          simp [t5_0, t5_1, t5_2, t5_3, t5_4, h1, h2, At.tr, oD, hn1, hn2, hwq, plV, this, ks_str]
theorem At.enc_hd (a : At) (hw : a.wf) : ∃ w l, a.enc = .tup (.str w :: l) ∧ w ∈ (["compare", "against", "among", "begins", "empty", "always", "never", "unsure"] : List Str) := by
  cases hw with
  | cst h =>
    refine ⟨_, _, rfl, ?_⟩
    simp only [List.mem_cons, List.not_mem_nil, or_false] at h ⊢
    rcases h with rfl | rfl | rfl <;> simp
  | _ => exact ⟨_, _, rfl, by simp⟩
theorem law_truth_ok : ∀ (j : Nat) (s : Sp), s.ht < j → s.wf → s.ok rw → (∀ p ∈ s.pl, ixA row (.str p) S = .ok (rw p) S) → fn_law_truth j [s.enc, row] S = .ok (oD (s.tr rw)) S
  | 0, _, h, _, _, _ => absurd h (Nat.not_lt_zero _)
  | j + 1, .lf a, h, hw, ho, hi => by
    have c := law_atom_truth_ok (hw a (by simp [Sp.lv])) (ho a (by simp [Sp.lv])) (fun p hp => hi p (by simp [Sp.pl, plA, Sp.lv, hp]))
    obtain ⟨w, l, e, hm⟩ := At.enc_hd a (hw a (by simp [Sp.lv]))
    have n4 := nin_f (S := S) hm
    unfold fn_law_truth
    rw [run_eq]
    simp only [sem_law_truth, startD, Sp.enc]
    rw [e] at c ⊢
    simp [atI_0, n4, c, Sp.tr]
  | j + 1, .not x, h, hw, ho, hi => by
    have ih := law_truth_ok j x (by simp only [Sp.ht] at h; omega) hw ho hi
    have n4 := nin_t (S := S) (w := "not") (by simp)
    unfold fn_law_truth
    rw [run_eq]
    simp only [sem_law_truth, startD, Sp.enc]
    have c := comp_pure (it := ⟨[x.enc], none⟩) (p := ptN 5) (t := mYes) (e := mFn (ar 2 (fn_law_truth j)) (mCons (mVar 5) (mCons (mVar 1) mNil))) (ρ := [some (.tup [.str "not", x.enc]), some row, some (.str "not"), none, none, none]) (S := S) grd_none Sp.enc (fun x => oD (x.tr rw)) (fun _ => true) [x] 0
      (fun y hy => by
        rw [List.mem_singleton] at hy
        subst hy
        exact ⟨_, rfl, rfl, fun _ => by simp [ih]⟩) (sz (by simp))
    simp at c
    simp [t2_0, n4, cq2, wipeD, c, t1_0, isN_oD, Sp.tr]
    rcases x.tr rw with _ | _ | _ <;> simp [oD]
  | j + 1, .sure x, h, hw, ho, hi => by
    have ih := law_truth_ok j x (by simp only [Sp.ht] at h; omega) hw ho hi
    have n4 := nin_t (S := S) (w := "sure") (by simp)
    unfold fn_law_truth
    rw [run_eq]
    simp only [sem_law_truth, startD, Sp.enc]
    have c := comp_pure (it := ⟨[x.enc], none⟩) (p := ptN 5) (t := mYes) (e := mFn (ar 2 (fn_law_truth j)) (mCons (mVar 5) (mCons (mVar 1) mNil))) (ρ := [some (.tup [.str "sure", x.enc]), some row, some (.str "sure"), none, none, none]) (S := S) grd_none Sp.enc (fun x => oD (x.tr rw)) (fun _ => true) [x] 0
      (fun y hy => by
        rw [List.mem_singleton] at hy
        subst hy
        exact ⟨_, rfl, rfl, fun _ => by simp [ih]⟩) (sz (by simp))
    simp at c
    simp [t2_0, n4, cq2, wipeD, c, t1_0, is_oD, Sp.tr]
    rfl
  | j + 1, .and x y, h, hw, ho, hi => by
    have ihx := law_truth_ok j x (by simp only [Sp.ht] at h; omega) (fun a ha => hw a (by simp [Sp.lv, ha])) (fun a ha => ho a (by simp [Sp.lv, ha])) (fun p hp => hi p (by simp only [Sp.pl, Sp.lv, plA_app]; exact List.mem_append_left _ hp))
    have ihy := law_truth_ok j y (by simp only [Sp.ht] at h; omega) (fun a ha => hw a (by simp [Sp.lv, ha])) (fun a ha => ho a (by simp [Sp.lv, ha])) (fun p hp => hi p (by simp only [Sp.pl, Sp.lv, plA_app]; exact List.mem_append_right _ hp))
    have n4 := nin_t (S := S) (w := "and") (by simp)
    unfold fn_law_truth
    rw [run_eq]
    simp only [sem_law_truth, startD, Sp.enc]
    have c := comp_pure (it := ⟨[x.enc, y.enc], none⟩) (p := ptN 5) (t := mYes) (e := mFn (ar 2 (fn_law_truth j)) (mCons (mVar 5) (mCons (mVar 1) mNil))) (ρ := [some (.tup [.str "and", x.enc, y.enc]), some row, some (.str "and"), none, none, none]) (S := S) grd_none Sp.enc (fun x => oD (x.tr rw)) (fun _ => true) [x, y] 0
      (fun z hz => by
        simp only [List.mem_cons, List.not_mem_nil, or_false] at hz
        rcases hz with rfl | rfl
        · exact ⟨_, rfl, rfl, fun _ => by simp [ihx]⟩
        · exact ⟨_, rfl, rfl, fun _ => by simp [ihy]⟩) (sz (by simp))
    simp at c
    simp [t3_0, n4, cq3, wipeD, c, in_two, in_twoN, Sp.tr]
    rcases x.tr rw with _ | _ | _ <;> rcases y.tr rw with _ | _ | _ <;> simp [oD, inNN, inNB, inBN, inBB]
  | j + 1, .or x y, h, hw, ho, hi => by
    have ihx := law_truth_ok j x (by simp only [Sp.ht] at h; omega) (fun a ha => hw a (by simp [Sp.lv, ha])) (fun a ha => ho a (by simp [Sp.lv, ha])) (fun p hp => hi p (by simp only [Sp.pl, Sp.lv, plA_app]; exact List.mem_append_left _ hp))
    have ihy := law_truth_ok j y (by simp only [Sp.ht] at h; omega) (fun a ha => hw a (by simp [Sp.lv, ha])) (fun a ha => ho a (by simp [Sp.lv, ha])) (fun p hp => hi p (by simp only [Sp.pl, Sp.lv, plA_app]; exact List.mem_append_right _ hp))
    have n4 := nin_t (S := S) (w := "or") (by simp)
    unfold fn_law_truth
    rw [run_eq]
    simp only [sem_law_truth, startD, Sp.enc]
    have c := comp_pure (it := ⟨[x.enc, y.enc], none⟩) (p := ptN 5) (t := mYes) (e := mFn (ar 2 (fn_law_truth j)) (mCons (mVar 5) (mCons (mVar 1) mNil))) (ρ := [some (.tup [.str "or", x.enc, y.enc]), some row, some (.str "or"), none, none, none]) (S := S) grd_none Sp.enc (fun x => oD (x.tr rw)) (fun _ => true) [x, y] 0
      (fun z hz => by
        simp only [List.mem_cons, List.not_mem_nil, or_false] at hz
        rcases hz with rfl | rfl
        · exact ⟨_, rfl, rfl, fun _ => by simp [ihx]⟩
        · exact ⟨_, rfl, rfl, fun _ => by simp [ihy]⟩) (sz (by simp))
    simp at c
    simp [t3_0, n4, cq3, wipeD, c, in_two, in_twoN, Sp.tr]
    rcases x.tr rw with _ | _ | _ <;> rcases y.tr rw with _ | _ | _ <;> simp [oD, inNN, inNB, inBN, inBB]
theorem law_same_ok {x y : Option Bool} : fn_law_same [oD x, oD y] S = .ok (.bl (decide (x = y))) S := by
  unfold fn_law_same
  rw [run_eq]
  simp only [sem_law_same, startD]
  rcases x with _ | _ | _ <;> rcases y with _ | _ | _ <;> simp [oD, isNb, kb_non, kb_bl]
end
end G
namespace G
open PySem L2
/-! ### values near those of a test -/
inductive Vn : D → Str → Prop
  | n (i : Int) (h : i.natAbs ≤ 2000000000000000000000000000000) : Vn (.int i) "number"
  | t (x : Str) (h : x.length ≤ 8) (h1 : txB x = true) : Vn (.str x) "text"
theorem Va.vn {v : D} {k : Str} (h : Va v k) : Vn v k := by
  cases h with
  | n i h => exact .n i (by omega)
  | t x h h1 => exact .t x (by omega) h1
theorem Vn.val {v : D} {k : Str} (h : Vn v k) : Val v k := by
  cases h with
  | n i h => exact .n i
  | t x h h1 => exact .t x (by omega) h1
theorem txB_app {a b : Str} (ha : txB a = true) (hb : txB b = true) : txB (a ++ b) = true := by
  unfold txB at *
  have e : cs (a ++ b) = cs a ++ cs b := by
    unfold cs
    show (a.cps ++ b.cps).toList = _
    rw [Array.toList_append]
  rw [e, List.all_append, ha, hb]
  rfl
theorem slen_app (a b : Str) : (a ++ b).length = a.length + b.length := by
  show (a.cps ++ b.cps).size = _
  rw [Array.size_append]
  rfl
theorem txB_cut {x : Str} {i j : Option Int} (h : txB x = true) : txB (cutS x i j) = true := by
  unfold txB at *
  rw [List.all_eq_true] at h ⊢
  intro c hc
  exact h c (List.mem_of_mem_drop (List.mem_of_mem_take (by simpa [cs, cutS] using hc)))
theorem cut_le {x : Str} {i j : Option Int} : (cutS x i j).length ≤ x.length := by
  show (cutS x i j).cps.size ≤ x.cps.size
  unfold cutS
  simp only [List.size_toArray, List.length_take, List.length_drop, Array.length_toList]
  omega
section
variable {S : Store}
theorem in_f4 {w : Str} (h : w ∈ (["compare", "against", "among", "begins", "empty", "always", "never", "unsure"] : List Str)) : inD (.str w) wds4 S = .ok (.bl false) S := by
  simp only [List.mem_cons, List.not_mem_nil, or_false] at h
  rcases h with rfl | rfl | rfl | rfl | rfl | rfl | rfl | rfl <;> rfl
theorem in_t4 {w : Str} (h : w ∈ (["and", "or", "not", "sure"] : List Str)) : inD (.str w) wds4 S = .ok (.bl true) S := by
  simp only [List.mem_cons, List.not_mem_nil, or_false] at h
  rcases h with rfl | rfl | rfl | rfl <;> rfl
theorem add_ll {xs ys : List D} (h : xs.length + ys.length ≤ 1000) : addD (.lst xs) (.lst ys) S = .ok (.lst (xs ++ ys)) S := by
  unfold addD
  dsimp only [lsOf]
  exact if_pos (sz (by omega))
theorem list_lst {xs : List D} : listD [.lst xs] S = .ok (.lst xs) S := rfl
/-- values of the drawn kinds -/
def VaE (vs : List D) : Prop := ∀ v ∈ vs, ∃ k, Va v k
theorem values_at {a : At} {L : List Col} {j : Nat} (hw : a.wf) (ht : a.ty L) : ∃ vs, fn_law_values_of (j + 1) [a.enc] S = .ok (.lst vs) S ∧ vs.length ≤ 8 ∧ VaE vs := by
  unfold fn_law_values_of
  rw [run_eq]
  simp only [sem_law_values_of, startD]
  cases ht with
  | @cmp p op v k h1 h2 =>
    refine ⟨[v], ?_, by simp, fun x hx => by rw [List.mem_singleton.mp hx]; exact ⟨_, h2⟩⟩
    have i4 := in_f4 (S := S) (w := "compare") (by simp)
    simp [At.enc, t4_0, t4_3, i4]
  | @agn p op q m k h1 h2 h3 =>
    refine ⟨[], ?_, by simp, fun x hx => by cases hx⟩
    have i4 := in_f4 (S := S) (w := "against") (by simp)
    simp [At.enc, t5_0, i4]
  | @amg p vs k h1 h2 h3 =>
    refine ⟨vs, ?_, by omega, fun x hx => ⟨_, h2 x hx⟩⟩
    have i4 := in_f4 (S := S) (w := "among") (by simp)
    simp [At.enc, t3_0, t3_2, i4, list_lst]
  | @bgn p t h1 h2 =>
    have hx : txB t = true := by
      cases hw with
      | bgn _ _ h => exact h
    refine ⟨[.str t], ?_, by simp, fun x hx2 => by rw [List.mem_singleton.mp hx2]; exact ⟨_, .t t h2 hx⟩⟩
    have i4 := in_f4 (S := S) (w := "begins") (by simp)
    simp [At.enc, t3_0, t3_2, i4]
  | @emp p k h1 =>
    refine ⟨[], ?_, by simp, fun x hx => by cases hx⟩
    have i4 := in_f4 (S := S) (w := "empty") (by simp)
    simp [At.enc, t2_0, i4]
  | @cst w =>
    refine ⟨[], ?_, by simp, fun x hx => by cases hx⟩
    have hw2 : w ∈ (["always", "never", "unsure"] : List Str) := by
      cases hw with
      | cst h => exact h
    simp only [List.mem_cons, List.not_mem_nil, or_false] at hw2
    rcases hw2 with rfl | rfl | rfl
    · have i4 := in_f4 (S := S) (w := "always") (by simp)
      simp [At.enc, t1_0, i4]
    · have i4 := in_f4 (S := S) (w := "never") (by simp)
      simp [At.enc, t1_0, i4]
    · have i4 := in_f4 (S := S) (w := "unsure") (by simp)
      simp [At.enc, t1_0, i4]
theorem values_ok {L : List Col} : ∀ (j : Nat) (s : Sp), s.ht < j → s.wf → s.ty L → s.lv.length ≤ 100 → ∃ vs, fn_law_values_of j [s.enc] S = .ok (.lst vs) S ∧ vs.length ≤ 8 * s.lv.length ∧ VaE vs
  | 0, _, h, _, _, _ => absurd h (Nat.not_lt_zero _)
  | j + 1, .lf a, h, hw, ht, _ => by
    obtain ⟨vs, h1, h2, h3⟩ := values_at (S := S) (j := j) (hw a (by simp [Sp.lv])) (ht a (by simp [Sp.lv]))
    exact ⟨vs, h1, by simpa [Sp.lv] using h2, h3⟩
  | j + 1, .not x, h, hw, ht, hl => by
    obtain ⟨vs, ih, h2, h3⟩ := values_ok j x (by simp only [Sp.ht] at h; omega) hw ht (by simpa [Sp.lv] using hl)
    refine ⟨vs, ?_, by simpa [Sp.lv] using h2, h3⟩
    have i4 := in_t4 (S := S) (w := "not") (by simp)
    have l1 : x.lv.length ≤ 100 := by simpa [Sp.lv] using hl
    have a1 := add_ll (S := S) (xs := []) (ys := vs) (by simp; omega)
    unfold fn_law_values_of
    rw [run_eq]
    simp only [sem_law_values_of, startD, Sp.enc]
    simp [t2_0, i4, cq2]
    rw [for_cons (ρ1 := [some (.tup [.str "not", x.enc]), some (.lst []), some x.enc]) rfl]
    simp [ih, a1, for_nil]
  | j + 1, .sure x, h, hw, ht, hl => by
    obtain ⟨vs, ih, h2, h3⟩ := values_ok j x (by simp only [Sp.ht] at h; omega) hw ht (by simpa [Sp.lv] using hl)
    refine ⟨vs, ?_, by simpa [Sp.lv] using h2, h3⟩
    have i4 := in_t4 (S := S) (w := "sure") (by simp)
    have l1 : x.lv.length ≤ 100 := by simpa [Sp.lv] using hl
    have a1 := add_ll (S := S) (xs := []) (ys := vs) (by simp; omega)
    unfold fn_law_values_of
    rw [run_eq]
    simp only [sem_law_values_of, startD, Sp.enc]
    simp [t2_0, i4, cq2]
    rw [for_cons (ρ1 := [some (.tup [.str "sure", x.enc]), some (.lst []), some x.enc]) rfl]
    simp [ih, a1, for_nil]
  | j + 1, .and x y, h, hw, ht, hl => by
    have hl : x.lv.length + y.lv.length ≤ 100 := by simpa [Sp.lv] using hl
    obtain ⟨vs, ihx, h2, h3⟩ := values_ok j x (by simp only [Sp.ht] at h; omega) (fun a ha => hw a (by simp [Sp.lv, ha])) (fun a ha => ht a (by simp [Sp.lv, ha])) (by omega)
    obtain ⟨us, ihy, k2, k3⟩ := values_ok j y (by simp only [Sp.ht] at h; omega) (fun a ha => hw a (by simp [Sp.lv, ha])) (fun a ha => ht a (by simp [Sp.lv, ha])) (by omega)
    refine ⟨vs ++ us, ?_, by simp only [Sp.lv, List.length_append]; omega, fun v hv => (List.mem_append.mp hv).elim (h3 v) (k3 v)⟩
    have i4 := in_t4 (S := S) (w := "and") (by simp)
    have a1 := add_ll (S := S) (xs := []) (ys := vs) (by simp; omega)
    have a2 := add_ll (S := S) (xs := vs) (ys := us) (by omega)
    unfold fn_law_values_of
    rw [run_eq]
    simp only [sem_law_values_of, startD, Sp.enc]
    simp [t3_0, i4, cq3]
    rw [for_cons (ρ1 := [some (.tup [.str "and", x.enc, y.enc]), some (.lst []), some x.enc]) rfl]
    simp [ihx, a1]
    rw [for_cons (ρ1 := [some (.tup [.str "and", x.enc, y.enc]), some (.lst vs), some y.enc]) rfl]
    simp [ihy, a2, for_nil]
  | j + 1, .or x y, h, hw, ht, hl => by
    have hl : x.lv.length + y.lv.length ≤ 100 := by simpa [Sp.lv] using hl
    obtain ⟨vs, ihx, h2, h3⟩ := values_ok j x (by simp only [Sp.ht] at h; omega) (fun a ha => hw a (by simp [Sp.lv, ha])) (fun a ha => ht a (by simp [Sp.lv, ha])) (by omega)
    obtain ⟨us, ihy, k2, k3⟩ := values_ok j y (by simp only [Sp.ht] at h; omega) (fun a ha => hw a (by simp [Sp.lv, ha])) (fun a ha => ht a (by simp [Sp.lv, ha])) (by omega)
    refine ⟨vs ++ us, ?_, by simp only [Sp.lv, List.length_append]; omega, fun v hv => (List.mem_append.mp hv).elim (h3 v) (k3 v)⟩
    have i4 := in_t4 (S := S) (w := "or") (by simp)
    have a1 := add_ll (S := S) (xs := []) (ys := vs) (by simp; omega)
    have a2 := add_ll (S := S) (xs := vs) (ys := us) (by omega)
    unfold fn_law_values_of
    rw [run_eq]
    simp only [sem_law_values_of, startD, Sp.enc]
    simp [t3_0, i4, cq3]
    rw [for_cons (ρ1 := [some (.tup [.str "or", x.enc, y.enc]), some (.lst []), some x.enc]) rfl]
    simp [ihx, a1]
    rw [for_cons (ρ1 := [some (.tup [.str "or", x.enc, y.enc]), some (.lst vs), some y.enc]) rfl]
    simp [ihy, a2, for_nil]
end
section
variable {n : Nat} {S : Store}
theorem tx_sp : txB (" " : Str) = true ∧ txB ("a" : Str) = true := by decide +kernel
theorem near_value_d {vs : List D} {k : Str} (hk : Knd k) (hv : ∀ v ∈ vs, Va v k) (hl : vs.length ≤ 1000) (h : WellAt n S) : Ok (fn_law_near_value [.ref n, .lst vs, .str k] S) fun d S' => Go n S S' ∧ Vn d k := by
  unfold fn_law_near_value
  rw [run_eq]
  simp only [sem_law_near_value, startD]
  by_cases h0 : vs = []
  · subst h0
    simp
    generalize hx : fn_law_value _ _ = x
    obtain ⟨d, S2, rfl, g2, hd⟩ := Ok.g hx (value_d hk h)
    simp
    exact ⟨g2, hd.vn⟩
  · have e0 : vs.isEmpty = false := by cases vs <;> simp_all
    simp [e0]
    generalize hx : fn_law_draw _ _ = x
    obtain ⟨_, S1, rfl, g1, r, rfl, hr⟩ := Ok.g hx (draw (many := 3) h)
    by_cases hr0 : r = 0
    · simp [hr0]
      generalize hx : fn_law_value _ _ = x
      obtain ⟨d, S2, rfl, g2, hd⟩ := Ok.g hx (value_d hk g1.we)
      simp
      exact ⟨g1.tr g2, hd.vn⟩
    · simp [hr0]
      generalize hx : fn_law_pick _ _ = x
      obtain ⟨d, S2, rfl, g2, hd⟩ := Ok.g hx (pick vs g1.we h0 hl)
      simp
      cases hv d hd with
      | n i hi =>
        simp [ks_int]
        generalize hx : fn_law_draw _ _ = x
        obtain ⟨_, S3, rfl, g3, r3, rfl, hr3⟩ := Ok.g hx (draw (many := 3) g2.we)
        simp
        exact ⟨(g1.tr g2).tr g3, .n _ (by omega)⟩
      | t x hx3 hx1 =>
        have l1 : x.length + (" " : Str).length ≤ sizeLine := sz (by show x.length + 1 ≤ 100000; omega)
        have l2 : x.length + ("a" : Str).length ≤ sizeLine := sz (by show x.length + 1 ≤ 100000; omega)
        have a1 : addD (.str x) (.str " ") S2 = .ok (.str (x ++ " ")) S2 := by unfold addD; exact if_pos l1
        have a2 : addD (.str x) (.str "a") S2 = .ok (.str (x ++ "a")) S2 := by unfold addD; exact if_pos l2
        have lx : x.length ≤ sizeLine := sz (by omega)
        simp [ks_str, a1, a2, lx]
        generalize hx : fn_law_pick _ _ = y
        obtain ⟨z, S3, rfl, g3, hz⟩ := Ok.g hx (pick [.str x, .str (x ++ " "), .str (x ++ "a"), .str (cutS x none (some (-1)))] g2.we (by simp) (by simp))
        simp
        refine ⟨(g1.tr g2).tr g3, ?_⟩
        have s1 := slen_app x " "
        have s2 := slen_app x "a"
        have s3 : (" " : Str).length = 1 := rfl
        have s4 : ("a" : Str).length = 1 := rfl
        have s5 := cut_le (x := x) (i := none) (j := some (-1))
        simp only [List.mem_cons, List.not_mem_nil, or_false] at hz
        rcases hz with rfl | rfl | rfl | rfl
        · exact .t _ (by omega) hx1
        · exact .t _ (by omega) (txB_app hx1 tx_sp.1)
        · exact .t _ (by omega) (txB_app hx1 tx_sp.2)
        · exact .t _ (by omega) (txB_cut hx1)
end
end G
namespace G
open PySem L2
/-! ### rows near a test -/
abbrev kvD (r : Str × D) : Key × D := (.inr r.1, r.2)
theorem valK_app {P : List (Key × D)} {k k' : Key} {v : D} : valK (P ++ [(k, v)]) k' = (valK P k').or (if k = k' then some v else none) := by
  unfold valK
  rw [List.find?_append]
  cases P.find? (fun x => decide (x.1 = k')) with
  | some q => rfl
  | none =>
    by_cases ek : k = k'
    · simp [ek]
    · simp [ek]
/-- a row by its columns -/
structure RwG (L : List Col) (R : List (Str × D)) : Prop where
  nm : R.map (·.1) = L.map (·.1)
  sh : ∀ r ∈ R, r.2 = .non ∨ ∃ k, Vn r.2 k
  at_ : ∀ c ∈ L, ∃ v, valK (R.map kvD) (.inr c.1) = some v ∧ (v = .non ∨ Vn v c.2.1)
theorem valK_no {R : List (Str × D)} {p : Str} (h : p ∉ R.map (·.1)) : valK (R.map kvD) (.inr p) = none := by
  unfold valK
  rw [Option.map_eq_none_iff, List.find?_eq_none]
  intro x hx
  obtain ⟨r, hr, rfl⟩ := List.mem_map.mp hx
  have : r.1 ≠ p := fun e => h (List.mem_map.mpr ⟨r, hr, e⟩)
  simpa using this
theorem put_new {R : List (Str × D)} {p : Str} {v : D} (h : p ∉ R.map (·.1)) : putKD (R.map kvD) (.inr p) v = (R ++ [(p, v)]).map kvD := by
  unfold putKD
  rw [if_neg]
  · rw [List.map_append]
    rfl
  · intro e
    obtain ⟨x, hx, ex⟩ := List.any_eq_true.mp e
    obtain ⟨r, hr, rfl⟩ := List.mem_map.mp hx
    exact h (List.mem_map.mpr ⟨r, hr, Sum.inr.inj (of_decide_eq_true ex)⟩)
theorem RwG.snoc {L : List Col} {R : List (Str × D)} {c : Col} {v : D} (h : RwG L R) (nd : c.1 ∉ L.map (·.1)) (hv : v = .non ∨ Vn v c.2.1) : RwG (L ++ [c]) (R ++ [(c.1, v)]) := by
  refine ⟨by rw [List.map_append, List.map_append, h.nm]; rfl, fun r hr => ?_, fun x hx => ?_⟩
  · rcases List.mem_append.mp hr with hr | hr
    · exact h.sh r hr
    · rw [List.mem_singleton.mp hr]
      exact hv.imp id fun z => ⟨_, z⟩
  · have e : (R ++ [(c.1, v)]).map kvD = R.map kvD ++ [(.inr c.1, v)] := by rw [List.map_append]; rfl
    rw [e, valK_app]
    rcases List.mem_append.mp hx with hx | hx
    · obtain ⟨w, h1, h2⟩ := h.at_ x hx
      exact ⟨w, by rw [h1]; rfl, h2⟩
    · rw [List.mem_singleton.mp hx, valK_no (by rw [h.nm]; exact nd), if_pos rfl]
      exact ⟨v, rfl, hv⟩
def keepB (k : Str) : D → Bool
  | .int _ => decide (k = "number")
  | .str _ => decide (k = "text")
  | _ => false
theorem keep_va {k : Str} {v : D} (hv : ∃ k, Va v k) (h : keepB k v = true) : Va v k := by
  obtain ⟨k', hv⟩ := hv
  cases hv with
  | n i hi => rw [of_decide_eq_true h]; exact .n i hi
  | t x hx h1 => rw [of_decide_eq_true h]; exact .t x hx h1
inductive NrI (n a : Nat) (L : List Col) (e : D) (vs : List D) (S : Store) (j : Nat) : Sl → Store → Prop
  | mk {R : List (Str × D)} {o5 o6 o7 o8 : Option D} {S' : Store} (fr : Fr [n, a] S S') (we : WellAt n S') (at_ : sg S' a = some (.dct (R.map kvD))) (rw_ : RwG (L.take j) R) :
    NrI n a L e vs S j [some (.ref n), some (.lst (L.map colT)), some e, some (.ref a), some (.lst vs), o5, o6, o7, o8, none] S'
section
variable {n : Nat} {S : Store}
theorem near_row_d {L : List Col} {s : Sp} (hL : LayOk L) (hw : s.wf) (ht : s.ty L) (hh : s.ht < 20) (hz : s.lv.length ≤ 100) (h : WellAt n S) :
    Ok (fn_law_near_row [.ref n, .lst (L.map colT), s.enc] S) fun d S' => Go n S S' ∧ ∃ a R, d = .ref a ∧ S.length ≤ a ∧ sg S' a = some (.dct (R.map kvD)) ∧ RwG L R := by
  have hn : n < S.length := by
    obtain ⟨a, b, c, e⟩ := h
    exact sg_lt e
  have w1 : WellAt n (S ++ [.dct []]) := h.ext .one
  obtain ⟨vs, e1, l1, va⟩ := values_ok (S := S ++ [.dct []]) 20 s hh hw ht hz
  unfold fn_law_near_row
  rw [run_eq]
  simp only [sem_law_near_row, startD]
  simp [e1]
  generalize hv : forL _ _ _ _ _ _ = v
  obtain ⟨ρ4, S4, rfl, I4⟩ := OkN.g hv (forI (NrI n S.length L s.enc vs S) (fun _ _ _ _ => grd_none)
    (fun j d hj ρ S' hI => by
      cases hI with
      | @mk R o5 o6 o7 o8 _ fr we at_ rw_ =>
      have hjl : j < L.length := by
        have := (List.getElem?_eq_some_iff.mp hj).1
        simpa using this
      have hh90 := hL.h90
      obtain rfl : d = colT L[j] := by
        rw [List.getElem?_map, List.getElem?_eq_getElem hjl] at hj
        exact (Option.some.inj hj).symm
      have hk := hL.k L[j] (List.getElem_mem hjl)
      have nd : L[j].1 ∉ (L.take j).map (·.1) := fun hc => by
        obtain ⟨c, hc, e⟩ := List.mem_map.mp hc
        have h1 := hL.nd
        rw [← List.take_append_drop j L, List.map_append, List.nodup_append] at h1
        refine h1.2.2 c.1 (List.mem_map_of_mem hc) L[j].1 (List.mem_map_of_mem ?_) e
        rw [List.drop_eq_getElem_cons hjl]
        exact List.mem_cons_self
      have et : L.take (j + 1) = L.take j ++ [L[j]] := by
        rw [List.take_succ, List.getElem?_eq_getElem hjl]
        rfl
      have rl : R.length = j := by
        have := congrArg List.length rw_.nm
        rw [List.length_map, List.length_map, List.length_take] at this
        omega
      generalize hcol : L[j] = c at hk nd et
      obtain ⟨p, k, fl⟩ := c
      have fin : ∀ (S1 : Store) (v : D) (o5 o6 o7 o8 : Option D), Go n S' S1 → (v = .non ∨ Vn v k) → NrI n S.length L s.enc vs S (j + 1) [some (.ref n), some (.lst (L.map colT)), some s.enc, some (.ref S.length), some (.lst vs), o5, o6, o7, o8, none] (sp S1 S.length (.dct (putKD (R.map kvD) (.inr p) v))) := fun S1 v o5 o6 o7 o8 g hv => by
        have at1 := g.get at_ (by omega)
        rw [put_new (by rw [rw_.nm]; exact nd)]
        refine .mk ((fr.tr g.two).tr (Fr.put (by simp))) ?_ (sg_sp (sg_lt at1)) ?_
        · obtain ⟨x, y, z, e⟩ := g.we
          exact ⟨x, y, z, (sg_ne (by omega)).trans e⟩
        · rw [et]
          exact rw_.snoc (c := (p, k, fl)) nd hv
      have ez : (R.map kvD).length < sizeLine := Nat.lt_of_lt_of_le (show (R.map kvD).length < 1000 by rw [List.length_map]; omega) (sz (n := 1000) (by omega))
      refine ⟨_, rfl, ?_⟩
      have pa := fun (S1 : Store) (v : D) (g : Go n S' S1) => putA_dct (n := S.length) (y := .str p) (v := v) (k := .inr p) (g.get at_ (show S.length ≠ n by omega)) rfl ez
      have c := comp_pure (it := ⟨vs, none⟩) (p := ptN 9) (t := mTest (mOp eqD (mUn (isiD k_str) (mVar 9)) (mOp eqD (mVar 6) (mC (.str "text"))))) (e := mVar 9) (ρ := [some (.ref n), some (.lst (L.map colT)), some s.enc, some (.ref S.length), some (.lst vs), some (.str p), some (.str k), some (.bl fl), o8, none]) (S := S') grd_none id id (keepB k) vs 0
        (fun v hx => by
          obtain ⟨k', hv'⟩ := va v hx
          simp only [Knd, List.mem_cons, List.not_mem_nil, or_false] at hk
          cases hv' with
          | n i _ => rcases hk with rfl | rfl <;> exact ⟨_, rfl, by simp [keepB, ks_int], fun _ => by simp⟩
          | t x _ _ => rcases hk with rfl | rfl <;> exact ⟨_, rfl, by simp [keepB, ks_str], fun _ => by simp⟩) (sz (by omega))
      simp only [List.map_id] at c
      have hva : ∀ v ∈ vs.filter (keepB k), Va v k := fun v hx => keep_va (va v (List.mem_filter.mp hx).1) (List.mem_filter.mp hx).2
      have hvl : (vs.filter (keepB k)).length ≤ 1000 := Nat.le_trans (List.length_filter_le _ _) (by omega)
      simp [colT, colD, wipeD]
      simp [c]
      generalize hx : fn_law_draw _ _ = x
      obtain ⟨_, S1, rfl, g1, r, rfl, hr⟩ := Ok.g hx (draw (many := 4) we)
      by_cases h0 : r = 0
      · simp [h0, pa _ .non g1]
        exact fin _ _ _ _ _ _ g1 (.inl rfl)
      · simp [h0]
        generalize hx : fn_law_near_value _ _ = x
        obtain ⟨v, S2, rfl, g2, hv⟩ := Ok.g hx (near_value_d hk hva hvl g1.we)
        simp [pa _ v (g1.tr g2)]
        exact fin _ _ _ _ _ _ (g1.tr g2) (.inr hv)) (.mk (R := []) (Fr.ext .one) w1 sg_new ⟨rfl, (fun r hr => by cases hr), (fun c hc => by cases hc)⟩))
  cases I4 with
  | @mk R o5 o6 o7 o8 _ fr we at_ rw_ =>
  simp
  refine ⟨.of2 fr (Nat.le_refl _) we, R, at_, ?_⟩
  rw [List.length_map, List.take_length] at rw_
  exact rw_
end
end G
namespace G
open PySem L2
/-! ### repr of a row -/
def vP : D → PyData
  | .int i => .int i
  | .str x => .str x
  | _ => .none
def kP (r : Str × D) : PyData × PyData := (.str r.1, vP r.2)
def Sc (v : D) : Prop := v = .non ∨ ∃ k, Vn v k
theorem Sc.sh {v : D} {S : Store} {n : Nat} (h : Sc v) : shD S (n + 1) v = some (vP v) := by
  rcases h with rfl | ⟨k, h⟩
  · rfl
  · cases h <;> rfl
theorem mapO_map {α β γ : Type} {f : β → Option γ} {g : α → β} {h : α → γ} : ∀ {l : List α}, (∀ r ∈ l, f (g r) = some (h r)) → mapO f (l.map g) = some (l.map h)
  | [], _ => rfl
  | r :: l, H => by
    rw [List.map_cons, List.map_cons]
    unfold mapO
    rw [H r (by simp), mapO_map fun x hx => H x (by simp [hx])]
theorem big_log {n : Nat} (h : n ≤ 2000000000000000000000000000000) : n.log2 < 101 := by
  by_cases h0 : n = 0
  · subst h0; decide
  · exact (Nat.log2_lt h0).mpr (Nat.lt_of_le_of_lt h (by decide))
theorem Sc.ok {v : D} (h : Sc v) : okc (vP v) = true ∧ wdt (vP v) ≤ 110 ∧ noL (vP v) = true ∧ (vP v).depth = 0 := by
  rcases h with rfl | ⟨k, h⟩
  · exact ⟨rfl, by decide, rfl, rfl⟩
  · cases h with
    | n i hi =>
      have := big_log hi
      refine ⟨decide_eq_true (by omega), ?_, rfl, rfl⟩
      show i.natAbs.log2 + 2 ≤ 110
      omega
    | t x hx h1 =>
      refine ⟨txB_ok h1, ?_, rfl, rfl⟩
      show 10 * x.length + 2 ≤ 110
      omega
structure RwS (R : List (Str × D)) : Prop where
  sc : ∀ r ∈ R, Sc r.2
  ok : ∀ r ∈ R, PyData.strOk r.1 = true
  le : ∀ r ∈ R, r.1.length ≤ 20
  ln : R.length ≤ 100
theorem RwS.okk : ∀ {R : List (Str × D)}, (∀ r ∈ R, Sc r.2) → (∀ r ∈ R, PyData.strOk r.1 = true) → (∀ r ∈ R, r.1.length ≤ 20) → okck (R.map kP) = true ∧ wdtk (R.map kP) ≤ 400 * R.length ∧ noLk (R.map kP) = true ∧ PyData.depthKv (R.map kP) = 0
  | [], _, _, _ => ⟨rfl, Nat.le_refl _, rfl, rfl⟩
  | r :: R, h1, h2, h3 => by
    obtain ⟨a1, a2, a3, a4⟩ := RwS.okk (R := R) (fun x hx => h1 x (by simp [hx])) (fun x hx => h2 x (by simp [hx])) (fun x hx => h3 x (by simp [hx]))
    obtain ⟨b1, b2, b3, b4⟩ := (h1 r (by simp)).ok
    have c1 : okc (.str r.1) = true := h2 r (by simp)
    have c2 : wdt (.str r.1) = 10 * r.1.length + 2 := by rw [wdt]
    have c3 := h3 r (by simp)
    rw [List.map_cons]
    show okck ((.str r.1, vP r.2) :: R.map kP) = true ∧ wdtk ((.str r.1, vP r.2) :: R.map kP) ≤ _ ∧ noLk ((.str r.1, vP r.2) :: R.map kP) = true ∧ PyData.depthKv ((.str r.1, vP r.2) :: R.map kP) = 0
    refine ⟨?_, ?_, ?_, ?_⟩
    · rw [okck, a1, b1, c1]; rfl
    · rw [wdtk, List.length_cons]; omega
    · rw [noLk, a3, b3]; rfl
    · rw [PyData.depthKv, a4, b4]; rfl
theorem RwS.repr {R : List (Str × D)} (h : RwS R) (S : Store) : reprD [.dct (R.map kvD)] S = .ok (.str (PyData.dict (R.map kP)).shown) S := by
  have e : shD S 50 (.dct (R.map kvD)) = some (.dict (R.map kP)) := by
    unfold shD
    rw [mapO_map (h := kP) fun r hr => by
      show (shD S 49 r.2).map _ = _
      rw [(h.sc r hr).sh (n := 48)]
      rfl]
    rfl
  obtain ⟨a1, a2, a3, a4⟩ := RwS.okk h.sc h.ok h.le
  have hl := h.ln
  refine repr_run e (shOk_of (by rw [okc]; exact a1) (fun _ => by rw [noL]; exact a3) ?_ ?_)
  · rw [wdt]; omega
  · rw [PyData.depth, a4]; decide
theorem further_ok : PyData.strOk ("further" : Str) = true ∧ ("further" : Str).length ≤ 20 := by decide +kernel
/-- a near row, and one column more -/
abbrev furR (R : List (Str × D)) : List (Str × D) := R ++ [(("further" : Str), D.int 7)]
theorem RwG.sho {L : List Col} {R : List (Str × D)} (hL : LayOk L) (h : RwG L R) : RwS (furR R) := by
  have nm := fun r (hr : r ∈ R) => show ∃ c ∈ L, c.1 = r.1 from by
    have : r.1 ∈ L.map (·.1) := by rw [← h.nm]; exact List.mem_map_of_mem hr
    exact List.mem_map.mp this
  have ln : R.length = L.length := by
    have := congrArg List.length h.nm
    simpa using this
  refine ⟨fun r hr => ?_, fun r hr => ?_, fun r hr => ?_, ?_⟩
  · rcases List.mem_append.mp hr with hr | hr
    · exact h.sh r hr
    · rw [List.mem_singleton.mp hr]; exact .inr ⟨_, .n 7 (by decide)⟩
  · rcases List.mem_append.mp hr with hr | hr
    · obtain ⟨c, hc, e⟩ := nm r hr
      rw [← e]; exact (hL.p c hc).so
    · rw [List.mem_singleton.mp hr]; exact further_ok.1
  · rcases List.mem_append.mp hr with hr | hr
    · obtain ⟨c, hc, e⟩ := nm r hr
      rw [← e]; exact hL.sh c hc
    · rw [List.mem_singleton.mp hr]; exact further_ok.2
  · have := hL.h90
    rw [List.length_append, ln]
    show L.length + 1 ≤ 100
    omega
end G
namespace G
open PySem L2
/-! ### rows by which tests are asked; rows that lack a path -/
def rwM (M : List (Str × D)) (p : Str) : D := (valK (M.map kvD) (.inr p)).getD .non
structure RowF (L : List Col) (M : List (Str × D)) : Prop where
  nd : (M.map (·.1)).Nodup
  cov : ∀ c ∈ L, ∃ v, valK (M.map kvD) (.inr c.1) = some v ∧ (v = .non ∨ Vn v c.2.1)
  ln : M.length ≤ 100
theorem RwG.row {L : List Col} {R : List (Str × D)} (hL : LayOk L) (h : RwG L R) : RowF L (furR R) := by
  have nf : ("further" : Str) ∉ L.map (·.1) := fun hc => by
    obtain ⟨c, hc, e⟩ := List.mem_map.mp hc
    exact hL.zz c hc e
  refine ⟨?_, fun c hc => ?_, ?_⟩
  · rw [List.map_append, h.nm, List.nodup_append]
    refine ⟨hL.nd, by simp, fun a ha b hb e => ?_⟩
    simp only [List.map_cons, List.map_nil, List.mem_singleton] at hb
    rw [e, hb] at ha
    exact nf ha
  · obtain ⟨v, h1, h2⟩ := h.at_ c hc
    refine ⟨v, ?_, h2⟩
    rw [show (furR R).map kvD = R.map kvD ++ [(.inr "further", .int 7)] by rw [List.map_append]; rfl, valK_app, h1]
    rfl
  · exact (h.sho hL).ln
theorem ty_pl {L : List Col} {s : Sp} (ht : s.ty L) : ∀ p ∈ s.pl, ∃ k, Kin L p k := by
  intro p hp
  obtain ⟨l, hl, hp⟩ := List.mem_flatten.mp hp
  obtain ⟨a, ha, rfl⟩ := List.mem_map.mp hl
  cases ht a ha with
  | cmp c1 c2 => rw [List.mem_singleton.mp hp]; exact ⟨_, c1⟩
  | agn c1 c2 c3 =>
    simp only [At.pth, List.mem_cons, List.not_mem_nil, or_false] at hp
    rcases hp with rfl | rfl
    · exact ⟨_, c1⟩
    · exact ⟨_, c2⟩
  | amg c1 c2 c3 => rw [List.mem_singleton.mp hp]; exact ⟨_, c1⟩
  | bgn c1 c2 => rw [List.mem_singleton.mp hp]; exact ⟨_, c1⟩
  | emp c1 => rw [List.mem_singleton.mp hp]; exact ⟨_, c1⟩
  | cst => cases hp
theorem RowF.ok {L : List Col} {M : List (Str × D)} {s : Sp} (h : RowF L M) (hw : s.wf) (ht : s.ty L) : s.ok (rwM M) := by
  have pl : ∀ {p k : Str}, Kin L p k → Plc1 (rwM M) p k := fun {p k} ⟨f, hf⟩ => by
    obtain ⟨v, h1, h2⟩ := h.cov _ hf
    have e : rwM M p = v := by unfold rwM; rw [h1]; rfl
    unfold Plc1
    rw [e]
    exact h2.imp id Vn.val
  intro a ha
  have w := hw a ha
  cases ht a ha with
  | cmp c1 c2 => cases w with | cmp w1 w2 w3 => exact .cmp w2 c2.val (pl c1)
  | agn c1 c2 c3 => cases w with | agn w1 w2 w3 w4 => exact .agn w2 c3 (pl c1) (pl c2)
  | amg c1 c2 c3 => exact .amg (fun v hv => (c2 v hv).val) (pl c1)
  | bgn c1 c2 => exact .bgn (pl c1)
  | emp c1 => exact .emp
  | cst => cases w with | cst w1 => exact .cst w1
theorem RowF.at_ {L : List Col} {M : List (Str × D)} {s : Sp} (h : RowF L M) (ht : s.ty L) : ∀ p ∈ s.pl, valK (M.map kvD) (.inr p) = some (rwM M p) := by
  intro p hp
  obtain ⟨k, f, hf⟩ := ty_pl ht p hp
  obtain ⟨v, h1, h2⟩ := h.cov _ hf
  have h1 : valK (M.map kvD) (.inr p) = some v := h1
  unfold rwM
  rw [h1]
  rfl
abbrev rowD (M : List (Str × D)) : D := .dct (M.map kvD)
theorem RowF.rat {L : List Col} {M : List (Str × D)} {s : Sp} {S : Store} (h : RowF L M) (ht : s.ty L) : RowAt S (rowD M) (rwM M) s.pl := ⟨_, .inl rfl, h.at_ ht⟩
abbrev bR (d : D) : Exc := ⟨"BadRow", [("column", d)]⟩
section
variable {S : Store}
/-- what is no dict -/
theorem truth_nd {s : Sp} {d : D} {k : Kd} (h : kd S d = some k) (hk : k_dict k = false) : fn_Test_truth [s.t, d] S = .exc (bR .non) S := by
  unfold fn_Test_truth
  rw [run_eq]
  simp only [sem_Test_truth, startD]
  simp [h, hk]
  rfl
theorem lack_loop {it : Itb} {o0 : Option D} {row : D} {p0 : Str} {post : List Str} {b : MS} (hb : b = sIf (mTest (mOp notInA (mVar 2) (mVar 1))) (sRaise "BadRow" 2 2 [("column", 1)] (mCons (mVar 2) mNil)) sPass) (hg : Grd it S) (h1 : notInA (.str p0) row S = .ok (.bl true) S) : ∀ (pre : List Str) (o2 : Option D), (∀ p ∈ pre, notInA (.str p) row S = .ok (.bl false) S) →
    ∃ ρ', forL it (ptN 2) b ((pre ++ p0 :: post).map D.str) [o0, some row, o2] S = .exc (bR (.str p0)) ρ' S
  | [], o2, _ => by
    subst hb
    rw [List.nil_append, List.map_cons, for_consG (ρ1 := [o0, some row, some (.str p0)]) hg rfl]
    rw [v_notInA] at h1
    refine ⟨[o0, some row, some (.str p0)], ?_⟩
    simp [h1]
    rfl
  | p :: pre, o2, h => by
    obtain ⟨ρ', ih⟩ := lack_loop (o0 := o0) (post := post) hb hg h1 pre (some (.str p)) fun q hq => h q (by simp [hq])
    have h2 := h p (by simp)
    rw [v_notInA] at h2
    refine ⟨ρ', ?_⟩
    rw [List.cons_append, List.map_cons, for_consG (ρ1 := [o0, some row, some (.str p)]) hg rfl]
    subst hb
    simp [h2]
    simp only [List.map_append, List.map_cons] at ih
    exact ih
/-- the first path that a row lacks -/
theorem truth_lack {s : Sp} {kvs : List (Key × D)} {pre post : List Str} {p0 : Str} (hw : s.wf) (hh : s.ht < 20) (hz : s.lv.length ≤ 1000) (ha : Asc s.pl (pre ++ p0 :: post)) (h0 : valK kvs (.inr p0) = none) (hp : ∀ p ∈ pre, (valK kvs (.inr p)).isSome = true) :
    ∃ S', fn_Test_truth [s.t, .dct kvs] S = .exc (bR (.str p0)) S' ∧ Fr [] S S' := by
  have hp2 := paths_ok (S := S) hw (by omega) hz
  obtain ⟨d, S1, e, f1, a, L, rfl, at1, asc⟩ := hp2.ex
  have eL := asc.uniq ha
  subst eL
  have n0 : notInA (.str p0) (.dct kvs) S1 = .ok (.bl true) S1 := by
    rw [v_notInA]
    show Res.ok (D.bl (!(valK kvs (.inr p0)).isSome)) S1 = _
    rw [h0]
    rfl
  have n1 : ∀ p ∈ pre, notInA (.str p) (.dct kvs) S1 = .ok (.bl false) S1 := fun p hp3 => by
    rw [v_notInA]
    show Res.ok (D.bl (!(valK kvs (.inr p)).isSome)) S1 = _
    rw [hp p hp3]
    rfl
  refine ⟨S1, ?_, f1⟩
  have es := s.t_eq
  rw [es] at e ⊢
  unfold fn_Test_truth
  rw [run_eq]
  simp only [sem_Test_truth, startD]
  obtain ⟨ρ', el⟩ := lack_loop (o0 := some (tst s.knd s.dat (s.ps.map Sp.t))) (post := post) rfl (grd_some at1) n0 pre none n1
  simp [k_dict, e, at1]
  simp at el
  rw [el]
  rfl
theorem fault_ok {s : Sp} {row : D} {rw : Str → D} (hw : s.wf) (ho : s.ok rw) (hh : s.ht < 20) (hz : s.lv.length ≤ 1000) (hr : RowAt S row rw s.pl) : Ok (fn_law_fault [s.t, row] S) fun d S' => d = oD (s.tr rw) ∧ Fr [] S S' := by
  obtain ⟨d, S1, e, rfl, f1⟩ := (truth_ok hw ho hh hz hr).ex
  have es := s.t_eq
  rw [es] at e ⊢
  unfold fn_law_fault
  rw [run_eq]
  simp only [sem_law_fault, startD]
  simp [e]
  exact f1
theorem fault_bad {s : Sp} {row c : D} {S1 : Store} (e : fn_Test_truth [s.t, row] S = .exc (bR c) S1) (hx : xf c = true) : fn_law_fault [s.t, row] S = .ok (.tup [.str "bad", c]) S1 := by
  have es := s.t_eq
  rw [es] at e ⊢
  unfold fn_law_fault
  rw [run_eq]
  simp only [sem_law_fault, startD]
  have hx2 : xf (.tup [.str "bad", c]) = true := by
    show (xf (.str "bad") && (xf c && xfL [])) = true
    rw [hx]
    rfl
  simp [e, hx2]
end
end G
namespace G
open PySem L2
/-! ### what a test says of rows that lack something -/
theorem mrg_app : ∀ (l acc : List (Str × D)), ((acc ++ l).map (·.1)).Nodup → (l.map kvD).foldl (fun a kv => putKD a kv.1 kv.2) (acc.map kvD) = (acc ++ l).map kvD
  | [], acc, _ => by simp
  | r :: l, acc, h => by
    rw [List.map_cons, List.foldl_cons]
    have hn : r.1 ∉ acc.map (·.1) := fun hc => by
      rw [List.map_append, List.nodup_append] at h
      exact h.2.2 _ hc r.1 (by simp) rfl
    show (l.map kvD).foldl _ (putKD (acc.map kvD) (.inr r.1) r.2) = _
    rw [put_new hn]
    have := mrg_app l (acc ++ [(r.1, r.2)]) (by simpa using h)
    simpa using this
theorem mrg_nd {l : List (Str × D)} (h : (l.map (·.1)).Nodup) : mrgD (l.map kvD) = l.map kvD := mrg_app l [] (by simpa using h)
theorem pairs_kv : ∀ l : List (Str × D), pairsO (l.map fun r => D.tup [.str r.1, r.2]) = some (l.map kvD)
  | [] => rfl
  | r :: l => by
    rw [List.map_cons, List.map_cons]
    unfold pairsO
    rw [pairs_kv l]
    rfl
theorem scVs_strW : ∀ ps : List Str, scVs (ps.map D.str) = some (ps.map V.str)
  | [] => rfl
  | p :: ps => by
    rw [List.map_cons, List.map_cons]
    unfold scVs
    rw [scVs_strW ps]
    rfl
theorem inV_strW (p : Str) : ∀ ps : List Str, inV (.str p) (ps.map V.str) = decide (p ∈ ps)
  | [] => rfl
  | q :: ps => by
    have h := inV_strW p ps
    unfold inV at h ⊢
    rw [List.map_cons, List.any_cons, h]
    have e : eqV (.str q) (.str p) = decide (q = p) := rfl
    rw [e]
    by_cases hq : q = p
    · simp [hq]
    · simp [hq, Ne.symm hq]
theorem notin_lst {S : Store} {p : Str} {ps : List Str} : notInD (.str p) (.lst (ps.map D.str)) S = .ok (.bl (!decide (p ∈ ps))) S := by
  have e : inB S (.str p) (.lst (ps.map D.str)) = some (decide (p ∈ ps)) := by
    show (match scV (.str p), scVs (ps.map D.str) with
      | some v, some vs => some (inV v vs)
      | _, _ => none) = _
    rw [scVs_strW, ← inV_strW]
    rfl
  unfold notInD
  rw [e]
  rfl
theorem valK_cons {r : Str × D} {l : List (Str × D)} {p : Str} : valK ((r :: l).map kvD) (.inr p) = if r.1 = p then some r.2 else valK (l.map kvD) (.inr p) := by
  unfold valK
  rw [List.map_cons, List.find?_cons]
  by_cases h : r.1 = p
  · simp [h]
  · have : decide ((kvD r).1 = (.inr p : Key)) = false := decide_eq_false fun e => h (Sum.inr.inj e)
    rw [this, if_neg h]
theorem valK_nd : ∀ {M : List (Str × D)}, (M.map (·.1)).Nodup → ∀ r ∈ M, valK (M.map kvD) (.inr r.1) = some r.2
  | q :: M, h, r, hr => by
    rw [List.map_cons, List.nodup_cons] at h
    rw [valK_cons]
    rcases List.mem_cons.mp hr with hr | hr
    · rw [hr, if_pos rfl]
    · rw [if_neg fun e => h.1 (by rw [e]; exact List.mem_map_of_mem hr)]
      exact valK_nd h.2 r hr
theorem valK_filter {G : List Str} {p : Str} : ∀ M : List (Str × D), valK ((M.filter fun r => !decide (r.1 ∈ G)).map kvD) (.inr p) = if p ∈ G then none else valK (M.map kvD) (.inr p)
  | [] => by
    by_cases h : p ∈ G
    · rw [if_pos h]; rfl
    · rw [if_neg h]; rfl
  | r :: M => by
    have ih := valK_filter (G := G) (p := p) M
    rw [valK_cons]
    by_cases hr : r.1 ∈ G
    · rw [List.filter_cons_of_neg (by simpa using hr), ih]
      by_cases h : p ∈ G
      · rw [if_pos h, if_pos h]
      · rw [if_neg h, if_neg h, if_neg fun e => h (by rw [← e]; exact hr)]
    · rw [List.filter_cons_of_pos (by simpa using hr), valK_cons, ih]
      by_cases e : r.1 = p
      · rw [if_pos e, if_pos e, if_neg (e ▸ hr)]
      · rw [if_neg e, if_neg e]
theorem first_of {q : Str} {G : List Str} : ∀ {L : List Str}, L.Nodup → (q :: G).Sublist L → ∃ pre post, L = pre ++ q :: post ∧ ∀ p ∈ pre, p ∉ q :: G
  | [], _, h => by cases h
  | a :: L, nd, h => by
    rw [List.nodup_cons] at nd
    cases h with
    | cons _ h =>
      obtain ⟨pre, post, e, hp⟩ := first_of nd.2 h
      refine ⟨a :: pre, post, by rw [e]; rfl, fun p hp2 => ?_⟩
      rcases List.mem_cons.mp hp2 with hp2 | hp2
      · rw [hp2]
        exact fun hc => nd.1 (h.subset hc)
      · exact hp p hp2
    | cons_cons _ h => exact ⟨[], L, rfl, fun p hp => by cases hp⟩
section
variable {n : Nat} {S : Store}
theorem nd_len2 : ∀ {l m : List Str}, l.Nodup → (∀ x ∈ l, x ∈ m) → l.length ≤ m.length
  | [], _, _, _ => Nat.zero_le _
  | a :: l, m, hn, hs => by
    have ha := hs a (by simp)
    have hn' := List.nodup_cons.mp hn
    have ih := nd_len2 (m := m.erase a) hn'.2 fun x hx => (List.mem_erase_of_ne (fun e : x = a => hn'.1 (by rw [← e]; exact hx))).mpr (hs x (by simp [hx]))
    have hl := List.length_erase_of_mem ha
    have : 0 < m.length := List.length_pos_of_mem ha
    simp only [List.length_cons]
    omega
theorem pl_so {s : Sp} (hw : s.wf) : ∀ p ∈ s.pl, PyData.strOk p = true := by
  intro p hp
  obtain ⟨l, hl, hp⟩ := List.mem_flatten.mp hp
  obtain ⟨a, ha, rfl⟩ := List.mem_map.mp hl
  cases hw a ha with
  | cmp h1 _ _ => rw [List.mem_singleton.mp hp]; exact h1.so
  | agn h1 _ h2 _ =>
    simp only [At.pth, List.mem_cons, List.not_mem_nil, or_false] at hp
    rcases hp with rfl | rfl
    · exact h1.so
    · exact h2.so
  | amg h1 _ _ _ => rw [List.mem_singleton.mp hp]; exact h1.so
  | bgn h1 _ _ => rw [List.mem_singleton.mp hp]; exact h1.so
  | emp h1 => rw [List.mem_singleton.mp hp]; exact h1.so
  | cst _ => cases hp
theorem eq_oD2 {o : Option Bool} : eqB S (oD o) (oD o) = some true := by
  rcases o with _ | _ | _ <;> rfl
theorem ok_bad : PyData.strOk ("bad" : Str) = true := by decide +kernel
theorem eq_bad {q : Str} (h : PyData.strOk q = true) : eqB S (.tup [.str "bad", .str q]) (.tup [.str "bad", .str q]) = some true := by
  have p : Pl 1 (.tup [.str "bad", .str q]) := .tup fun d hd => by
    simp only [List.mem_cons, List.not_mem_nil, or_false] at hd
    rcases hd with rfl | rfl
    · exact .str ok_bad
    · exact .str h
  rw [p.eqB p (by decide) (by decide)]
  simp
def lessM (G : List Str) (M : List (Str × D)) : List (Str × D) := M.filter fun r => !decide (r.1 ∈ G)
theorem lacking_ok {L : List Col} {s : Sp} {M : List (Str × D)} (hw : s.wf) (ht : s.ty L) (hh : s.ht < 20) (hz : s.lv.length ≤ 1000) (hM : RowF L M) (h : WellAt n S) :
    Ok (fn_law_lacking_right [.ref n, s.t, rowD M] S) fun d S' => d = .bl true ∧ Go n S S' := by
  have hn : n < S.length := by
    obtain ⟨a, b, c, e⟩ := h
    exact sg_lt e
  have es := s.t_eq
  have ho := hM.ok hw ht
  have hlM := hM.ln
  unfold fn_law_lacking_right
  rw [run_eq]
  simp only [sem_law_lacking_right, startD]
  simp
  generalize hx : fn_law_pick _ _ = x
  obtain ⟨d, S1, rfl, g1, hd⟩ := Ok.g hx (pick [.non, .lst [], .str "a", .int 3, .bl true, .tup [.int 1], .lst [rowD M]] h (by simp) (by simp))
  have hk : ∃ k, kd S1 d = some k ∧ k_dict k = false := by
    simp only [List.mem_cons, List.not_mem_nil, or_false] at hd
    rcases hd with rfl | rfl | rfl | rfl | rfl | rfl | rfl <;> exact ⟨_, rfl, rfl⟩
  obtain ⟨k, k1, k2⟩ := hk
  have f0 := fault_bad (s := s) (truth_nd (S := S1) (s := s) k1 k2) rfl
  have n1 : eqB S1 (.tup [.str "bad", .non]) (.tup [.str "bad", .non]) = some true := by
    show (if (SeqAt.shaped (.tuple [.str "bad", .none]) && SeqAt.shaped (.tuple [.str "bad", .none])) = true then some (PyData.eqv (.tuple [.str "bad", .none]) (.tuple [.str "bad", .none])) else none) = some true
    decide +kernel
  obtain ⟨_, S2, e2, f2, a, L1, rfl, at1, asc⟩ := (paths_ok (S := S1) hw (by omega) hz).ex
  have g2 := g1.fr0 f2
  rw [es] at f0 e2 ⊢
  simp [f0, n1, e2]
  by_cases hL1 : L1 = []
  · subst hL1
    have hpl : ∀ p ∈ s.pl, False := fun p hp => by cases (asc.mem p).mpr hp
    obtain ⟨_, S3, e3, rfl, f3⟩ := (fault_ok (S := S2) (row := .dct []) (rw := rwM M) hw ho hh hz ⟨[], .inl rfl, fun p hp => (hpl p hp).elim⟩).ex
    obtain ⟨_, S4, e4, rfl, f4⟩ := (truth_ok (S := S3) hw ho hh hz (hM.rat ht)).ex
    rw [es] at e3 e4
    simp [at1, e3, e4, eq_oD2]
    exact (g2.fr0 f3).fr0 f4
  · have ne1 : L1.isEmpty = false := by cases L1 <;> simp_all
    have na : a ≠ n := by
      intro e
      subst e
      obtain ⟨x, y, z, q⟩ := g2.we
      rw [q] at at1
      injection at1 with at1
      injection at1 with at1
      have := congrArg (fun l : List D => l.head?) at1
      cases L1 with
      | nil => cases this
      | cons p l => cases this
    simp [at1, ne1, wipeD]
    have g2w := g2.we
    generalize hv : compL _ _ _ _ _ _ _ _ = v
    obtain ⟨ys, S3, e3, I3⟩ := comp_gen (it := ⟨L1.map D.str, some a⟩) (p := ptN 6) (t := mTest (mOp eqD (mFn (ar 2 fn_law_draw) (mCons (mVar 0) (mCons (mC (.int 2)) mNil))) (mC (.int 0)))) (e := mVar 6) (ρ := [some (.ref n), some (tst s.knd s.dat (s.ps.map Sp.t)), some (rowD M), some (.ref a), none, none, none])
      (fun j ys S' => Go n S2 S' ∧ ∃ K : List Str, ys = K.map D.str ∧ K.Sublist (L1.take j)) (L1.map D.str) 0 0 [] S2
      (fun j d hj ys S' hI => by
        obtain ⟨g, K, rfl, hK⟩ := hI
        have hjl : j < L1.length := by
          have := (List.getElem?_eq_some_iff.mp hj).1
          simpa using this
        obtain rfl : d = .str L1[j] := by
          rw [List.getElem?_map, List.getElem?_eq_getElem hjl] at hj
          exact (Option.some.inj hj).symm
        refine ⟨grd_some (g.get at1 na), _, rfl, ?_⟩
        obtain ⟨_, S5, e5, g5, r, rfl, hr⟩ := (draw (many := 2) g.we).ex
        have et : L1.take (0 + j + 1) = L1.take (0 + j) ++ [L1[j]] := by
          rw [Nat.zero_add, List.take_succ, List.getElem?_eq_getElem hjl]
          rfl
        by_cases h0 : r = 0
        · refine ⟨true, S5, by simp [e5, h0], .inr ⟨rfl, .str L1[j], S5, by simp, g.tr g5, K ++ [L1[j]], by rw [List.map_append]; rfl, ?_⟩⟩
          rw [et]
          exact hK.append (List.Sublist.refl _)
        · refine ⟨false, S5, by simp [e5, h0], .inl ⟨rfl, g.tr g5, K, rfl, ?_⟩⟩
          rw [et]
          exact hK.trans (List.sublist_append_left _ _))
      (fun ys S' hI => grd_some (hI.1.get at1 na)) (by
        rw [List.length_map]
        have : L1.length ≤ 2000 := by
          have h1 := nd_len2 asc.nd fun x hx => (asc.mem x).mp hx
          have h2 := plA_len s.lv
          have h3 : s.pl.length ≤ 2 * s.lv.length := h2
          omega
        exact sz (by omega)) ⟨.rf g2w, [], rfl, List.nil_sublist _⟩
    rw [e3] at hv
    subst hv
    obtain ⟨g3, K, eK, hK⟩ := I3
    rw [List.nil_append] at eK
    subst eK
    rw [List.length_map, Nat.zero_add, List.take_length] at hK
    simp [wipeD]
    have c := comp_pure (it := ⟨M.map fun r => D.str r.1, none⟩) (p := ptN 6) (t := mTest (mOp notInD (mVar 6) (mVar 4))) (e := mFn tupD (mCons (mVar 6) (mCons (mOp ixA (mVar 2) (mVar 6)) mNil))) (ρ := [some (.ref n), some (tst s.knd s.dat (s.ps.map Sp.t)), some (rowD M), some (.ref a), some (.lst (K.map D.str)), none, none]) (S := S3) grd_none (fun r : Str × D => .str r.1) (fun r => .tup [.str r.1, r.2]) (fun r => !decide (r.1 ∈ K)) M 0
      (fun r hr => by
        have q1 := notin_lst (S := S3) (p := r.1) (ps := K)
        have q2 := valK_nd hM.nd r hr
        refine ⟨_, rfl, ?_, fun _ => ?_⟩
        · simp [q1]
        · simp [q2]) (sz (by omega))
    have dp : dctP dlv [.lst ((M.filter fun r => !decide (r.1 ∈ K)).map fun r => .tup [.str r.1, r.2])] S3 = .ok (.ref S3.length) (S3 ++ [.dct ((lessM K M).map kvD)]) := by
      unfold dctP
      show (match pairsO ((lessM K M).map fun r => .tup [.str r.1, r.2]) with
        | some l => dlv (mrgD l) S3
        | none => .stk) = _
      rw [pairs_kv]
      show dlv (mrgD ((lessM K M).map kvD)) S3 = _
      have nl : ((lessM K M).map (·.1)).Nodup := ((List.filter_sublist (p := fun r : Str × D => !decide (r.1 ∈ K)) (l := M)).map (·.1)).nodup hM.nd
      rw [mrg_nd nl]
      rfl
    have ek : M.map ((fun kv : Key × D => keyD kv.1) ∘ kvD) = M.map fun r => D.str r.1 := rfl
    have f4 : Fr [] S3 (S3 ++ [.dead]) := Fr.ext .one
    have fz := frzR_ok (sg_new (S := S3) (mo := .dct ((lessM K M).map kvD)))
    have g4 := (g2.tr g3).fr0 f4
    rw [ek]
    simp [c, dp, fz]
    cases K with
    | nil =>
      simp
      exact g4
    | cons q K =>
      obtain ⟨pre, post, eL, hp⟩ := first_of asc.nd hK
      rw [eL] at asc
      have hq : q ∈ s.pl := (asc.mem q).mp (by simp)
      have hv : ∀ p, valK ((lessM (q :: K) M).map kvD) (.inr p) = if p ∈ q :: K then none else valK (M.map kvD) (.inr p) := fun p => valK_filter M
      obtain ⟨S5, e5, f5⟩ := truth_lack (S := S3 ++ [.dead]) (kvs := (lessM (q :: K) M).map kvD) hw hh hz asc (by rw [hv, if_pos (by simp)]) (fun p hp2 => by
        rw [hv, if_neg (hp p hp2), hM.at_ ht p ((asc.mem p).mp (by simp [hp2]))]
        rfl)
      have f6 := fault_bad e5 rfl
      rw [es] at f6
      have e7 := eq_bad (S := S5) (pl_so hw q hq)
      simp [f6, atI_0, e7]
      exact g4.fr0 f5
end
end G
namespace G
open PySem L2
/-! ### tests that are made, and joined -/
/-- what a function answers that makes a test -/
def MkT (s : Sp) (r : Res D) (S : Store) : Prop := Ok r fun d S' => d = s.t ∧ Ext S S'
theorem MkT.ex {s : Sp} {r : Res D} {S : Store} (h : MkT s r S) : ∃ S', r = .ok s.t S' ∧ Ext S S' := by
  obtain ⟨_, S', e, rfl, x⟩ := Ok.ex h
  exact ⟨S', e, x⟩
theorem MkT.of {s : Sp} {r : Res D} {S S' : Store} (e : r = .ok s.t S') (x : Ext S S') : MkT s r S := Ok.of e ⟨rfl, x⟩
theorem MkT.ext {s : Sp} {S S1 : Store} {r : Res D} (e : Ext S S1) (h : MkT s r S1) : MkT s r S := by
  obtain ⟨S', e1, x1⟩ := h.ex
  exact .of e1 (e.tr x1)
/-- a comprehension whose elements are told, while new objects come -/
theorem compX {α : Type} {it : Itb} {p : Pt} {e : M D} {ρ : Sl} {S : Store} (g f : α → D) {xs : List α} {k : Nat} (I : Store → Prop) (hg : ∀ S, I S → Grd it S)
    (h : ∀ x ∈ xs, ∃ ρ1, p (g x) ρ = some ρ1 ∧ ∀ S, I S → Ok (e ρ1 S) fun y S' => y = f x ∧ I S') (hI : I S) (hk : k + xs.length ≤ sizeLine) :
    Ok (compL it p mYes e ρ (xs.map g) k S) fun ys S' => ys = xs.map f ∧ I S' := by
  refine (compI (fun j ys S => ys = (xs.take j).map f ∧ I S) (fun j ys S h => hg S h.2) (fun j d hj => ?_) ⟨by simp, hI⟩ (by rw [List.length_map]; exact hk)).imp fun ys S' h => ?_
  · have hjl : j < xs.length := by
      have := (List.getElem?_eq_some_iff.mp hj).1
      simpa using this
    obtain rfl : d = g xs[j] := by
      rw [List.getElem?_map, List.getElem?_eq_getElem hjl] at hj
      exact (Option.some.inj hj).symm
    obtain ⟨ρ1, hp, he⟩ := h _ (List.getElem_mem hjl)
    refine ⟨ρ1, hp, fun ys S hS => (he S hS.2).imp fun y S' hy => ⟨?_, hy.2⟩⟩
    rw [List.take_succ, List.getElem?_eq_getElem hjl, List.map_append, hS.1, hy.1]
    rfl
  · rw [List.length_map, List.take_length] at h
    exact h
/-! joined from the left -/
def jn (b : Bool) (x y : Sp) : Sp := if b = true then .and x y else .or x y
def jk (b : Bool) : Str := if b = true then "and" else "or"
theorem jn_ht {b : Bool} {x y : Sp} : (jn b x y).ht = max x.ht y.ht + 1 := by cases b <;> rfl
theorem jn_lv {b : Bool} {x y : Sp} : (jn b x y).lv = x.lv ++ y.lv := by cases b <;> rfl
def foldJ (b : Bool) (x : Sp) (l : List Sp) : Sp := l.foldl (jn b) x
theorem foldJ_ht {b : Bool} : ∀ (l : List Sp) (x : Sp), x.ht ≤ (foldJ b x l).ht
  | [], x => Nat.le_refl _
  | y :: l, x => by
    have h := foldJ_ht (b := b) l (jn b x y)
    rw [jn_ht] at h
    show _ ≤ (foldJ b (jn b x y) l).ht
    omega
theorem foldJ_lv {b : Bool} : ∀ (l : List Sp) (x : Sp), (foldJ b x l).lv = x.lv ++ (l.map Sp.lv).flatten
  | [], x => by simp [foldJ]
  | y :: l, x => by
    show (foldJ b (jn b x y) l).lv = _
    rw [foldJ_lv l, jn_lv]
    simp
theorem foldJ_hi {b : Bool} : ∀ (l : List Sp) (x : Sp) (m : Nat), x.ht ≤ m → (∀ y ∈ l, y.ht ≤ m) → (foldJ b x l).ht ≤ m + l.length
  | [], x, m, h, _ => h
  | y :: l, x, m, h, hl => by
    show (foldJ b (jn b x y) l).ht ≤ _
    have := foldJ_hi (b := b) l (jn b x y) (m + 1) (by rw [jn_ht]; have := hl y (by simp); omega) (fun z hz => by have := hl z (by simp [hz]); omega)
    rw [List.length_cons]
    omega
theorem foldJ_fine {b : Bool} {l : List Sp} {x : Sp} (h : (foldJ b x l).fine) : x.fine := by
  obtain ⟨h1, h2⟩ := h
  have := foldJ_ht (b := b) l x
  rw [foldJ_lv, List.length_append] at h1
  exact ⟨by omega, by omega⟩
/-- the tests of a list, joined -/
def joinJ (b : Bool) : List Sp → Sp
  | [] => .lf (.cst (if b = true then "always" else "never"))
  | x :: l => foldJ b x l
theorem joinJ_lv {b : Bool} {l : List Sp} (h : l ≠ []) : (joinJ b l).lv = (l.map Sp.lv).flatten := by
  cases l with
  | nil => exact absurd rfl h
  | cons x l =>
    show (foldJ b x l).lv = _
    rw [foldJ_lv]
    rfl
theorem joinJ_ht {b : Bool} {l : List Sp} {m : Nat} (h : ∀ x ∈ l, x.ht ≤ m) : (joinJ b l).ht ≤ m + l.length := by
  cases l with
  | nil => simp [joinJ, Sp.ht]
  | cons x l =>
    have := foldJ_hi (b := b) l x m (h x (by simp)) fun y hy => h y (by simp [hy])
    show (foldJ b x l).ht ≤ _
    rw [List.length_cons]
    omega
theorem joinJ_wf {b : Bool} {l : List Sp} (h : ∀ x ∈ l, x.wf) : (joinJ b l).wf := by
  cases l with
  | nil =>
    intro a ha
    simp only [joinJ, Sp.lv, List.mem_singleton] at ha
    rw [ha]
    cases b
    · exact .cst (by simp)
    · exact .cst (by simp)
  | cons x l =>
    intro a ha
    rw [joinJ_lv (by simp)] at ha
    obtain ⟨z, hz, ha⟩ := List.mem_flatten.mp ha
    obtain ⟨y, hy, rfl⟩ := List.mem_map.mp hz
    exact h y hy a ha
theorem cut_tail {x : D} {l : List D} : cutD (x :: l) (some 1) none = l := by
  have e1 : HT.sIx (l.length + 1) 0 (some 1) = 1 := by
    unfold HT.sIx
    simp
  have e2 : HT.sIx (l.length + 1) (l.length + 1) none = l.length + 1 := rfl
  unfold cutD
  simp [e1, e2]
section
variable {S : Store}
theorem combine_j {b : Bool} {x y : Sp} (h : (jn b x y).fine) : fn_combine [.str (jk b), x.t, y.t] S = .ok (jn b x y).t (S ++ [.dead]) := by
  cases b
  · exact combine_or h
  · exact combine_and h
theorem join_loop {b : Bool} {d st : D} {bd : MS} (hb : bd = sSet 3 (mFn (ar 3 fn_combine) (mCons (mVar 0) (mCons (mVar 3) (mCons (mVar 4) mNil))))) {all : List D} : ∀ (l : List Sp) (x : Sp) (S : Store) (o : Option D), (foldJ b x l).fine →
    ∃ o' S', forL ⟨all, none⟩ (ptN 4) bd (l.map Sp.t) [some (.str (jk b)), some d, some st, some x.t, o] S = .nx [some (.str (jk b)), some d, some st, some (foldJ b x l).t, o'] S' ∧ Ext S S'
  | [], x, S, o, f => ⟨o, S, for_nil, .rf _⟩
  | y :: l, x, S, o, f => by
    have f' : (foldJ b (jn b x y) l).fine := f
    have c := combine_j (S := S) (foldJ_fine f')
    obtain ⟨kx, dx, px, ex⟩ := x.isIns
    obtain ⟨ky, dy, py, ey⟩ := y.isIns
    rw [List.map_cons, for_cons (ρ1 := [some (.str (jk b)), some d, some st, some x.t, some y.t]) rfl]
    subst hb
    obtain ⟨o', S', h2, e'⟩ := join_loop (b := b) (d := d) (st := st) rfl (all := all) l (jn b x y) (S ++ [.dead]) (some y.t) f'
    refine ⟨o', S', ?_, Ext.one.tr e'⟩
    rw [ex, ey] at c ⊢
    rw [ey] at h2
    simp [c]
    exact h2
/-- a list of tests: frozen, or live -/
inductive LsT (l : List Sp) (S : Store) : D → Prop
  | l : LsT l S (.lst (l.map Sp.t))
  | r {a : Nat} (h : sg S a = some (.lst (l.map Sp.t))) : LsT l S (.ref a)
theorem ints_all {it : Itb} {l : List Sp} {x0 x1 x2 x3 : Option D} (hg : Grd it S) (hl : l.length ≤ 100) : compL it (ptN 4) mYes (mUn (isCD [("Test", true)]) (mVar 4)) [x0, x1, x2, x3, none] (l.map Sp.t) 0 S = .ok (l.map fun _ => .bl true) S := by
  have := comp_pure (it := it) (p := ptN 4) (t := mYes) (e := mUn (isCD [("Test", true)]) (mVar 4)) (ρ := [x0, x1, x2, x3, none]) (S := S) hg Sp.t (fun _ => .bl true) (fun _ => true) l 0 (fun y hy => by
    obtain ⟨ky, dy, py, ey⟩ := y.isIns
    refine ⟨_, rfl, rfl, fun _ => ?_⟩
    rw [ey]
    simp) (sz (by omega))
  rwa [List.filter_eq_self.mpr (fun _ _ => rfl)] at this
theorem all_tr {l : List Sp} : allD [.lst (l.map fun _ => D.bl true)] S = .ok (.bl true) S := by
  show ofO ((blsO (l.map fun _ => .bl true)).map fun bs => D.bl (bs.all id)) S = _
  rw [bls_map (fun _ => true)]
  simp
theorem seq_ref {a : Nat} {xs : List D} (h : sg S a = some (.lst xs)) : fn_is_sequence [.ref a] S = .ok (.bl true) S := by
  unfold fn_is_sequence
  rw [run_eq]
  simp only [sem_is_sequence, startD]
  simp [h]
  rfl
theorem joined_ok {b : Bool} {l : List Sp} {d : D} (hd : LsT l S d) (f : (joinJ b l).fine) (hl : l.length ≤ 100) :
    MkT (joinJ b l) (fn_joined [.str (jk b), d, (joinJ b []).t] S) S := by
  cases hd with
  | l =>
    have c := fun x0 x1 x2 x3 => ints_all (S := S) (it := ⟨l.map Sp.t, none⟩) (l := l) (x0 := x0) (x1 := x1) (x2 := x2) (x3 := x3) grd_none hl
    have ea := all_tr (S := S) (l := l)
    unfold fn_joined
    rw [run_eq]
    simp only [sem_joined, startD]
    cases l with
    | nil =>
      refine .of (S' := S) ?_ (.rf _)
      simp only [List.map_nil] at c ea ⊢
      simp [seq_lst, wipeD, c, ea]
    | cons x l =>
      obtain ⟨o', S', h2, e'⟩ := join_loop (b := b) (d := .lst ((x :: l).map Sp.t)) (st := (joinJ b []).t) rfl (all := l.map Sp.t) l x S none f
      refine .of (S' := S') ?_ e'
      simp only [List.map_cons] at c ea h2 ⊢
      simp [seq_lst, wipeD, c, ea, atI_0, cut_tail, h2]
      rfl
  | @r a h =>
    have c := fun x0 x1 x2 x3 => ints_all (S := S) (it := ⟨l.map Sp.t, some a⟩) (l := l) (x0 := x0) (x1 := x1) (x2 := x2) (x3 := x3) (grd_some h) hl
    have ea := all_tr (S := S) (l := l)
    have sr := seq_ref h
    unfold fn_joined
    rw [run_eq]
    simp only [sem_joined, startD]
    cases l with
    | nil =>
      refine .of (S' := S) ?_ (.rf _)
      simp only [List.map_nil] at c ea h ⊢
      simp [sr, h, wipeD, c, ea]
    | cons x l =>
      obtain ⟨o', S', h2, e'⟩ := join_loop (b := b) (d := .ref a) (st := (joinJ b []).t) rfl (all := l.map Sp.t) l x S none f
      refine .of (S' := S') ?_ e'
      simp only [List.map_cons] at c ea h2 h ⊢
      simp [sr, h, wipeD, c, ea, atI_0, cut_tail, h2]
      rfl
theorem LsT.ext {l : List Sp} {S' : Store} {d : D} (h : LsT l S d) (e : Ext S S') : LsT l S' d := by
  cases h with
  | l => exact .l
  | r h => exact .r (e.get h)
theorem all_of_ok {l : List Sp} {d : D} (hd : LsT l S d) (f : (joinJ true l).fine) (hl : l.length ≤ 100) : MkT (joinJ true l) (fn_all_of [d] S) S := by
  obtain ⟨S', e, x⟩ := (joined_ok (b := true) (hd.ext (.one (m := .dead))) f hl).ex
  have e : fn_joined [.str "and", d, (At.cst "always").t] (S ++ [.dead]) = .ok (joinJ true l).t S' := e
  refine .of (S' := S') ?_ (Ext.one.tr x)
  unfold fn_all_of
  rw [run_eq]
  simp only [sem_all_of, startD]
  simp [always_ok, e]
theorem any_of_ok {l : List Sp} {d : D} (hd : LsT l S d) (f : (joinJ false l).fine) (hl : l.length ≤ 100) : MkT (joinJ false l) (fn_any_of [d] S) S := by
  obtain ⟨S', e, x⟩ := (joined_ok (b := false) (hd.ext (.one (m := .dead))) f hl).ex
  have e : fn_joined [.str "or", d, (At.cst "never").t] (S ++ [.dead]) = .ok (joinJ false l).t S' := e
  refine .of (S' := S') ?_ (Ext.one.tr x)
  unfold fn_any_of
  rw [run_eq]
  simp only [sem_any_of, startD]
  simp [never_ok, e]
/-! the law's own -/
end
end G
namespace G
open PySem L2
/-! ### a turn of the law -/
theorem ghz_ok {i a : Nat} {m : MS} {ρ ρ1 : Sl} {S S1 : Store} {kvs : List (Key × D)} (h : m ρ S = .nx ρ1 S1) (h1 : ρ1[i]? = some (some (.ref a))) (h2 : sg S1 a = some (.dct kvs)) : ghz i m ρ S = .nx (ρ1.set i (some (.dct kvs))) (sp S1 a .dead) := by
  unfold ghz
  rw [h]
  dsimp only
  unfold ghR
  rw [h1]
  dsimp only
  rw [show S1[a]? = some (.dct kvs) from h2]
  rfl
theorem RwG.fur {L : List Col} {R : List (Str × D)} (hL : LayOk L) (h : RwG L R) : putKD (R.map kvD) (.inr "further") (.int 7) = (furR R).map kvD := put_new (by
  rw [h.nm]
  intro hc
  obtain ⟨c, hc, e⟩ := List.mem_map.mp hc
  exact hL.zz c hc e)
section
variable {n : Nat} {S : Store} {L : List Col}
abbrev putF : MS := ghz 6 (sPutA (mVar 6) (mC (.str "further")) (mC (.int 7)))
theorem row_step {s : Sp} (hL : LayOk L) (hw : s.wf) (ht : s.ty L) (hh : s.ht < 20) (hz : s.lv.length ≤ 100) (h : WellAt n S) :
    Ok (fn_law_near_row [.ref n, .lst (L.map colT), s.enc] S) fun d S1 => ∃ (M : List (Str × D)) (T : Str) (S2 : Store), RowF L M ∧ (∀ S, reprD [rowD M] S = .ok (.str T) S) ∧ Go n S S2 ∧ ∀ ρ : Sl, ρ[6]? = some (some d) → ghz 6 (sPutA (mVar 6) (mC (.str "further")) (mC (.int 7))) ρ S1 = .nx (ρ.set 6 (some (rowD M))) S2 := by
  obtain ⟨_, S1, e, g, a, R, rfl, la, at1, hR⟩ := (near_row_d hL hw ht hh hz h).ex
  have ln : R.length = L.length := by
    have := congrArg List.length hR.nm
    simpa using this
  have hh90 := hL.h90
  have ez : (R.map kvD).length < sizeLine := Nat.lt_of_lt_of_le (show (R.map kvD).length < 1000 by rw [List.length_map]; omega) (sz (n := 1000) (by omega))
  have pa := putA_dct (n := a) (y := .str "further") (v := .int 7) (k := .inr "further") at1 rfl ez
  rw [hR.fur hL] at pa
  have la1 := sg_lt at1
  have hn : n < S.length := by
    obtain ⟨x, y, z, q⟩ := h
    exact sg_lt q
  have at2 : sg (sp S1 a (.dct ((furR R).map kvD))) a = some (.dct ((furR R).map kvD)) := sg_sp la1
  refine .of e ⟨furR R, _, sp (sp S1 a (.dct ((furR R).map kvD))) a .dead, hR.row hL, (hR.sho hL).repr, ?_, fun ρ hρ => ?_⟩
  · refine .of2 (a := a) ((g.two.tr (Fr.put (by simp))).tr (Fr.put (by simp))) la ?_
    obtain ⟨x, y, z, q⟩ := g.we
    exact ⟨x, y, z, (sg_ne (by omega)).trans ((sg_ne (by omega)).trans q)⟩
  · refine ghz_ok ?_ hρ at2
    have pa : putA (.ref a) (.str "further") (.int 7) S1 = some (sp S1 a (.dct (R.map kvD ++ [kvD ("further", .int 7)]))) := by simpa using pa
    simp [hρ, pa]
theorem in3 {v : Bool} {a b c : Option Bool} : inD (.bl v) (.lst [oD a, oD b, oD c]) S = .ok (.bl (a == some v || (b == some v || c == some v))) S := by
  rcases a with _ | _ | _ <;> rcases b with _ | _ | _ <;> rcases c with _ | _ | _ <;> cases v <;> rfl
theorem inN3 {a b c : Option Bool} : inD .non (.lst [oD a, oD b, oD c]) S = .ok (.bl (a.isNone || (b.isNone || c.isNone))) S := by
  rcases a with _ | _ | _ <;> rcases b with _ | _ | _ <;> rcases c with _ | _ | _ <;> rfl
def aO (p q : Option Bool) : Option Bool := if (p == some false || q == some false) = true then some false else if (p.isNone || q.isNone) = true then none else some true
def oO (p q : Option Bool) : Option Bool := if (p == some true || q == some true) = true then some true else if (p.isNone || q.isNone) = true then none else some false
theorem aO3 : ∀ a b c : Option Bool, aO (aO a b) c = if (a == some false || (b == some false || c == some false)) = true then some false else if (a.isNone || (b.isNone || c.isNone)) = true then none else some true := by
  rintro (_ | _ | _) (_ | _ | _) (_ | _ | _) <;> rfl
theorem oO3 : ∀ a b c : Option Bool, oO (oO a b) c = if (a == some true || (b == some true || c == some true)) = true then some true else if (a.isNone || (b.isNone || c.isNone)) = true then none else some false := by
  rintro (_ | _ | _) (_ | _ | _) (_ | _ | _) <;> rfl
theorem tr_and3 {rw : Str → D} {x y z : Sp} : (joinJ true [x, y, z]).tr rw = if (x.tr rw == some false || (y.tr rw == some false || z.tr rw == some false)) = true then some false else if ((x.tr rw).isNone || ((y.tr rw).isNone || (z.tr rw).isNone)) = true then none else some true := aO3 _ _ _
theorem tr_or3 {rw : Str → D} {x y z : Sp} : (joinJ false [x, y, z]).tr rw = if (x.tr rw == some true || (y.tr rw == some true || z.tr rw == some true)) = true then some true else if ((x.tr rw).isNone || ((y.tr rw).isNone || (z.tr rw).isNone)) = true then none else some false := oO3 _ _ _
/-- tests as they are drawn here -/
structure Dn (L : List Col) (s : Sp) : Prop where
  wf : s.wf
  ty : s.ty L
  ht : s.ht ≤ 4
  lv : s.lv.length ≤ 16
theorem Dn.truth {s : Sp} {M : List (Str × D)} (d : Dn L s) (hM : RowF L M) : Ok (fn_Test_truth [s.t, rowD M] S) fun d S' => d = oD (s.tr (rwM M)) ∧ Fr [] S S' :=
  truth_ok d.wf (hM.ok d.wf d.ty) (by have := d.ht; omega) (by have := d.lv; omega) (hM.rat d.ty)
theorem Dn.law {s : Sp} {M : List (Str × D)} (d : Dn L s) (hM : RowF L M) : fn_law_truth 20 [s.enc, rowD M] S = .ok (oD (s.tr (rwM M))) S :=
  law_truth_ok 20 s (by have := d.ht; omega) d.wf (hM.ok d.wf d.ty) (hM.rat (S := S) d.ty).ix
theorem Dn.join {x y z : Sp} {b : Bool} (dx : Dn L x) (dy : Dn L y) (dz : Dn L z) : (joinJ b [x, y, z]).fine ∧ (joinJ b [x, y, z]).wf ∧ (joinJ b [x, y, z]).ty L := by
  have hm : ∀ s ∈ [x, y, z], Dn L s := by
    intro s hs
    simp only [List.mem_cons, List.not_mem_nil, or_false] at hs
    rcases hs with rfl | rfl | rfl <;> assumption
  have el : (joinJ b [x, y, z]).lv = x.lv ++ y.lv ++ z.lv := by
    cases b <;> rfl
  have h1 := dx.lv
  have h2 := dy.lv
  have h3 := dz.lv
  refine ⟨⟨?_, ?_⟩, joinJ_wf fun s hs => (hm s hs).wf, fun a ha => ?_⟩
  · rw [el, List.length_append, List.length_append]; omega
  · have := joinJ_ht (b := b) (l := [x, y, z]) (m := 4) fun s hs => (hm s hs).ht
    simp only [List.length_cons, List.length_nil] at this
    omega
  · rw [el] at ha
    rcases List.mem_append.mp ha with ha | ha
    · rcases List.mem_append.mp ha with ha | ha
      · exact dx.ty a ha
      · exact dy.ty a ha
    · exact dz.ty a ha
/-- the truth of a test that is made -/
theorem Dn.truthJ {x y z : Sp} {b : Bool} {M : List (Str × D)} (dx : Dn L x) (dy : Dn L y) (dz : Dn L z) (hM : RowF L M) : Ok (fn_Test_truth [(joinJ b [x, y, z]).t, rowD M] S) fun d S' => d = oD ((joinJ b [x, y, z]).tr (rwM M)) ∧ Fr [] S S' := by
  obtain ⟨f, w, t⟩ := dx.join (b := b) dy dz
  have h1 := f.1
  have ht := joinJ_ht (b := b) (l := [x, y, z]) (m := 4) fun s hs => by
    simp only [List.mem_cons, List.not_mem_nil, or_false] at hs
    rcases hs with rfl | rfl | rfl
    · exact dx.ht
    · exact dy.ht
    · exact dz.ht
  simp only [List.length_cons, List.length_nil] at ht
  exact truth_ok w (hM.ok w t) (by omega) (by omega) (hM.rat t)
theorem all_step {x y z : Sp} {M : List (Str × D)} (dx : Dn L x) (dy : Dn L y) (dz : Dn L z) (hM : RowF L M) : ∃ k d p S1 S2, fn_all_of [.lst [x.t, y.t, z.t]] S = .ok (tst k d p) S1 ∧ fn_Test_truth [tst k d p, rowD M] S1 = .ok (oD ((joinJ true [x, y, z]).tr (rwM M))) S2 ∧ Fr [] S S2 := by
  obtain ⟨S1, e1, f1⟩ := (all_of_ok (S := S) (l := [x, y, z]) (d := .lst [x.t, y.t, z.t]) .l (dx.join (b := true) dy dz).1 (by simp)).ex
  obtain ⟨_, S2, e2, rfl, f2⟩ := (Dn.truthJ (S := S1) (b := true) dx dy dz hM).ex
  rw [Sp.t_eq (joinJ true [x, y, z])] at e1 e2
  exact ⟨_, _, _, S1, S2, e1, e2, (Fr.ext f1).tr f2⟩
theorem any_step {x y z : Sp} {M : List (Str × D)} (dx : Dn L x) (dy : Dn L y) (dz : Dn L z) (hM : RowF L M) : ∃ k d p S1 S2, fn_any_of [.lst [x.t, y.t, z.t]] S = .ok (tst k d p) S1 ∧ fn_Test_truth [tst k d p, rowD M] S1 = .ok (oD ((joinJ false [x, y, z]).tr (rwM M))) S2 ∧ Fr [] S S2 := by
  obtain ⟨S1, e1, f1⟩ := (any_of_ok (S := S) (l := [x, y, z]) (d := .lst [x.t, y.t, z.t]) .l (dx.join (b := false) dy dz).1 (by simp)).ex
  obtain ⟨_, S2, e2, rfl, f2⟩ := (Dn.truthJ (S := S1) (b := false) dx dy dz hM).ex
  rw [Sp.t_eq (joinJ false [x, y, z])] at e1 e2
  exact ⟨_, _, _, S1, S2, e1, e2, (Fr.ext f1).tr f2⟩
end
end G
namespace G
open PySem L2
/-! ### the law, one drawn thing -/
inductive OuI (n : Nat) (lay e t : D) (S : Store) (j : Nat) : Sl → Store → Prop
  | mk {o4 o5 o6 o7 o8 o9 o10 o11 o12 : Option D} {S' : Store} (g : Go n S S') : OuI n lay e t S j [some (.ref n), some lay, some e, some t, o4, o5, o6, o7, o8, o9, o10, o11, o12, none] S'
inductive InI (n : Nat) (lay e t row sh : D) (o4 o5 o9 o10 o11 : Option D) (S : Store) (j : Nat) : Sl → Store → Prop
  | mk {o8 o12 : Option D} {S' : Store} (g : Go n S S') : InI n lay e t row sh o4 o5 o9 o10 o11 S j [some (.ref n), some lay, some e, some t, o4, o5, some row, some sh, o8, o9, o10, o11, o12, none] S'
section
variable {n : Nat} {S : Store}
theorem sm_12 : smR (12 : Int) = true := by decide +kernel
theorem sm_3 : smR (3 : Int) = true := by decide +kernel
theorem specs_d {L : List Col} {S1 : Store} {ρ : Sl} (hL : LayOk L) (h0 : ρ[0]? = some (some (.ref n))) (h1 : ρ[1]? = some (some (.lst (L.map colT)))) (hl : ρ.length = 14) (g : Go n S S1) :
    Ok (compL ⟨[.int 0, .int 1, .int 2], none⟩ (ptN 8) mYes (mFn (ar 3 (fn_law_spec 20)) (mCons (mVar 0) (mCons (mVar 1) (mCons (mFn (ar 2 fn_law_draw) (mCons (mVar 0) (mCons (mC (.int 5)) mNil))) mNil)))) ρ [.int 0, .int 1, .int 2] 0 S1) fun ys S' =>
      Go n S S' ∧ ∃ x y z, ys = [x, y, z].map Sp.enc ∧ Dn L x ∧ Dn L y ∧ Dn L z := by
  have main := compE (it := ⟨[.int 0, .int 1, .int 2], none⟩) (p := ptN 8) (e := mFn (ar 3 (fn_law_spec 20)) (mCons (mVar 0) (mCons (mVar 1) (mCons (mFn (ar 2 fn_law_draw) (mCons (mVar 0) (mCons (mC (.int 5)) mNil))) mNil)))) (ρ := ρ) (S := S1) (ds := [.int 0, .int 1, .int 2]) (k := 0) (fun S' => Go n S S') (fun d => SpE L 4 16 d) (fun _ _ => grd_none) (fun d hd => ⟨_, rfl, fun S' hS => ?_⟩) g (sz (n := 3) (by decide))
  · refine main.imp fun ys S' h => ?_
    obtain ⟨l, q, g'⟩ := h
    refine ⟨g', ?_⟩
    have dn : ∀ d, SpE L 4 16 d → ∃ s, d = s.enc ∧ Dn L s := fun d ⟨s, w, t, hh, hz, e⟩ => ⟨s, e, w, t, hh, hz⟩
    obtain ⟨a, b, c, rfl⟩ : ∃ a b c, ys = [a, b, c] := by
      match ys, l with
      | [a, b, c], _ => exact ⟨a, b, c, rfl⟩
    obtain ⟨x, rfl, dx⟩ := dn a (q a (by simp))
    obtain ⟨y, rfl, dy⟩ := dn b (q b (by simp))
    obtain ⟨z, rfl, dz⟩ := dn c (q c (by simp))
    exact ⟨x, y, z, rfl, dx, dy, dz⟩
  · have e0 : (ρ.set 8 (some d))[0]? = some (some (.ref n)) := by rw [List.getElem?_set_ne (by decide)]; exact h0
    have e1 : (ρ.set 8 (some d))[1]? = some (some (.lst (L.map colT))) := by rw [List.getElem?_set_ne (by decide)]; exact h1
    simp [e0, e1]
    generalize hx : fn_law_draw _ _ = x
    obtain ⟨_, S2, rfl, g2, r, rfl, hr⟩ := Ok.g hx (draw (many := 5) hS.we)
    simp
    generalize hx : fn_law_spec _ _ _ = x
    obtain ⟨d, S3, rfl, g3, hs⟩ := Ok.g hx (spec_d hL r 20 S2 (by omega) g2.we)
    simp
    have h2 : 2 ^ r ≤ 16 := by
      have : r = 0 ∨ r = 1 ∨ r = 2 ∨ r = 3 ∨ r = 4 := by omega
      rcases this with rfl | rfl | rfl | rfl | rfl <;> decide
    exact ⟨(hS.tr g2).tr g3, hs.mono (by omega) h2⟩
theorem tests_d {L : List Col} {S1 : Store} {ρ : Sl} {x y z : Sp} (hl : ρ.length = 14) (dx : Dn L x) (dy : Dn L y) (dz : Dn L z) (g : Go n S S1) :
    Ok (compL ⟨[x.enc, y.enc, z.enc], none⟩ (ptN 13) mYes (mFn (ar 1 (fn_law_made 20)) (mCons (mVar 13) mNil)) ρ [x.enc, y.enc, z.enc] 0 S1) fun ys S' => ys = [x.t, y.t, z.t] ∧ Go n S S' := by
  refine (compX (it := ⟨[x.enc, y.enc, z.enc], none⟩) (p := ptN 13) (ρ := ρ) Sp.enc Sp.t (xs := [x, y, z]) (fun S' => Go n S S') (fun _ _ => grd_none) (fun s hs => ⟨_, rfl, fun S' hS => ?_⟩) g (sz (n := 3) (by decide))).imp fun ys S' h => h
  have ds : Dn L s := by
    simp only [List.mem_cons, List.not_mem_nil, or_false] at hs
    rcases hs with rfl | rfl | rfl <;> assumption
  have e0 : (ρ.set 13 (some s.enc))[13]? = some (some s.enc) := List.getElem?_set_self (by omega)
  simp [e0]
  generalize hx : fn_law_made _ _ _ = v
  have h1 := ds.ht
  have h2 := ds.lv
  obtain ⟨_, S2, rfl, rfl, f2⟩ := Ok.g hx (made_ok s 20 S' (by omega) ⟨by omega, by omega⟩ ds.wf)
  simp
  exact hS.ext f2
theorem plain_truth {s : Sp} (hw : s.wf) (hp : s.pl = []) (ho : s.ok fun _ => .non) (hh : s.ht < 20) (hz : s.lv.length ≤ 1000) (S : Store) : ∃ S', fn_Test_truth [s.t, .dct []] S = .ok (oD (s.tr fun _ => .non)) S' := by
  obtain ⟨_, S', e, rfl, _⟩ := (truth_ok (S := S) (row := .dct []) (rw := fun _ => .non) hw ho hh hz ⟨[], .inl rfl, fun p h => by rw [hp] at h; cases h⟩).ex
  exact ⟨S', e⟩
theorem cst_wf {w : Str} (h : w ∈ (["always", "never", "unsure"] : List Str)) : (Sp.lf (.cst w)).wf ∧ (Sp.lf (.cst w)).ok fun _ => .non :=
  ⟨fun a ha => by rw [List.mem_singleton.mp (show a ∈ [At.cst w] from ha)]; exact .cst h, fun a ha => by rw [List.mem_singleton.mp (show a ∈ [At.cst w] from ha)]; exact .cst h⟩
theorem plain_t (S : Store) : (∃ S', fn_Test_truth [tst "always" [] [], .dct []] S = .ok (.bl true) S') ∧ (∃ S', fn_Test_truth [tst "never" [] [], .dct []] S = .ok (.bl false) S') ∧ (∃ S', fn_Test_truth [tst "unsure" [] [], .dct []] S = .ok .non S') ∧
    (∃ S', fn_Test_truth [tst "sure" [] [tst "unsure" [] []], .dct []] S = .ok (.bl false) S') ∧ (∃ S', fn_Test_truth [tst "not" [] [tst "unsure" [] []], .dct []] S = .ok .non S') := by
  have h1 := cst_wf (w := "always") (by simp)
  have h2 := cst_wf (w := "never") (by simp)
  have h3 := cst_wf (w := "unsure") (by simp)
  exact ⟨plain_truth h1.1 rfl h1.2 (by decide) (by decide) S, plain_truth h2.1 rfl h2.2 (by decide) (by decide) S, plain_truth h3.1 rfl h3.2 (by decide) (by decide) S,
    plain_truth (s := .sure (.lf (.cst "unsure"))) h3.1 rfl h3.2 (by decide) (by decide) S, plain_truth (s := .not (.lf (.cst "unsure"))) h3.1 rfl h3.2 (by decide) (by decide) S⟩
theorem right_ok (h : WellAt n S) : Ok (fn_law_right [.ref n] S) fun d _ => d = .bl true := by
  unfold fn_law_right
  rw [run_eq]
  simp only [sem_law_right, startD]
  simp
  generalize hx : fn_law_layout _ _ = x
  obtain ⟨_, S1, rfl, g1, L, rfl, hL⟩ := Ok.g hx (layout_d h)
  simp [sm_3, wipeD, List.range_succ]
  generalize hc : compL _ _ _ _ _ _ _ _ = c
  obtain ⟨_, S2, rfl, g2, x, y, z, rfl, dx, dy, dz⟩ := Ok.g hc (specs_d (S := S) hL rfl rfl rfl g1)
  simp [wipeD]
  generalize hc : compL _ _ _ _ _ _ _ _ = c
  obtain ⟨_, S3, rfl, rfl, g3⟩ := Ok.g hc (tests_d (S := S) rfl dx dy dz g2)
  simp [sm_12, List.range_succ]
  generalize hv : forL _ _ _ _ _ _ = v
  obtain ⟨ρ4, S4, rfl, I4⟩ := OkN.g hv (forI (OuI n (.lst (L.map colT)) (.lst [x.enc, y.enc, z.enc]) (.lst [x.t, y.t, z.t]) S) (fun _ _ _ _ => grd_none)
    (fun j d hj ρ S' hI => by
      cases hI with
      | @mk o4 o5 o6 o7 o8 o9 o10 o11 o12 _ g =>
      obtain ⟨t, ht, rfl⟩ : ∃ t : Nat, t < 12 ∧ d = .int (t : Nat) := by
        have hd := List.mem_of_getElem? hj
        simp only [List.mem_cons, List.not_mem_nil, or_false] at hd
        rcases hd with rfl | rfl | rfl | rfl | rfl | rfl | rfl | rfl | rfl | rfl | rfl | rfl <;> exact ⟨_, by decide, rfl⟩
      refine ⟨_, rfl, ?_⟩
      simp
      obtain ⟨s, ds, es⟩ : ∃ s, Dn L s ∧ atI [x.enc, y.enc, z.enc] ((t : Int) % 3) = some s.enc := by
        have : (t : Int) % 3 = 0 ∨ (t : Int) % 3 = 1 ∨ (t : Int) % 3 = 2 := by omega
        rcases this with q | q | q
        · exact ⟨x, dx, by rw [q]; rfl⟩
        · exact ⟨y, dy, by rw [q]; rfl⟩
        · exact ⟨z, dz, by rw [q]; rfl⟩
      simp [es]
      generalize hx : fn_law_near_row _ _ = v
      have hs1 := ds.ht
      have hs2 := ds.lv
      obtain ⟨d, Sa, rfl, M, T, Sb, hM, hrep, gb, hput⟩ := Ok.g hx (row_step hL ds.wf ds.ty (by omega) (by omega) g.we)
      have hp := hput [some (.ref n), some (.lst (L.map colT)), some (.lst [x.enc, y.enc, z.enc]), some (.lst [x.t, y.t, z.t]), some (.int t), o5, some d, o7, o8, o9, o10, o11, o12, none] rfl
      simp at hp
      simp [hp, hrep, sm_3, List.range_succ]
      generalize hv : forL _ _ _ _ _ _ = v
      obtain ⟨ρ5, S5, rfl, I5⟩ := OkN.g hv (forI (InI n (.lst (L.map colT)) (.lst [x.enc, y.enc, z.enc]) (.lst [x.t, y.t, z.t]) (rowD M) (.str T) (some (.int t)) o5 o9 o10 o11 S) (fun _ _ _ _ => grd_none)
        (fun j d hj ρ S' hI => by
          cases hI with
          | @mk o8 o12 _ gi =>
          obtain ⟨i, u, du, e1, e2, rfl⟩ : ∃ (i : Int) (u : Sp), Dn L u ∧ atI [x.enc, y.enc, z.enc] i = some u.enc ∧ atI [x.t, y.t, z.t] i = some u.t ∧ d = .int i := by
            have hd := List.mem_of_getElem? hj
            simp only [List.mem_cons, List.not_mem_nil, or_false] at hd
            rcases hd with rfl | rfl | rfl
            · exact ⟨0, x, dx, rfl, rfl, rfl⟩
            · exact ⟨1, y, dy, rfl, rfl, rfl⟩
            · exact ⟨2, z, dz, rfl, rfl, rfl⟩
          obtain ⟨_, Sc, ec, rfl, fc⟩ := (du.truth (S := S') hM).ex
          obtain ⟨_, Sd, ed, rfl, fd⟩ := (du.truth (S := Sc) hM).ex
          rw [u.t_eq] at e2 ec ed
          refine ⟨_, rfl, ?_⟩
          simp [e1, e2, du.law hM, ec, ed, law_same_ok]
          exact .mk ((gi.fr0 fc).fr0 fd)) (.mk (g.tr gb)))
      cases I5 with
      | @mk o8 o12 _ g5 =>
      have c := comp_pure (it := ⟨[x.enc, y.enc, z.enc], none⟩) (p := ptN 13) (t := mYes) (e := mFn (ar 2 (fn_law_truth 20)) (mCons (mVar 13) (mCons (mVar 6) mNil))) (ρ := [some (.ref n), some (.lst (L.map colT)), some (.lst [x.enc, y.enc, z.enc]), some (.lst [x.t, y.t, z.t]), some (.int t), o5, some (rowD M), some (.str T), o8, o9, o10, o11, o12, none]) (S := S5) grd_none Sp.enc (fun s => oD (s.tr (rwM M))) (fun _ => true) [x, y, z] 0
        (fun s hs => by
          have du : Dn L s := by
            simp only [List.mem_cons, List.not_mem_nil, or_false] at hs
            rcases hs with rfl | rfl | rfl <;> assumption
          exact ⟨_, rfl, rfl, fun _ => by simp [du.law hM]⟩) (sz (n := 3) (by decide))
      rw [List.filter_eq_self.mpr (fun _ _ => rfl)] at c
      simp only [List.map_cons, List.map_nil] at c
      simp [wipeD, c]
      have i1 := in3 (S := S5) (v := false) (a := x.tr (rwM M)) (b := y.tr (rwM M)) (c := z.tr (rwM M))
      have i2 := in3 (S := S5) (v := true) (a := x.tr (rwM M)) (b := y.tr (rwM M)) (c := z.tr (rwM M))
      have i3 := inN3 (S := S5) (a := x.tr (rwM M)) (b := y.tr (rwM M)) (c := z.tr (rwM M))
      have q1 := tr_and3 (rw := rwM M) (x := x) (y := y) (z := z)
      have q2 := tr_or3 (rw := rwM M) (x := x) (y := y) (z := z)
      generalize (x.tr (rwM M) == some false || (y.tr (rwM M) == some false || z.tr (rwM M) == some false)) = A at i1 q1
      generalize (x.tr (rwM M) == some true || (y.tr (rwM M) == some true || z.tr (rwM M) == some true)) = B at i2 q2
      generalize ((x.tr (rwM M)).isNone || ((y.tr (rwM M)).isNone || (z.tr (rwM M)).isNone)) = N at i3 q1 q2
      obtain ⟨k6, d6, p6, S6, S7, e6, e7, f7⟩ := all_step (S := S5) dx dy dz hM
      obtain ⟨k8, d8, p8, S8, S9, e8, e9, f9⟩ := any_step (S := S7) dx dy dz hM
      have g9 := (g5.fr0 f7).fr0 f9
      have hA : (if A = true then Res.ok (D.bl false) S5 else if N = true then Res.ok D.non S5 else Res.ok (D.bl true) S5) = Res.ok (oD ((joinJ true [x, y, z]).tr (rwM M))) S5 := by
        rw [q1]
        cases A <;> cases N <;> rfl
      have hB : (if B = true then Res.ok (D.bl true) S5 else if N = true then Res.ok D.non S5 else Res.ok (D.bl false) S5) = Res.ok (oD ((joinJ false [x, y, z]).tr (rwM M))) S5 := by
        rw [q2]
        cases B <;> cases N <;> rfl
      generalize (joinJ true [x, y, z]).tr (rwM M) = both at hA e7
      generalize (joinJ false [x, y, z]).tr (rwM M) = some' at hB e9
      simp [i1, i2, i3]
      rw [hA]
      simp [i2, i3]
      rw [hB]
      simp [e6, e7, e8, e9, law_same_ok, hrep, atI_0]
      generalize hx : fn_law_lacking_right _ _ = v
      obtain ⟨_, Sl, rfl, rfl, gl⟩ := Ok.g hx (lacking_ok (s := x) (M := M) dx.wf dx.ty (by have := dx.ht; omega) (by have := dx.lv; omega) hM g9.we)
      simp
      exact .mk (g9.tr gl)) (.mk g3))
  cases I4 with
  | @mk o4 o5 o6 o7 o8 o9 o10 o11 o12 _ g4 =>
  have a1 : ∀ S, fn_always [] S = .ok (tst "always" [] []) (S ++ [.dead]) := fun S => always_ok
  have a2 : ∀ S, fn_never [] S = .ok (tst "never" [] []) (S ++ [.dead]) := fun S => never_ok
  have a3 : ∀ S, fn_unsure [] S = .ok (tst "unsure" [] []) (S ++ [.dead]) := fun S => unsure_ok
  have a4 : ∀ S, fn_sure [tst "unsure" [] []] S = .ok (tst "sure" [] [tst "unsure" [] []]) (S ++ [.dead]) := fun S => sure_ok (x := .lf (.cst "unsure")) ⟨by decide, by decide⟩
  have a5 : ∀ S, fn_Test_invert [tst "unsure" [] []] S = .ok (tst "not" [] [tst "unsure" [] []]) (S ++ [.dead]) := fun S => not_ok (x := .lf (.cst "unsure")) ⟨by decide, by decide⟩
  obtain ⟨S5, t1⟩ := (plain_t (S4 ++ [.dead])).1
  obtain ⟨S6, t2⟩ := (plain_t (S5 ++ [.dead])).2.1
  obtain ⟨S7, t3⟩ := (plain_t (S6 ++ [.dead])).2.2.1
  obtain ⟨S8, t4⟩ := (plain_t (S7 ++ [.dead] ++ [.dead])).2.2.2.1
  obtain ⟨S9, t5⟩ := (plain_t (S8 ++ [.dead] ++ [.dead])).2.2.2.2
  have e5 : eqB S9 (.lst [.bl true, .bl false, .non, .bl false, .non]) (.lst [.bl true, .bl false, .non, .bl false, .non]) = some true := by
    show (if (SeqAt.shaped (.list [.bool true, .bool false, .none, .bool false, .none]) && SeqAt.shaped (.list [.bool true, .bool false, .none, .bool false, .none])) = true then some (PyData.eqv (.list [.bool true, .bool false, .none, .bool false, .none]) (.list [.bool true, .bool false, .none, .bool false, .none])) else none) = some true
    decide +kernel
  rw [List.append_assoc] at t4 t5
  simp at t4 t5
  simp [a1, a2, a3, a4, a5, t1, t2, t3, t4, t5, e5]
end
end G
namespace G
open PySem L2
theorem source_ok {S : Store} {c : Int} : Ok (fn_law_source [.int c] S) fun d S' => d = .ref S.length ∧ WellAt S.length S' := by
  have s3 : sm64 3 = true := by decide
  have s0 : sm64 0 = true := by decide
  have s1 : sm64 1 = true := by decide
  have l1 : Nat.log2 2147483629 < 9000 := by decide +kernel
  unfold fn_law_source
  rw [run_eq]
  simp only [sem_law_source, startD]
  by_cases hc : (0 : Int) ≤ c
  · by_cases h18 : (1000000000000000000 : Int) ≤ c
    · simp [hc, h18, s0, s1, s3, l1]
      exact ⟨_, _, _, sg_new⟩
    · simp [hc, h18, s0, s1, s3, l1]
      exact ⟨_, _, _, sg_new⟩
  · by_cases h18 : (1000000000000000000 : Int) ≤ -(3 * c) - 1
    · simp [hc, h18, s0, s1, s3, l1]
      exact ⟨_, _, _, sg_new⟩
    · simp [hc, h18, s0, s1, s3, l1]
      exact ⟨_, _, _, sg_new⟩
theorem all_true {S : Store} {ys : List D} (h : ∀ y ∈ ys, y = .bl true) : allD [.lst ys] S = .ok (.bl true) S := by
  have e : ys = ys.map fun _ => .bl true := by
    rw [List.map_congr_left (g := id) fun y hy => (h y hy).symm, List.map_id]
  rw [e, all_bl]
  simp
theorem law_k {ns : List Int} : Ok (fn_law [.scr ns] []) (fun d _ => d = .bl true) := by
  obtain ⟨cs, ec, hc⟩ : ∃ cs : List D, cutD (ns.map D.int) none (some 3) = cs ∧ (∀ d ∈ cs, ∃ i, d = .int i) ∧ cs.length ≤ 3 := by
    refine ⟨_, rfl, fun d hd => ?_, ?_⟩
    · unfold cutD at hd
      obtain ⟨i, _, e⟩ := List.mem_map.mp (List.mem_of_mem_drop (List.mem_of_mem_take hd))
      exact ⟨i, e.symm⟩
    · unfold cutD
      rw [List.length_take]
      refine Nat.le_trans (Nat.min_le_left _ _) ?_
      refine Nat.le_trans (Nat.sub_le _ _) ?_
      rw [show HT.sIx (ns.map D.int).length (ns.map D.int).length (some 3) = min 3 (ns.map D.int).length from HT.sIx_nat _ _ 3]
      exact Nat.min_le_left _ _
  have hz : cs.length + 1 ≤ sizeLine := sz (by have := hc.2; omega)
  unfold fn_law
  rw [run_eq]
  simp only [sem_law, startD]
  simp [ec, hz, wipeD]
  generalize hcc : compL _ _ _ _ _ _ _ _ = c
  obtain ⟨ys, S2, rfl, l2, q2, _⟩ := Ok.g hcc (compE (fun _ => True) (fun d => d = .bl true) (fun _ _ => grd_none) (fun d hd => ⟨_, rfl, fun S' _ => by
    obtain ⟨i, rfl⟩ : ∃ i, d = .int i := by
      rcases List.mem_append.mp hd with hd | hd
      · exact hc.1 d hd
      · exact ⟨0, List.mem_singleton.mp hd⟩
    simp
    generalize hx : fn_law_source _ _ = x
    obtain ⟨_, S3, rfl, rfl, w3⟩ := Ok.g hx (source_ok (S := S') (c := i))
    simp
    generalize hx : fn_law_right _ _ = x
    obtain ⟨_, S4, rfl, rfl⟩ := Ok.g hx (right_ok w3)
    simp⟩) trivial (sz (by simp; have := hc.2; omega)))
  simp [all_true q2]
end G
namespace G
open PySem L2
/-! ### the end -/
def LawOk : Prop := ∀ ns : List Int, ns.length ≤ 63 → ∃ S, fn_law [.scr ns] [] = .ok (.bl true) S
abbrev clNames : List Str := ["WorkError", "BadTest", "BadRow", "Test"]
theorem all_mk {l : PySem.W.OpenLaw} {w : World} {K : PySem.W.Frag} {h : Heap} {mg : Str → Option Value} {fa : Addr} (X : K.In h) (G : h.Ns mainGlobals mg) (hfa : mg "law" = some (.ref fa))
    {C_WorkError : Addr}
    (aC_WorkError : PySem.W.nsIn K mainGlobals "WorkError" = some (some (.ref C_WorkError)))
    {C_BadTest : Addr}
    (aC_BadTest : PySem.W.nsIn K mainGlobals "BadTest" = some (some (.ref C_BadTest)))
    {C_BadRow : Addr}
    (aC_BadRow : PySem.W.nsIn K mainGlobals "BadRow" = some (some (.ref C_BadRow)))
    {C_Test : Addr}
    (aC_Test : PySem.W.nsIn K mainGlobals "Test" = some (some (.ref C_Test)))
    (q_Test : clsB K C_Test = true)
    (m1_Test : PySem.W.makesIn K C_Test = true)
    (m2_Test : PySem.W.keepIn K (.ref C_Test) = true)
    (n_Test__data : PySem.W.findIn K (.ref C_Test) "_data" = some none)
    (n_Test__kind : PySem.W.findIn K (.ref C_Test) "_kind" = some none)
    (n_Test__parts : PySem.W.findIn K (.ref C_Test) "_parts" = some none)
    {nm_BadTest : _} {qn_BadTest : _} {N_BadTest : _} {bs_BadTest : _} {bm_BadTest : _} {sn_BadTest : _} {sub_BadTest : _} {ab_BadTest : _} {col_BadTest : _} {dd_BadTest : _} {k0_BadTest : _} {k1_BadTest : _} {k2_BadTest : _} {k3_BadTest : _} {k5_BadTest : _}
    (x1_BadTest : K.lookup C_BadTest = some (excClassObj nm_BadTest qn_BadTest C_BadTest N_BadTest bs_BadTest bm_BadTest true sn_BadTest sub_BadTest ab_BadTest col_BadTest dd_BadTest k0_BadTest k1_BadTest k2_BadTest k3_BadTest k5_BadTest "ValueError.__new__"))
    (x2_BadTest : PySem.HandSPX.refsVE bm_BadTest = true)
    (x3_BadTest : oexB K C_BadTest = true)
    (xf_BadTest_why : PySem.W.findIn K (.ref C_BadTest) "why" = some none)
    {nm_BadRow : _} {qn_BadRow : _} {N_BadRow : _} {bs_BadRow : _} {bm_BadRow : _} {sn_BadRow : _} {sub_BadRow : _} {ab_BadRow : _} {col_BadRow : _} {dd_BadRow : _} {k0_BadRow : _} {k1_BadRow : _} {k2_BadRow : _} {k3_BadRow : _} {k5_BadRow : _}
    (x1_BadRow : K.lookup C_BadRow = some (excClassObj nm_BadRow qn_BadRow C_BadRow N_BadRow bs_BadRow bm_BadRow true sn_BadRow sub_BadRow ab_BadRow col_BadRow dd_BadRow k0_BadRow k1_BadRow k2_BadRow k3_BadRow k5_BadRow "ValueError.__new__"))
    (x2_BadRow : PySem.HandSPX.refsVE bm_BadRow = true)
    (x3_BadRow : oexB K C_BadRow = true)
    (xf_BadRow_column : PySem.W.findIn K (.ref C_BadRow) "column" = some none)
    (xc_BadRow : xfB K C_BadRow = true)
    (xd_BadRow_column : PySem.W.findIn K (.ref C_BadRow) "column" = some none)
    {kd_CONSTANTS : Addr} {ke_CONSTANTS : Array DictEntry} {kn_CONSTANTS : Nat} (kx_CONSTANTS : PySem.W.nsIn K mainGlobals "CONSTANTS" = some (some (.ref kd_CONSTANTS))) (ky_CONSTANTS : K.lookup kd_CONSTANTS = some ⟨.type "dict", none, .dict ke_CONSTANTS kn_CONSTANTS, #[]⟩) (kz_CONSTANTS : PySem.W.KeysLit w.params ke_CONSTANTS.toList) (kt_CONSTANTS : KTab ke_CONSTANTS.toList [("always", .bl true), ("never", .bl false), ("unsure", .non)]) (ku_CONSTANTS : (kd_CONSTANTS == sysModules) = false)
    (so_Test : PySem.W.selfFirst K C_Test = true)
    (ib_Test : insB K C_Test = true)
    (nb_Test : noneB K C_Test = true)
    (ko_Test_Test : PySem.W.kitOne K (.ref C_Test) (.ref C_Test) = some true)
    (kt_BadRow_WorkError : PySem.W.exmOne K (.ref C_WorkError) (.ref C_BadRow) = some false)
    (kt_BadRow_BadTest : PySem.W.exmOne K (.ref C_BadTest) (.ref C_BadRow) = some false)
    (kt_BadRow_BadRow : PySem.W.exmOne K (.ref C_BadRow) (.ref C_BadRow) = some true)
    {f0 : Addr} {od0 an0 : Option Addr} {sl0 : Array (Option Value)} {oc0 kV0 dc0 pm0 cd0 ct0 : Value}
    (a0 : PySem.W.findIn K (.ref C_Test) "__init__" = some (some (.ref f0)))
    (i0 : PySem.W.isFn K (.ref f0) = true)
    (l0 : K.lookup f0 = some ⟨oc0, od0, .func (PySem.W.fnOf "__init__" "Test.__init__" (defArgs s_Test_init) (defBody s_Test_init) (defScope s_Test_init) .none kV0 dc0 pm0 an0 cd0 ct0), sl0⟩)
    (c0 : PySem.W.codeIn K cd0 "Test.__init__" = true)
    (k0 : PySem.W.keepIn K (.ref f0) = true)
    {f1 : Addr} {od1 an1 : Option Addr} {sl1 : Array (Option Value)} {oc1 kV1 dc1 pm1 cd1 ct1 : Value}
    (a1 : PySem.W.findIn K (.ref C_BadTest) "__init__" = some (some (.ref f1)))
    (i1 : PySem.W.typeIn K (.ref f1) = some (.type "function"))
    (l1 : K.lookup f1 = some ⟨oc1, od1, .func (PySem.W.fnOf "__init__" "BadTest.__init__" (defArgs s_BadTest_init) (defBody s_BadTest_init) (defScope s_BadTest_init) .none kV1 dc1 pm1 an1 cd1 ct1), sl1⟩)
    (c1 : PySem.W.codeIn K cd1 "BadTest.__init__" = true)
    (k1 : PySem.W.keepIn K (.ref f1) = true)
    {f2 : Addr} {od2 an2 : Option Addr} {sl2 : Array (Option Value)} {oc2 kV2 dc2 pm2 cd2 ct2 : Value}
    (a2 : PySem.W.findIn K (.ref C_Test) "atoms" = some (some (.ref f2)))
    (i2 : PySem.W.isFn K (.ref f2) = true)
    (l2 : K.lookup f2 = some ⟨oc2, od2, .func (PySem.W.fnOf "atoms" "Test.atoms" (defArgs s_Test_atoms) (defBody s_Test_atoms) (defScope s_Test_atoms) .none kV2 dc2 pm2 an2 cd2 ct2), sl2⟩)
    (c2 : PySem.W.codeIn K cd2 "Test.atoms" = true)
    (k2 : PySem.W.keepIn K (.ref f2) = true)
    {f3 : Addr} {od3 an3 : Option Addr} {sl3 : Array (Option Value)} {oc3 kV3 dc3 pm3 cd3 ct3 : Value}
    (a3 : PySem.W.findIn K (.ref C_Test) "levels" = some (some (.ref f3)))
    (i3 : PySem.W.isFn K (.ref f3) = true)
    (l3 : K.lookup f3 = some ⟨oc3, od3, .func (PySem.W.fnOf "levels" "Test.levels" (defArgs s_Test_levels) (defBody s_Test_levels) (defScope s_Test_levels) .none kV3 dc3 pm3 an3 cd3 ct3), sl3⟩)
    (c3 : PySem.W.codeIn K cd3 "Test.levels" = true)
    (k3 : PySem.W.keepIn K (.ref f3) = true)
    {f4 : Addr} {od4 an4 : Option Addr} {sl4 : Array (Option Value)} {oc4 kV4 dc4 pm4 cd4 ct4 : Value}
    (a4 : PySem.W.nsIn K mainGlobals "limited" = some (some (.ref f4)))
    (l4 : K.lookup f4 = some ⟨oc4, od4, .func (PySem.W.fnOf "limited" "limited" (defArgs s_limited) (defBody s_limited) (defScope s_limited) .none kV4 dc4 pm4 an4 cd4 ct4), sl4⟩)
    (c4 : PySem.W.codeIn K cd4 "limited" = true)
    (k4 : PySem.W.keepIn K (.ref f4) = true)
    {f5 : Addr} {od5 an5 : Option Addr} {sl5 : Array (Option Value)} {oc5 kV5 dc5 pm5 cd5 ct5 : Value}
    (a5 : PySem.W.findIn K (.ref C_Test) "__invert__" = some (some (.ref f5)))
    (i5 : PySem.W.isFn K (.ref f5) = true)
    (l5 : K.lookup f5 = some ⟨oc5, od5, .func (PySem.W.fnOf "__invert__" "Test.__invert__" (defArgs s_Test_invert) (defBody s_Test_invert) (defScope s_Test_invert) .none kV5 dc5 pm5 an5 cd5 ct5), sl5⟩)
    (c5 : PySem.W.codeIn K cd5 "Test.__invert__" = true)
    (k5 : PySem.W.keepIn K (.ref f5) = true)
    {f6 : Addr} {od6 an6 : Option Addr} {sl6 : Array (Option Value)} {oc6 kV6 dc6 pm6 cd6 ct6 : Value}
    (a6 : PySem.W.findIn K (.ref C_BadRow) "__init__" = some (some (.ref f6)))
    (i6 : PySem.W.typeIn K (.ref f6) = some (.type "function"))
    (l6 : K.lookup f6 = some ⟨oc6, od6, .func (PySem.W.fnOf "__init__" "BadRow.__init__" (defArgs s_BadRow_init) (defBody s_BadRow_init) (defScope s_BadRow_init) .none kV6 dc6 pm6 an6 cd6 ct6), sl6⟩)
    (c6 : PySem.W.codeIn K cd6 "BadRow.__init__" = true)
    (k6 : PySem.W.keepIn K (.ref f6) = true)
    {f7 : Addr} {od7 an7 : Option Addr} {sl7 : Array (Option Value)} {oc7 kV7 dc7 pm7 cd7 ct7 : Value}
    (a7 : PySem.W.findIn K (.ref C_Test) "data" = some (some (.ref f7)))
    (i7 : PySem.W.isFn K (.ref f7) = true)
    (l7 : K.lookup f7 = some ⟨oc7, od7, .func (PySem.W.fnOf "data" "Test.data" (defArgs s_Test_data) (defBody s_Test_data) (defScope s_Test_data) .none kV7 dc7 pm7 an7 cd7 ct7), sl7⟩)
    (c7 : PySem.W.codeIn K cd7 "Test.data" = true)
    (k7 : PySem.W.keepIn K (.ref f7) = true)
    {f8 : Addr} {od8 an8 : Option Addr} {sl8 : Array (Option Value)} {oc8 kV8 dc8 pm8 cd8 ct8 : Value}
    (a8 : PySem.W.findIn K (.ref C_Test) "kind" = some (some (.ref f8)))
    (i8 : PySem.W.isFn K (.ref f8) = true)
    (l8 : K.lookup f8 = some ⟨oc8, od8, .func (PySem.W.fnOf "kind" "Test.kind" (defArgs s_Test_kind) (defBody s_Test_kind) (defScope s_Test_kind) .none kV8 dc8 pm8 an8 cd8 ct8), sl8⟩)
    (c8 : PySem.W.codeIn K cd8 "Test.kind" = true)
    (k8 : PySem.W.keepIn K (.ref f8) = true)
    {f9 : Addr} {od9 an9 : Option Addr} {sl9 : Array (Option Value)} {oc9 kV9 dc9 pm9 cd9 ct9 : Value}
    (a9 : PySem.W.nsIn K mainGlobals "paths_of" = some (some (.ref f9)))
    (l9 : K.lookup f9 = some ⟨oc9, od9, .func (PySem.W.fnOf "paths_of" "paths_of" (defArgs s_paths_of) (defBody s_paths_of) (defScope s_paths_of) .none kV9 dc9 pm9 an9 cd9 ct9), sl9⟩)
    (c9 : PySem.W.codeIn K cd9 "paths_of" = true)
    (k9 : PySem.W.keepIn K (.ref f9) = true)
    {f10 : Addr} {od10 an10 : Option Addr} {sl10 : Array (Option Value)} {oc10 kV10 dc10 pm10 cd10 ct10 : Value}
    (a10 : PySem.W.nsIn K mainGlobals "sorted_plain" = some (some (.ref f10)))
    (l10 : K.lookup f10 = some ⟨oc10, od10, .func (PySem.W.fnOf "sorted_plain" "sorted_plain" (defArgs s_sorted_plain) (defBody s_sorted_plain) (defScope s_sorted_plain) .none kV10 dc10 pm10 an10 cd10 ct10), sl10⟩)
    (c10 : PySem.W.codeIn K cd10 "sorted_plain" = true)
    (k10 : PySem.W.keepIn K (.ref f10) = true)
    {f11 : Addr} {od11 an11 : Option Addr} {sl11 : Array (Option Value)} {oc11 kV11 dc11 pm11 cd11 ct11 : Value}
    (a11 : PySem.W.findIn K (.ref C_Test) "paths" = some (some (.ref f11)))
    (i11 : PySem.W.isFn K (.ref f11) = true)
    (l11 : K.lookup f11 = some ⟨oc11, od11, .func (PySem.W.fnOf "paths" "Test.paths" (defArgs s_Test_paths) (defBody s_Test_paths) (defScope s_Test_paths) .none kV11 dc11 pm11 an11 cd11 ct11), sl11⟩)
    (c11 : PySem.W.codeIn K cd11 "Test.paths" = true)
    (k11 : PySem.W.keepIn K (.ref f11) = true)
    {f12 : Addr} {od12 an12 : Option Addr} {sl12 : Array (Option Value)} {oc12 kV12 dc12 pm12 cd12 ct12 : Value}
    (a12 : PySem.W.findIn K (.ref C_Test) "parts" = some (some (.ref f12)))
    (i12 : PySem.W.isFn K (.ref f12) = true)
    (l12 : K.lookup f12 = some ⟨oc12, od12, .func (PySem.W.fnOf "parts" "Test.parts" (defArgs s_Test_parts) (defBody s_Test_parts) (defScope s_Test_parts) .none kV12 dc12 pm12 an12 cd12 ct12), sl12⟩)
    (c12 : PySem.W.codeIn K cd12 "Test.parts" = true)
    (k12 : PySem.W.keepIn K (.ref f12) = true)
    {f13 : Addr} {od13 an13 : Option Addr} {sl13 : Array (Option Value)} {oc13 kV13 dc13 pm13 cd13 ct13 : Value}
    (a13 : PySem.W.nsIn K mainGlobals "compared" = some (some (.ref f13)))
    (l13 : K.lookup f13 = some ⟨oc13, od13, .func (PySem.W.fnOf "compared" "compared" (defArgs s_compared) (defBody s_compared) (defScope s_compared) .none kV13 dc13 pm13 an13 cd13 ct13), sl13⟩)
    (c13 : PySem.W.codeIn K cd13 "compared" = true)
    (k13 : PySem.W.keepIn K (.ref f13) = true)
    {f14 : Addr} {od14 an14 : Option Addr} {sl14 : Array (Option Value)} {oc14 kV14 dc14 pm14 cd14 ct14 : Value}
    (a14 : PySem.W.nsIn K mainGlobals "atom_truth" = some (some (.ref f14)))
    (l14 : K.lookup f14 = some ⟨oc14, od14, .func (PySem.W.fnOf "atom_truth" "atom_truth" (defArgs s_atom_truth) (defBody s_atom_truth) (defScope s_atom_truth) .none kV14 dc14 pm14 an14 cd14 ct14), sl14⟩)
    (c14 : PySem.W.codeIn K cd14 "atom_truth" = true)
    (k14 : PySem.W.keepIn K (.ref f14) = true)
    {f15 : Addr} {od15 an15 : Option Addr} {sl15 : Array (Option Value)} {oc15 kV15 dc15 pm15 cd15 ct15 : Value}
    (a15 : PySem.W.nsIn K mainGlobals "truth_of" = some (some (.ref f15)))
    (l15 : K.lookup f15 = some ⟨oc15, od15, .func (PySem.W.fnOf "truth_of" "truth_of" (defArgs s_truth_of) (defBody s_truth_of) (defScope s_truth_of) .none kV15 dc15 pm15 an15 cd15 ct15), sl15⟩)
    (c15 : PySem.W.codeIn K cd15 "truth_of" = true)
    (k15 : PySem.W.keepIn K (.ref f15) = true)
    {f16 : Addr} {od16 an16 : Option Addr} {sl16 : Array (Option Value)} {oc16 kV16 dc16 pm16 cd16 ct16 : Value}
    (a16 : PySem.W.findIn K (.ref C_Test) "truth" = some (some (.ref f16)))
    (i16 : PySem.W.isFn K (.ref f16) = true)
    (l16 : K.lookup f16 = some ⟨oc16, od16, .func (PySem.W.fnOf "truth" "Test.truth" (defArgs s_Test_truth) (defBody s_Test_truth) (defScope s_Test_truth) .none kV16 dc16 pm16 an16 cd16 ct16), sl16⟩)
    (c16 : PySem.W.codeIn K cd16 "Test.truth" = true)
    (k16 : PySem.W.keepIn K (.ref f16) = true)
    {f17 : Addr} {od17 an17 : Option Addr} {sl17 : Array (Option Value)} {oc17 kV17 dc17 pm17 cd17 ct17 : Value}
    (a17 : PySem.W.nsIn K mainGlobals "_law_draw" = some (some (.ref f17)))
    (l17 : K.lookup f17 = some ⟨oc17, od17, .func (PySem.W.fnOf "_law_draw" "_law_draw" (defArgs s_law_draw) (defBody s_law_draw) (defScope s_law_draw) .none kV17 dc17 pm17 an17 cd17 ct17), sl17⟩)
    (c17 : PySem.W.codeIn K cd17 "_law_draw" = true)
    (k17 : PySem.W.keepIn K (.ref f17) = true)
    {f18 : Addr} {od18 an18 : Option Addr} {sl18 : Array (Option Value)} {oc18 kV18 dc18 pm18 cd18 ct18 : Value}
    (a18 : PySem.W.nsIn K mainGlobals "_law_fault" = some (some (.ref f18)))
    (l18 : K.lookup f18 = some ⟨oc18, od18, .func (PySem.W.fnOf "_law_fault" "_law_fault" (defArgs s_law_fault) (defBody s_law_fault) (defScope s_law_fault) .none kV18 dc18 pm18 an18 cd18 ct18), sl18⟩)
    (c18 : PySem.W.codeIn K cd18 "_law_fault" = true)
    (k18 : PySem.W.keepIn K (.ref f18) = true)
    {f19 : Addr} {od19 an19 : Option Addr} {sl19 : Array (Option Value)} {oc19 kV19 dc19 pm19 cd19 ct19 : Value}
    (a19 : PySem.W.nsIn K mainGlobals "_law_pick" = some (some (.ref f19)))
    (l19 : K.lookup f19 = some ⟨oc19, od19, .func (PySem.W.fnOf "_law_pick" "_law_pick" (defArgs s_law_pick) (defBody s_law_pick) (defScope s_law_pick) .none kV19 dc19 pm19 an19 cd19 ct19), sl19⟩)
    (c19 : PySem.W.codeIn K cd19 "_law_pick" = true)
    (k19 : PySem.W.keepIn K (.ref f19) = true)
    {f20 : Addr} {od20 an20 : Option Addr} {sl20 : Array (Option Value)} {oc20 kV20 dc20 pm20 cd20 ct20 : Value}
    (a20 : PySem.W.nsIn K mainGlobals "_law_lacking_right" = some (some (.ref f20)))
    (l20 : K.lookup f20 = some ⟨oc20, od20, .func (PySem.W.fnOf "_law_lacking_right" "_law_lacking_right" (defArgs s_law_lacking_right) (defBody s_law_lacking_right) (defScope s_law_lacking_right) .none kV20 dc20 pm20 an20 cd20 ct20), sl20⟩)
    (c20 : PySem.W.codeIn K cd20 "_law_lacking_right" = true)
    (k20 : PySem.W.keepIn K (.ref f20) = true)
    {f21 : Addr} {od21 an21 : Option Addr} {sl21 : Array (Option Value)} {oc21 kV21 dc21 pm21 cd21 ct21 : Value}
    (a21 : PySem.W.nsIn K mainGlobals "_law_layout" = some (some (.ref f21)))
    (l21 : K.lookup f21 = some ⟨oc21, od21, .func (PySem.W.fnOf "_law_layout" "_law_layout" (defArgs s_law_layout) (defBody s_law_layout) (defScope s_law_layout) .none kV21 dc21 pm21 an21 cd21 ct21), sl21⟩)
    (c21 : PySem.W.codeIn K cd21 "_law_layout" = true)
    (k21 : PySem.W.keepIn K (.ref f21) = true)
    {f22 : Addr} {od22 an22 : Option Addr} {sl22 : Array (Option Value)} {oc22 kV22 dc22 pm22 cd22 ct22 : Value}
    (a22 : PySem.W.nsIn K mainGlobals "combine" = some (some (.ref f22)))
    (l22 : K.lookup f22 = some ⟨oc22, od22, .func (PySem.W.fnOf "combine" "combine" (defArgs s_combine) (defBody s_combine) (defScope s_combine) .none kV22 dc22 pm22 an22 cd22 ct22), sl22⟩)
    (c22 : PySem.W.codeIn K cd22 "combine" = true)
    (k22 : PySem.W.keepIn K (.ref f22) = true)
    {f23 : Addr} {od23 an23 : Option Addr} {sl23 : Array (Option Value)} {oc23 kV23 dc23 pm23 cd23 ct23 : Value}
    (a23 : PySem.W.findIn K (.ref C_Test) "__and__" = some (some (.ref f23)))
    (i23 : PySem.W.isFn K (.ref f23) = true)
    (l23 : K.lookup f23 = some ⟨oc23, od23, .func (PySem.W.fnOf "__and__" "Test.__and__" (defArgs s_Test_and) (defBody s_Test_and) (defScope s_Test_and) .none kV23 dc23 pm23 an23 cd23 ct23), sl23⟩)
    (c23 : PySem.W.codeIn K cd23 "Test.__and__" = true)
    (k23 : PySem.W.keepIn K (.ref f23) = true)
    {f24 : Addr} {od24 an24 : Option Addr} {sl24 : Array (Option Value)} {oc24 kV24 dc24 pm24 cd24 ct24 : Value}
    (a24 : PySem.W.findIn K (.ref C_Test) "__or__" = some (some (.ref f24)))
    (i24 : PySem.W.isFn K (.ref f24) = true)
    (l24 : K.lookup f24 = some ⟨oc24, od24, .func (PySem.W.fnOf "__or__" "Test.__or__" (defArgs s_Test_or) (defBody s_Test_or) (defScope s_Test_or) .none kV24 dc24 pm24 an24 cd24 ct24), sl24⟩)
    (c24 : PySem.W.codeIn K cd24 "Test.__or__" = true)
    (k24 : PySem.W.keepIn K (.ref f24) = true)
    {f25 : Addr} {od25 an25 : Option Addr} {sl25 : Array (Option Value)} {oc25 kV25 dc25 pm25 cd25 ct25 : Value}
    (a25 : PySem.W.nsIn K mainGlobals "is_integer" = some (some (.ref f25)))
    (l25 : K.lookup f25 = some ⟨oc25, od25, .func (PySem.W.fnOf "is_integer" "is_integer" (defArgs s_is_integer) (defBody s_is_integer) (defScope s_is_integer) .none kV25 dc25 pm25 an25 cd25 ct25), sl25⟩)
    (c25 : PySem.W.codeIn K cd25 "is_integer" = true)
    (k25 : PySem.W.keepIn K (.ref f25) = true)
    {f26 : Addr} {od26 an26 : Option Addr} {sl26 : Array (Option Value)} {oc26 kV26 dc26 pm26 cd26 ct26 : Value}
    (a26 : PySem.W.nsIn K mainGlobals "is_name" = some (some (.ref f26)))
    (l26 : K.lookup f26 = some ⟨oc26, od26, .func (PySem.W.fnOf "is_name" "is_name" (defArgs s_is_name) (defBody s_is_name) (defScope s_is_name) .none kV26 dc26 pm26 an26 cd26 ct26), sl26⟩)
    (c26 : PySem.W.codeIn K cd26 "is_name" = true)
    (k26 : PySem.W.keepIn K (.ref f26) = true)
    {f27 : Addr} {od27 an27 : Option Addr} {sl27 : Array (Option Value)} {oc27 kV27 dc27 pm27 cd27 ct27 : Value}
    (a27 : PySem.W.nsIn K mainGlobals "is_path" = some (some (.ref f27)))
    (l27 : K.lookup f27 = some ⟨oc27, od27, .func (PySem.W.fnOf "is_path" "is_path" (defArgs s_is_path) (defBody s_is_path) (defScope s_is_path) .none kV27 dc27 pm27 an27 cd27 ct27), sl27⟩)
    (c27 : PySem.W.codeIn K cd27 "is_path" = true)
    (k27 : PySem.W.keepIn K (.ref f27) = true)
    {f28 : Addr} {od28 an28 : Option Addr} {sl28 : Array (Option Value)} {oc28 kV28 dc28 pm28 cd28 ct28 : Value}
    (a28 : PySem.W.nsIn K mainGlobals "need_operator" = some (some (.ref f28)))
    (l28 : K.lookup f28 = some ⟨oc28, od28, .func (PySem.W.fnOf "need_operator" "need_operator" (defArgs s_need_operator) (defBody s_need_operator) (defScope s_need_operator) .none kV28 dc28 pm28 an28 cd28 ct28), sl28⟩)
    (c28 : PySem.W.codeIn K cd28 "need_operator" = true)
    (k28 : PySem.W.keepIn K (.ref f28) = true)
    {f29 : Addr} {od29 an29 : Option Addr} {sl29 : Array (Option Value)} {oc29 kV29 dc29 pm29 cd29 ct29 : Value}
    (a29 : PySem.W.nsIn K mainGlobals "need_path" = some (some (.ref f29)))
    (l29 : K.lookup f29 = some ⟨oc29, od29, .func (PySem.W.fnOf "need_path" "need_path" (defArgs s_need_path) (defBody s_need_path) (defScope s_need_path) .none kV29 dc29 pm29 an29 cd29 ct29), sl29⟩)
    (c29 : PySem.W.codeIn K cd29 "need_path" = true)
    (k29 : PySem.W.keepIn K (.ref f29) = true)
    {f30 : Addr} {od30 an30 : Option Addr} {sl30 : Array (Option Value)} {oc30 dc30 pm30 cd30 ct30 : Value}
    {kD30 : Addr} {ku30 : Value}
    (a30 : PySem.W.nsIn K mainGlobals "against" = some (some (.ref f30)))
    (l30 : K.lookup f30 = some ⟨oc30, od30, .func (PySem.W.fnOf "against" "against" (defArgs s_against) (defBody s_against) (defScope s_against) .none (.ref kD30) dc30 pm30 an30 cd30 ct30), sl30⟩)
    (kn30 : PySem.W.nsIn K kD30 "more" = some (some ku30))
    (kr30 : RelV (.int 0) ku30)
    (c30 : PySem.W.codeIn K cd30 "against" = true)
    (k30 : PySem.W.keepIn K (.ref f30) = true)
    {f31 : Addr} {od31 an31 : Option Addr} {sl31 : Array (Option Value)} {oc31 kV31 dc31 pm31 cd31 ct31 : Value}
    (a31 : PySem.W.nsIn K mainGlobals "always" = some (some (.ref f31)))
    (l31 : K.lookup f31 = some ⟨oc31, od31, .func (PySem.W.fnOf "always" "always" (defArgs s_always) (defBody s_always) (defScope s_always) .none kV31 dc31 pm31 an31 cd31 ct31), sl31⟩)
    (c31 : PySem.W.codeIn K cd31 "always" = true)
    (k31 : PySem.W.keepIn K (.ref f31) = true)
    {f32 : Addr} {od32 an32 : Option Addr} {sl32 : Array (Option Value)} {oc32 kV32 dc32 pm32 cd32 ct32 : Value}
    (a32 : PySem.W.nsIn K mainGlobals "is_sequence" = some (some (.ref f32)))
    (l32 : K.lookup f32 = some ⟨oc32, od32, .func (PySem.W.fnOf "is_sequence" "is_sequence" (defArgs s_is_sequence) (defBody s_is_sequence) (defScope s_is_sequence) .none kV32 dc32 pm32 an32 cd32 ct32), sl32⟩)
    (c32 : PySem.W.codeIn K cd32 "is_sequence" = true)
    (k32 : PySem.W.keepIn K (.ref f32) = true)
    {f33 : Addr} {od33 an33 : Option Addr} {sl33 : Array (Option Value)} {oc33 kV33 dc33 pm33 cd33 ct33 : Value}
    (a33 : PySem.W.nsIn K mainGlobals "is_text" = some (some (.ref f33)))
    (l33 : K.lookup f33 = some ⟨oc33, od33, .func (PySem.W.fnOf "is_text" "is_text" (defArgs s_is_text) (defBody s_is_text) (defScope s_is_text) .none kV33 dc33 pm33 an33 cd33 ct33), sl33⟩)
    (c33 : PySem.W.codeIn K cd33 "is_text" = true)
    (k33 : PySem.W.keepIn K (.ref f33) = true)
    {f34 : Addr} {od34 an34 : Option Addr} {sl34 : Array (Option Value)} {oc34 kV34 dc34 pm34 cd34 ct34 : Value}
    (a34 : PySem.W.nsIn K mainGlobals "kind_of" = some (some (.ref f34)))
    (l34 : K.lookup f34 = some ⟨oc34, od34, .func (PySem.W.fnOf "kind_of" "kind_of" (defArgs s_kind_of) (defBody s_kind_of) (defScope s_kind_of) .none kV34 dc34 pm34 an34 cd34 ct34), sl34⟩)
    (c34 : PySem.W.codeIn K cd34 "kind_of" = true)
    (k34 : PySem.W.keepIn K (.ref f34) = true)
    {f35 : Addr} {od35 an35 : Option Addr} {sl35 : Array (Option Value)} {oc35 kV35 dc35 pm35 cd35 ct35 : Value}
    (a35 : PySem.W.nsIn K mainGlobals "among" = some (some (.ref f35)))
    (l35 : K.lookup f35 = some ⟨oc35, od35, .func (PySem.W.fnOf "among" "among" (defArgs s_among) (defBody s_among) (defScope s_among) .none kV35 dc35 pm35 an35 cd35 ct35), sl35⟩)
    (c35 : PySem.W.codeIn K cd35 "among" = true)
    (k35 : PySem.W.keepIn K (.ref f35) = true)
    {f36 : Addr} {od36 an36 : Option Addr} {sl36 : Array (Option Value)} {oc36 kV36 dc36 pm36 cd36 ct36 : Value}
    (a36 : PySem.W.nsIn K mainGlobals "begins" = some (some (.ref f36)))
    (l36 : K.lookup f36 = some ⟨oc36, od36, .func (PySem.W.fnOf "begins" "begins" (defArgs s_begins) (defBody s_begins) (defScope s_begins) .none kV36 dc36 pm36 an36 cd36 ct36), sl36⟩)
    (c36 : PySem.W.codeIn K cd36 "begins" = true)
    (k36 : PySem.W.keepIn K (.ref f36) = true)
    {f37 : Addr} {od37 an37 : Option Addr} {sl37 : Array (Option Value)} {oc37 kV37 dc37 pm37 cd37 ct37 : Value}
    (a37 : PySem.W.nsIn K mainGlobals "compare" = some (some (.ref f37)))
    (l37 : K.lookup f37 = some ⟨oc37, od37, .func (PySem.W.fnOf "compare" "compare" (defArgs s_compare) (defBody s_compare) (defScope s_compare) .none kV37 dc37 pm37 an37 cd37 ct37), sl37⟩)
    (c37 : PySem.W.codeIn K cd37 "compare" = true)
    (k37 : PySem.W.keepIn K (.ref f37) = true)
    {f38 : Addr} {od38 an38 : Option Addr} {sl38 : Array (Option Value)} {oc38 kV38 dc38 pm38 cd38 ct38 : Value}
    (a38 : PySem.W.nsIn K mainGlobals "empty" = some (some (.ref f38)))
    (l38 : K.lookup f38 = some ⟨oc38, od38, .func (PySem.W.fnOf "empty" "empty" (defArgs s_empty) (defBody s_empty) (defScope s_empty) .none kV38 dc38 pm38 an38 cd38 ct38), sl38⟩)
    (c38 : PySem.W.codeIn K cd38 "empty" = true)
    (k38 : PySem.W.keepIn K (.ref f38) = true)
    {f39 : Addr} {od39 an39 : Option Addr} {sl39 : Array (Option Value)} {oc39 kV39 dc39 pm39 cd39 ct39 : Value}
    (a39 : PySem.W.nsIn K mainGlobals "never" = some (some (.ref f39)))
    (l39 : K.lookup f39 = some ⟨oc39, od39, .func (PySem.W.fnOf "never" "never" (defArgs s_never) (defBody s_never) (defScope s_never) .none kV39 dc39 pm39 an39 cd39 ct39), sl39⟩)
    (c39 : PySem.W.codeIn K cd39 "never" = true)
    (k39 : PySem.W.keepIn K (.ref f39) = true)
    {f40 : Addr} {od40 an40 : Option Addr} {sl40 : Array (Option Value)} {oc40 kV40 dc40 pm40 cd40 ct40 : Value}
    (a40 : PySem.W.nsIn K mainGlobals "sure" = some (some (.ref f40)))
    (l40 : K.lookup f40 = some ⟨oc40, od40, .func (PySem.W.fnOf "sure" "sure" (defArgs s_sure) (defBody s_sure) (defScope s_sure) .none kV40 dc40 pm40 an40 cd40 ct40), sl40⟩)
    (c40 : PySem.W.codeIn K cd40 "sure" = true)
    (k40 : PySem.W.keepIn K (.ref f40) = true)
    {f41 : Addr} {od41 an41 : Option Addr} {sl41 : Array (Option Value)} {oc41 kV41 dc41 pm41 cd41 ct41 : Value}
    (a41 : PySem.W.nsIn K mainGlobals "unsure" = some (some (.ref f41)))
    (l41 : K.lookup f41 = some ⟨oc41, od41, .func (PySem.W.fnOf "unsure" "unsure" (defArgs s_unsure) (defBody s_unsure) (defScope s_unsure) .none kV41 dc41 pm41 an41 cd41 ct41), sl41⟩)
    (c41 : PySem.W.codeIn K cd41 "unsure" = true)
    (k41 : PySem.W.keepIn K (.ref f41) = true)
    {f42 : Addr} {od42 an42 : Option Addr} {sl42 : Array (Option Value)} {oc42 kV42 dc42 pm42 cd42 ct42 : Value}
    (a42 : PySem.W.nsIn K mainGlobals "_law_made" = some (some (.ref f42)))
    (l42 : K.lookup f42 = some ⟨oc42, od42, .func (PySem.W.fnOf "_law_made" "_law_made" (defArgs s_law_made) (defBody s_law_made) (defScope s_law_made) .none kV42 dc42 pm42 an42 cd42 ct42), sl42⟩)
    (c42 : PySem.W.codeIn K cd42 "_law_made" = true)
    (k42 : PySem.W.keepIn K (.ref f42) = true)
    {f43 : Addr} {od43 an43 : Option Addr} {sl43 : Array (Option Value)} {oc43 kV43 dc43 pm43 cd43 ct43 : Value}
    (a43 : PySem.W.nsIn K mainGlobals "_law_number" = some (some (.ref f43)))
    (l43 : K.lookup f43 = some ⟨oc43, od43, .func (PySem.W.fnOf "_law_number" "_law_number" (defArgs s_law_number) (defBody s_law_number) (defScope s_law_number) .none kV43 dc43 pm43 an43 cd43 ct43), sl43⟩)
    (c43 : PySem.W.codeIn K cd43 "_law_number" = true)
    (k43 : PySem.W.keepIn K (.ref f43) = true)
    {f44 : Addr} {od44 an44 : Option Addr} {sl44 : Array (Option Value)} {oc44 kV44 dc44 pm44 cd44 ct44 : Value}
    (a44 : PySem.W.nsIn K mainGlobals "_law_text" = some (some (.ref f44)))
    (l44 : K.lookup f44 = some ⟨oc44, od44, .func (PySem.W.fnOf "_law_text" "_law_text" (defArgs s_law_text) (defBody s_law_text) (defScope s_law_text) .none kV44 dc44 pm44 an44 cd44 ct44), sl44⟩)
    (c44 : PySem.W.codeIn K cd44 "_law_text" = true)
    (k44 : PySem.W.keepIn K (.ref f44) = true)
    {f45 : Addr} {od45 an45 : Option Addr} {sl45 : Array (Option Value)} {oc45 kV45 dc45 pm45 cd45 ct45 : Value}
    (a45 : PySem.W.nsIn K mainGlobals "_law_value" = some (some (.ref f45)))
    (l45 : K.lookup f45 = some ⟨oc45, od45, .func (PySem.W.fnOf "_law_value" "_law_value" (defArgs s_law_value) (defBody s_law_value) (defScope s_law_value) .none kV45 dc45 pm45 an45 cd45 ct45), sl45⟩)
    (c45 : PySem.W.codeIn K cd45 "_law_value" = true)
    (k45 : PySem.W.keepIn K (.ref f45) = true)
    {f46 : Addr} {od46 an46 : Option Addr} {sl46 : Array (Option Value)} {oc46 kV46 dc46 pm46 cd46 ct46 : Value}
    (a46 : PySem.W.nsIn K mainGlobals "_law_near_value" = some (some (.ref f46)))
    (l46 : K.lookup f46 = some ⟨oc46, od46, .func (PySem.W.fnOf "_law_near_value" "_law_near_value" (defArgs s_law_near_value) (defBody s_law_near_value) (defScope s_law_near_value) .none kV46 dc46 pm46 an46 cd46 ct46), sl46⟩)
    (c46 : PySem.W.codeIn K cd46 "_law_near_value" = true)
    (k46 : PySem.W.keepIn K (.ref f46) = true)
    {f47 : Addr} {od47 an47 : Option Addr} {sl47 : Array (Option Value)} {oc47 kV47 dc47 pm47 cd47 ct47 : Value}
    (a47 : PySem.W.nsIn K mainGlobals "_law_values_of" = some (some (.ref f47)))
    (l47 : K.lookup f47 = some ⟨oc47, od47, .func (PySem.W.fnOf "_law_values_of" "_law_values_of" (defArgs s_law_values_of) (defBody s_law_values_of) (defScope s_law_values_of) .none kV47 dc47 pm47 an47 cd47 ct47), sl47⟩)
    (c47 : PySem.W.codeIn K cd47 "_law_values_of" = true)
    (k47 : PySem.W.keepIn K (.ref f47) = true)
    {f48 : Addr} {od48 an48 : Option Addr} {sl48 : Array (Option Value)} {oc48 kV48 dc48 pm48 cd48 ct48 : Value}
    (a48 : PySem.W.nsIn K mainGlobals "_law_near_row" = some (some (.ref f48)))
    (l48 : K.lookup f48 = some ⟨oc48, od48, .func (PySem.W.fnOf "_law_near_row" "_law_near_row" (defArgs s_law_near_row) (defBody s_law_near_row) (defScope s_law_near_row) .none kV48 dc48 pm48 an48 cd48 ct48), sl48⟩)
    (c48 : PySem.W.codeIn K cd48 "_law_near_row" = true)
    (k48 : PySem.W.keepIn K (.ref f48) = true)
    {f49 : Addr} {od49 an49 : Option Addr} {sl49 : Array (Option Value)} {oc49 kV49 dc49 pm49 cd49 ct49 : Value}
    (a49 : PySem.W.nsIn K mainGlobals "_law_same" = some (some (.ref f49)))
    (l49 : K.lookup f49 = some ⟨oc49, od49, .func (PySem.W.fnOf "_law_same" "_law_same" (defArgs s_law_same) (defBody s_law_same) (defScope s_law_same) .none kV49 dc49 pm49 an49 cd49 ct49), sl49⟩)
    (c49 : PySem.W.codeIn K cd49 "_law_same" = true)
    (k49 : PySem.W.keepIn K (.ref f49) = true)
    {f50 : Addr} {od50 an50 : Option Addr} {sl50 : Array (Option Value)} {oc50 kV50 dc50 pm50 cd50 ct50 : Value}
    (a50 : PySem.W.nsIn K mainGlobals "_law_atom" = some (some (.ref f50)))
    (l50 : K.lookup f50 = some ⟨oc50, od50, .func (PySem.W.fnOf "_law_atom" "_law_atom" (defArgs s_law_atom) (defBody s_law_atom) (defScope s_law_atom) .none kV50 dc50 pm50 an50 cd50 ct50), sl50⟩)
    (c50 : PySem.W.codeIn K cd50 "_law_atom" = true)
    (k50 : PySem.W.keepIn K (.ref f50) = true)
    {f51 : Addr} {od51 an51 : Option Addr} {sl51 : Array (Option Value)} {oc51 kV51 dc51 pm51 cd51 ct51 : Value}
    (a51 : PySem.W.nsIn K mainGlobals "_law_spec" = some (some (.ref f51)))
    (l51 : K.lookup f51 = some ⟨oc51, od51, .func (PySem.W.fnOf "_law_spec" "_law_spec" (defArgs s_law_spec) (defBody s_law_spec) (defScope s_law_spec) .none kV51 dc51 pm51 an51 cd51 ct51), sl51⟩)
    (c51 : PySem.W.codeIn K cd51 "_law_spec" = true)
    (k51 : PySem.W.keepIn K (.ref f51) = true)
    {f52 : Addr} {od52 an52 : Option Addr} {sl52 : Array (Option Value)} {oc52 kV52 dc52 pm52 cd52 ct52 : Value}
    (a52 : PySem.W.nsIn K mainGlobals "_law_compared" = some (some (.ref f52)))
    (l52 : K.lookup f52 = some ⟨oc52, od52, .func (PySem.W.fnOf "_law_compared" "_law_compared" (defArgs s_law_compared) (defBody s_law_compared) (defScope s_law_compared) .none kV52 dc52 pm52 an52 cd52 ct52), sl52⟩)
    (c52 : PySem.W.codeIn K cd52 "_law_compared" = true)
    (k52 : PySem.W.keepIn K (.ref f52) = true)
    {f53 : Addr} {od53 an53 : Option Addr} {sl53 : Array (Option Value)} {oc53 kV53 dc53 pm53 cd53 ct53 : Value}
    (a53 : PySem.W.nsIn K mainGlobals "_law_atom_truth" = some (some (.ref f53)))
    (l53 : K.lookup f53 = some ⟨oc53, od53, .func (PySem.W.fnOf "_law_atom_truth" "_law_atom_truth" (defArgs s_law_atom_truth) (defBody s_law_atom_truth) (defScope s_law_atom_truth) .none kV53 dc53 pm53 an53 cd53 ct53), sl53⟩)
    (c53 : PySem.W.codeIn K cd53 "_law_atom_truth" = true)
    (k53 : PySem.W.keepIn K (.ref f53) = true)
    {f54 : Addr} {od54 an54 : Option Addr} {sl54 : Array (Option Value)} {oc54 kV54 dc54 pm54 cd54 ct54 : Value}
    (a54 : PySem.W.nsIn K mainGlobals "_law_truth" = some (some (.ref f54)))
    (l54 : K.lookup f54 = some ⟨oc54, od54, .func (PySem.W.fnOf "_law_truth" "_law_truth" (defArgs s_law_truth) (defBody s_law_truth) (defScope s_law_truth) .none kV54 dc54 pm54 an54 cd54 ct54), sl54⟩)
    (c54 : PySem.W.codeIn K cd54 "_law_truth" = true)
    (k54 : PySem.W.keepIn K (.ref f54) = true)
    {f55 : Addr} {od55 an55 : Option Addr} {sl55 : Array (Option Value)} {oc55 kV55 dc55 pm55 cd55 ct55 : Value}
    (a55 : PySem.W.nsIn K mainGlobals "joined" = some (some (.ref f55)))
    (l55 : K.lookup f55 = some ⟨oc55, od55, .func (PySem.W.fnOf "joined" "joined" (defArgs s_joined) (defBody s_joined) (defScope s_joined) .none kV55 dc55 pm55 an55 cd55 ct55), sl55⟩)
    (c55 : PySem.W.codeIn K cd55 "joined" = true)
    (k55 : PySem.W.keepIn K (.ref f55) = true)
    {f56 : Addr} {od56 an56 : Option Addr} {sl56 : Array (Option Value)} {oc56 kV56 dc56 pm56 cd56 ct56 : Value}
    (a56 : PySem.W.nsIn K mainGlobals "all_of" = some (some (.ref f56)))
    (l56 : K.lookup f56 = some ⟨oc56, od56, .func (PySem.W.fnOf "all_of" "all_of" (defArgs s_all_of) (defBody s_all_of) (defScope s_all_of) .none kV56 dc56 pm56 an56 cd56 ct56), sl56⟩)
    (c56 : PySem.W.codeIn K cd56 "all_of" = true)
    (k56 : PySem.W.keepIn K (.ref f56) = true)
    {f57 : Addr} {od57 an57 : Option Addr} {sl57 : Array (Option Value)} {oc57 kV57 dc57 pm57 cd57 ct57 : Value}
    (a57 : PySem.W.nsIn K mainGlobals "any_of" = some (some (.ref f57)))
    (l57 : K.lookup f57 = some ⟨oc57, od57, .func (PySem.W.fnOf "any_of" "any_of" (defArgs s_any_of) (defBody s_any_of) (defScope s_any_of) .none kV57 dc57 pm57 an57 cd57 ct57), sl57⟩)
    (c57 : PySem.W.codeIn K cd57 "any_of" = true)
    (k57 : PySem.W.keepIn K (.ref f57) = true)
    {f58 : Addr} {od58 an58 : Option Addr} {sl58 : Array (Option Value)} {oc58 kV58 dc58 pm58 cd58 ct58 : Value}
    (a58 : PySem.W.nsIn K mainGlobals "_law_right" = some (some (.ref f58)))
    (l58 : K.lookup f58 = some ⟨oc58, od58, .func (PySem.W.fnOf "_law_right" "_law_right" (defArgs s_law_right) (defBody s_law_right) (defScope s_law_right) .none kV58 dc58 pm58 an58 cd58 ct58), sl58⟩)
    (c58 : PySem.W.codeIn K cd58 "_law_right" = true)
    (k58 : PySem.W.keepIn K (.ref f58) = true)
    {f59 : Addr} {od59 an59 : Option Addr} {sl59 : Array (Option Value)} {oc59 kV59 dc59 pm59 cd59 ct59 : Value}
    (a59 : PySem.W.nsIn K mainGlobals "_law_source" = some (some (.ref f59)))
    (l59 : K.lookup f59 = some ⟨oc59, od59, .func (PySem.W.fnOf "_law_source" "_law_source" (defArgs s_law_source) (defBody s_law_source) (defScope s_law_source) .none kV59 dc59 pm59 an59 cd59 ct59), sl59⟩)
    (c59 : PySem.W.codeIn K cd59 "_law_source" = true)
    (k59 : PySem.W.keepIn K (.ref f59) = true)
    {f60 : Addr} {od60 an60 : Option Addr} {sl60 : Array (Option Value)} {oc60 kV60 dc60 pm60 cd60 ct60 : Value}
    (a60 : PySem.W.nsIn K mainGlobals "law" = some (some (.ref f60)))
    (l60 : K.lookup f60 = some ⟨oc60, od60, .func (PySem.W.fnOf "law" "law" (defArgs s_law) (defBody s_law) (defScope s_law) .none kV60 dc60 pm60 an60 cd60 ct60), sl60⟩)
    (c60 : PySem.W.codeIn K cd60 "law" = true)
    (k60 : PySem.W.keepIn K (.ref f60) = true)
    (z_all : PySem.W.nsIn K mainGlobals "all" = some none)
    (z_any : PySem.W.nsIn K mainGlobals "any" = some none)
    (z_bool : PySem.W.nsIn K mainGlobals "bool" = some none)
    (z_dict : PySem.W.nsIn K mainGlobals "dict" = some none)
    (z_int : PySem.W.nsIn K mainGlobals "int" = some none)
    (z_isinstance : PySem.W.nsIn K mainGlobals "isinstance" = some none)
    (z_len : PySem.W.nsIn K mainGlobals "len" = some none)
    (z_list : PySem.W.nsIn K mainGlobals "list" = some none)
    (z_max : PySem.W.nsIn K mainGlobals "max" = some none)
    (z_range : PySem.W.nsIn K mainGlobals "range" = some none)
    (z_repr : PySem.W.nsIn K mainGlobals "repr" = some none)
    (z_str : PySem.W.nsIn K mainGlobals "str" = some none)
    (z_tuple : PySem.W.nsIn K mainGlobals "tuple" = some none)
    {tu_CHARS : Value} (x_CHARS : PySem.W.nsIn K mainGlobals "CHARS" = some (some tu_CHARS)) (v_CHARS : ∃ v, RelV v tu_CHARS ∧ absD v = some (.str " !\"#$&'()*+,-./0123456789:;<=>?@ABCDEFGHIJKLMNOPQRSTUVWXYZ[\\]^_`abcdefghijklmnopqrstuvwxyz{|}~"))
    {tu_DIGITS : Value} (x_DIGITS : PySem.W.nsIn K mainGlobals "DIGITS" = some (some tu_DIGITS)) (v_DIGITS : ∃ v, RelV v tu_DIGITS ∧ absD v = some (.str "0123456789"))
    {tp_KEPT_WORDS : Addr} {to_KEPT_WORDS : Option Addr} {ti_KEPT_WORDS : Array Value} {tn_KEPT_WORDS : Nat} {ts_KEPT_WORDS : Array (Option Value)} (x_KEPT_WORDS : PySem.W.nsIn K mainGlobals "KEPT_WORDS" = some (some (.ref tp_KEPT_WORDS))) (y_KEPT_WORDS : K.lookup tp_KEPT_WORDS = some ⟨.type "tuple", to_KEPT_WORDS, .seq ti_KEPT_WORDS tn_KEPT_WORDS, ts_KEPT_WORDS⟩) (v_KEPT_WORDS : AbsL ti_KEPT_WORDS.toList [.str "and", .str "or", .str "not", .str "sure", .str "in", .str "is", .str "empty", .str "begins", .str "always", .str "never", .str "unsure"]) (w_KEPT_WORDS : ti_KEPT_WORDS.size ≤ sizeLine)
    {tu_LETTERS : Value} (x_LETTERS : PySem.W.nsIn K mainGlobals "LETTERS" = some (some tu_LETTERS)) (v_LETTERS : ∃ v, RelV v tu_LETTERS ∧ absD v = some (.str "abcdefghijklmnopqrstuvwxyz"))
    {tu_MOST_ATOMS : Value} (x_MOST_ATOMS : PySem.W.nsIn K mainGlobals "MOST_ATOMS" = some (some tu_MOST_ATOMS)) (v_MOST_ATOMS : ∃ v, RelV v tu_MOST_ATOMS ∧ absD v = some (.int 48))
    {tu_MOST_LEVELS : Value} (x_MOST_LEVELS : PySem.W.nsIn K mainGlobals "MOST_LEVELS" = some (some tu_MOST_LEVELS)) (v_MOST_LEVELS : ∃ v, RelV v tu_MOST_LEVELS ∧ absD v = some (.int 24))
    {tu_MOST_PIECES : Value} (x_MOST_PIECES : PySem.W.nsIn K mainGlobals "MOST_PIECES" = some (some tu_MOST_PIECES)) (v_MOST_PIECES : ∃ v, RelV v tu_MOST_PIECES ∧ absD v = some (.int 4))
    {tu_MOST_VALUES : Value} (x_MOST_VALUES : PySem.W.nsIn K mainGlobals "MOST_VALUES" = some (some tu_MOST_VALUES)) (v_MOST_VALUES : ∃ v, RelV v tu_MOST_VALUES ∧ absD v = some (.int 8))
    {tp_OPERATORS : Addr} {to_OPERATORS : Option Addr} {ti_OPERATORS : Array Value} {tn_OPERATORS : Nat} {ts_OPERATORS : Array (Option Value)} (x_OPERATORS : PySem.W.nsIn K mainGlobals "OPERATORS" = some (some (.ref tp_OPERATORS))) (y_OPERATORS : K.lookup tp_OPERATORS = some ⟨.type "tuple", to_OPERATORS, .seq ti_OPERATORS tn_OPERATORS, ts_OPERATORS⟩) (v_OPERATORS : AbsL ti_OPERATORS.toList [.str "<", .str "<=", .str "==", .str "!=", .str ">", .str ">="]) (w_OPERATORS : ti_OPERATORS.size ≤ sizeLine)
    {tp_SLOT_NUMBERS : Addr} {to_SLOT_NUMBERS : Option Addr} {ti_SLOT_NUMBERS : Array Value} {tn_SLOT_NUMBERS : Nat} {ts_SLOT_NUMBERS : Array (Option Value)} (x_SLOT_NUMBERS : PySem.W.nsIn K mainGlobals "SLOT_NUMBERS" = some (some (.ref tp_SLOT_NUMBERS))) (y_SLOT_NUMBERS : K.lookup tp_SLOT_NUMBERS = some ⟨.type "tuple", to_SLOT_NUMBERS, .seq ti_SLOT_NUMBERS tn_SLOT_NUMBERS, ts_SLOT_NUMBERS⟩) (v_SLOT_NUMBERS : AbsL ti_SLOT_NUMBERS.toList [.str "1", .str "2", .str "3"]) (w_SLOT_NUMBERS : ti_SLOT_NUMBERS.size ≤ sizeLine)
    : ∃ fd : FuncData, (∀ (s : Shared) (v : Value), BindsTo s fd ⟨[v], []⟩ [("_law_script", v)]) ∧ ∀ base : Heap, K.In base → base.Ns mainGlobals mg → FnQ l.prog w K mg base (L2.CX l.prog w) 55 fa fd ["_law_script"] (spOf K (clOf clNames K) 1 fn_law) := by
  have e := hfa.symm.trans (PySem.W.mg_of X G a60)
  cases e
  have h_WorkError : clOf clNames K "WorkError" = some C_WorkError := clOf_at aC_WorkError (by decide)
  have g_WorkError : mg "WorkError" = some (.ref C_WorkError) := PySem.W.mg_of X G aC_WorkError
  have h_BadTest : clOf clNames K "BadTest" = some C_BadTest := clOf_at aC_BadTest (by decide)
  have g_BadTest : mg "BadTest" = some (.ref C_BadTest) := PySem.W.mg_of X G aC_BadTest
  have h_BadRow : clOf clNames K "BadRow" = some C_BadRow := clOf_at aC_BadRow (by decide)
  have g_BadRow : mg "BadRow" = some (.ref C_BadRow) := PySem.W.mg_of X G aC_BadRow
  have h_Test : clOf clNames K "Test" = some C_Test := clOf_at aC_Test (by decide)
  have g_Test : mg "Test" = some (.ref C_Test) := PySem.W.mg_of X G aC_Test
  have T : Gb w K (clOf clNames K) mg := ⟨kcon_of (PySem.W.mg_of X G kx_CONSTANTS) ⟨ky_CONSTANTS, kz_CONSTANTS, ku_CONSTANTS⟩ kt_CONSTANTS, PySem.W.mg_none_of X G z_all, PySem.W.mg_none_of X G z_any, PySem.W.mg_none_of X G z_bool, PySem.W.mg_none_of X G z_dict, PySem.W.mg_none_of X G z_int, PySem.W.mg_none_of X G z_isinstance, PySem.W.mg_none_of X G z_len, PySem.W.mg_none_of X G z_list, PySem.W.mg_none_of X G z_max, PySem.W.mg_none_of X G z_range, PySem.W.mg_none_of X G z_repr, PySem.W.mg_none_of X G z_str, PySem.W.mg_none_of X G z_tuple, glob_sc (PySem.W.mg_of X G x_CHARS) v_CHARS, glob_sc (PySem.W.mg_of X G x_DIGITS) v_DIGITS, glob_tup (PySem.W.mg_of X G x_KEPT_WORDS) y_KEPT_WORDS v_KEPT_WORDS w_KEPT_WORDS, glob_sc (PySem.W.mg_of X G x_LETTERS) v_LETTERS, glob_sc (PySem.W.mg_of X G x_MOST_ATOMS) v_MOST_ATOMS, glob_sc (PySem.W.mg_of X G x_MOST_LEVELS) v_MOST_LEVELS, glob_sc (PySem.W.mg_of X G x_MOST_PIECES) v_MOST_PIECES, glob_sc (PySem.W.mg_of X G x_MOST_VALUES) v_MOST_VALUES, glob_tup (PySem.W.mg_of X G x_OPERATORS) y_OPERATORS v_OPERATORS w_OPERATORS, glob_tup (PySem.W.mg_of X G x_SLOT_NUMBERS) y_SLOT_NUMBERS v_SLOT_NUMBERS w_SLOT_NUMBERS, at_cons h_Test (clsB_ok q_Test) n_Test__data at_nil, at_cons h_Test (clsB_ok q_Test) n_Test__kind at_nil, at_cons h_Test (clsB_ok q_Test) n_Test__parts at_nil, (xat_cons h_BadRow (xfB_ok xc_BadRow) xd_BadRow_column xat_nil), fun C h => by rw [h_Test] at h; cases h; exact so_Test, ⟨C_Test, g_Test, nb_Test, (isc_cons h_Test (clsB_ok q_Test) ib_Test ko_Test_Test isc_nil)⟩, ⟨C_BadRow, g_BadRow, (try_cons h_WorkError kt_BadRow_WorkError (try_cons h_BadTest kt_BadRow_BadTest (try_cons h_BadRow kt_BadRow_BadRow try_nil)))⟩, clOf_rsv (by decide)⟩
  refine ⟨PySem.W.fnOf "law" "law" (defArgs s_law) (defBody s_law) (defScope s_law) .none kV60 dc60 pm60 an60 cd60 ct60, fun s v => .of_eq rfl, fun base _ _ => ?_⟩
  have G_Test_init := mk_Test_init (P := l.prog) (w := w) (base := base) (fun_mk (st := s_Test_init) l0 c0 k0) h_Test g_Test ⟨m1_Test, a0, i0, m2_Test⟩ T
  have G_BadTest_init := mk_BadTest_init (P := l.prog) (w := w) (base := base) (fun_mk (st := s_BadTest_init) l1 c1 k1) h_BadTest g_BadTest (oexB_ok ⟨_, _, _, _, _, _, _, _, _, _, _, _, _, _, _, x1_BadTest, x2_BadTest⟩ x3_BadTest) a1 i1 xf_BadTest_why
  have G_Test_atoms := mk_Test_atoms (P := l.prog) (w := w) (base := base) (fun_mk (st := s_Test_atoms) l2 c2 k2) h_Test (clsB_ok q_Test) ⟨a2, i2, k2⟩ T 30
  have G_Test_levels := mk_Test_levels (P := l.prog) (w := w) (base := base) (fun_mk (st := s_Test_levels) l3 c3 k3) h_Test (clsB_ok q_Test) ⟨a3, i3, k3⟩ T 30
  have G_limited : Fn l.prog w K mg base (clOf clNames K) "limited" 31 1 fn_limited := mk_limited (fun_mk (st := s_limited) l4 c4 k4) (PySem.W.mg_of X G a4) T G_BadTest_init G_Test_atoms G_Test_levels
  have G_Test_invert := mk_Test_invert (P := l.prog) (w := w) (base := base) (fun_mk (st := s_Test_invert) l5 c5 k5) h_Test (clsB_ok q_Test) ⟨a5, i5, k5⟩ T G_Test_init G_limited
  have G_BadRow_init := mk_BadRow_init (P := l.prog) (w := w) (base := base) (fun_mk (st := s_BadRow_init) l6 c6 k6) h_BadRow g_BadRow (oexB_ok ⟨_, _, _, _, _, _, _, _, _, _, _, _, _, _, _, x1_BadRow, x2_BadRow⟩ x3_BadRow) a6 i6 xf_BadRow_column
  have G_Test_data := mk_Test_data (P := l.prog) (w := w) (base := base) (fun_mk (st := s_Test_data) l7 c7 k7) h_Test (clsB_ok q_Test) ⟨a7, i7, k7⟩ T
  have G_Test_kind := mk_Test_kind (P := l.prog) (w := w) (base := base) (fun_mk (st := s_Test_kind) l8 c8 k8) h_Test (clsB_ok q_Test) ⟨a8, i8, k8⟩ T
  have G_paths_of : Fn l.prog w K mg base (clOf clNames K) "paths_of" 2 1 fn_paths_of := mk_paths_of (fun_mk (st := s_paths_of) l9 c9 k9) (PySem.W.mg_of X G a9) T G_Test_data G_Test_kind
  have G_sorted_plain : Fn l.prog w K mg base (clOf clNames K) "sorted_plain" 1 1 fn_sorted_plain := mk_sorted_plain (fun_mk (st := s_sorted_plain) l10 c10 k10) (PySem.W.mg_of X G a10) T
  have G_Test_paths := mk_Test_paths (P := l.prog) (w := w) (base := base) (fun_mk (st := s_Test_paths) l11 c11 k11) h_Test (clsB_ok q_Test) ⟨a11, i11, k11⟩ T G_Test_atoms G_paths_of G_sorted_plain
  have G_Test_parts := mk_Test_parts (P := l.prog) (w := w) (base := base) (fun_mk (st := s_Test_parts) l12 c12 k12) h_Test (clsB_ok q_Test) ⟨a12, i12, k12⟩ T
  have G_compared : Fn l.prog w K mg base (clOf clNames K) "compared" 1 3 fn_compared := mk_compared (fun_mk (st := s_compared) l13 c13 k13) (PySem.W.mg_of X G a13) T
  have G_atom_truth : Fn l.prog w K mg base (clOf clNames K) "atom_truth" 2 3 fn_atom_truth := mk_atom_truth (fun_mk (st := s_atom_truth) l14 c14 k14) (PySem.W.mg_of X G a14) T G_compared
  have G_truth_of : Fn l.prog w K mg base (clOf clNames K) "truth_of" 22 2 (fn_truth_of 20) := mk_truth_of (fun_mk (st := s_truth_of) l15 c15 k15) (PySem.W.mg_of X G a15) T G_Test_data G_Test_kind G_Test_parts G_atom_truth 20
  have G_Test_truth := mk_Test_truth (P := l.prog) (w := w) (base := base) (fun_mk (st := s_Test_truth) l16 c16 k16) h_Test (clsB_ok q_Test) ⟨a16, i16, k16⟩ T G_BadRow_init G_Test_paths G_truth_of
  have G_law_draw : Fn l.prog w K mg base (clOf clNames K) "_law_draw" 1 2 fn_law_draw := mk_law_draw (fun_mk (st := s_law_draw) l17 c17 k17) (PySem.W.mg_of X G a17) T
  have G_law_fault : Fn l.prog w K mg base (clOf clNames K) "_law_fault" 33 2 fn_law_fault := mk_law_fault (fun_mk (st := s_law_fault) l18 c18 k18) (PySem.W.mg_of X G a18) T G_Test_truth
  have G_law_pick : Fn l.prog w K mg base (clOf clNames K) "_law_pick" 2 2 fn_law_pick := mk_law_pick (fun_mk (st := s_law_pick) l19 c19 k19) (PySem.W.mg_of X G a19) T G_law_draw
  have G_law_lacking_right : Fn l.prog w K mg base (clOf clNames K) "_law_lacking_right" 34 3 fn_law_lacking_right := mk_law_lacking_right (fun_mk (st := s_law_lacking_right) l20 c20 k20) (PySem.W.mg_of X G a20) T G_Test_paths G_Test_truth G_law_draw G_law_fault G_law_pick
  have G_law_layout : Fn l.prog w K mg base (clOf clNames K) "_law_layout" 3 2 fn_law_layout := mk_law_layout (fun_mk (st := s_law_layout) l21 c21 k21) (PySem.W.mg_of X G a21) T G_law_draw G_law_pick
  have G_combine : Fn l.prog w K mg base (clOf clNames K) "combine" 32 3 fn_combine := mk_combine (fun_mk (st := s_combine) l22 c22 k22) (PySem.W.mg_of X G a22) T G_BadTest_init G_Test_init G_limited
  have G_Test_and := mk_Test_and (P := l.prog) (w := w) (base := base) (fun_mk (st := s_Test_and) l23 c23 k23) h_Test (clsB_ok q_Test) ⟨a23, i23, k23⟩ T G_combine
  have G_Test_or := mk_Test_or (P := l.prog) (w := w) (base := base) (fun_mk (st := s_Test_or) l24 c24 k24) h_Test (clsB_ok q_Test) ⟨a24, i24, k24⟩ T G_combine
  have G_is_integer : Fn l.prog w K mg base (clOf clNames K) "is_integer" 1 1 fn_is_integer := mk_is_integer (fun_mk (st := s_is_integer) l25 c25 k25) (PySem.W.mg_of X G a25) T
  have G_is_name : Fn l.prog w K mg base (clOf clNames K) "is_name" 1 1 fn_is_name := mk_is_name (fun_mk (st := s_is_name) l26 c26 k26) (PySem.W.mg_of X G a26) T
  have G_is_path : Fn l.prog w K mg base (clOf clNames K) "is_path" 2 1 fn_is_path := mk_is_path (fun_mk (st := s_is_path) l27 c27 k27) (PySem.W.mg_of X G a27) T G_is_name
  have G_need_operator : Fn l.prog w K mg base (clOf clNames K) "need_operator" 3 1 fn_need_operator := mk_need_operator (fun_mk (st := s_need_operator) l28 c28 k28) (PySem.W.mg_of X G a28) T G_BadTest_init
  have G_need_path : Fn l.prog w K mg base (clOf clNames K) "need_path" 3 1 fn_need_path := mk_need_path (fun_mk (st := s_need_path) l29 c29 k29) (PySem.W.mg_of X G a29) T G_BadTest_init G_is_path
  have G_against : FnK l.prog w K mg base (clOf clNames K) "against" 4 3 "more" (.int 0) fn_against := mk_against (funD_mk (st := s_against) l30 c30 k30 kn30 kr30) (PySem.W.mg_of X G a30) T G_BadTest_init G_Test_init G_is_integer G_is_path G_need_operator G_need_path
  have G_always : Fn l.prog w K mg base (clOf clNames K) "always" 3 0 fn_always := mk_always (fun_mk (st := s_always) l31 c31 k31) (PySem.W.mg_of X G a31) T G_Test_init
  have G_is_sequence : Fn l.prog w K mg base (clOf clNames K) "is_sequence" 1 1 fn_is_sequence := mk_is_sequence (fun_mk (st := s_is_sequence) l32 c32 k32) (PySem.W.mg_of X G a32) T
  have G_is_text : Fn l.prog w K mg base (clOf clNames K) "is_text" 1 1 fn_is_text := mk_is_text (fun_mk (st := s_is_text) l33 c33 k33) (PySem.W.mg_of X G a33) T
  have G_kind_of : Fn l.prog w K mg base (clOf clNames K) "kind_of" 2 1 fn_kind_of := mk_kind_of (fun_mk (st := s_kind_of) l34 c34 k34) (PySem.W.mg_of X G a34) T G_is_integer G_is_text
  have G_among : Fn l.prog w K mg base (clOf clNames K) "among" 4 2 fn_among := mk_among (fun_mk (st := s_among) l35 c35 k35) (PySem.W.mg_of X G a35) T G_BadTest_init G_Test_init G_is_sequence G_kind_of G_need_path
  have G_begins : Fn l.prog w K mg base (clOf clNames K) "begins" 4 2 fn_begins := mk_begins (fun_mk (st := s_begins) l36 c36 k36) (PySem.W.mg_of X G a36) T G_BadTest_init G_Test_init G_is_text G_need_path
  have G_compare : Fn l.prog w K mg base (clOf clNames K) "compare" 4 3 fn_compare := mk_compare (fun_mk (st := s_compare) l37 c37 k37) (PySem.W.mg_of X G a37) T G_BadTest_init G_Test_init G_kind_of G_need_operator G_need_path
  have G_empty : Fn l.prog w K mg base (clOf clNames K) "empty" 4 1 fn_empty := mk_empty (fun_mk (st := s_empty) l38 c38 k38) (PySem.W.mg_of X G a38) T G_Test_init G_need_path
  have G_never : Fn l.prog w K mg base (clOf clNames K) "never" 3 0 fn_never := mk_never (fun_mk (st := s_never) l39 c39 k39) (PySem.W.mg_of X G a39) T G_Test_init
  have G_sure : Fn l.prog w K mg base (clOf clNames K) "sure" 32 1 fn_sure := mk_sure (fun_mk (st := s_sure) l40 c40 k40) (PySem.W.mg_of X G a40) T G_BadTest_init G_Test_init G_limited
  have G_unsure : Fn l.prog w K mg base (clOf clNames K) "unsure" 3 0 fn_unsure := mk_unsure (fun_mk (st := s_unsure) l41 c41 k41) (PySem.W.mg_of X G a41) T G_Test_init
  have G_law_made : Fn l.prog w K mg base (clOf clNames K) "_law_made" 53 1 (fn_law_made 20) := mk_law_made (fun_mk (st := s_law_made) l42 c42 k42) (PySem.W.mg_of X G a42) T G_Test_and G_Test_invert G_Test_or G_against G_always G_among G_begins G_compare G_empty G_never G_sure G_unsure 20
  have G_law_number : Fn l.prog w K mg base (clOf clNames K) "_law_number" 3 1 fn_law_number := mk_law_number (fun_mk (st := s_law_number) l43 c43 k43) (PySem.W.mg_of X G a43) T G_law_draw G_law_pick
  have G_law_text : Fn l.prog w K mg base (clOf clNames K) "_law_text" 3 1 fn_law_text := mk_law_text (fun_mk (st := s_law_text) l44 c44 k44) (PySem.W.mg_of X G a44) T G_law_draw G_law_pick
  have G_law_value : Fn l.prog w K mg base (clOf clNames K) "_law_value" 4 2 fn_law_value := mk_law_value (fun_mk (st := s_law_value) l45 c45 k45) (PySem.W.mg_of X G a45) T G_law_number G_law_text
  have G_law_near_value : Fn l.prog w K mg base (clOf clNames K) "_law_near_value" 5 3 fn_law_near_value := mk_law_near_value (fun_mk (st := s_law_near_value) l46 c46 k46) (PySem.W.mg_of X G a46) T G_law_draw G_law_pick G_law_value
  have G_law_values_of : Fn l.prog w K mg base (clOf clNames K) "_law_values_of" 20 1 (fn_law_values_of 20) := mk_law_values_of (fun_mk (st := s_law_values_of) l47 c47 k47) (PySem.W.mg_of X G a47) T 20
  have G_law_near_row : Fn l.prog w K mg base (clOf clNames K) "_law_near_row" 21 3 fn_law_near_row := mk_law_near_row (fun_mk (st := s_law_near_row) l48 c48 k48) (PySem.W.mg_of X G a48) T G_law_draw G_law_near_value G_law_values_of
  have G_law_same : Fn l.prog w K mg base (clOf clNames K) "_law_same" 1 2 fn_law_same := mk_law_same (fun_mk (st := s_law_same) l49 c49 k49) (PySem.W.mg_of X G a49) T
  have G_law_atom : Fn l.prog w K mg base (clOf clNames K) "_law_atom" 5 2 fn_law_atom := mk_law_atom (fun_mk (st := s_law_atom) l50 c50 k50) (PySem.W.mg_of X G a50) T G_law_draw G_law_pick G_law_text G_law_value
  have G_law_spec : Fn l.prog w K mg base (clOf clNames K) "_law_spec" 25 3 (fn_law_spec 20) := mk_law_spec (fun_mk (st := s_law_spec) l51 c51 k51) (PySem.W.mg_of X G a51) T G_law_atom G_law_draw 20
  have G_law_compared : Fn l.prog w K mg base (clOf clNames K) "_law_compared" 1 3 fn_law_compared := mk_law_compared (fun_mk (st := s_law_compared) l52 c52 k52) (PySem.W.mg_of X G a52) T
  have G_law_atom_truth : Fn l.prog w K mg base (clOf clNames K) "_law_atom_truth" 2 2 fn_law_atom_truth := mk_law_atom_truth (fun_mk (st := s_law_atom_truth) l53 c53 k53) (PySem.W.mg_of X G a53) T G_law_compared
  have G_law_truth : Fn l.prog w K mg base (clOf clNames K) "_law_truth" 22 2 (fn_law_truth 20) := mk_law_truth (fun_mk (st := s_law_truth) l54 c54 k54) (PySem.W.mg_of X G a54) T G_law_atom_truth 20
  have G_joined : Fn l.prog w K mg base (clOf clNames K) "joined" 33 3 fn_joined := mk_joined (fun_mk (st := s_joined) l55 c55 k55) (PySem.W.mg_of X G a55) T G_BadTest_init G_combine G_is_sequence
  have G_all_of : Fn l.prog w K mg base (clOf clNames K) "all_of" 34 1 fn_all_of := mk_all_of (fun_mk (st := s_all_of) l56 c56 k56) (PySem.W.mg_of X G a56) T G_always G_joined
  have G_any_of : Fn l.prog w K mg base (clOf clNames K) "any_of" 34 1 fn_any_of := mk_any_of (fun_mk (st := s_any_of) l57 c57 k57) (PySem.W.mg_of X G a57) T G_joined G_never
  have G_law_right : FnR l.prog w K mg base (clOf clNames K) "_law_right" 54 1 fn_law_right := mk_law_right (fun_mk (st := s_law_right) l58 c58 k58) (PySem.W.mg_of X G a58) T G_Test_invert G_Test_truth G_law_draw G_law_lacking_right G_law_layout G_law_made G_law_near_row G_law_same G_law_spec G_law_truth G_all_of G_always G_any_of G_never G_sure G_unsure
  have G_law_source : Fn l.prog w K mg base (clOf clNames K) "_law_source" 1 1 fn_law_source := mk_law_source (fun_mk (st := s_law_source) l59 c59 k59) (PySem.W.mg_of X G a59) T
  exact ok_law (fun_mk (st := s_law) l60 c60 k60) T G_law_right G_law_source
theorem rep_start {K : PySem.W.Frag} {cl : Str → Option Addr} {H : Hp} {a : Addr} {ns : List Int} (hS : SqL K H a (ns.map V.int)) (lo : LawOk) (hl : ns.length ≤ 63) : spOf K cl 1 fn_law [.ref a] H (fun v _ => v = .bl true) (fun _ _ _ => False) := by
  obtain ⟨S, e⟩ := lo ns hl
  refine ⟨⟨H, fun _ => none, fun _ => 0, 0⟩, [], [.scr ns], ⟨rfl, fun _ _ h => h, fun i mo h => by simp at h, fun i j m m' h => by simp at h, fun a o h => by cases h⟩, .cons (.scr hS) .nil, ?_⟩
  show Post K cl (Rep K cl) _ (fn_law [.scr ns] []) _ _
  rw [e]
  intro W' H' v _ _ r
  cases r
  rfl
theorem walk {l : PySem.W.OpenLaw} {q : Program} {loose : List Str} {XP : (Str → Option Value) → Heap → Prop} {YP : World → Heap → Prop} {d : DefRec} {K : Params → PySem.W.Frag} (lo : LawOk) (hn : l.most = some 63) (hdf : d.params.defaults = [])
    (hY : ∀ (w : World) (h : Heap), YP w h → (K w.params).In h)
    (F : ∀ (w : World) (mg : Str → Option Value) (fa : Addr) (h : Heap), (K w.params).In h → h.Ns mainGlobals mg → mg d.name = some (.ref fa) →
      ∃ fd : FuncData, (∀ (s : Shared) (u : Value), BindsTo s fd ⟨[u], []⟩ [("_law_script", u)]) ∧ ∀ base : Heap, (K w.params).In base → base.Ns mainGlobals mg → FnQ l.prog w (K w.params) mg base (L2.CX l.prog w) 55 fa fd ["_law_script"] (spOf (K w.params) (clOf clNames (K w.params)) 1 fn_law)) :
    PySem.W.WalkO q loose XP YP l.row.toRowW d [] (fun f vs => PySem.call f vs) :=
  walkQ (n := 63) (k := 55) (x := "_law_script") (CX := fun w => L2.CX l.prog w) (sp := fun w => spOf (K w.params) (clOf clNames (K w.params)) 1 fn_law) hn (by decide) hdf ⟨rfl, by decide, by decide⟩ hY F
    (fun _ _ a ns hl hS => rep_start hS lo hl) fun w H s e s' z => by
      obtain ⟨_, _, _, _, _, _, _, _, _, _, _, _, z⟩ := z
      exact z
end G
namespace G
open PySem L2
theorem law_ok : LawOk := fun ns _ => by
  obtain ⟨d, S, e, rfl⟩ := (law_k (ns := ns)).ex
  exact ⟨S, e⟩
end G
def PySem.Challenge.cw_sparedwork_k05_whole_truths_of_tests_holds.tw3148245897910071793 : Nat := 0
def PySem.Challenge.cw_sparedwork_k05_whole_truths_of_tests_holds.tw17089352906332251534 : Nat := 0
def PySem.Challenge.cw_sparedwork_k05_whole_truths_of_tests_holds.tw3450361963361744404 : Nat := 0
def PySem.Challenge.cw_sparedwork_k05_whole_truths_of_tests_holds.tw11215414956821618567 : Nat := 0
def PySem.Challenge.cw_sparedwork_k05_whole_truths_of_tests_holds.tw2491143554847945883 : Nat := 0
def PySem.Challenge.cw_sparedwork_k05_whole_truths_of_tests_holds.tw9631184526280867719 : Nat := 0
def PySem.Challenge.cw_sparedwork_k05_whole_truths_of_tests_holds.tw9964779558024158927 : Nat := 0
def PySem.Challenge.cw_sparedwork_k05_whole_truths_of_tests_holds.tw13914159764536563537 : Nat := 0
def PySem.Challenge.cw_sparedwork_k05_whole_truths_of_tests_holds.tw13499497272042512556 : Nat := 0
def PySem.Challenge.cw_sparedwork_k05_whole_truths_of_tests_holds.tw10604570550211469811 : Nat := 0
def PySem.Challenge.cw_sparedwork_k05_whole_truths_of_tests_holds.tw2612001159268962797 : Nat := 0
def PySem.Challenge.cw_sparedwork_k05_whole_truths_of_tests_holds.tw17331813893450135248 : Nat := 0
def PySem.Challenge.cw_sparedwork_k05_whole_truths_of_tests_holds.tw9026859943325761545 : Nat := 0
def PySem.Challenge.cw_sparedwork_k05_whole_truths_of_tests_holds.tw11943191792573963715 : Nat := 0
set_option Elab.async true
open PySem PySem.W PyProof.Rows in
set_option maxRecDepth 100000 in
set_option maxHeartbeats 0 in
theorem PySem.Challenge.cw_sparedwork_k05_whole_truths_of_tests_holds : PySem.Challenge.rw_sparedwork_k05_whole_truths_of_tests.Holds := by
  w_on; o_law; k_head; (case hw => w_witness2)
  k_fill
  refine G.walk (l := PySem.Challenge.rw_sparedwork_k05_whole_truths_of_tests) G.law_ok rfl rfl (fun w h Y => PySem.W.kIn_of Y) ?F
  case F =>
    intro w mg fa h KX NS hmg
    refine' G.all_mk KX NS hmg ?aC_WorkError ?aC_BadTest ?aC_BadRow ?aC_Test ?q_Test ?m1_Test ?m2_Test ?n_Test__data ?n_Test__kind ?n_Test__parts ?x1_BadTest ?x2_BadTest ?x3_BadTest ?xf_BadTest_why ?x1_BadRow ?x2_BadRow ?x3_BadRow ?xf_BadRow_column ?xc_BadRow ?xd_BadRow_column ?kx_CONSTANTS ?ky_CONSTANTS ?kz_CONSTANTS ?kt_CONSTANTS ?ku_CONSTANTS ?so_Test ?ib_Test ?nb_Test ?ko_Test_Test ?kt_BadRow_WorkError ?kt_BadRow_BadTest ?kt_BadRow_BadRow ?a0 ?i0 ?l0 ?c0 ?k0 ?a1 ?i1 ?l1 ?c1 ?k1 ?a2 ?i2 ?l2 ?c2 ?k2 ?a3 ?i3 ?l3 ?c3 ?k3 ?a4 ?l4 ?c4 ?k4 ?a5 ?i5 ?l5 ?c5 ?k5 ?a6 ?i6 ?l6 ?c6 ?k6 ?a7 ?i7 ?l7 ?c7 ?k7 ?a8 ?i8 ?l8 ?c8 ?k8 ?a9 ?l9 ?c9 ?k9 ?a10 ?l10 ?c10 ?k10 ?a11 ?i11 ?l11 ?c11 ?k11 ?a12 ?i12 ?l12 ?c12 ?k12 ?a13 ?l13 ?c13 ?k13 ?a14 ?l14 ?c14 ?k14 ?a15 ?l15 ?c15 ?k15 ?a16 ?i16 ?l16 ?c16 ?k16 ?a17 ?l17 ?c17 ?k17 ?a18 ?l18 ?c18 ?k18 ?a19 ?l19 ?c19 ?k19 ?a20 ?l20 ?c20 ?k20 ?a21 ?l21 ?c21 ?k21 ?a22 ?l22 ?c22 ?k22 ?a23 ?i23 ?l23 ?c23 ?k23 ?a24 ?i24 ?l24 ?c24 ?k24 ?a25 ?l25 ?c25 ?k25 ?a26 ?l26 ?c26 ?k26 ?a27 ?l27 ?c27 ?k27 ?a28 ?l28 ?c28 ?k28 ?a29 ?l29 ?c29 ?k29 ?a30 ?l30 ?kn30 ?kr30 ?c30 ?k30 ?a31 ?l31 ?c31 ?k31 ?a32 ?l32 ?c32 ?k32 ?a33 ?l33 ?c33 ?k33 ?a34 ?l34 ?c34 ?k34 ?a35 ?l35 ?c35 ?k35 ?a36 ?l36 ?c36 ?k36 ?a37 ?l37 ?c37 ?k37 ?a38 ?l38 ?c38 ?k38 ?a39 ?l39 ?c39 ?k39 ?a40 ?l40 ?c40 ?k40 ?a41 ?l41 ?c41 ?k41 ?a42 ?l42 ?c42 ?k42 ?a43 ?l43 ?c43 ?k43 ?a44 ?l44 ?c44 ?k44 ?a45 ?l45 ?c45 ?k45 ?a46 ?l46 ?c46 ?k46 ?a47 ?l47 ?c47 ?k47 ?a48 ?l48 ?c48 ?k48 ?a49 ?l49 ?c49 ?k49 ?a50 ?l50 ?c50 ?k50 ?a51 ?l51 ?c51 ?k51 ?a52 ?l52 ?c52 ?k52 ?a53 ?l53 ?c53 ?k53 ?a54 ?l54 ?c54 ?k54 ?a55 ?l55 ?c55 ?k55 ?a56 ?l56 ?c56 ?k56 ?a57 ?l57 ?c57 ?k57 ?a58 ?l58 ?c58 ?k58 ?a59 ?l59 ?c59 ?k59 ?a60 ?l60 ?c60 ?k60 ?z_all ?z_any ?z_bool ?z_dict ?z_int ?z_isinstance ?z_len ?z_list ?z_max ?z_range ?z_repr ?z_str ?z_tuple ?x_CHARS ?v_CHARS ?x_DIGITS ?v_DIGITS ?x_KEPT_WORDS ?y_KEPT_WORDS ?v_KEPT_WORDS ?w_KEPT_WORDS ?x_LETTERS ?v_LETTERS ?x_MOST_ATOMS ?v_MOST_ATOMS ?x_MOST_LEVELS ?v_MOST_LEVELS ?x_MOST_PIECES ?v_MOST_PIECES ?x_MOST_VALUES ?v_MOST_VALUES ?x_OPERATORS ?y_OPERATORS ?v_OPERATORS ?w_OPERATORS ?x_SLOT_NUMBERS ?y_SLOT_NUMBERS ?v_SLOT_NUMBERS ?w_SLOT_NUMBERS
    (case aC_WorkError => k_is)
    (case aC_BadTest => k_is)
    (case aC_BadRow => k_is)
    (case aC_Test => k_is)
    (case q_Test => kernel_rfl)
    (case m1_Test => k_is)
    (case m2_Test => k_is)
    (case n_Test__data => k_is)
    (case n_Test__kind => k_is)
    (case n_Test__parts => k_is)
    (case x1_BadTest => k_is)
    (case x2_BadTest => kernel_rfl)
    (case x3_BadTest => kernel_rfl)
    (case xf_BadTest_why => k_is)
    (case x1_BadRow => k_is)
    (case x2_BadRow => kernel_rfl)
    (case x3_BadRow => kernel_rfl)
    (case xf_BadRow_column => k_is)
    (case xc_BadRow => kernel_rfl)
    (case xd_BadRow_column => k_is)
    (case kx_CONSTANTS => k_is)
    (case ky_CONSTANTS => k_is)
    (case kz_CONSTANTS => exact ⟨⟨_, _, rfl, rfl⟩, ⟨⟨_, _, rfl, rfl⟩, ⟨⟨_, _, rfl, rfl⟩, trivial⟩⟩⟩)
    (case kt_CONSTANTS => exact (.cons rfl ⟨.bl true, rfl, rfl⟩ (.cons rfl ⟨.bl false, rfl, rfl⟩ (.cons rfl ⟨.non, rfl, rfl⟩ .nil))))
    (case ku_CONSTANTS => decide)
    (case so_Test => kernel_rfl)
    (case ib_Test => kernel_rfl)
    (case nb_Test => kernel_rfl)
    (case ko_Test_Test => kernel_rfl)
    (case kt_BadRow_WorkError => kernel_rfl)
    (case kt_BadRow_BadTest => kernel_rfl)
    (case kt_BadRow_BadRow => kernel_rfl)
    (case a0 => k_is)
    (case i0 => k_is)
    (case l0 => k_is)
    (case c0 => k_is)
    (case k0 => k_is)
    (case a1 => k_is)
    (case i1 => k_is)
    (case l1 => k_is)
    (case c1 => k_is)
    (case k1 => k_is)
    (case a2 => k_is)
    (case i2 => k_is)
    (case l2 => k_is)
    (case c2 => k_is)
    (case k2 => k_is)
    (case a3 => k_is)
    (case i3 => k_is)
    (case l3 => k_is)
    (case c3 => k_is)
    (case k3 => k_is)
    (case a4 => k_is)
    (case l4 => k_is)
    (case c4 => k_is)
    (case k4 => k_is)
    (case a5 => k_is)
    (case i5 => k_is)
    (case l5 => k_is)
    (case c5 => k_is)
    (case k5 => k_is)
    (case a6 => k_is)
    (case i6 => k_is)
    (case l6 => k_is)
    (case c6 => k_is)
    (case k6 => k_is)
    (case a7 => k_is)
    (case i7 => k_is)
    (case l7 => k_is)
    (case c7 => k_is)
    (case k7 => k_is)
    (case a8 => k_is)
    (case i8 => k_is)
    (case l8 => k_is)
    (case c8 => k_is)
    (case k8 => k_is)
    (case a9 => k_is)
    (case l9 => k_is)
    (case c9 => k_is)
    (case k9 => k_is)
    (case a10 => k_is)
    (case l10 => k_is)
    (case c10 => k_is)
    (case k10 => k_is)
    (case a11 => k_is)
    (case i11 => k_is)
    (case l11 => k_is)
    (case c11 => k_is)
    (case k11 => k_is)
    (case a12 => k_is)
    (case i12 => k_is)
    (case l12 => k_is)
    (case c12 => k_is)
    (case k12 => k_is)
    (case a13 => k_is)
    (case l13 => k_is)
    (case c13 => k_is)
    (case k13 => k_is)
    (case a14 => k_is)
    (case l14 => k_is)
    (case c14 => k_is)
    (case k14 => k_is)
    (case a15 => k_is)
    (case l15 => k_is)
    (case c15 => k_is)
    (case k15 => k_is)
    (case a16 => k_is)
    (case i16 => k_is)
    (case l16 => k_is)
    (case c16 => k_is)
    (case k16 => k_is)
    (case a17 => k_is)
    (case l17 => k_is)
    (case c17 => k_is)
    (case k17 => k_is)
    (case a18 => k_is)
    (case l18 => k_is)
    (case c18 => k_is)
    (case k18 => k_is)
    (case a19 => k_is)
    (case l19 => k_is)
    (case c19 => k_is)
    (case k19 => k_is)
    (case a20 => k_is)
    (case l20 => k_is)
    (case c20 => k_is)
    (case k20 => k_is)
    (case a21 => k_is)
    (case l21 => k_is)
    (case c21 => k_is)
    (case k21 => k_is)
    (case a22 => k_is)
    (case l22 => k_is)
    (case c22 => k_is)
    (case k22 => k_is)
    (case a23 => k_is)
    (case i23 => k_is)
    (case l23 => k_is)
    (case c23 => k_is)
    (case k23 => k_is)
    (case a24 => k_is)
    (case i24 => k_is)
    (case l24 => k_is)
    (case c24 => k_is)
    (case k24 => k_is)
    (case a25 => k_is)
    (case l25 => k_is)
    (case c25 => k_is)
    (case k25 => k_is)
    (case a26 => k_is)
    (case l26 => k_is)
    (case c26 => k_is)
    (case k26 => k_is)
    (case a27 => k_is)
    (case l27 => k_is)
    (case c27 => k_is)
    (case k27 => k_is)
    (case a28 => k_is)
    (case l28 => k_is)
    (case c28 => k_is)
    (case k28 => k_is)
    (case a29 => k_is)
    (case l29 => k_is)
    (case c29 => k_is)
    (case k29 => k_is)
    (case a30 => k_is)
    (case l30 => k_is)
    (case kn30 => k_is)
    (case kr30 => first | exact ⟨_, rfl⟩ | exact rfl)
    (case c30 => k_is)
    (case k30 => k_is)
    (case a31 => k_is)
    (case l31 => k_is)
    (case c31 => k_is)
    (case k31 => k_is)
    (case a32 => k_is)
    (case l32 => k_is)
    (case c32 => k_is)
    (case k32 => k_is)
    (case a33 => k_is)
    (case l33 => k_is)
    (case c33 => k_is)
    (case k33 => k_is)
    (case a34 => k_is)
    (case l34 => k_is)
    (case c34 => k_is)
    (case k34 => k_is)
    (case a35 => k_is)
    (case l35 => k_is)
    (case c35 => k_is)
    (case k35 => k_is)
    (case a36 => k_is)
    (case l36 => k_is)
    (case c36 => k_is)
    (case k36 => k_is)
    (case a37 => k_is)
    (case l37 => k_is)
    (case c37 => k_is)
    (case k37 => k_is)
    (case a38 => k_is)
    (case l38 => k_is)
    (case c38 => k_is)
    (case k38 => k_is)
    (case a39 => k_is)
    (case l39 => k_is)
    (case c39 => k_is)
    (case k39 => k_is)
    (case a40 => k_is)
    (case l40 => k_is)
    (case c40 => k_is)
    (case k40 => k_is)
    (case a41 => k_is)
    (case l41 => k_is)
    (case c41 => k_is)
    (case k41 => k_is)
    (case a42 => k_is)
    (case l42 => k_is)
    (case c42 => k_is)
    (case k42 => k_is)
    (case a43 => k_is)
    (case l43 => k_is)
    (case c43 => k_is)
    (case k43 => k_is)
    (case a44 => k_is)
    (case l44 => k_is)
    (case c44 => k_is)
    (case k44 => k_is)
    (case a45 => k_is)
    (case l45 => k_is)
    (case c45 => k_is)
    (case k45 => k_is)
    (case a46 => k_is)
    (case l46 => k_is)
    (case c46 => k_is)
    (case k46 => k_is)
    (case a47 => k_is)
    (case l47 => k_is)
    (case c47 => k_is)
    (case k47 => k_is)
    (case a48 => k_is)
    (case l48 => k_is)
    (case c48 => k_is)
    (case k48 => k_is)
    (case a49 => k_is)
    (case l49 => k_is)
    (case c49 => k_is)
    (case k49 => k_is)
    (case a50 => k_is)
    (case l50 => k_is)
    (case c50 => k_is)
    (case k50 => k_is)
    (case a51 => k_is)
    (case l51 => k_is)
    (case c51 => k_is)
    (case k51 => k_is)
    (case a52 => k_is)
    (case l52 => k_is)
    (case c52 => k_is)
    (case k52 => k_is)
    (case a53 => k_is)
    (case l53 => k_is)
    (case c53 => k_is)
    (case k53 => k_is)
    (case a54 => k_is)
    (case l54 => k_is)
    (case c54 => k_is)
    (case k54 => k_is)
    (case a55 => k_is)
    (case l55 => k_is)
    (case c55 => k_is)
    (case k55 => k_is)
    (case a56 => k_is)
    (case l56 => k_is)
    (case c56 => k_is)
    (case k56 => k_is)
    (case a57 => k_is)
    (case l57 => k_is)
    (case c57 => k_is)
    (case k57 => k_is)
    (case a58 => k_is)
    (case l58 => k_is)
    (case c58 => k_is)
    (case k58 => k_is)
    (case a59 => k_is)
    (case l59 => k_is)
    (case c59 => k_is)
    (case k59 => k_is)
    (case a60 => k_is)
    (case l60 => k_is)
    (case c60 => k_is)
    (case k60 => k_is)
    (case z_all => k_is)
    (case z_any => k_is)
    (case z_bool => k_is)
    (case z_dict => k_is)
    (case z_int => k_is)
    (case z_isinstance => k_is)
    (case z_len => k_is)
    (case z_list => k_is)
    (case z_max => k_is)
    (case z_range => k_is)
    (case z_repr => k_is)
    (case z_str => k_is)
    (case z_tuple => k_is)
    (case x_CHARS => k_is)
    (case v_CHARS => exact ⟨.str " !\"#$&'()*+,-./0123456789:;<=>?@ABCDEFGHIJKLMNOPQRSTUVWXYZ[\\]^_`abcdefghijklmnopqrstuvwxyz{|}~", ⟨_, rfl⟩, rfl⟩)
    (case x_DIGITS => k_is)
    (case v_DIGITS => exact ⟨.str "0123456789", ⟨_, rfl⟩, rfl⟩)
    (case x_KEPT_WORDS => k_is)
    (case y_KEPT_WORDS => k_is)
    (case v_KEPT_WORDS => exact (.cons ⟨.str "and", ⟨_, rfl⟩, rfl⟩ (.cons ⟨.str "or", ⟨_, rfl⟩, rfl⟩ (.cons ⟨.str "not", ⟨_, rfl⟩, rfl⟩ (.cons ⟨.str "sure", ⟨_, rfl⟩, rfl⟩ (.cons ⟨.str "in", ⟨_, rfl⟩, rfl⟩ (.cons ⟨.str "is", ⟨_, rfl⟩, rfl⟩ (.cons ⟨.str "empty", ⟨_, rfl⟩, rfl⟩ (.cons ⟨.str "begins", ⟨_, rfl⟩, rfl⟩ (.cons ⟨.str "always", ⟨_, rfl⟩, rfl⟩ (.cons ⟨.str "never", ⟨_, rfl⟩, rfl⟩ (.cons ⟨.str "unsure", ⟨_, rfl⟩, rfl⟩ .nil))))))))))))
    (case w_KEPT_WORDS => decide)
    (case x_LETTERS => k_is)
    (case v_LETTERS => exact ⟨.str "abcdefghijklmnopqrstuvwxyz", ⟨_, rfl⟩, rfl⟩)
    (case x_MOST_ATOMS => k_is)
    (case v_MOST_ATOMS => exact ⟨.int 48, ⟨_, rfl⟩, rfl⟩)
    (case x_MOST_LEVELS => k_is)
    (case v_MOST_LEVELS => exact ⟨.int 24, ⟨_, rfl⟩, rfl⟩)
    (case x_MOST_PIECES => k_is)
    (case v_MOST_PIECES => exact ⟨.int 4, ⟨_, rfl⟩, rfl⟩)
    (case x_MOST_VALUES => k_is)
    (case v_MOST_VALUES => exact ⟨.int 8, ⟨_, rfl⟩, rfl⟩)
    (case x_OPERATORS => k_is)
    (case y_OPERATORS => k_is)
    (case v_OPERATORS => exact (.cons ⟨.str "<", ⟨_, rfl⟩, rfl⟩ (.cons ⟨.str "<=", ⟨_, rfl⟩, rfl⟩ (.cons ⟨.str "==", ⟨_, rfl⟩, rfl⟩ (.cons ⟨.str "!=", ⟨_, rfl⟩, rfl⟩ (.cons ⟨.str ">", ⟨_, rfl⟩, rfl⟩ (.cons ⟨.str ">=", ⟨_, rfl⟩, rfl⟩ .nil)))))))
    (case w_OPERATORS => decide)
    (case x_SLOT_NUMBERS => k_is)
    (case y_SLOT_NUMBERS => k_is)
    (case v_SLOT_NUMBERS => exact (.cons ⟨.str "1", ⟨_, rfl⟩, rfl⟩ (.cons ⟨.str "2", ⟨_, rfl⟩, rfl⟩ (.cons ⟨.str "3", ⟨_, rfl⟩, rfl⟩ .nil))))
    (case w_SLOT_NUMBERS => decide)
#print axioms PySem.Challenge.cw_sparedwork_k05_whole_truths_of_tests_holds

