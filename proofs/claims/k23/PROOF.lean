import PyProof.Rows.All
import Wide.All
import OpenK.AllK
import Wide.FinOn
import HandS.ForMost
import HandS.ForExc
import HandS.Flow
import HandS.TupAny
import HandS.IsInst
import HandS.CallSlots
import HandS.Wide
import HandS.TupLe
import HandS.Replace
import HandS.Dict
import HandS.Text
import HandS.RaiseMore
import HandS.ExcInit
import HandS.ExcField
import HandS.ExcIs
import HandS.TryOnly
import HandS.TryMany
import KE.GoesNew
import HandS.Conv
import HandS.SortInts
import HandS.Small
import PyProof.DictCopy
import KE.KExcIs
import HandS.DictSubView
import HandS.SetFor
import HandS.More
import HandS.Remove
import PySem.Challenge.RW_sparedwork_k23_whole_versions_behind_cra
set_option Elab.async false
set_option linter.all false
set_option maxRecDepth 100000
set_option maxHeartbeats 4000000
set_option autoImplicit false
/-! The layer of shallow semantics: data D, a store of live objects, and for each construct a rule
    whose reading is a plain function of the slots and the store. -/
namespace G
open PySem L2

inductive D where
  | non
  | bl (b : Bool)
  | int (i : Int)
  | str (x : Str)
  | tup (xs : List D)
  | lst (xs : List D)
  | dct (kvs : List (Key × D))
  | ins (c : Str) (fs : List (Str × D))
  | ref (n : Nat)
  | scr (ns : List Int)
  | exv (c : Str) (fs : List (Str × D))

/-- a live object -/
inductive MO where
  | lst (xs : List D)
  | dct (kvs : List (Key × D))
  | ldc (kvs : List (Key × D))
  | ins (c : Str) (fs : List (Str × D))
  | dead
abbrev Store := List MO
/-- an exception in flight: its class, its fields -/
structure Exc where
  cls : Str
  fs : List (Str × D)
inductive Res (α : Type) where
  | ok (a : α) (S : Store)
  | exc (x : Exc) (S : Store)
  | stk
def Res.bind {α β : Type} (r : Res α) (f : α → Store → Res β) : Res β := match r with
  | .ok a S => f a S
  | .exc x S => .exc x S
  | .stk => .stk
/-- an equation that simp takes by its proof, not by unfolding -/
theorem nrfl {α : Sort _} {a b : α} (h : a = b) : a = b := h
@[simp] theorem bind_ok {α β : Type} {a : α} {S : Store} {f : α → Store → Res β} : (Res.ok a S).bind f = f a S := nrfl rfl
@[simp] theorem bind_exc {α β : Type} {x : Exc} {S : Store} {f : α → Store → Res β} : (Res.exc x S).bind f = .exc x S := nrfl rfl
@[simp] theorem bind_stk {α β : Type} {f : α → Store → Res β} : (Res.stk : Res α).bind f = .stk := nrfl rfl
abbrev Sl := List (Option D)
abbrev M (α : Type) := Sl → Store → Res α
/-- a world: the frozen objects, the hidden ones, where the live ones stand -/
structure Wd where
  G : Hp
  P : Hp
  ι : Nat → Addr
  n : Nat
structure Le (W W' : Wd) : Prop where
  g : ∀ a o, W.G a = some o → W'.G a = some o
  i : ∀ j, j < W.n → W'.ι j = W.ι j
  n : W.n ≤ W'.n
  p : W'.P = W.P
theorem Le.rf (W : Wd) : Le W W := ⟨fun _ _ h => h, fun _ _ => rfl, Nat.le_refl _, rfl⟩
theorem Le.tr {A B C : Wd} (x : Le A B) (y : Le B C) : Le A C :=
  ⟨fun a o h => y.g a o (x.g a o h), fun j h => (y.i j (Nat.lt_of_lt_of_le h x.n)).trans (x.i j h), Nat.le_trans x.n y.n, y.p.trans x.p⟩
/-- of what a value leans on -/
structure Ls (W W' : Wd) : Prop where
  g : ∀ a o, W.G a = some o → W'.G a = some o
  i : ∀ j, j < W.n → W'.ι j = W.ι j
  n : W.n ≤ W'.n
theorem Le.s {W W' : Wd} (l : Le W W') : Ls W W' := ⟨l.g, l.i, l.n⟩
theorem Ls.tr {A B C : Wd} (x : Ls A B) (y : Ls B C) : Ls A C :=
  ⟨fun a o h => y.g a o (x.g a o h), fun j h => (y.i j (Nat.lt_of_lt_of_le h x.n)).trans (x.i j h), Nat.le_trans x.n y.n⟩

section
variable (K : PySem.W.Frag) (cl : Str → Option Addr)
mutual
inductive Rep (W : Wd) : V → D → Prop
  | non : Rep W .non .non
  | bl (b : Bool) : Rep W (.bl b) (.bl b)
  | int (i : Int) : Rep W (.int i) (.int i)
  | str (x : Str) : Rep W (.str x) (.str x)
  | tup {a : Addr} {vs : List V} {ds : List D} : SqT K W.G a vs → Reps W vs ds → Rep W (.ref a) (.tup ds)
  | lst {a : Addr} {vs : List V} {ds : List D} : W.G a = some (.lst vs) → Reps W vs ds → Rep W (.ref a) (.lst ds)
  | scr {a : Addr} {ns : List Int} : SqL K W.G a (ns.map V.int) → Rep W (.ref a) (.scr ns)
  | dct {a : Addr} {o : Obj} {vs : List (Key × V)} {ds : List (Key × D)} : W.G a = some (.frz o (.dK vs)) → RepK W vs ds → Rep W (.ref a) (.dct ds)
  | ins {a C dx : Addr} {c : Str} {vs : List (Str × V)} {ds : List (Str × D)} : W.G a = some (.ins C dx vs) → cl c = some C → RepF W vs ds → Rep W (.ref a) (.ins c ds)
  | ref {n : Nat} : n < W.n → Rep W (.ref (W.ι n)) (.ref n)
  | exv0 {a C : Addr} {c : Str} : cl "#a" = some a → cl "#c" = some C → cl "#d" = none → cl c = some C → Rep W (.ref a) (.exv c [])
  | exv1 {a C d : Addr} {c : Str} {vs : List (Str × V)} {ds : List (Str × D)} : cl "#a" = some a → cl "#c" = some C → cl "#d" = some d → cl c = some C → W.G d = some (.xd vs) → ds ≠ [] → RepF W vs ds → Rep W (.ref a) (.exv c ds)
inductive Reps (W : Wd) : List V → List D → Prop
  | nil : Reps W [] []
  | cons {v : V} {d : D} {vs : List V} {ds : List D} : Rep W v d → Reps W vs ds → Reps W (v :: vs) (d :: ds)
inductive RepK (W : Wd) : List (Key × V) → List (Key × D) → Prop
  | nil : RepK W [] []
  | cons {k : Key} {v : V} {d : D} {vs : List (Key × V)} {ds : List (Key × D)} : Rep W v d → RepK W vs ds → RepK W ((k, v) :: vs) ((k, d) :: ds)
inductive RepF (W : Wd) : List (Str × V) → List (Str × D) → Prop
  | nil : RepF W [] []
  | cons {k : Str} {v : V} {d : D} {vs : List (Str × V)} {ds : List (Str × D)} : Rep W v d → RepF W vs ds → RepF W ((k, v) :: vs) ((k, d) :: ds)
end
end

section
variable {K : PySem.W.Frag} {cl : Str → Option Addr} {W W' : Wd}
theorem sqT_up {A B : Hp} {a : Addr} {xs : List V} (g : ∀ a o, A a = some o → B a = some o) (h : SqT K A a xs) : SqT K B a xs := by
  rcases h with (h | ⟨o, h⟩) | h
  · exact .inl (.inl (g _ _ h))
  · exact .inl (.inr ⟨o, g _ _ h⟩)
  · exact .inr h
theorem sqL_up {A B : Hp} {a : Addr} {xs : List V} (g : ∀ a o, A a = some o → B a = some o) (h : SqL K A a xs) : SqL K B a xs := by
  rcases h with (h | ⟨o, h⟩) | h
  · exact .inl (.inl (g _ _ h))
  · exact .inl (.inr ⟨o, g _ _ h⟩)
  · exact .inr h
mutual
theorem Rep.ups (l : Ls W W') : ∀ {v : V} {d : D}, Rep K cl W v d → Rep K cl W' v d
  | _, _, .non => .non
  | _, _, .bl b => .bl b
  | _, _, .int i => .int i
  | _, _, .str x => .str x
  | _, _, .tup h t => .tup (sqT_up l.g h) (Reps.ups l t)
  | _, _, .lst h t => .lst (l.g _ _ h) (Reps.ups l t)
  | _, _, .scr h => .scr (sqL_up l.g h)
  | _, _, .dct h t => .dct (l.g _ _ h) (RepK.ups l t)
  | _, _, .ins h c t => .ins (l.g _ _ h) c (RepF.ups l t)
  | _, _, .ref (n := n) h => by
    rw [← l.i n h]
    exact .ref (Nat.lt_of_lt_of_le h l.n)
  | _, _, .exv0 h1 h2 h3 h4 => .exv0 h1 h2 h3 h4
  | _, _, .exv1 h1 h2 h3 h4 h5 h6 t => .exv1 h1 h2 h3 h4 (l.g _ _ h5) h6 (RepF.ups l t)
theorem Reps.ups (l : Ls W W') : ∀ {v : List V} {d : List D}, Reps K cl W v d → Reps K cl W' v d
  | _, _, .nil => .nil
  | _, _, .cons h t => .cons (Rep.ups l h) (Reps.ups l t)
theorem RepK.ups (l : Ls W W') : ∀ {v : List (Key × V)} {d : List (Key × D)}, RepK K cl W v d → RepK K cl W' v d
  | _, _, .nil => .nil
  | _, _, .cons h t => .cons (Rep.ups l h) (RepK.ups l t)
theorem RepF.ups (l : Ls W W') : ∀ {v : List (Str × V)} {d : List (Str × D)}, RepF K cl W v d → RepF K cl W' v d
  | _, _, .nil => .nil
  | _, _, .cons h t => .cons (Rep.ups l h) (RepF.ups l t)
end
theorem Rep.up (l : Le W W') {v : V} {d : D} (h : Rep K cl W v d) : Rep K cl W' v d := h.ups l.s
theorem Reps.up (l : Le W W') {v : List V} {d : List D} (h : Reps K cl W v d) : Reps K cl W' v d := h.ups l.s
theorem RepK.up (l : Le W W') {v : List (Key × V)} {d : List (Key × D)} (h : RepK K cl W v d) : RepK K cl W' v d := h.ups l.s
theorem RepF.up (l : Le W W') {v : List (Str × V)} {d : List (Str × D)} (h : RepF K cl W v d) : RepF K cl W' v d := h.ups l.s
theorem Reps.len : ∀ {v : List V} {d : List D}, Reps K cl W v d → v.length = d.length
  | _, _, .nil => rfl
  | _, _, .cons _ t => by simp [Reps.len t]
theorem Reps.at : ∀ {v : List V} {d : List D} {i : Nat} {x : D}, Reps K cl W v d → d[i]? = some x → ∃ y, v[i]? = some y ∧ Rep K cl W y x
  | _, _, _, _, .nil, e => by simp at e
  | _, _, 0, _, .cons h _, e => by simp at e; subst e; exact ⟨_, rfl, h⟩
  | _, _, i + 1, x, .cons _ t, e => by
    obtain ⟨y, h1, h2⟩ := Reps.at (i := i) (x := x) t (by simpa using e)
    exact ⟨y, by simpa using h1, h2⟩
theorem Reps.at' : ∀ {v : List V} {d : List D} {i : Nat} {y : V}, Reps K cl W v d → v[i]? = some y → ∃ x, d[i]? = some x ∧ Rep K cl W y x
  | _, _, _, _, .nil, e => by simp at e
  | _, _, 0, _, .cons h _, e => by simp at e; subst e; exact ⟨_, rfl, h⟩
  | _, _, i + 1, x, .cons _ t, e => by
    obtain ⟨y, h1, h2⟩ := Reps.at' (i := i) (y := x) t (by simpa using e)
    exact ⟨y, by simpa using h1, h2⟩
theorem Reps.app : ∀ {v w : List V} {d e : List D}, Reps K cl W v d → Reps K cl W w e → Reps K cl W (v ++ w) (d ++ e)
  | _, _, _, _, .nil, q => q
  | _, _, _, _, .cons h t, q => .cons h (Reps.app t q)
theorem Reps.set {x : V} {y : D} (r : Rep K cl W x y) : ∀ {v : List V} {d : List D} (i : Nat), Reps K cl W v d → Reps K cl W (v.set i x) (d.set i y)
  | _, _, _, .nil => .nil
  | _, _, 0, .cons _ t => .cons r t
  | _, _, i + 1, .cons q t => .cons q (Reps.set r i t)
theorem Reps.take : ∀ {v : List V} {d : List D} (n : Nat), Reps K cl W v d → Reps K cl W (v.take n) (d.take n)
  | _, _, 0, _ => by simp; exact .nil
  | _, _, n + 1, .nil => by simp; exact .nil
  | _, _, n + 1, .cons h t => .cons h (Reps.take n t)
theorem Reps.drop : ∀ {v : List V} {d : List D} (n : Nat), Reps K cl W v d → Reps K cl W (v.drop n) (d.drop n)
  | _, _, 0, h => h
  | _, _, n + 1, .nil => by simp; exact .nil
  | _, _, n + 1, .cons h t => Reps.drop n t
theorem Reps.rev : ∀ {v : List V} {d : List D}, Reps K cl W v d → Reps K cl W v.reverse d.reverse
  | _, _, .nil => .nil
  | _, _, .cons h t => by
    rw [List.reverse_cons, List.reverse_cons]
    exact (Reps.rev t).app (.cons h .nil)
end

section
variable (K : PySem.W.Frag) (cl : Str → Option Addr)
def MRep (W : Wd) (H : Hp) (a : Addr) : MO → Prop
  | .lst ds => ∃ vs, H a = some (.lst vs) ∧ Reps K cl W vs ds
  | .dct ds => ∃ vs, H a = some (.dK vs) ∧ RepK K cl W vs ds
  | .ldc ds => ∃ o vs, H a = some (.frz o (.dK vs)) ∧ RepK K cl W vs ds
  | .ins c ds => ∃ C dx vs, cl c = some C ∧ H a = some (.ins C dx vs) ∧ RepF K cl W vs ds
  | .dead => True
structure R (W : Wd) (H : Hp) (S : Store) : Prop where
  n : W.n = S.length
  sub : ∀ a o, W.G a = some o → H a = some o
  live : ∀ (i : Nat) (mo : MO), S[i]? = some mo → mo ≠ .dead → W.G (W.ι i) = none ∧ MRep K cl W H (W.ι i) mo
  inj : ∀ (i j : Nat) (m m' : MO), S[i]? = some m → S[j]? = some m' → m ≠ .dead → m' ≠ .dead → W.ι i = W.ι j → i = j
  priv : ∀ a o, W.P a = some o → H a = some o ∧ W.G a = none ∧ ∀ (i : Nat) (mo : MO), S[i]? = some mo → mo ≠ .dead → W.ι i ≠ a
def XRep (W : Wd) (cls : Value) (dd : Option Addr) (x : Exc) : Prop :=
  ∃ C, cl x.cls = some C ∧ cls = .ref C ∧ ((x.fs = [] ∧ dd = none) ∨ ∃ d vs, dd = some d ∧ W.G d = some (.xd vs) ∧ x.fs ≠ [] ∧ RepF K cl W vs x.fs)
structure Envs (W : Wd) (σ : St) (ρ : Sl) : Prop where
  len : σ.length = ρ.length
  at' : ∀ (i : Nat) (d : D), ρ[i]? = some (some d) → ∃ v, σ[i]? = some (some v) ∧ Rep K cl W v d
end

section
variable {K : PySem.W.Frag} {cl : Str → Option Addr} {W W' : Wd} {H : Hp} {S : Store} {σ : St} {ρ : Sl}
theorem Envs.ups (l : Ls W W') (e : Envs K cl W σ ρ) : Envs K cl W' σ ρ := ⟨e.len, fun i d h => let ⟨v, h1, h2⟩ := e.at' i d h; ⟨v, h1, h2.ups l⟩⟩
theorem Envs.up (l : Le W W') (e : Envs K cl W σ ρ) : Envs K cl W' σ ρ := e.ups l.s
theorem Envs.set {v : V} {d : D} (e : Envs K cl W σ ρ) (i : Nat) (r : Rep K cl W v d) : Envs K cl W (σ.set i (some v)) (ρ.set i (some d)) := by
  refine ⟨by simpa using e.len, fun j x h => ?_⟩
  by_cases hj : i = j
  · subst hj
    by_cases hi : i < ρ.length
    · rw [List.getElem?_set_self hi] at h
      have h := Option.some.inj (Option.some.inj h)
      subst h
      exact ⟨v, List.getElem?_set_self (by rw [e.len]; exact hi), r⟩
    · rw [List.getElem?_eq_none (by simpa using hi)] at h
      cases h
  · rw [List.getElem?_set_ne hj] at h ⊢
    exact e.at' j x h
theorem Envs.unset (e : Envs K cl W σ ρ) (i : Nat) (o : Option V) : Envs K cl W (σ.set i o) (ρ.set i none) := by
  refine ⟨by simpa using e.len, fun j x h => ?_⟩
  by_cases hj : i = j
  · subst hj
    by_cases hi : i < ρ.length
    · rw [List.getElem?_set_self hi] at h
      cases h
    · rw [List.getElem?_eq_none (by simpa using hi)] at h
      cases h
  · rw [List.getElem?_set_ne hj] at h ⊢
    exact e.at' j x h
theorem MRep.ups {a : Addr} {mo : MO} (l : Ls W W') (h : MRep K cl W H a mo) : MRep K cl W' H a mo := by
  cases mo with
  | lst ds => obtain ⟨vs, h1, h2⟩ := h; exact ⟨vs, h1, h2.ups l⟩
  | dct ds => obtain ⟨vs, h1, h2⟩ := h; exact ⟨vs, h1, h2.ups l⟩
  | ldc ds => obtain ⟨o, vs, h1, h2⟩ := h; exact ⟨o, vs, h1, h2.ups l⟩
  | ins c ds => obtain ⟨C, dx, vs, h0, h1, h2⟩ := h; exact ⟨C, dx, vs, h0, h1, h2.ups l⟩
  | dead => trivial
theorem MRep.up {a : Addr} {mo : MO} (l : Le W W') (h : MRep K cl W H a mo) : MRep K cl W' H a mo := h.ups l.s
theorem MRep.some {a : Addr} {mo : MO} (h : MRep K cl W H a mo) (nd : mo ≠ .dead) : ∃ o, H a = some o := by
  cases mo with
  | lst ds => obtain ⟨vs, h1, h2⟩ := h; exact ⟨_, h1⟩
  | dct ds => obtain ⟨vs, h1, h2⟩ := h; exact ⟨_, h1⟩
  | ldc ds => obtain ⟨o, vs, h1, h2⟩ := h; exact ⟨_, h1⟩
  | ins c ds => obtain ⟨C, dx, vs, h0, h1, h2⟩ := h; exact ⟨_, h1⟩
  | dead => exact absurd rfl nd
theorem MRep.at {a : Addr} {mo : MO} {H' : Hp} (h : MRep K cl W H a mo) (e : H' a = H a) : MRep K cl W H' a mo := by
  cases mo with
  | lst ds => obtain ⟨vs, h1, h2⟩ := h; exact ⟨vs, e.trans h1, h2⟩
  | dct ds => obtain ⟨vs, h1, h2⟩ := h; exact ⟨vs, e.trans h1, h2⟩
  | ldc ds => obtain ⟨o, vs, h1, h2⟩ := h; exact ⟨o, vs, e.trans h1, h2⟩
  | ins c ds => obtain ⟨C, dx, vs, h0, h1, h2⟩ := h; exact ⟨C, dx, vs, h0, e.trans h1, h2⟩
  | dead => trivial

/-- a new object, known to nobody -/
theorem R.junk {p : Addr} {o : HO} (r : R K cl W H S) (hp : H p = none) : R K cl W (upd H p o) S := by
  refine ⟨r.n, fun a u h => ?_, fun i mo h nd => ?_, r.inj, fun a u h => ?_⟩
  · rw [upd_ne (ne_of_none (r.sub a u h) hp)]
    exact r.sub a u h
  · obtain ⟨h1, h2⟩ := r.live i mo h nd
    obtain ⟨u, hu⟩ := h2.some nd
    exact ⟨h1, h2.at (upd_ne (ne_of_none hu hp))⟩
  · obtain ⟨h1, h2, h3⟩ := r.priv a u h
    exact ⟨by rw [upd_ne (ne_of_none h1 hp)]; exact h1, h2, h3⟩
def Wd.fz (W : Wd) (p : Addr) (o : HO) : Wd := { W with G := upd W.G p o }
theorem Le.fz {p : Addr} {o : HO} (h : W.G p = none) : Le W (W.fz p o) := ⟨fun a u e => by
  show upd W.G p o a = some u
  rw [upd_ne (ne_of_none e h)]
  exact e, fun _ _ => rfl, Nat.le_refl _, rfl⟩
/-- a tracked object that is no live one is frozen -/
theorem R.fzAt {p : Addr} {o : HO} (r : R K cl W H S) (hp : H p = some o) (hg : W.G p = none) (nl : ∀ (i : Nat) (mo : MO), S[i]? = some mo → mo ≠ .dead → W.ι i ≠ p) (np : W.P p = none) : R K cl (W.fz p o) H S := by
  refine ⟨r.n, fun a u h => ?_, fun i mo h nd => ?_, r.inj, fun a u h => ?_⟩
  · by_cases e : a = p
    · subst e
      rw [show (W.fz a o).G a = some o from upd_same] at h
      exact hp.trans h
    · rw [show (W.fz p o).G a = W.G a from upd_ne e] at h
      exact r.sub a u h
  · obtain ⟨h1, h2⟩ := r.live i mo h nd
    exact ⟨(upd_ne (nl i mo h nd)).trans h1, h2.up (Le.fz hg)⟩
  · obtain ⟨h1, h2, h3⟩ := r.priv a u h
    exact ⟨h1, (upd_ne (ne_of_none h np)).trans h2, h3⟩
/-- a new frozen object -/
theorem R.fz {p : Addr} {o : HO} (r : R K cl W H S) (hp : H p = none) : R K cl (W.fz p o) (upd H p o) S ∧ Le W (W.fz p o) := by
  have hg : W.G p = none := by
    cases e : W.G p with
    | none => rfl
    | some u => rw [r.sub p u e] at hp; cases hp
  have hq : W.P p = none := by
    cases e : W.P p with
    | none => rfl
    | some u => rw [(r.priv p u e).1] at hp; cases hp
  refine ⟨(r.junk hp).fzAt upd_same hg (fun i mo h nd => ?_) hq, Le.fz hg⟩
  obtain ⟨u, hu⟩ := (r.live i mo h nd).2.some nd
  exact ne_of_none hu hp
def Wd.lv (W : Wd) (p : Addr) : Wd := { W with ι := fun j => if j = W.n then p else W.ι j, n := W.n + 1 }
theorem Le.lv (W : Wd) (p : Addr) : Le W (W.lv p) := ⟨fun _ _ h => h, fun j h => by
  show (if j = W.n then p else W.ι j) = W.ι j
  rw [if_neg (Nat.ne_of_lt h)], Nat.le_succ _, rfl⟩
theorem Wd.lv_at (W : Wd) (p : Addr) : (W.lv p).ι W.n = p := if_pos rfl
/-- a new live object -/
theorem R.new {p : Addr} {o : HO} {mo : MO} (r : R K cl W H S) (hp : H p = none) (hm : MRep K cl W (upd H p o) p mo) : R K cl (W.lv p) (upd H p o) (S ++ [mo]) := by
  have hg : W.G p = none := by
    cases e : W.G p with
    | none => rfl
    | some u => rw [r.sub p u e] at hp; cases hp
  have old : ∀ (i : Nat) (m : MO), (S ++ [mo])[i]? = some m → (i < S.length ∧ S[i]? = some m) ∨ (i = S.length ∧ m = mo) := fun i m h => by
    by_cases hi : i < S.length
    · rw [List.getElem?_append_left hi] at h
      exact .inl ⟨hi, h⟩
    · rw [List.getElem?_append_right (by omega)] at h
      have hk : i - S.length = 0 := by
        cases q : i - S.length with
        | zero => rfl
        | succ k => rw [q] at h; simp at h
      rw [hk] at h
      simp at h
      exact .inr ⟨by omega, h.symm⟩
  have ιo : ∀ i, i < S.length → (W.lv p).ι i = W.ι i := fun i h => (Le.lv W p).i i (by rw [r.n]; exact h)
  have ιn : (W.lv p).ι S.length = p := by rw [← r.n]; exact W.lv_at p
  refine ⟨?_, (r.junk hp).sub, fun i m h nd => ?_, fun i j m m' h h' nd nd' e => ?_, fun a u q => ?_⟩
  · show W.n + 1 = _
    rw [List.length_append, r.n]
    rfl
  · rcases old i m h with ⟨hi, h⟩ | ⟨rfl, rfl⟩
    · obtain ⟨h1, h2⟩ := (r.junk (o := o) hp).live i m h nd
      rw [ιo i hi]
      exact ⟨h1, h2.up (Le.lv W p)⟩
    · rw [ιn]
      exact ⟨hg, hm.up (Le.lv W p)⟩
  · rcases old i m h with ⟨hi, h⟩ | ⟨rfl, rfl⟩
    · obtain ⟨u, hu⟩ := (r.live i m h nd).2.some nd
      rcases old j m' h' with ⟨hj, h'⟩ | ⟨rfl, rfl⟩
      · rw [ιo i hi, ιo j hj] at e
        exact r.inj i j m m' h h' nd nd' e
      · rw [ιo i hi, ιn] at e
        exact absurd e (ne_of_none hu hp)
    · rcases old j m' h' with ⟨hj, h'⟩ | ⟨rfl, rfl⟩
      · obtain ⟨u, hu⟩ := (r.live j m' h' nd').2.some nd'
        rw [ιo j hj, ιn] at e
        exact absurd e.symm (ne_of_none hu hp)
      · rfl
  · obtain ⟨g1, g2, g3⟩ := (r.junk (o := o) hp).priv a u q
    refine ⟨g1, g2, fun i m h nd => ?_⟩
    rcases old i m h with ⟨hi, h⟩ | ⟨rfl, rfl⟩
    · rw [ιo i hi]
      exact g3 i m h nd
    · rw [ιn]
      exact (ne_of_none (r.priv a u q).1 hp).symm
/-- a live object is changed -/
theorem R.put {i : Nat} {o : HO} {m mo : MO} (r : R K cl W H S) (h : S[i]? = some m) (nd : m ≠ .dead) (hm : MRep K cl W (upd H (W.ι i) o) (W.ι i) mo) : R K cl W (upd H (W.ι i) o) (S.set i mo) := by
  obtain ⟨h1, h2⟩ := r.live i m h nd
  have hi : i < S.length := (List.getElem?_eq_some_iff.mp h).1
  have hi2 : ∀ (j : Nat) (k : MO), (S.set i mo)[j]? = some k → k ≠ .dead → ∃ m', S[j]? = some m' ∧ m' ≠ .dead := fun j k e nk => by
    by_cases hj : i = j
    · subst hj
      exact ⟨m, h, nd⟩
    · rw [List.getElem?_set_ne hj] at e
      exact ⟨k, e, nk⟩
  refine ⟨by rw [List.length_set]; exact r.n, fun a u e => ?_, fun j k e nk => ?_, fun j k m1 m2 e1 e2 n1 n2 q => ?_, fun a u q => ?_⟩
  · rw [upd_ne (ne_of_none e h1)]
    exact r.sub a u e
  · by_cases hj : i = j
    · subst hj
      rw [List.getElem?_set_self hi] at e
      cases e
      exact ⟨h1, hm⟩
    · rw [List.getElem?_set_ne hj] at e
      obtain ⟨g1, g2⟩ := r.live j k e nk
      exact ⟨g1, g2.at (upd_ne fun q => hj (r.inj i j m k h e nd nk q.symm))⟩
  · by_cases hj : i = j
    · by_cases hk : i = k
      · exact hj.symm.trans hk
      · rw [List.getElem?_set_ne hk] at e2
        subst hj
        exact r.inj i k m m2 h e2 nd n2 q
    · rw [List.getElem?_set_ne hj] at e1
      by_cases hk : i = k
      · subst hk
        exact r.inj j i m1 m e1 h n1 nd q
      · rw [List.getElem?_set_ne hk] at e2
        exact r.inj j k m1 m2 e1 e2 n1 n2 q
  · obtain ⟨g1, g2, g3⟩ := r.priv a u q
    refine ⟨by rw [upd_ne (fun z => g3 i m h nd z.symm)]; exact g1, g2, fun j k e nk => ?_⟩
    obtain ⟨m', e', n'⟩ := hi2 j k e nk
    exact g3 j m' e' n'
/-- a hidden object: made, changed, shown -/
def Wd.hid (W : Wd) (p : Addr) (o : HO) : Wd := { W with P := upd W.P p o }
theorem Ls.hid {p : Addr} {o : HO} : Ls W (W.hid p o) := ⟨fun _ _ h => h, fun _ _ => rfl, Nat.le_refl _⟩
theorem Ls.shw {p : Addr} {o : HO} : Ls (W.hid p o) W := ⟨fun _ _ h => h, fun _ _ => rfl, Nat.le_refl _⟩
theorem R.hide {p : Addr} {o : HO} (r : R K cl W H S) (hp : H p = none) : R K cl (W.hid p o) (upd H p o) S := by
  have r' := r.junk (o := o) hp
  have hg : W.G p = none := by
    cases e : W.G p with
    | none => rfl
    | some u => rw [r.sub p u e] at hp; cases hp
  refine ⟨r'.n, r'.sub, fun i mo h nd => ⟨(r'.live i mo h nd).1, (r'.live i mo h nd).2.ups (Ls.hid (p := p) (o := o))⟩, r'.inj, fun a u h => ?_⟩
  by_cases e : a = p
  · subst e
    rw [show (W.hid a o).P a = some o from upd_same] at h
    cases h
    refine ⟨upd_same, hg, fun i mo h nd => ?_⟩
    obtain ⟨u, hu⟩ := (r.live i mo h nd).2.some nd
    exact ne_of_none hu hp
  · rw [show (W.hid p o).P a = W.P a from upd_ne e] at h
    exact r'.priv a u h
theorem R.turn {p : Addr} {o o' : HO} (r : R K cl (W.hid p o) H S) : R K cl (W.hid p o') (upd H p o') S := by
  obtain ⟨h1, h2, h3⟩ := r.priv p o upd_same
  refine ⟨r.n, fun a u h => ?_, fun i mo h nd => ?_, r.inj, fun a u h => ?_⟩
  · rw [upd_ne (ne_of_none h h2)]
    exact r.sub a u h
  · obtain ⟨g1, g2⟩ := r.live i mo h nd
    exact ⟨g1, MRep.at (g2.ups (Ls.shw.tr Ls.hid)) (upd_ne (h3 i mo h nd))⟩
  · by_cases e : a = p
    · subst e
      rw [show (W.hid a o').P a = some o' from upd_same] at h
      cases h
      exact ⟨upd_same, h2, h3⟩
    · rw [show (W.hid p o').P a = W.P a from upd_ne e] at h
      obtain ⟨g1, g2, g3⟩ := r.priv a u (by rw [show (W.hid p o).P a = W.P a from upd_ne e]; exact h)
      exact ⟨by rw [upd_ne e]; exact g1, g2, g3⟩
theorem R.unhide {p : Addr} {o : HO} (r : R K cl (W.hid p o) H S) (hq : W.P p = none) : R K cl W H S ∧ H p = some o ∧ W.G p = none ∧ ∀ (i : Nat) (mo : MO), S[i]? = some mo → mo ≠ .dead → W.ι i ≠ p := by
  obtain ⟨h1, h2, h3⟩ := r.priv p o upd_same
  refine ⟨⟨r.n, r.sub, fun i mo h nd => ⟨(r.live i mo h nd).1, (r.live i mo h nd).2.ups (Ls.shw (p := p) (o := o))⟩, r.inj, fun a u h => ?_⟩, h1, h2, h3⟩
  exact r.priv a u (by rw [show (W.hid p o).P a = W.P a from upd_ne (ne_of_none h hq)]; exact h)
end

/-! ### readings -/
section
variable (K : PySem.W.Frag) (cl : Str → Option Addr)
def Post {α β : Type} (rel : Wd → β → α → Prop) (W : Wd) (r : Res α) (Q : β → Hp → Prop) (E : XK) : Prop := match r with
  | .ok d S => ∀ W' H' v, Le W W' → R K cl W' H' S → rel W' v d → Q v H'
  | .exc x S => ∀ W' H' c dd, Le W W' → R K cl W' H' S → XRep K cl W' c dd x → E c dd H'
  | .stk => False
def Tg {α β : Type} (rel : Wd → β → α → Prop) (E : WX) (m : M α) : St → Hp → (β → Hp → Prop) → Prop := fun σ H Q =>
  ∃ W ρ S, R K cl W H S ∧ Envs K cl W σ ρ ∧ Post K cl rel W (m ρ S) Q (fun c d H' => E c d σ H')
abbrev relB : Wd → Bool → Bool → Prop := fun _ b c => b = c
abbrev relO : Wd → Option Int → Option Int → Prop := fun _ b c => b = c
abbrev T (E : WX) (m : M D) : TE := Tg K cl (Rep K cl) E m
abbrev TB (E : WX) (m : M Bool) : TT := Tg K cl relB E m
abbrev TL (E : WX) (m : M (List D)) : TA := Tg K cl (Reps K cl) E m
abbrev TP (E : WX) (m : M (Option Int)) : TO := Tg K cl relO E m
end
section
variable {K : PySem.W.Frag} {cl : Str → Option Addr} {W W' : Wd} {H : Hp} {S : Store} {σ : St} {ρ : Sl} {α β γ δ : Type} {rel : Wd → β → α → Prop} {rel2 : Wd → δ → γ → Prop}
theorem Post.up {r : Res α} {Q : β → Hp → Prop} {E : XK} (l : Le W W') (p : Post K cl rel W r Q E) : Post K cl rel W' r Q E := by
  cases r with
  | ok d S => exact fun W2 H2 v l2 => p W2 H2 v (l.tr l2)
  | exc x S => exact fun W2 H2 c dd l2 => p W2 H2 c dd (l.tr l2)
  | stk => exact p
theorem Post.now {d : α} {Q : β → Hp → Prop} {E : XK} {v : β} (p : Post K cl rel W (.ok d S) Q E) (r : R K cl W H S) (h : rel W v d) : Q v H := p W H v (.rf W) r h
/-- the first part runs, then the rest -/
theorem step {m : M α} {f : α → Store → Res γ} {Q : δ → Hp → Prop} {Q1 : β → Hp → Prop} {E : WX} (hr : R K cl W H S) (he : Envs K cl W σ ρ) (p : Post K cl rel2 W ((m ρ S).bind f) Q (fun c d H' => E c d σ H'))
    (k : ∀ W' H' v d S', Le W W' → R K cl W' H' S' → Envs K cl W' σ ρ → rel W' v d → Post K cl rel2 W' (f d S') Q (fun c d H' => E c d σ H') → Q1 v H') : Tg K cl rel E m σ H Q1 := by
  refine ⟨W, ρ, S, hr, he, ?_⟩
  cases e : m ρ S with
  | ok d S1 =>
    rw [e] at p
    exact fun W1 H1 v l1 r1 q1 => k W1 H1 v d S1 l1 r1 (he.up l1) q1 (Post.up l1 p)
  | exc x S1 =>
    rw [e] at p
    exact p
  | stk =>
    rw [e] at p
    exact p.elim
end
section
variable {X : Cx}
theorem pe_imp {e : Expr} {t t' : TE} (h : PE X e t) (k : ∀ σ H Q, t' σ H Q → t σ H Q) : PE X e t' := ⟨fun pins s σ H Q I q => h.run pins s σ H Q I (k σ H Q q)⟩
theorem pt_imp {e : Expr} {t t' : TT} (h : PT X e t) (k : ∀ σ H Q, t' σ H Q → t σ H Q) : PT X e t' := ⟨fun pins s σ H Q I q => h.run pins s σ H Q I (k σ H Q q)⟩
theorem pw_imp {e : Expr} {t t' : TT} (h : PW X e t) (k : ∀ σ H Q, t' σ H Q → t σ H Q) : PW X e t' := ⟨fun wh pins s σ H Q I q => h.run wh pins s σ H Q I (k σ H Q q)⟩
theorem pa_imp {e : List Expr} {t t' : TA} (h : PA X e t) (k : ∀ σ H Q, t' σ H Q → t σ H Q) : PA X e t' := ⟨fun pos pins s σ H Q I q => h.run pos pins s σ H Q I (k σ H Q q)⟩
theorem po_imp {e : Option Expr} {t t' : TO} (h : PO X e t) (k : ∀ σ H Q, t' σ H Q → t σ H Q) : PO X e t' := ⟨fun pins s σ H Q I q => h.run pins s σ H Q I (k σ H Q q)⟩
theorem ps_imp {e : Stmt} {t t' : TS} (h : PS X e t) (k : ∀ D σ H, t' D σ H → t D σ H) : PS X e t' := ⟨fun pins s σ H D I q => h.run pins s σ H D I (k D σ H q)⟩
theorem pss_imp {e : List Stmt} {t t' : TS} (h : PSs X e t) (k : ∀ D σ H, t' D σ H → t D σ H) : PSs X e t' := ⟨fun pins s σ H D I q => h.run pins s σ H D I (k D σ H q)⟩
theorem pe_either {e : Expr} {t t' : TE} (h : PE X e t) (h' : PE X e t') : PE X e (fun σ H Q => t σ H Q ∨ t' σ H Q) := ⟨fun pins s σ H Q I q => q.elim (h.run pins s σ H Q I) (h'.run pins s σ H Q I)⟩
end
end G
namespace G
open PySem L2

/-! ### the combinators of expressions -/
def mVar (i : Nat) : M D := fun ρ S => match ρ[i]? with
  | some (some d) => .ok d S
  | _ => .stk
def mC (d : D) : M D := fun _ S => .ok d S
def mOp (g : D → D → Store → Res D) (a b : M D) : M D := fun ρ S => (a ρ S).bind fun x S1 => (b ρ S1).bind fun y S2 => g x y S2
def mUn (g : D → Store → Res D) (a : M D) : M D := fun ρ S => (a ρ S).bind fun x S1 => g x S1
def mNil : M (List D) := fun _ S => .ok [] S
def mCons (a : M D) (b : M (List D)) : M (List D) := fun ρ S => (a ρ S).bind fun x S1 => (b ρ S1).bind fun y S2 => .ok (x :: y) S2
def mFn (g : List D → Store → Res D) (a : M (List D)) : M D := fun ρ S => (a ρ S).bind fun x S1 => g x S1
def mIte (c : M Bool) (a b : M D) : M D := fun ρ S => (c ρ S).bind fun k S1 => if k = true then a ρ S1 else b ρ S1
/-- tests -/
def asB (d : D) (S : Store) : Res Bool := match d with
  | .bl b => .ok b S
  | _ => .stk
def mTest (a : M D) : M Bool := fun ρ S => (a ρ S).bind fun x S1 => asB x S1
def lsOf (S : Store) (d : D) : Option (List D) := match d with
  | .lst xs => some xs
  | .ref n => (match S[n]? with
    | some (.lst xs) => some xs
    | _ => none)
  | _ => none
def truD (d : D) (S : Store) : Res Bool := match d with
  | .non => .ok false S
  | .bl b => .ok b S
  | .int i => .ok (i != 0) S
  | .str y => if y.length ≤ sizeLine then .ok ((y.length : Int) != 0) S else .stk
  | .tup xs => .ok (!xs.isEmpty) S
  | .lst xs => .ok (!xs.isEmpty) S
  | .dct _ => .stk
  | .ins _ _ => .stk
  | .scr _ => .stk
  | .exv _ _ => .stk
  | .ref n => (match S[n]? with
    | some (.lst xs) => .ok (!xs.isEmpty) S
    | some (.dct xs) => .ok (!xs.isEmpty) S
    | _ => .stk)
def mTru (a : M D) : M Bool := fun ρ S => (a ρ S).bind fun x S1 => truD x S1
def mAnd (a b : M Bool) : M Bool := fun ρ S => (a ρ S).bind fun k S1 => if k = true then b ρ S1 else .ok false S1
def mOr (a b : M Bool) : M Bool := fun ρ S => (a ρ S).bind fun k S1 => if k = true then .ok true S1 else b ρ S1
def mNot (a : M Bool) : M Bool := fun ρ S => (a ρ S).bind fun k S1 => .ok (!k) S1
/-- values by truth -/
def mAndV (a b : M D) : M D := fun ρ S => (a ρ S).bind fun x S1 => (truD x S1).bind fun k S2 => if k = true then b ρ S2 else .ok x S2
def mOrV (a b : M D) : M D := fun ρ S => (a ρ S).bind fun x S1 => (truD x S1).bind fun k S2 => if k = true then .ok x S2 else b ρ S2
def mNotV (a : M D) : M D := fun ρ S => (a ρ S).bind fun x S1 => (truD x S1).bind fun k S2 => .ok (.bl (!k)) S2
def mChain (g g' : D → D → Store → Res D) (a b c : M D) : M D := fun ρ S => (a ρ S).bind fun x S1 => (b ρ S1).bind fun y S2 => (g x y S2).bind fun z S3 => (asB z S3).bind fun k S4 =>
  if k = true then (c ρ S4).bind fun w S5 => g' y w S5 else .ok (.bl false) S4
def mNoPart : M (Option Int) := fun _ S => .ok none S
def mPart (a : M D) : M (Option Int) := fun ρ S => (a ρ S).bind fun x S1 => match x with
  | .int i => .ok (some i) S1
  | _ => .stk
def mSl (g : D → Option Int → Option Int → Store → Res D) (a : M D) (l h : M (Option Int)) : M D := fun ρ S => (a ρ S).bind fun x S1 => (l ρ S1).bind fun lo S2 => (h ρ S2).bind fun hi S3 => g x lo hi S3
def tupD (xs : List D) (S : Store) : Res D := if xs.length ≤ sizeLine then .ok (.tup xs) S else .stk
def lstD (xs : List D) (S : Store) : Res D := if xs.length ≤ sizeLine then .ok (.lst xs) S else .stk
def lstL (xs : List D) (S : Store) : Res D := if xs.length ≤ sizeLine then .ok (.ref S.length) (S ++ [.lst xs]) else .stk

/-! ### soundness of operations by values -/
section
variable (K : PySem.W.Frag) (cl : Str → Option Addr)
def OpS (r : R2) (g : D → D → Store → Res D) : Prop := ∀ (W : Wd) (H : Hp) (S : Store) (x y : V) (dx dy : D) (Q : VK) (E : XK),
  R K cl W H S → Rep K cl W x dx → Rep K cl W y dy → Post K cl (Rep K cl) W (g dx dy S) Q E → r x y H Q
def UnS (r : V → Hp → VK → Prop) (g : D → Store → Res D) : Prop := ∀ (W : Wd) (H : Hp) (S : Store) (x : V) (dx : D) (Q : VK) (E : XK),
  R K cl W H S → Rep K cl W x dx → Post K cl (Rep K cl) W (g dx S) Q E → r x H Q
def FnS (r : List V → Hp → VK → Prop) (g : List D → Store → Res D) : Prop := ∀ (W : Wd) (H : Hp) (S : Store) (x : List V) (dx : List D) (Q : VK) (E : XK),
  R K cl W H S → Reps K cl W x dx → Post K cl (Rep K cl) W (g dx S) Q E → r x H Q
def MtS (r : V → List V → Hp → VK → Prop) (g : D → List D → Store → Res D) : Prop := ∀ (W : Wd) (H : Hp) (S : Store) (x : V) (dx : D) (y : List V) (dy : List D) (Q : VK) (E : XK),
  R K cl W H S → Rep K cl W x dx → Reps K cl W y dy → Post K cl (Rep K cl) W (g dx dy S) Q E → r x y H Q
def SlS (r : V → Option Int → Option Int → Hp → VK → Prop) (g : D → Option Int → Option Int → Store → Res D) : Prop := ∀ (W : Wd) (H : Hp) (S : Store) (x : V) (dx : D) (lo hi : Option Int) (Q : VK) (E : XK),
  R K cl W H S → Rep K cl W x dx → Post K cl (Rep K cl) W (g dx lo hi S) Q E → r x lo hi H Q
end

section
variable {X : Cx} {cl : Str → Option Addr} {E : WX} {a b c : Expr} {es : List Expr} {m m1 m2 m3 : M D} {ms : M (List D)} {mb mb2 : M Bool} {pos : Pos}
/-- the slots -/
theorem t_var (i : Nat) {x : Str} (hN : X.N[i]? = some x := by rfl) (hv : Vis X.env.scope x := by first | exact Or.inl rfl | exact Or.inr (Or.inl rfl) | exact Or.inr (Or.inr rfl))
    (hd : (x == ("__debug__" : Str)) = false := by decide) (hcd : (x == ("__classdict__" : Str)) = false := by decide) : PE X (.Name x pos) (T X.K cl E (mVar i)) :=
  pe_imp (pe_var hN hv hd hcd) fun σ H Q ⟨W, ρ, S, hr, he, p⟩ => by
    unfold mVar at p
    split at p
    · rename_i d e
      obtain ⟨v, h1, h2⟩ := he.at' i d e
      exact ⟨v, h1, p.now hr h2⟩
    · exact p.elim
theorem t_int {i : Int} {j : Nat} : PE X (.Constant (.int i) j pos) (T X.K cl E (mC (.int i))) := pe_imp pe_int fun σ H Q ⟨W, ρ, S, hr, he, p⟩ => p.now hr (.int i)
theorem t_bl {i : Bool} {j : Nat} : PE X (.Constant (.bool i) j pos) (T X.K cl E (mC (.bl i))) := pe_imp pe_bl fun σ H Q ⟨W, ρ, S, hr, he, p⟩ => p.now hr (.bl i)
theorem t_str {i : Str} {j : Nat} : PE X (.Constant (.str i) j pos) (T X.K cl E (mC (.str i))) := pe_imp pe_str fun σ H Q ⟨W, ρ, S, hr, he, p⟩ => p.now hr (.str i)
theorem t_non {j : Nat} : PE X (.Constant .none j pos) (T X.K cl E (mC .non)) := pe_imp pe_non fun σ H Q ⟨W, ρ, S, hr, he, p⟩ => p.now hr .non
/-- a constant of the module -/
theorem t_glob {x : Str} {v : V} {u : Value} {d : D} (hm : X.mg x = some u) (r : RelV v u) (rp : ∀ W, Rep X.K cl W v d) (hg : Gl X x := by rfl) (hd : (x == ("__debug__" : Str)) = false := by decide) :
    PE X (.Name x pos) (T X.K cl E (mC d)) := pe_imp (pe_glob hg hm r hd) fun σ H Q ⟨W, ρ, S, hr, he, p⟩ => p.now hr (rp W)
theorem t_op {op : Operator} {r : R2} {g : D → D → Store → Res D} (ho : OpR X (binaryOp op) r) (hs : OpS X.K cl r g) (ha : PE X a (T X.K cl E m1)) (hb : PE X b (T X.K cl E m2)) :
    PE X (.BinOp a op b pos) (T X.K cl E (mOp g m1 m2)) :=
  pe_imp (pe_op ho ha hb) fun σ H Q ⟨W, ρ, S, hr, he, p⟩ => step hr he p fun W1 H1 x dx S1 l1 r1 e1 rx p1 => step r1 e1 p1 fun W2 H2 y dy S2 l2 r2 e2 ry p2 =>
    hs _ _ _ _ _ _ _ _ _ r2 (rx.up l2) ry p2
theorem t_cmp {op : CmpOp} {r : R2} {g : D → D → Store → Res D} (ho : OpR X (compareOp op) r) (hs : OpS X.K cl r g) (ha : PE X a (T X.K cl E m1)) (hb : PE X b (T X.K cl E m2))
    (hm : behindInMarks op b = false := by first | exact nomark _ | rfl) : PE X (.Compare a [op] [b] pos) (T X.K cl E (mOp g m1 m2)) :=
  pe_imp (pe_cmpR ho ha hb hm) fun σ H Q ⟨W, ρ, S, hr, he, p⟩ => step hr he p fun W1 H1 x dx S1 l1 r1 e1 rx p1 => step r1 e1 p1 fun W2 H2 y dy S2 l2 r2 e2 ry p2 =>
    hs _ _ _ _ _ _ _ _ _ r2 (rx.up l2) ry p2
theorem post_asB {d : D} {S : Store} {W : Wd} {Q : Bool → Hp → Prop} {E : XK} {K : PySem.W.Frag} (p : Post K cl relB W (asB d S) Q E) : ∃ k, d = .bl k := by
  cases d <;> first | exact ⟨_, rfl⟩ | exact p.elim
/-- a result, its bool read off -/
theorem post_test {K : PySem.W.Frag} {W : Wd} {r : Res D} {Q : Bool → Hp → Prop} {E : XK} (p : Post K cl relB W (r.bind fun x S1 => asB x S1) Q E) : Post K cl (Rep K cl) W r (fun x H' => ∃ k, x = .bl k ∧ Q k H') E := by
  cases r with
  | ok d S =>
    intro W' H' v l r' rep
    obtain ⟨k, rfl⟩ := post_asB p
    cases rep
    exact ⟨k, rfl, p W' H' k l r' rfl⟩
  | exc x S => exact p
  | stk => exact p
theorem tt_cmp {op : CmpOp} {r : R2} {g : D → D → Store → Res D} (ho : OpR X (compareOp op) r) (hs : OpS X.K cl r g) (ha : PE X a (T X.K cl E m1)) (hb : PE X b (T X.K cl E m2))
    (hm : behindInMarks op b = false := by first | exact nomark _ | rfl) : PT X (.Compare a [op] [b] pos) (TB X.K cl E (mTest (mOp g m1 m2))) :=
  pt_imp (pt_cmpR ho ha hb hm) fun σ H Q ⟨W, ρ, S, hr, he, p⟩ => by
    have p : Post X.K cl (Rep X.K cl) W (mOp g m1 m2 ρ S) _ _ := post_test p
    exact step hr he p fun W1 H1 x dx S1 l1 r1 e1 rx p1 => step r1 e1 p1 fun W2 H2 y dy S2 l2 r2 e2 ry p2 => hs _ _ _ _ _ _ _ _ _ r2 (rx.up l2) ry p2
theorem t_chain {op op' : CmpOp} {r r' : R2} {g g' : D → D → Store → Res D} (ho : OpR X (compareOp op) r) (hs : OpS X.K cl r g) (ho' : OpR X (compareOp op') r') (hs' : OpS X.K cl r' g')
    (ha : PE X a (T X.K cl E m1)) (hb : PE X b (T X.K cl E m2)) (hc : PE X c (T X.K cl E m3)) (hm : lastMarks [op, op'] [b, c] = false := by with_unfolding_all rfl) :
    PE X (.Compare a [op, op'] [b, c] pos) (T X.K cl E (mChain g g' m1 m2 m3)) :=
  pe_imp (pe_chain ho ho' ha hb hc hm) fun σ H Q ⟨W, ρ, S, hr, he, p⟩ => step hr he p fun W1 H1 x dx S1 l1 r1 e1 rx p1 => step r1 e1 p1 fun W2 H2 y dy S2 l2 r2 e2 ry p2 => by
    cases e : g dx dy S2 with
    | stk => rw [e] at p2; exact p2.elim
    | exc q S3 =>
      rw [e] at p2
      refine hs W2 H2 S2 x y dx dy _ (fun c d H' => E c d σ H') r2 (rx.up l2) ry ?_
      rw [e]
      exact p2
    | ok z S3 =>
      rw [e] at p2
      refine hs W2 H2 S2 x y dx dy _ (fun _ _ _ => True) r2 (rx.up l2) ry ?_
      rw [e]
      intro W3 H3 v l3 r3 rep
      cases z with
      | bl k =>
        cases rep
        refine ⟨k, rfl, ?_⟩
        cases k with
        | true =>
          show T X.K cl E m3 σ H3 _
          exact step r3 (e2.up l3) (p2.up l3) fun W4 H4 w dw S4 l4 r4 e4 rw' p4 => hs' _ _ _ _ _ _ _ _ _ r4 (ry.up (l3.tr l4)) rw' p4
        | false => exact Post.now (p2.up l3) r3 (.bl false)
      | _ => exact p2.elim
theorem tt_chain {op op' : CmpOp} {r r' : R2} {g g' : D → D → Store → Res D} (ho : OpR X (compareOp op) r) (hs : OpS X.K cl r g) (ho' : OpR X (compareOp op') r') (hs' : OpS X.K cl r' g')
    (ha : PE X a (T X.K cl E m1)) (hb : PE X b (T X.K cl E m2)) (hc : PE X c (T X.K cl E m3)) (hm : lastMarks [op, op'] [b, c] = false := by with_unfolding_all rfl) :
    PT X (.Compare a [op, op'] [b, c] pos) (TB X.K cl E (mTest (mChain g g' m1 m2 m3))) :=
  pt_imp (pt_chain ho ho' ha hb hc hm) fun σ H Q ⟨W, ρ, S, hr, he, p⟩ => by
    have p : Post X.K cl (Rep X.K cl) W (mChain g g' m1 m2 m3 ρ S) (fun x H' => ∃ k, x = V.bl k ∧ Q k H') _ := post_test p
    exact step hr he p fun W1 H1 x dx S1 l1 r1 e1 rx p1 => step r1 e1 p1 fun W2 H2 y dy S2 l2 r2 e2 ry p2 => by
      cases e : g dx dy S2 with
      | stk => rw [e] at p2; exact p2.elim
      | exc q S3 =>
        rw [e] at p2
        refine hs W2 H2 S2 x y dx dy _ (fun c d H' => E c d σ H') r2 (rx.up l2) ry ?_
        rw [e]
        exact p2
      | ok z S3 =>
        rw [e] at p2
        refine hs W2 H2 S2 x y dx dy _ (fun _ _ _ => True) r2 (rx.up l2) ry ?_
        rw [e]
        intro W3 H3 v l3 r3 rep
        cases z with
        | bl k =>
          cases rep
          refine ⟨k, rfl, ?_⟩
          cases k with
          | true =>
            show T X.K cl E m3 σ H3 _
            exact step r3 (e2.up l3) (p2.up l3) fun W4 H4 w dw S4 l4 r4 e4 rw' p4 => hs' _ _ _ _ _ _ _ _ _ r4 (ry.up (l3.tr l4)) rw' p4
          | false => exact Post.now (p2.up l3) r3 (.bl false)
        | _ => exact p2.elim
theorem tru_of {K : PySem.W.Frag} {W : Wd} {H : Hp} {S : Store} {x : V} {d : D} {γ δ : Type} {rel2 : Wd → δ → γ → Prop} {f : Bool → Store → Res γ} {Q : δ → Hp → Prop} {E : XK} (r : R K cl W H S) (rx : Rep K cl W x d) (p : Post K cl rel2 W ((truD d S).bind f) Q E) :
    ∃ k, TruV K x H k ∧ Post K cl rel2 W (f k S) Q E := by
  cases rx with
  | non => exact ⟨false, rfl, p⟩
  | bl b => exact ⟨b, rfl, p⟩
  | int i => exact ⟨_, rfl, p⟩
  | str y =>
    unfold truD at p
    dsimp only at p
    by_cases hy : y.length ≤ sizeLine
    · rw [if_pos hy] at p
      exact ⟨_, ⟨hy, rfl⟩, p⟩
    · rw [if_neg hy] at p
      exact p.elim
  | tup h t => exact ⟨_, .inr (.inl ⟨_, sqT_up r.sub h, rfl⟩), by cases t <;> exact p⟩
  | lst h t => exact ⟨_, .inl ⟨_, SqL.of (r.sub _ _ h), rfl⟩, by cases t <;> exact p⟩
  | scr h => exact p.elim
  | dct h t => exact p.elim
  | ins h c t => exact p.elim
  | exv0 => exact p.elim
  | exv1 => exact p.elim
  | ref hn =>
    rename_i n
    unfold truD at p
    dsimp only at p
    cases e : S[n]? with
    | none => simp only [e] at p; exact p.elim
    | some mo =>
      simp only [e] at p
      cases mo with
      | lst xs =>
        obtain ⟨_, vs, h1, h2⟩ := r.live n _ e (by intro q; cases q)
        exact ⟨_, .inl ⟨vs, SqL.of h1, rfl⟩, by cases h2 <;> exact p⟩
      | dct xs =>
        obtain ⟨_, vs, h1, h2⟩ := r.live n _ e (by intro q; cases q)
        exact ⟨_, .inr (.inr ⟨vs, h1, rfl⟩), by cases h2 <;> exact p⟩
      | ldc xs => exact p.elim
      | ins c fs => exact p.elim
      | dead => exact p.elim
theorem tt_tru (ha : PE X a (T X.K cl E m)) (he : ∀ whole, isTrue a X.env whole = (do let v ← whole; standAt a.pos; holding [v] (truthy v)) := by intro _; rfl) : PT X a (TB X.K cl E (mTru m)) :=
  pt_imp (pt_truth ha he) fun σ H Q ⟨W, ρ, S, hr, he, p⟩ => step hr he p fun W1 H1 x dx S1 l1 r1 e1 rx p1 => by
    have p1 : Post X.K cl relB W1 ((truD dx S1).bind fun k S => .ok k S) Q (fun c d H' => E c d σ H') := by cases q : truD dx S1 <;> (rw [q] at p1; exact p1)
    obtain ⟨k, h, p2⟩ := tru_of r1 rx p1
    exact ⟨k, h, p2.now r1 rfl⟩
theorem ite_of {K : PySem.W.Frag} {W : Wd} {H : Hp} {S : Store} {k : Bool} {A B : Prop} (h1 : k = true → A) (h2 : k = false → B) : if k = true then A else B := by
  cases k
  · exact h2 rfl
  · exact h1 rfl
theorem tw_and1 (ha : PT X a (TB X.K cl E mb)) : PW X (.BoolOp .And [a] pos) (TB X.K cl E mb) := pw_and1 ha
theorem tw_or1 (ha : PT X a (TB X.K cl E mb)) : PW X (.BoolOp .Or [a] pos) (TB X.K cl E mb) := pw_or1 ha
theorem tw_and {rest : List Expr} (ha : PT X a (TB X.K cl E mb)) (hb : PW X (.BoolOp .And (b :: rest) pos) (TB X.K cl E mb2)) : PW X (.BoolOp .And (a :: b :: rest) pos) (TB X.K cl E (mAnd mb mb2)) :=
  pw_imp (pw_and ha hb) fun σ H Q ⟨W, ρ, S, hr, he, p⟩ => step hr he p fun W1 H1 x dx S1 l1 r1 e1 rx p1 => by
    obtain rfl : x = dx := rx
    cases x with
    | true => exact ⟨W1, ρ, S1, r1, e1, p1⟩
    | false => exact p1.now r1 rfl
theorem tw_or {rest : List Expr} (ha : PT X a (TB X.K cl E mb)) (hb : PW X (.BoolOp .Or (b :: rest) pos) (TB X.K cl E mb2)) : PW X (.BoolOp .Or (a :: b :: rest) pos) (TB X.K cl E (mOr mb mb2)) :=
  pw_imp (pw_or ha hb) fun σ H Q ⟨W, ρ, S, hr, he, p⟩ => step hr he p fun W1 H1 x dx S1 l1 r1 e1 rx p1 => by
    obtain rfl : x = dx := rx
    cases x with
    | true => exact p1.now r1 rfl
    | false => exact ⟨W1, ρ, S1, r1, e1, p1⟩
theorem tt_not (ha : PT X a (TB X.K cl E mb)) : PT X (.UnaryOp .Not a pos) (TB X.K cl E (mNot mb)) :=
  pt_imp (pt_not ha) fun σ H Q ⟨W, ρ, S, hr, he, p⟩ => step hr he p fun W1 H1 x dx S1 l1 r1 e1 rx p1 => by
    obtain rfl : x = dx := rx
    exact p1.now r1 rfl
theorem t_one {op : BoolOp} (ha : PE X a (T X.K cl E m)) : PE X (.BoolOp op [a] pos) (T X.K cl E m) := pe_one ha
theorem t_and {rest : List Expr} (ha : PE X a (T X.K cl E m1)) (hb : PE X (.BoolOp .And (b :: rest) pos) (T X.K cl E m2)) : PE X (.BoolOp .And (a :: b :: rest) pos) (T X.K cl E (mAndV m1 m2)) :=
  pe_imp (pe_andT ha hb) fun σ H Q ⟨W, ρ, S, hr, he, p⟩ => step hr he p fun W1 H1 x dx S1 l1 r1 e1 rx p1 => by
    obtain ⟨k, h, p2⟩ := tru_of r1 rx p1
    refine ⟨k, h, ?_⟩
    cases k with
    | true => exact ⟨W1, ρ, S1, r1, e1, p2⟩
    | false => exact p2.now r1 rx
theorem t_or {rest : List Expr} (ha : PE X a (T X.K cl E m1)) (hb : PE X (.BoolOp .Or (b :: rest) pos) (T X.K cl E m2)) : PE X (.BoolOp .Or (a :: b :: rest) pos) (T X.K cl E (mOrV m1 m2)) :=
  pe_imp (pe_orT ha hb) fun σ H Q ⟨W, ρ, S, hr, he, p⟩ => step hr he p fun W1 H1 x dx S1 l1 r1 e1 rx p1 => by
    obtain ⟨k, h, p2⟩ := tru_of r1 rx p1
    refine ⟨k, h, ?_⟩
    cases k with
    | true => exact p2.now r1 rx
    | false => exact ⟨W1, ρ, S1, r1, e1, p2⟩
theorem t_not (ha : PE X a (T X.K cl E m)) : PE X (.UnaryOp .Not a pos) (T X.K cl E (mNotV m)) :=
  pe_imp (pe_notT ha) fun σ H Q ⟨W, ρ, S, hr, he, p⟩ => step hr he p fun W1 H1 x dx S1 l1 r1 e1 rx p1 => by
    obtain ⟨k, h, p2⟩ := tru_of r1 rx p1
    exact ⟨k, h, p2.now r1 (.bl _)⟩
theorem t_ite (hc : PT X c (TB X.K cl E mb)) (ha : PE X a (T X.K cl E m1)) (hb : PE X b (T X.K cl E m2)) : PE X (.IfExp c a b pos) (T X.K cl E (mIte mb m1 m2)) :=
  pe_imp (pe_ifExp hc ha hb) fun σ H Q ⟨W, ρ, S, hr, he, p⟩ => step hr he p fun W1 H1 x dx S1 l1 r1 e1 rx p1 => by
    obtain rfl : x = dx := rx
    cases x with
    | true => exact ⟨W1, ρ, S1, r1, e1, p1⟩
    | false => exact ⟨W1, ρ, S1, r1, e1, p1⟩
/-- argument lists -/
theorem ta_nil : PA X [] (TL X.K cl E mNil) := pa_imp pa_nil fun σ H Q ⟨W, ρ, S, hr, he, p⟩ => p.now hr .nil
theorem ta_cons (ha : PE X a (T X.K cl E m)) (hb : PA X es (TL X.K cl E ms)) (hs : starEach (a :: es) X.env = (false, eval a X.env) :: starEach es X.env := by rfl) : PA X (a :: es) (TL X.K cl E (mCons m ms)) :=
  pa_imp (pa_cons ha hb hs) fun σ H Q ⟨W, ρ, S, hr, he, p⟩ => step hr he p fun W1 H1 x dx S1 l1 r1 e1 rx p1 => step r1 e1 p1 fun W2 H2 y dy S2 l2 r2 e2 ry p2 => p2.now r2 (.cons (rx.up l2) ry)
theorem t_tup {x1 : _} (h : PA X es (TL X.K cl E ms)) : PE X (.Tuple es x1 pos) (T X.K cl E (mFn tupD ms)) :=
  pe_imp (pe_tup h) fun σ H Q ⟨W, ρ, S, hr, he, p⟩ => step hr he p fun W1 H1 x dx S1 l1 r1 e1 rx p1 => by
    unfold tupD at p1
    by_cases hz : dx.length ≤ sizeLine
    · rw [if_pos hz] at p1
      refine ⟨by rw [rx.len]; exact hz, fun q hq => ?_⟩
      obtain ⟨r2, l2⟩ := r1.fz (o := .tup x) hq
      exact p1 _ _ _ l2 r2 (.tup (SqT.of upd_same) (rx.up l2))
    · rw [if_neg hz] at p1
      exact p1.elim
theorem t_lst (h : PA X es (TL X.K cl E ms)) : PE X (.List es pos) (T X.K cl E (mFn lstD ms)) :=
  pe_imp (pe_lst h) fun σ H Q ⟨W, ρ, S, hr, he, p⟩ => step hr he p fun W1 H1 x dx S1 l1 r1 e1 rx p1 => by
    unfold lstD at p1
    by_cases hz : dx.length ≤ sizeLine
    · rw [if_pos hz] at p1
      refine ⟨by rw [rx.len]; exact hz, fun q hq => ?_⟩
      obtain ⟨r2, l2⟩ := r1.fz (o := .lst x) hq
      exact p1 _ _ _ l2 r2 (.lst upd_same (rx.up l2))
    · rw [if_neg hz] at p1
      exact p1.elim
/-- a list that will change -/
theorem t_lstL (h : PA X es (TL X.K cl E ms)) : PE X (.List es pos) (T X.K cl E (mFn lstL ms)) :=
  pe_imp (pe_lst h) fun σ H Q ⟨W, ρ, S, hr, he, p⟩ => step hr he p fun W1 H1 x dx S1 l1 r1 e1 rx p1 => by
    unfold lstL at p1
    by_cases hz : dx.length ≤ sizeLine
    · rw [if_pos hz] at p1
      refine ⟨by rw [rx.len]; exact hz, fun q hq => ?_⟩
      refine p1 (W1.lv q) _ _ (Le.lv W1 q) (r1.new hq ⟨x, upd_same, rx⟩) ?_
      have e : (W1.lv q).ι S1.length = q := by rw [← r1.n]; exact W1.lv_at q
      have z := Rep.ref (K := X.K) (cl := cl) (W := W1.lv q) (n := S1.length) (by show _ < W1.n + 1; rw [r1.n]; exact Nat.lt_succ_self _)
      rw [e] at z
      exact z
    · rw [if_neg hz] at p1
      exact p1.elim
theorem tp_none : PO X none (TP X.K cl E mNoPart) := po_imp po_none fun σ H Q ⟨W, ρ, S, hr, he, p⟩ => p.now hr rfl
theorem tp_some (h : PE X a (T X.K cl E m)) : PO X (some a) (TP X.K cl E (mPart m)) := po_imp (po_some h) fun σ H Q ⟨W, ρ, S, hr, he, p⟩ => step hr he p fun W1 H1 x dx S1 l1 r1 e1 rx p1 => by
  cases rx with
  | int i => exact ⟨i, rfl, p1.now r1 rfl⟩
  | _ => exact p1.elim
theorem t_sl {r : V → Option Int → Option Int → Hp → VK → Prop} {g : D → Option Int → Option Int → Store → Res D} {lo hi : Option Expr} {ml mh : M (Option Int)} {p2 : Pos} (hr : SlR X r) (hs : SlS X.K cl r g)
    (ha : PE X a (T X.K cl E m)) (hl : PO X lo (TP X.K cl E ml)) (hh : PO X hi (TP X.K cl E mh)) : PE X (.Subscript a (.Slice lo hi none p2) pos) (T X.K cl E (mSl g m ml mh)) :=
  pe_imp (pe_slice hr ha hl hh) fun σ H Q ⟨W, ρ, S, hr, he, p⟩ => step hr he p fun W1 H1 x dx S1 l1 r1 e1 rx p1 => step r1 e1 p1 fun W2 H2 y dy S2 l2 r2 e2 ry p2 => step r2 e2 p2 fun W3 H3 z dz S3 l3 r3 e3 rz p3 => by
    obtain rfl : y = dy := ry
    obtain rfl : z = dz := rz
    exact hs _ _ _ _ _ _ _ _ _ r3 (rx.up (l2.tr l3)) p3
theorem t_ix {r : R2} {g : D → D → Store → Res D} (ho : IxR X r) (hs : OpS X.K cl r g) (ha : PE X a (T X.K cl E m1)) (hb : PE X b (T X.K cl E m2)) (hp : PlainIx b := by exact fun _ _ => rfl) : PE X (.Subscript a b pos) (T X.K cl E (mOp g m1 m2)) :=
  pe_imp (pe_ix ho ha hb hp) fun σ H Q ⟨W, ρ, S, hr, he, p⟩ => step hr he p fun W1 H1 x dx S1 l1 r1 e1 rx p1 => step r1 e1 p1 fun W2 H2 y dy S2 l2 r2 e2 ry p2 => hs _ _ _ _ _ _ _ _ _ r2 (rx.up l2) ry p2
theorem t_un {op : UnaryOp} {r : V → Hp → VK → Prop} {g : D → Store → Res D} (ho : UnR X (unaryOp op) r) (hs : UnS X.K cl r g) (ha : PE X a (T X.K cl E m)) (hn : op ≠ .Not := by decide) : PE X (.UnaryOp op a pos) (T X.K cl E (mUn g m)) :=
  pe_imp (pe_un ho ha) fun σ H Q ⟨W, ρ, S, hr, he, p⟩ => step hr he p fun W1 H1 x dx S1 l1 r1 e1 rx p1 => hs _ _ _ _ _ _ _ r1 rx p1
end
end G
namespace G
open PySem L2

section
variable {X : Cx}
theorem opr_or {f : Value → Value → Sem Value} {r r' : R2} (h : OpR X f r) (h' : OpR X f r') : OpR X f (fun x y H Q => r x y H Q ∨ r' x y H Q) := fun pins s σ H x y v u Q I rx ry q =>
  q.elim (h pins s σ H x y v u Q I rx ry) (h' pins s σ H x y v u Q I rx ry)
theorem cr_or {f : Value} {r r' : List V → Hp → VK → Prop} (h : CallR X f r) (h' : CallR X f r') : CallR X f (fun x H Q => r x H Q ∨ r' x H Q) := fun pins s σ H x v Q I rx q =>
  q.elim (h pins s σ H x v Q I rx) (h' pins s σ H x v Q I rx)
theorem mt_or {f : String} {r r' : V → List V → Hp → VK → Prop} (h : MtR X f r) (h' : MtR X f r') : MtR X f (fun x y H Q => r x y H Q ∨ r' x y H Q) := fun pins s σ H x y v u Q I rx ry q =>
  q.elim (h pins s σ H x y v u Q I rx ry) (h' pins s σ H x y v u Q I rx ry)
end

def ofO (o : Option D) (S : Store) : Res D := match o with
  | some d => .ok d S
  | none => .stk
def ofB (o : Option Bool) (S : Store) : Res D := match o with
  | some d => .ok (.bl d) S
  | none => .stk

section
variable {K : PySem.W.Frag} {cl : Str → Option Addr} {W : Wd} {H : Hp} {S : Store}
/-- what is read as a list -/
theorem ls_of {v : V} {d : D} {xs : List D} (r : R K cl W H S) (h : Rep K cl W v d) (e : lsOf S d = some xs) : ∃ a vs, v = .ref a ∧ H a = some (.lst vs) ∧ Reps K cl W vs xs := by
  cases h with
  | lst g t =>
    have e := Option.some.inj e
    subst e
    exact ⟨_, _, rfl, r.sub _ _ g, t⟩
  | ref hn =>
    rename_i n
    unfold lsOf at e
    dsimp only at e
    cases q : S[n]? with
    | none => rw [q] at e; cases e
    | some mo =>
      rw [q] at e
      cases mo with
      | lst ys =>
        have e := Option.some.inj e
        subst e
        obtain ⟨_, vs, h1, h2⟩ := r.live n _ q (by intro z; cases z)
        exact ⟨_, vs, rfl, h1, h2⟩
      | _ => cases e
  | _ => cases e
theorem newT {vs : List V} {ds : List D} {Q : VK} {E : XK} (r : R K cl W H S) (t : Reps K cl W vs ds) (p : Post K cl (Rep K cl) W (.ok (.tup ds) S) Q E) : ∀ q, H q = none → Q (.ref q) (upd H q (.tup vs)) := fun q hq =>
  let ⟨r2, l2⟩ := r.fz (o := .tup vs) hq
  p _ _ _ l2 r2 (.tup (SqT.of upd_same) (t.up l2))
theorem newL {vs : List V} {ds : List D} {Q : VK} {E : XK} (r : R K cl W H S) (t : Reps K cl W vs ds) (p : Post K cl (Rep K cl) W (.ok (.lst ds) S) Q E) : ∀ q, H q = none → Q (.ref q) (upd H q (.lst vs)) := fun q hq =>
  let ⟨r2, l2⟩ := r.fz (o := .lst vs) hq
  p _ _ _ l2 r2 (.lst upd_same (t.up l2))
theorem newLv {vs : List V} {ds : List D} {Q : VK} {E : XK} (r : R K cl W H S) (t : Reps K cl W vs ds) (p : Post K cl (Rep K cl) W (.ok (.ref S.length) (S ++ [.lst ds])) Q E) : ∀ q, H q = none → Q (.ref q) (upd H q (.lst vs)) := fun q hq => by
  refine p (W.lv q) _ _ (Le.lv W q) (r.new hq ⟨vs, upd_same, t⟩) ?_
  have e : (W.lv q).ι S.length = q := by rw [← r.n]; exact W.lv_at q
  have z := Rep.ref (K := K) (cl := cl) (W := W.lv q) (n := S.length) (by show _ < W.n + 1; rw [r.n]; exact Nat.lt_succ_self _)
  rw [e] at z
  exact z
theorem atI_rep {vs : List V} {ds : List D} {i : Int} {d : D} (t : Reps K cl W vs ds) (h : atI ds i = some d) : ∃ v, atI vs i = some v ∧ Rep K cl W v d := by
  unfold atI at h ⊢
  rw [t.len]
  cases e : ixN ds.length i with
  | none => rw [e] at h; cases h
  | some j =>
    rw [e] at h
    exact t.at h
theorem atI_map {α β : Type} (f : α → β) {xs : List α} {i : Int} {x : α} (h : atI xs i = some x) : atI (xs.map f) i = some (f x) := by
  unfold atI at h ⊢
  rw [List.length_map]
  cases e : ixN xs.length i with
  | none => rw [e] at h; cases h
  | some j =>
    rw [e] at h
    have h : xs[j]? = some x := h
    show (xs.map f)[j]? = some (f x)
    rw [List.getElem?_map, h]
    rfl
end

/-! ### arithmetic -/
def addD (a b : D) (S : Store) : Res D := match a, b with
  | .int i, .int j => .ok (.int (i + j)) S
  | .str x, .str y => if x.length + y.length ≤ sizeLine then .ok (.str (x ++ y)) S else .stk
  | .tup x, .tup y => if x.length + y.length ≤ sizeLine then .ok (.tup (x ++ y)) S else .stk
  | a, b => (match lsOf S a, lsOf S b with
    | some x, some y => if x.length + y.length ≤ sizeLine then .ok (.lst (x ++ y)) S else .stk
    | _, _ => .stk)
def rAddA (K : PySem.W.Frag) : R2 := fun x y H Q => rI0 (fun i j => .int (i + j)) x y H Q ∨ (∃ i j, x = .str i ∧ y = .str j ∧ i.length + j.length ≤ sizeLine ∧ Q (.str (i ++ j)) H) ∨ rCatA K x y H Q ∨ rCat x y H Q
theorem op_addA {X : Cx} : OpR X (binaryOp .Add) (rAddA X.K) := opr_or op_add (opr_or op_add_str (opr_or op_catA op_cat))
theorem addL_s {K : PySem.W.Frag} {cl : Str → Option Addr} {W : Wd} {H : Hp} {S : Store} {x y : V} {a b : D} {Q : VK} {E : XK} (r : R K cl W H S) (rx : Rep K cl W x a) (ry : Rep K cl W y b)
    (p : Post K cl (Rep K cl) W (match lsOf S a, lsOf S b with
    | some x, some y => if x.length + y.length ≤ sizeLine then .ok (.lst (x ++ y)) S else .stk
    | _, _ => .stk) Q E) : rCat x y H Q := by
  cases e1 : lsOf S a with
  | none => rw [e1] at p; exact p.elim
  | some xs =>
    cases e2 : lsOf S b with
    | none => rw [e1, e2] at p; exact p.elim
    | some ys =>
      rw [e1, e2] at p
      dsimp only at p
      obtain ⟨l1, vs1, rfl, h1, t1⟩ := ls_of r rx e1
      obtain ⟨l2, vs2, rfl, h2, t2⟩ := ls_of r ry e2
      by_cases hz : xs.length + ys.length ≤ sizeLine
      · rw [if_pos hz] at p
        exact ⟨_, _, _, _, rfl, rfl, h1, h2, by rw [t1.len, t2.len]; exact hz, newL r (t1.app t2) p⟩
      · rw [if_neg hz] at p
        exact p.elim
theorem add_s {K : PySem.W.Frag} {cl : Str → Option Addr} : OpS K cl (rAddA K) addD := by
  intro W H S x y a b Q E r rx ry p
  unfold addD at p
  split at p
  · cases rx; cases ry
    exact .inl ⟨_, _, rfl, rfl, p.now r (.int _)⟩
  · cases rx; cases ry
    split at p
    · rename_i hz
      exact .inr (.inl ⟨_, _, rfl, rfl, hz, p.now r (.str _)⟩)
    · exact p.elim
  · cases rx with | tup h1 t1 =>
    cases ry with | tup h2 t2 =>
    split at p
    · rename_i hz
      refine .inr (.inr (.inl ⟨_, _, _, _, rfl, rfl, sqT_up r.sub h1, sqT_up r.sub h2, by rw [t1.len, t2.len]; exact hz, fun e => ?_, fun _ e => ?_, fun _ _ => newT r (t1.app t2) p⟩))
      · subst e
        cases t1
        exact p.now r (.tup h2 t2)
      · subst e
        cases t2
        rw [List.append_nil] at p
        exact p.now r (.tup h1 t1)
    · exact p.elim
  · exact .inr (.inr (.inr (addL_s r rx ry p)))
def subD (a b : D) (S : Store) : Res D := match a, b with
  | .int i, .int j => .ok (.int (i - j)) S
  | _, _ => .stk
theorem sub_s {K : PySem.W.Frag} {cl : Str → Option Addr} : OpS K cl (rI0 fun i j => .int (i - j)) subD := by
  intro W H S x y a b Q E r rx ry p
  unfold subD at p
  split at p
  · cases rx; cases ry
    exact ⟨_, _, rfl, rfl, p.now r (.int _)⟩
  · exact p.elim
def sm64 (i : Int) : Bool := decide (-18446744073709551616 < i) && decide (i < 18446744073709551616)
theorem sm64_of {i : Int} (h : sm64 i = true) : -(2 ^ 64) < i ∧ i < 2 ^ 64 := by
  unfold sm64 at h
  rw [Bool.and_eq_true, decide_eq_true_eq, decide_eq_true_eq] at h
  omega
/-- within the bounds of a range -/
def smR (i : Int) : Bool := decide (-4611686018427387904 ≤ i) && decide (i < 4611686018427387904)
theorem smR_of {i : Int} (h : smR i = true) : -(2 ^ 62) ≤ i ∧ i < 2 ^ 62 := by
  unfold smR at h
  rw [Bool.and_eq_true, decide_eq_true_eq, decide_eq_true_eq] at h
  omega
theorem smR_nat {n : Nat} (h : n ≤ 1000000) : smR (n : Int) = true := by
  unfold smR
  rw [Bool.and_eq_true, decide_eq_true_eq, decide_eq_true_eq]
  omega
theorem smR_int {i : Int} (h : 0 ≤ i) (h1 : i ≤ 1000000) : smR i = true := by
  unfold smR
  rw [Bool.and_eq_true, decide_eq_true_eq, decide_eq_true_eq]
  omega
def mulD (a b : D) (S : Store) : Res D := match a, b with
  | .int i, .int j => if (sm64 i || sm64 j) = true then .ok (.int (i * j)) S else .stk
  | a, .int k => (match lsOf S a with
    | some xs => if 0 ≤ k ∧ smR k = true ∧ xs.length * k.toNat ≤ sizeLine then .ok (.lst (List.replicate k.toNat xs).flatten) S else .stk
    | none => .stk)
  | _, _ => .stk
def rMulA : R2 := fun x y H Q => rI CMul (fun i j => .int (i * j)) x y H Q ∨ rRep x y H Q
theorem op_mulA {X : Cx} : OpR X (binaryOp .Mult) rMulA := opr_or op_mul op_rep
theorem Reps.rep {K : PySem.W.Frag} {cl : Str → Option Addr} {W : Wd} {vs : List V} {ds : List D} (t : Reps K cl W vs ds) : ∀ n : Nat, Reps K cl W (List.replicate n vs).flatten (List.replicate n ds).flatten
  | 0 => .nil
  | n + 1 => by
    rw [List.replicate_succ, List.replicate_succ, List.flatten_cons, List.flatten_cons]
    exact t.app (Reps.rep t n)
theorem mul_s {K : PySem.W.Frag} {cl : Str → Option Addr} : OpS K cl rMulA mulD := by
  intro W H S x y a b Q E r rx ry p
  unfold mulD at p
  split at p
  · cases rx; cases ry
    split at p
    · rename_i hz
      refine .inl ⟨_, _, rfl, rfl, ?_, p.now r (.int _)⟩
      rcases Bool.or_eq_true _ _ |>.mp hz with h | h
      · exact .inl (sm64_of h)
      · exact .inr (sm64_of h)
    · exact p.elim
  · rename_i k _
    cases ry
    split at p
    · rename_i xs e1
      obtain ⟨l1, vs1, rfl, h1, t1⟩ := ls_of r rx e1
      split at p
      · rename_i hz
        exact .inr ⟨_, _, _, rfl, rfl, h1, by have := (smR_of hz.2.1).1; omega, by have := (smR_of hz.2.1).2; omega, by rw [t1.len]; exact hz.2.2, newL r (t1.rep _) p⟩
      · exact p.elim
    · exact p.elim
  · exact p.elim
def fdivD (a b : D) (S : Store) : Res D := match a, b with
  | .int i, .int j => if 0 < j ∧ j.natAbs.log2 < 9000 then .ok (.int (i / j)) S else .stk
  | _, _ => .stk
theorem fdiv_s {K : PySem.W.Frag} {cl : Str → Option Addr} : OpS K cl (rI CDivW fun i j => .int (i / j)) fdivD := by
  intro W H S x y a b Q E r rx ry p
  unfold fdivD at p
  split at p
  · cases rx; cases ry
    split at p
    · rename_i hz
      exact ⟨_, _, rfl, rfl, hz, p.now r (.int _)⟩
    · exact p.elim
  · exact p.elim
def modD (a b : D) (S : Store) : Res D := match a, b with
  | .int i, .int j => if 0 < j then .ok (.int (i % j)) S else .stk
  | _, _ => .stk
theorem mod_s {K : PySem.W.Frag} {cl : Str → Option Addr} : OpS K cl (rI (fun _ j => 0 < j) fun i j => .int (i % j)) modD := by
  intro W H S x y a b Q E r rx ry p
  unfold modD at p
  split at p
  · cases rx; cases ry
    split at p
    · rename_i hz
      exact ⟨_, _, rfl, rfl, hz, p.now r (.int _)⟩
    · exact p.elim
  · exact p.elim
def powD (a b : D) (S : Store) : Res D := match a, b with
  | .int i, .int j => if 0 ≤ j ∧ j ≤ 1000000 ∧ i.natAbs < 2 ^ 64 then .ok (.int (i ^ j.toNat)) S else .stk
  | _, _ => .stk
theorem pow_s {K : PySem.W.Frag} {cl : Str → Option Addr} : OpS K cl (rI CPow fun i j => .int (i ^ j.toNat)) powD := by
  intro W H S x y a b Q E r rx ry p
  unfold powD at p
  split at p
  · cases rx; cases ry
    split at p
    · rename_i hz
      exact ⟨_, _, rfl, rfl, hz, p.now r (.int _)⟩
    · exact p.elim
  · exact p.elim
def negD (a : D) (S : Store) : Res D := match a with
  | .int i => .ok (.int (-i)) S
  | _ => .stk
theorem neg_s {K : PySem.W.Frag} {cl : Str → Option Addr} : UnS K cl (rU fun i => .int (-i)) negD := by
  intro W H S x a Q E r rx p
  unfold negD at p
  split at p
  · cases rx
    exact ⟨_, rfl, p.now r (.int _)⟩
  · exact p.elim

/-! ### comparisons -/
def scV : D → Option V
  | .non => some .non
  | .bl b => some (.bl b)
  | .int i => some (.int i)
  | .str x => some (.str x)
  | _ => none
def scVs : List D → Option (List V)
  | [] => some []
  | d :: ds => (match scV d, scVs ds with
    | some v, some vs => some (v :: vs)
    | _, _ => none)
mutual
def toPy : D → Option PyData
  | .non => some .none
  | .bl b => some (.bool b)
  | .int i => some (.int i)
  | .str x => some (.str x)
  | .tup xs => (toPys xs).map PyData.tuple
  | .lst xs => (toPys xs).map PyData.list
  | .dct _ => none
  | .exv _ _ => none
  | .ins _ _ => none
  | .ref _ => none
  | .scr _ => none
def toPys : List D → Option (List PyData)
  | [] => some []
  | d :: ds => (match toPy d, toPys ds with
    | some v, some vs => some (v :: vs)
    | _, _ => none)
end
def toPyS (S : Store) (d : D) : Option PyData := match d with
  | .ref n => (match S[n]? with
    | some (.lst xs) => (toPys xs).map PyData.list
    | _ => none)
  | d => toPy d
section
variable {K : PySem.W.Frag} {cl : Str → Option Addr} {W : Wd} {H : Hp} {S : Store}
theorem sc_of {v w : V} {d : D} (h : Rep K cl W v d) (e : scV d = some w) : v = w := by
  cases h <;> first | exact Option.some.inj e | cases e
theorem sc_flat {w : V} {d : D} (e : scV d = some w) : flatV w = true := by
  cases d <;> first | (have e := Option.some.inj e; subst e; rfl) | cases e
theorem scs_of : ∀ {vs ws : List V} {ds : List D}, Reps K cl W vs ds → scVs ds = some ws → vs = ws ∧ ws.all flatV = true
  | _, _, _, .nil, e => by
    have e := Option.some.inj e
    subst e
    exact ⟨rfl, rfl⟩
  | _, _, _, .cons (d := d) (ds := ds) h t, e => by
    unfold scVs at e
    cases e1 : scV d with
    | none => rw [e1] at e; cases e
    | some v =>
      cases e2 : scVs ds with
      | none => rw [e1, e2] at e; cases e
      | some vs =>
        rw [e1, e2] at e
        have e := Option.some.inj e
        subst e
        obtain ⟨h1, h2⟩ := scs_of t e2
        exact ⟨by rw [sc_of h e1, h1], by rw [List.all_cons, sc_flat e1, h2]; rfl⟩
mutual
theorem dp_of (r : ∀ a o, W.G a = some o → H a = some o) : ∀ {v : V} {d : D} {q : PyData}, Rep K cl W v d → toPy d = some q → Dp K H v q
  | _, _, _, .non, e => by cases e; exact .non
  | _, _, _, .bl b, e => by cases e; exact .bl b
  | _, _, _, .int b, e => by cases e; exact .int b
  | _, _, _, .str b, e => by cases e; exact .str b
  | _, _, _, .tup (ds := ds) h t, e => by
    unfold toPy at e
    cases e1 : toPys ds with
    | none => rw [e1] at e; cases e
    | some qs =>
      rw [e1] at e
      cases e
      exact .tup (sqT_up r h) (dps_of r t e1)
  | _, _, _, .lst (ds := ds) h t, e => by
    unfold toPy at e
    cases e1 : toPys ds with
    | none => rw [e1] at e; cases e
    | some qs =>
      rw [e1] at e
      cases e
      exact .lst (SqL.of (r _ _ h)) (dps_of r t e1)
  | _, _, _, .dct _ _, e => by cases e
  | _, _, _, .ins _ _ _, e => by cases e
  | _, _, _, .ref _, e => by cases e
  | _, _, _, .scr _, e => by cases e
  | _, _, _, .exv0 _ _ _ _, e => by cases e
  | _, _, _, .exv1 _ _ _ _ _ _ _, e => by cases e
theorem dps_of (r : ∀ a o, W.G a = some o → H a = some o) : ∀ {v : List V} {d : List D} {q : List PyData}, Reps K cl W v d → toPys d = some q → DpAll K H v q
  | _, _, _, .nil, e => by cases e; exact .nil
  | _, _, _, .cons (d := d) (ds := ds) h t, e => by
    unfold toPys at e
    cases e1 : toPy d with
    | none => rw [e1] at e; cases e
    | some v =>
      cases e2 : toPys ds with
      | none => rw [e1, e2] at e; cases e
      | some vs =>
        rw [e1, e2] at e
        cases e
        exact .cons (dp_of r h e1) (dps_of r t e2)
end
theorem dpS_of {v : V} {d : D} {q : PyData} (r : R K cl W H S) (h : Rep K cl W v d) (e : toPyS S d = some q) : Dp K H v q := by
  cases d with
  | ref n =>
    unfold toPyS at e
    dsimp only at e
    cases q1 : S[n]? with
    | none => rw [q1] at e; cases e
    | some mo =>
      rw [q1] at e
      cases mo with
      | lst ys =>
        cases h with | ref hn =>
        obtain ⟨_, vs, h1, h2⟩ := r.live n _ q1 (by intro z; cases z)
        cases e1 : toPys ys with
        | none => simp only [e1] at e; cases e
        | some qs =>
          simp only [e1] at e
          cases e
          exact .lst (SqL.of h1) (dps_of r.sub h2 e1)
      | _ => cases e
  | _ => exact dp_of r.sub h e
end
def eqB (S : Store) (a b : D) : Option Bool := match scV a, scV b with
  | some x, some y => if scal x y = true then some (decide (x = y)) else some (eqV x y)
  | _, _ => (match toPyS S a, toPyS S b with
    | some p, some q => if (SeqAt.shaped p && SeqAt.shaped q) = true then some (PyData.eqv p q) else none
    | _, _ => none)
def eqD (a b : D) (S : Store) : Res D := ofB (eqB S a b) S
def neD (a b : D) (S : Store) : Res D := ofB ((eqB S a b).map not) S
def rEqA (K : PySem.W.Frag) : R2 := fun x y H Q => rEq x y H Q ∨ rEqD K x y H Q
def rNeA (K : PySem.W.Frag) : R2 := fun x y H Q => rNe x y H Q ∨ rNeD K x y H Q
theorem op_eqA {X : Cx} {k : Nat} (hr : Room k X.A) : OpR X (compareOp .Eq) (rEqA X.K) := opr_or op_eq (op_eqD hr.units)
theorem op_neA {X : Cx} {k : Nat} (hr : Room k X.A) : OpR X (compareOp .NotEq) (rNeA X.K) := opr_or op_ne (op_neD hr.units)
section
variable {K : PySem.W.Frag} {cl : Str → Option Addr} {W : Wd} {H : Hp} {S : Store}
theorem eq_cases {x y : V} {a b : D} {k : Bool} (r : R K cl W H S) (rx : Rep K cl W x a) (ry : Rep K cl W y b) (e : eqB S a b = some k) :
    (scal x y = true ∧ k = decide (x = y)) ∨ ∃ d e, Dp K H x d ∧ Dp K H y e ∧ SeqAt.shaped d = true ∧ SeqAt.shaped e = true ∧ k = PyData.eqv d e := by
  unfold eqB at e
  split at e
  · rename_i u w e1 e2
    have h1 := sc_of rx e1
    have h2 := sc_of ry e2
    subst h1 h2
    split at e
    · rename_i hs
      exact .inl ⟨hs, (Option.some.inj e).symm⟩
    · rename_i hs
      right
      cases rx <;> first | (cases e1; done) | (cases ry <;> first | (cases e2; done) | (exfalso; exact hs rfl) | exact ⟨_, _, .bl _, .int _, rfl, rfl, (Option.some.inj e).symm⟩ | exact ⟨_, _, .int _, .bl _, rfl, rfl, (Option.some.inj e).symm⟩)
  · split at e
    · rename_i p q e1 e2
      split at e
      · rename_i hs
        rw [Bool.and_eq_true] at hs
        exact .inr ⟨p, q, dpS_of r rx e1, dpS_of r ry e2, hs.1, hs.2, (Option.some.inj e).symm⟩
      · cases e
    · cases e
theorem eq_s : OpS K cl (rEqA K) eqD := by
  intro W H S x y a b Q E r rx ry p
  unfold eqD at p
  cases e : eqB S a b with
  | none => rw [e] at p; exact p.elim
  | some k =>
    rw [e] at p
    have q : Q (.bl k) H := p.now r (.bl k)
    rcases eq_cases r rx ry e with ⟨h, rfl⟩ | ⟨d', e', h1, h2, h3, h4, rfl⟩
    · exact .inl ⟨h, q⟩
    · exact .inr ⟨d', e', h1, h2, h3, h4, q⟩
theorem ne_s : OpS K cl (rNeA K) neD := by
  intro W H S x y a b Q E r rx ry p
  unfold neD at p
  cases e : eqB S a b with
  | none => rw [e] at p; exact p.elim
  | some k =>
    rw [e] at p
    have q : Q (.bl (!k)) H := p.now r (.bl _)
    rcases eq_cases r rx ry e with ⟨h, rfl⟩ | ⟨d', e', h1, h2, h3, h4, rfl⟩
    · exact .inl ⟨h, q⟩
    · exact .inr ⟨d', e', h1, h2, h3, h4, q⟩
end
def ltD (a b : D) (S : Store) : Res D := match a, b with
  | .int i, .int j => .ok (.bl (decide (i < j))) S
  | .str x, .str y => .ok (.bl (decide (x.cps.toList < y.cps.toList))) S
  | _, _ => .stk
def rLtA : R2 := fun x y H Q => rI0 (fun i j => .bl (decide (i < j))) x y H Q ∨ (∃ i j, x = .str i ∧ y = .str j ∧ Q (.bl (decide (i.cps.toList < j.cps.toList))) H)
theorem op_ltA {X : Cx} : OpR X (compareOp .Lt) rLtA := opr_or op_lt op_lt_str
theorem lt_s {K : PySem.W.Frag} {cl : Str → Option Addr} : OpS K cl rLtA ltD := by
  intro W H S x y a b Q E r rx ry p
  unfold ltD at p
  split at p
  · cases rx; cases ry
    exact .inl ⟨_, _, rfl, rfl, p.now r (.bl _)⟩
  · cases rx; cases ry
    exact .inr ⟨_, _, rfl, rfl, p.now r (.bl _)⟩
  · exact p.elim
def leD (a b : D) (S : Store) : Res D := match a, b with
  | .int i, .int j => .ok (.bl (decide (i ≤ j))) S
  | .str x, .str y => .ok (.bl (!decide (y.cps.toList < x.cps.toList))) S
  | _, _ => .stk
def rLeA : R2 := fun x y H Q => rI0 (fun i j => .bl (decide (i ≤ j))) x y H Q ∨ (∃ i j, x = .str i ∧ y = .str j ∧ Q (.bl (!decide (j.cps.toList < i.cps.toList))) H)
theorem op_leA {X : Cx} : OpR X (compareOp .LtE) rLeA := opr_or op_le op_le_str
theorem le_s {K : PySem.W.Frag} {cl : Str → Option Addr} : OpS K cl rLeA leD := by
  intro W H S x y a b Q E r rx ry p
  unfold leD at p
  split at p
  · cases rx; cases ry
    exact .inl ⟨_, _, rfl, rfl, p.now r (.bl _)⟩
  · cases rx; cases ry
    exact .inr ⟨_, _, rfl, rfl, p.now r (.bl _)⟩
  · exact p.elim
def gtD (a b : D) (S : Store) : Res D := match a, b with
  | .int i, .int j => .ok (.bl (decide (j < i))) S
  | _, _ => .stk
theorem gt_s {K : PySem.W.Frag} {cl : Str → Option Addr} : OpS K cl (rI0 fun i j => .bl (decide (j < i))) gtD := by
  intro W H S x y a b Q E r rx ry p
  unfold gtD at p
  split at p
  · cases rx; cases ry
    exact ⟨_, _, rfl, rfl, p.now r (.bl _)⟩
  · exact p.elim
def geD (a b : D) (S : Store) : Res D := match a, b with
  | .int i, .int j => .ok (.bl (decide (j ≤ i))) S
  | _, _ => .stk
theorem ge_s {K : PySem.W.Frag} {cl : Str → Option Addr} : OpS K cl (rI0 fun i j => .bl (decide (j ≤ i))) geD := by
  intro W H S x y a b Q E r rx ry p
  unfold geD at p
  split at p
  · cases rx; cases ry
    exact ⟨_, _, rfl, rfl, p.now r (.bl _)⟩
  · exact p.elim
/-- is None, is not None -/
def isNb : D → Bool
  | .non => true
  | _ => false
def isND (a b : D) (S : Store) : Res D := match a, b with
  | a, .non => .ok (.bl (isNb a)) S
  | .bl x, .bl y => .ok (.bl (decide (x = y))) S
  | _, _ => .stk
def notND (a b : D) (S : Store) : Res D := match a, b with
  | a, .non => .ok (.bl (!isNb a)) S
  | .bl x, .bl y => .ok (.bl (!decide (x = y))) S
  | _, _ => .stk
def rIsA : R2 := fun x y H Q => (y = .non ∧ Q (.bl (decide (x = .non))) H) ∨ (∃ a b, x = .bl a ∧ y = .bl b ∧ Q (.bl (decide (a = b))) H)
def rNotA : R2 := fun x y H Q => (y = .non ∧ Q (.bl (!decide (x = .non))) H) ∨ (∃ a b, x = .bl a ∧ y = .bl b ∧ Q (.bl (!decide (a = b))) H)
theorem op_isA {X : Cx} : OpR X (compareOp .Is) rIsA := opr_or op_isN op_is_bl
theorem op_notA {X : Cx} : OpR X (compareOp .IsNot) rNotA := opr_or op_notN op_isnot_bl
theorem isN_rep {K : PySem.W.Frag} {cl : Str → Option Addr} {W : Wd} {x : V} {a : D} (rx : Rep K cl W x a) : decide (x = .non) = isNb a := by
  cases rx <;> first | rfl | exact decide_eq_false (by intro z; cases z)
theorem isN_s {K : PySem.W.Frag} {cl : Str → Option Addr} : OpS K cl rIsA isND := by
  intro W H S x y a b Q E r rx ry p
  unfold isND at p
  split at p
  · cases ry
    exact .inl ⟨rfl, by rw [isN_rep rx]; exact p.now r (.bl _)⟩
  · cases rx; cases ry
    exact .inr ⟨_, _, rfl, rfl, p.now r (.bl _)⟩
  · exact p.elim
theorem notN_s {K : PySem.W.Frag} {cl : Str → Option Addr} : OpS K cl rNotA notND := by
  intro W H S x y a b Q E r rx ry p
  unfold notND at p
  split at p
  · cases ry
    exact .inl ⟨rfl, by rw [isN_rep rx]; exact p.now r (.bl _)⟩
  · cases rx; cases ry
    exact .inr ⟨_, _, rfl, rfl, p.now r (.bl _)⟩
  · exact p.elim
/-- in: flat items; one sign of a text -/
def inB (S : Store) (x y : D) : Option Bool := match y with
  | .str z => (match x with
    | .str ⟨⟨[c]⟩⟩ => some (decide (c ∈ z.cps.toList))
    | _ => none)
  | .tup ds => (match scV x, scVs ds with
    | some v, some vs => some (inV v vs)
    | _, _ => none)
  | y => (match lsOf S y with
    | some ds => (match scV x, scVs ds with
      | some v, some vs => some (inV v vs)
      | _, _ => none)
    | none => none)
def inD (a b : D) (S : Store) : Res D := ofB (inB S a b) S
def notInD (a b : D) (S : Store) : Res D := ofB ((inB S a b).map not) S
def rInA (K : PySem.W.Frag) : R2 := fun x y H Q => (∃ (c : Nat) (z : Str), x = .str ⟨#[c]⟩ ∧ y = .str z ∧ Q (.bl (decide (c ∈ z.cps.toList))) H) ∨ rIn K false x y H Q
def rNotInA (K : PySem.W.Frag) : R2 := fun x y H Q => (∃ (c : Nat) (z : Str), x = .str ⟨#[c]⟩ ∧ y = .str z ∧ Q (.bl (!decide (c ∈ z.cps.toList))) H) ∨ rIn K true x y H Q
theorem op_inA {X : Cx} : OpR X (compareOp .In) (rInA X.K) := opr_or op_in_sign op_in_seq
theorem op_notInA {X : Cx} : OpR X (compareOp .NotIn) (rNotInA X.K) := opr_or op_notIn_sign op_notIn_seq
theorem in_cases {K : PySem.W.Frag} {cl : Str → Option Addr} {W : Wd} {H : Hp} {S : Store} {x y : V} {a b : D} {k : Bool} (r : R K cl W H S) (rx : Rep K cl W x a) (ry : Rep K cl W y b) (e : inB S a b = some k) :
    (∃ (c : Nat) (z : Str), x = .str ⟨#[c]⟩ ∧ y = .str z ∧ k = decide (c ∈ z.cps.toList)) ∨ ∃ p xs, y = .ref p ∧ (SqL K H p xs ∨ SqT K H p xs) ∧ flatV x = true ∧ xs.all flatV = true ∧ k = inV x xs := by
  unfold inB at e
  split at e
  · cases ry
    split at e
    · cases rx
      exact .inl ⟨_, _, rfl, rfl, (Option.some.inj e).symm⟩
    · cases e
  · cases ry with | tup h t =>
    split at e
    · rename_i v vs e1 e2
      obtain ⟨rfl, h2⟩ := scs_of t e2
      obtain rfl := sc_of rx e1
      exact .inr ⟨_, _, rfl, .inr (sqT_up r.sub h), sc_flat e1, h2, (Option.some.inj e).symm⟩
    · cases e
  · split at e
    · rename_i ds e0
      obtain ⟨p, us, rfl, h, t⟩ := ls_of r ry e0
      split at e
      · rename_i v vs e1 e2
        obtain ⟨rfl, h2⟩ := scs_of t e2
        obtain rfl := sc_of rx e1
        exact .inr ⟨_, _, rfl, .inl (SqL.of h), sc_flat e1, h2, (Option.some.inj e).symm⟩
      · cases e
    · cases e
theorem in_s {K : PySem.W.Frag} {cl : Str → Option Addr} : OpS K cl (rInA K) inD := by
  intro W H S x y a b Q E r rx ry p
  unfold inD at p
  cases e : inB S a b with
  | none => rw [e] at p; exact p.elim
  | some k =>
    rw [e] at p
    have q : Q (.bl k) H := p.now r (.bl k)
    rcases in_cases r rx ry e with ⟨c, z, h1, h2, rfl⟩ | ⟨u, xs, h1, h2, h3, h4, rfl⟩
    · exact .inl ⟨c, z, h1, h2, q⟩
    · exact .inr ⟨u, xs, h1, h2, h3, h4, q⟩
theorem notIn_s {K : PySem.W.Frag} {cl : Str → Option Addr} : OpS K cl (rNotInA K) notInD := by
  intro W H S x y a b Q E r rx ry p
  unfold notInD at p
  cases e : inB S a b with
  | none => rw [e] at p; exact p.elim
  | some k =>
    rw [e] at p
    have q : Q (.bl (!k)) H := p.now r (.bl _)
    rcases in_cases r rx ry e with ⟨c, z, h1, h2, rfl⟩ | ⟨u, xs, h1, h2, h3, h4, rfl⟩
    · exact .inl ⟨c, z, h1, h2, q⟩
    · exact .inr ⟨u, xs, h1, h2, h3, h4, q⟩

/-! ### subscripts -/
def ixO (S : Store) (a b : D) : Option D := match a, b with
  | .tup ds, .int i => atI ds i
  | .str z, .int i => if z.length ≤ sizeLine then (atI z.cps.toList i).map (fun c => .str ⟨#[c]⟩) else none
  | .scr ns, .int i => (atI ns i).map D.int
  | a, .int i => (match lsOf S a with
    | some ds => atI ds i
    | none => none)
  | _, _ => none
def ixD (a b : D) (S : Store) : Res D := ofO (ixO S a b) S
theorem ix_s {K : PySem.W.Frag} {cl : Str → Option Addr} : OpS K cl (rIx K) ixD := by
  intro W H S x y a b Q E r rx ry p
  unfold ixD at p
  cases e : ixO S a b with
  | none => rw [e] at p; exact p.elim
  | some d =>
    rw [e] at p
    unfold ixO at e
    split at e
    · cases ry
      cases rx with | tup h t =>
      obtain ⟨v, h1, h2⟩ := atI_rep t e
      exact .inr (.inl ⟨_, _, _, v, rfl, rfl, sqT_up r.sub h, h1, p.now r h2⟩)
    · cases ry; cases rx
      split at e
      · rename_i hz
        cases q : atI _ _ with
        | none => rw [q] at e; cases e
        | some c =>
          rw [q] at e
          cases e
          exact .inr (.inr ⟨_, _, c, rfl, rfl, hz, q, p.now r (.str _)⟩)
      · cases e
    · cases ry
      cases rx with | scr h =>
      cases q : atI _ _ with
      | none => rw [q] at e; cases e
      | some c =>
        rw [q] at e
        cases e
        exact .inl ⟨_, _, _, _, rfl, rfl, sqL_up r.sub h, atI_map V.int q, p.now r (.int _)⟩
    · cases ry
      split at e
      · rename_i ds e0
        obtain ⟨p', us, rfl, h, t⟩ := ls_of r rx e0
        obtain ⟨v, h1, h2⟩ := atI_rep t e
        exact .inl ⟨_, _, _, v, rfl, rfl, SqL.of h, h1, p.now r h2⟩
      · cases e
    · cases e
theorem ints_rep {K : PySem.W.Frag} {cl : Str → Option Addr} {W : Wd} : ∀ ns : List Int, Reps K cl W (ns.map V.int) (ns.map D.int)
  | [] => .nil
  | n :: ns => .cons (.int n) (ints_rep ns)
def cutD (xs : List D) (lo hi : Option Int) : List D := (xs.drop (HT.sIx xs.length 0 lo)).take (HT.sIx xs.length xs.length hi - HT.sIx xs.length 0 lo)
theorem cut_rep {K : PySem.W.Frag} {cl : Str → Option Addr} {W : Wd} {vs : List V} {ds : List D} (t : Reps K cl W vs ds) (lo hi : Option Int) : Reps K cl W (cutV vs lo hi) (cutD ds lo hi) := by
  unfold cutV cutD
  rw [t.len]
  exact (t.drop _).take _
def slD (a : D) (lo hi : Option Int) (S : Store) : Res D := match a with
  | .tup ds => .ok (.tup (cutD ds lo hi)) S
  | .str z => if z.length ≤ sizeLine then .ok (.str (cutS z lo hi)) S else .stk
  | .scr ns => .ok (.lst (cutD (ns.map D.int) lo hi)) S
  | a => (match lsOf S a with
    | some ds => .ok (.lst (cutD ds lo hi)) S
    | none => .stk)
def rSlAll (K : PySem.W.Frag) : V → Option Int → Option Int → Hp → VK → Prop := fun x lo hi H Q => rSlA K x lo hi H Q ∨ rSlS x lo hi H Q ∨ rSlL K x lo hi H Q
theorem sl_all {X : Cx} : SlR X (rSlAll X.K) := sl_tupA.or (sl_str.or sl_list)
theorem cut_all {xs : List D} {lo hi : Option Int} (h : HT.sIx xs.length 0 lo = 0 ∧ HT.sIx xs.length xs.length hi = xs.length) : cutD xs lo hi = xs := by
  unfold cutD
  rw [h.1, h.2]
  simp
theorem sl_s {K : PySem.W.Frag} {cl : Str → Option Addr} : SlS K cl (rSlAll K) slD := by
  intro W H S x a lo hi Q E r rx p
  unfold slD at p
  split at p
  · cases rx with | tup h t =>
    refine .inl ⟨_, _, rfl, sqT_up r.sub h, fun e => ?_, fun _ => newT r (cut_rep t lo hi) p⟩
    rw [t.len] at e
    rw [cut_all e] at p
    exact p.now r (.tup h t)
  · cases rx
    split at p
    · rename_i hz
      exact .inr (.inl ⟨_, rfl, hz, p.now r (.str _)⟩)
    · exact p.elim
  · cases rx with | scr h =>
    exact .inr (.inr ⟨_, _, rfl, sqL_up r.sub h, newL r (cut_rep (ints_rep _) lo hi) p⟩)
  · split at p
    · rename_i ds e0
      obtain ⟨p', us, rfl, h, t⟩ := ls_of r rx e0
      exact .inr (.inr ⟨_, _, rfl, SqL.of h, newL r (cut_rep t lo hi) p⟩)
    · exact p.elim

/-! ### built-ins by values -/
def lenO (S : Store) (d : D) : Option Nat := match d with
  | .str y => if y.length ≤ sizeLine then some y.length else none
  | .tup ds => some ds.length
  | .scr ns => some ns.length
  | d => (match lsOf S d with
    | some ds => some ds.length
    | none => none)
def lenD (as : List D) (S : Store) : Res D := match as with
  | [d] => ofO ((lenO S d).map fun n => .int n) S
  | _ => .stk
theorem len_s {K : PySem.W.Frag} {cl : Str → Option Addr} : FnS K cl (fun xs H Q => ∃ x n, xs = [x] ∧ LenV K x H n ∧ Q (.int n) H) lenD := by
  intro W H S x a Q E r rx p
  unfold lenD at p
  split at p
  · rename_i d
    cases rx with | cons rx rn =>
    cases rn
    cases e : lenO S d with
    | none => rw [e] at p; exact p.elim
    | some n =>
      rw [e] at p
      refine ⟨_, n, rfl, ?_, p.now r (.int _)⟩
      unfold lenO at e
      split at e
      · cases rx
        split at e
        · rename_i hz
          exact ⟨hz, (Option.some.inj e).symm⟩
        · cases e
      · cases rx with | tup h t =>
        exact .inr ⟨_, sqT_up r.sub h, by rw [t.len]; exact (Option.some.inj e).symm⟩
      · cases rx with | scr h =>
        exact .inl ⟨_, sqL_up r.sub h, by rw [List.length_map]; exact (Option.some.inj e).symm⟩
      · split at e
        · rename_i ds e0
          obtain ⟨p', us, rfl, h, t⟩ := ls_of r rx e0
          exact .inl ⟨_, SqL.of h, by rw [t.len]; exact (Option.some.inj e).symm⟩
        · cases e
  · exact p.elim
def intD (as : List D) (S : Store) : Res D := match as with
  | [.int i] => .ok (.int i) S
  | [.bl k] => .ok (.int (if k then 1 else 0)) S
  | _ => .stk
theorem int_s {K : PySem.W.Frag} {cl : Str → Option Addr} : FnS K cl (fun xs H Q => (∃ i, xs = [.int i] ∧ Q (.int i) H) ∨ ∃ k, xs = [.bl k] ∧ Q (.int (if k then 1 else 0)) H) intD := by
  intro W H S x a Q E r rx p
  unfold intD at p
  split at p
  · cases rx with | cons rx rn =>
    cases rn; cases rx
    exact .inl ⟨_, rfl, p.now r (.int _)⟩
  · cases rx with | cons rx rn =>
    cases rn; cases rx
    exact .inr ⟨_, rfl, p.now r (.int _)⟩
  · exact p.elim
def boolD (as : List D) (S : Store) : Res D := match as with
  | [.int i] => .ok (.bl (i != 0)) S
  | [.bl k] => .ok (.bl k) S
  | _ => .stk
theorem bool_s {K : PySem.W.Frag} {cl : Str → Option Addr} : FnS K cl (fun xs H Q => (∃ i, xs = [.int i] ∧ Q (.bl (i != 0)) H) ∨ ∃ k, xs = [.bl k] ∧ Q (.bl k) H) boolD := by
  intro W H S x a Q E r rx p
  unfold boolD at p
  split at p
  · cases rx with | cons rx rn =>
    cases rn; cases rx
    exact .inl ⟨_, rfl, p.now r (.bl _)⟩
  · cases rx with | cons rx rn =>
    cases rn; cases rx
    exact .inr ⟨_, rfl, p.now r (.bl _)⟩
  · exact p.elim
/-- the items of a list or tuple -/
def sqOf (S : Store) (d : D) : Option (List D) := match d with
  | .tup ds => some ds
  | d => lsOf S d
theorem sq_of' {K : PySem.W.Frag} {cl : Str → Option Addr} {W : Wd} {H : Hp} {S : Store} {v : V} {d : D} {xs : List D} (r : R K cl W H S) (h : Rep K cl W v d) (e : sqOf S d = some xs) :
    ∃ a vs, v = .ref a ∧ (SqL K H a vs ∨ SqT K H a vs) ∧ Reps K cl W vs xs := by
  unfold sqOf at e
  split at e
  · cases h with | tup h t =>
    cases e
    exact ⟨_, _, rfl, .inr (sqT_up r.sub h), t⟩
  · obtain ⟨p', us, rfl, h, t⟩ := ls_of r h e
    exact ⟨_, _, rfl, .inl (SqL.of h), t⟩
def tupleD (as : List D) (S : Store) : Res D := match as with
  | [d] => ofO ((sqOf S d).map D.tup) S
  | _ => .stk
theorem tuple_s {K : PySem.W.Frag} {cl : Str → Option Addr} : FnS K cl (fun xs H Q => ∃ p ys, xs = [.ref p] ∧ ((SqL K H p ys ∧ ∀ l, H l = none → Q (.ref l) (upd H l (.tup ys))) ∨ (SqT K H p ys ∧ Q (.ref p) H))) tupleD := by
  intro W H S x a Q E r rx p
  unfold tupleD at p
  split at p
  · rename_i d
    cases rx with | cons rx rn =>
    cases rn
    cases e : sqOf S d with
    | none => rw [e] at p; exact p.elim
    | some ds =>
      rw [e] at p
      unfold sqOf at e
      split at e
      · cases rx with | tup h t =>
        cases e
        exact ⟨_, _, rfl, .inr ⟨sqT_up r.sub h, p.now r (.tup h t)⟩⟩
      · obtain ⟨p', us, rfl, h, t⟩ := ls_of r rx e
        exact ⟨_, _, rfl, .inl ⟨SqL.of h, newT r t p⟩⟩
  · exact p.elim
def listD (as : List D) (S : Store) : Res D := match as with
  | [d] => ofO ((sqOf S d).map D.lst) S
  | _ => .stk
def listL (as : List D) (S : Store) : Res D := match as with
  | [d] => (match sqOf S d with
    | some xs => .ok (.ref S.length) (S ++ [.lst xs])
    | none => .stk)
  | _ => .stk
theorem list_s {K : PySem.W.Frag} {cl : Str → Option Addr} : FnS K cl (fun xs H Q => ∃ p ys, xs = [.ref p] ∧ (SqL K H p ys ∨ SqT K H p ys) ∧ ∀ l, H l = none → Q (.ref l) (upd H l (.lst ys))) listD := by
  intro W H S x a Q E r rx p
  unfold listD at p
  split at p
  · rename_i d
    cases rx with | cons rx rn =>
    cases rn
    cases e : sqOf S d with
    | none => rw [e] at p; exact p.elim
    | some ds =>
      rw [e] at p
      obtain ⟨a, vs, rfl, h, t⟩ := sq_of' r rx e
      exact ⟨_, _, rfl, h, newL r t p⟩
  · exact p.elim
theorem listL_s {K : PySem.W.Frag} {cl : Str → Option Addr} : FnS K cl (fun xs H Q => ∃ p ys, xs = [.ref p] ∧ (SqL K H p ys ∨ SqT K H p ys) ∧ ∀ l, H l = none → Q (.ref l) (upd H l (.lst ys))) listL := by
  intro W H S x a Q E r rx p
  unfold listL at p
  split at p
  · rename_i d
    cases rx with | cons rx rn =>
    cases rn
    cases e : sqOf S d with
    | none => rw [e] at p; exact p.elim
    | some ds =>
      rw [e] at p
      obtain ⟨a, vs, rfl, h, t⟩ := sq_of' r rx e
      exact ⟨_, _, rfl, h, newLv r t p⟩
  · exact p.elim
/-- all, any of a list of flags -/
def blO : D → Option Bool
  | .bl b => some b
  | _ => none
def blsO : List D → Option (List Bool)
  | [] => some []
  | d :: ds => (match blO d, blsO ds with
    | some b, some bs => some (b :: bs)
    | _, _ => none)
theorem bls_of {K : PySem.W.Frag} {cl : Str → Option Addr} {W : Wd} : ∀ {vs : List V} {ds : List D} {bs : List Bool}, Reps K cl W vs ds → blsO ds = some bs → vs = bs.map V.bl
  | _, _, _, .nil, e => by cases e; rfl
  | _, _, _, .cons (d := d) (ds := ds) h t, e => by
    unfold blsO at e
    cases e1 : blO d with
    | none => rw [e1] at e; cases e
    | some v =>
      cases e2 : blsO ds with
      | none => rw [e1, e2] at e; cases e
      | some vs =>
        rw [e1, e2] at e
        cases e
        rw [bls_of t e2]
        cases h <;> first | (cases e1; rfl) | cases e1
def allD (as : List D) (S : Store) : Res D := match as with
  | [d] => ofO (((lsOf S d).bind blsO).map fun bs => .bl (bs.all id)) S
  | _ => .stk
def anyD (as : List D) (S : Store) : Res D := match as with
  | [d] => ofO (((lsOf S d).bind blsO).map fun bs => .bl (bs.any id)) S
  | _ => .stk
theorem all_s {K : PySem.W.Frag} {cl : Str → Option Addr} : FnS K cl (rAll K) allD := by
  intro W H S x a Q E r rx p
  unfold allD at p
  split at p
  · rename_i d
    cases rx with | cons rx rn =>
    cases rn
    cases e : lsOf S d with
    | none => rw [e] at p; exact p.elim
    | some ds =>
      cases e2 : blsO ds with
      | none => simp only [e, e2, Option.bind] at p; exact p.elim
      | some bs =>
        simp only [e, e2, Option.bind] at p
        obtain ⟨a, vs, rfl, h, t⟩ := ls_of r rx e
        rw [bls_of t e2] at h
        exact ⟨_, bs, rfl, SqL.of h, p.now r (.bl _)⟩
  · exact p.elim
theorem any_s {K : PySem.W.Frag} {cl : Str → Option Addr} : FnS K cl (rAny K) anyD := by
  intro W H S x a Q E r rx p
  unfold anyD at p
  split at p
  · rename_i d
    cases rx with | cons rx rn =>
    cases rn
    cases e : lsOf S d with
    | none => rw [e] at p; exact p.elim
    | some ds =>
      cases e2 : blsO ds with
      | none => simp only [e, e2, Option.bind] at p; exact p.elim
      | some bs =>
        simp only [e, e2, Option.bind] at p
        obtain ⟨a, vs, rfl, h, t⟩ := ls_of r rx e
        rw [bls_of t e2] at h
        exact ⟨_, bs, rfl, SqL.of h, p.now r (.bl _)⟩
  · exact p.elim
section
variable {X : Cx} {cl : Str → Option Addr} {E : WX} {ms : M (List D)} {pos p : Pos} {x : Str} {e : Expr} {es : List Expr} {id T' : String} {r : List V → Hp → VK → Prop} {g : List D → Store → Res D}
theorem t_callB (hc : CallR X (.builtin id) r) (hs : FnS X.K cl r g) (hm : X.mg x = none) (hv : bootBuiltins x = some (.builtin id)) (ha : PA X (e :: es) (TL X.K cl E ms)) (hg : Gl X x := by rfl) (hn : x ≠ "__name__" := by decide) (hdb : (x == ("__debug__" : Str)) = false := by decide)
    (he : starEach (e :: es) X.env = (false, eval e X.env) :: starEach es X.env := by rfl) (hpl : (backTo pos (starEach es X.env)).any (·.1) = false := by rfl) : PE X (.Call (.Name x p) (e :: es) [] pos) (T X.K cl E (mFn g ms)) :=
  pe_imp (pe_callB hc hg hm hv ha hn hdb he hpl) fun σ H Q ⟨W, ρ, S, hr, he, p⟩ => step hr he p fun W1 H1 x dx S1 l1 r1 e1 rx p1 => hs _ _ _ _ _ _ _ r1 rx p1
theorem t_callTy (hc : CallR X (.type T') r) (hs : FnS X.K cl r g) (hm : X.mg x = none) (hv : bootBuiltins x = some (.type T')) (ha : PA X (e :: es) (TL X.K cl E ms)) (hg : Gl X x := by rfl) (hn : x ≠ "__name__" := by decide) (hdb : (x == ("__debug__" : Str)) = false := by decide)
    (he : starEach (e :: es) X.env = (false, eval e X.env) :: starEach es X.env := by rfl) (hpl : (backTo pos (starEach es X.env)).any (·.1) = false := by rfl) : PE X (.Call (.Name x p) (e :: es) [] pos) (T X.K cl E (mFn g ms)) :=
  pe_imp (pe_callTy hc hg hm hv ha hn hdb he hpl) fun σ H Q ⟨W, ρ, S, hr, he, p⟩ => step hr he p fun W1 H1 x dx S1 l1 r1 e1 rx p1 => hs _ _ _ _ _ _ _ r1 rx p1
end
end G
namespace G
open PySem L2

inductive Out where
  | nx (ρ : Sl) (S : Store)
  | rt (d : D) (S : Store)
  | bk (ρ : Sl) (S : Store)
  | ct (ρ : Sl) (S : Store)
  | exc (x : Exc) (ρ : Sl) (S : Store)
  | stk
abbrev MS := Sl → Store → Out
def sB {α : Type} (r : Res α) (ρ : Sl) (f : α → Store → Out) : Out := match r with
  | .ok a S => f a S
  | .exc x S => .exc x ρ S
  | .stk => .stk
@[simp] theorem sB_ok {α : Type} {a : α} {S : Store} {ρ : Sl} {f : α → Store → Out} : sB (.ok a S) ρ f = f a S := nrfl rfl
@[simp] theorem sB_exc {α : Type} {a : Exc} {S : Store} {ρ : Sl} {f : α → Store → Out} : sB (.exc a S) ρ f = .exc a ρ S := nrfl rfl
@[simp] theorem sB_stk {α : Type} {ρ : Sl} {f : α → Store → Out} : sB .stk ρ f = .stk := nrfl rfl
section
variable (K : PySem.W.Frag) (cl : Str → Option Addr)
def PostS (W : Wd) (o : Out) (A : Ends) (E : WX) : Prop := match o with
  | .nx ρ S => ∀ W' H' σ, Le W W' → R K cl W' H' S → Envs K cl W' σ ρ → A.nx σ H'
  | .rt d S => ∀ W' H' v, Le W W' → R K cl W' H' S → Rep K cl W' v d → A.rt v H'
  | .bk ρ S => ∀ W' H' σ, Le W W' → R K cl W' H' S → Envs K cl W' σ ρ → A.bk σ H'
  | .ct ρ S => ∀ W' H' σ, Le W W' → R K cl W' H' S → Envs K cl W' σ ρ → A.ct σ H'
  | .exc x ρ S => ∀ W' H' σ c dd, Le W W' → R K cl W' H' S → Envs K cl W' σ ρ → XRep K cl W' c dd x → E c dd σ H'
  | .stk => False
def Ts (E : WX) (m : MS) : TS := fun A σ H => ∃ W ρ S, R K cl W H S ∧ Envs K cl W σ ρ ∧ PostS K cl W (m ρ S) A E
/-- a target: names -/
abbrev Pt := D → Sl → Option Sl
/-- two rows of slots that are alike but at sl -/
def Off (sl : List Nat) (σ σ' : St) : Prop := σ.length = σ'.length ∧ ∀ i : Nat, i ∉ sl → σ'[i]? = σ[i]?
def Tp (sl : List Nat) (p : Pt) : TG := fun v σ H Q => ∃ W ρ S d ρ', R K cl W H S ∧ Envs K cl W σ ρ ∧ Rep K cl W v d ∧ p d ρ = some ρ' ∧ ∀ σ', Envs K cl W σ' ρ' → Off sl σ σ' → Q σ' H
def Tps (sl : List Nat) (p : List D → Sl → Option Sl) : TGs := fun v σ H Q => ∃ W ρ S d ρ', R K cl W H S ∧ Envs K cl W σ ρ ∧ Reps K cl W v d ∧ p d ρ = some ρ' ∧ ∀ σ', Envs K cl W σ' ρ' → Off sl σ σ' → Q σ' H
end
def ptN (i : Nat) : Pt := fun d ρ => some (ρ.set i (some d))
def ptT (p : List D → Sl → Option Sl) : Pt := fun d ρ => match d with
  | .tup ds => p ds ρ
  | _ => none
def psN : List D → Sl → Option Sl := fun d ρ => match d with
  | [] => some ρ
  | _ => none
def psC (p : Pt) (q : List D → Sl → Option Sl) : List D → Sl → Option Sl := fun d ρ => match d with
  | x :: xs => (match p x ρ with
    | some ρ' => q xs ρ'
    | none => none)
  | [] => none

/-! ### the combinators of statements -/
def sPass : MS := fun ρ S => .nx ρ S
def sBrk : MS := fun ρ S => .bk ρ S
def sCt : MS := fun ρ S => .ct ρ S
def sSet (i : Nat) (m : M D) : MS := fun ρ S => sB (m ρ S) ρ fun d S1 => .nx (ρ.set i (some d)) S1
def sAsg (p : Pt) (m : M D) : MS := fun ρ S => sB (m ρ S) ρ fun d S1 => match p d ρ with
  | some ρ' => .nx ρ' S1
  | none => .stk
def sExpr (m : M D) : MS := fun ρ S => sB (m ρ S) ρ fun _ S1 => .nx ρ S1
def sRet (m : M D) : MS := fun ρ S => sB (m ρ S) ρ fun d S1 => .rt d S1
def sRetN : MS := fun _ S => .rt .non S
def sIf (c : M Bool) (a b : MS) : MS := fun ρ S => sB (c ρ S) ρ fun k S1 => if k = true then a ρ S1 else b ρ S1
def sSeq (a b : MS) : MS := fun ρ S => match a ρ S with
  | .nx ρ1 S1 => b ρ1 S1
  | o => o
def sAug (i : Nat) (g : D → D → Store → Res D) (m : M D) : MS := fun ρ S => match ρ[i]? with
  | some (some x) => sB (m ρ S) ρ fun y S1 => sB (g x y S1) ρ fun z S2 => .nx (ρ.set i (some z)) S2
  | _ => .stk
/-- o[i] = e, a list -/
def putD (o i v : D) (S : Store) : Option Store := match o, i with
  | .ref n, .int k => (match S[n]? with
    | some (.lst xs) => (match ixN xs.length k with
      | some j => some (S.set n (.lst (xs.set j v)))
      | none => none)
    | _ => none)
  | _, _ => none
def sPut (o i e : M D) : MS := fun ρ S => sB (e ρ S) ρ fun v S1 => sB (o ρ S1) ρ fun x S2 => sB (i ρ S2) ρ fun y S3 => match putD x y v S3 with
  | some S4 => .nx ρ S4
  | none => .stk
structure Itb where
  xs : List D
  lv : Option Nat
/-- what is walked stands as it was -/
def Grd (it : Itb) (S : Store) : Prop := match it.lv with
  | none => True
  | some n => S[n]? = some (.lst it.xs)
open Classical in
noncomputable def forL (it : Itb) (p : Pt) (b : MS) : List D → MS
  | [], ρ, S => if Grd it S then .nx ρ S else .stk
  | d :: ds, ρ, S => if Grd it S then (match p d ρ with
    | some ρ1 => (match b ρ1 S with
      | .nx ρ2 S2 => forL it p b ds ρ2 S2
      | .ct ρ2 S2 => forL it p b ds ρ2 S2
      | .bk ρ2 S2 => .nx ρ2 S2
      | .rt v S2 => .rt v S2
      | .exc x ρ2 S2 => .exc x ρ2 S2
      | .stk => .stk)
    | none => .stk) else .stk
noncomputable def sFor (m : M Itb) (p : Pt) (b : MS) : MS := fun ρ S => sB (m ρ S) ρ fun it S1 => forL it p b it.xs ρ S1
def whileF (c : M Bool) (b : MS) : Nat → MS
  | 0, _, _ => .stk
  | n + 1, ρ, S => sB (c ρ S) ρ fun k S1 => if k = true then (match b ρ S1 with
      | .nx ρ2 S2 => whileF c b n ρ2 S2
      | .ct ρ2 S2 => whileF c b n ρ2 S2
      | .bk ρ2 S2 => .nx ρ2 S2
      | .rt v S2 => .rt v S2
      | .exc x ρ2 S2 => .exc x ρ2 S2
      | .stk => .stk) else .nx ρ S1
/-- the slots of a comprehension's own names forgotten -/
def wipeD (ρ : Sl) : List Nat → Sl
  | [] => ρ
  | v :: vs => (wipeD ρ vs).set v none
def Res.nox {α : Type} (r : Res α) : Res α := match r with
  | .ok a S => .ok a S
  | _ => .stk
@[simp] theorem nox_ok {α : Type} {a : α} {S : Store} : (Res.ok a S).nox = .ok a S := nrfl rfl
@[simp] theorem nox_exc {α : Type} {a : Exc} {S : Store} : (Res.exc a S : Res α).nox = .stk := nrfl rfl
@[simp] theorem nox_stk {α : Type} : (Res.stk : Res α).nox = .stk := nrfl rfl
open Classical in
noncomputable def compL (it : Itb) (p : Pt) (t : M Bool) (e : M D) (ρ : Sl) : List D → Nat → Store → Res (List D)
  | [], _, S => if Grd it S then .ok [] S else .stk
  | d :: ds, n, S => if Grd it S then (match p d ρ with
    | some ρ1 => (t ρ1 S).nox.bind fun k S1 => if k = true then (e ρ1 S1).nox.bind fun x S2 => if n < sizeLine then (compL it p t e ρ ds (n + 1) S2).bind fun xs S3 => .ok (x :: xs) S3 else .stk
        else compL it p t e ρ ds n S1
    | none => .stk) else .stk
noncomputable def mComp (m : M Itb) (p : Pt) (t : M Bool) (e : M D) (vs : List Nat) (mk : List D → Store → Res D) : M D := fun ρ S => (m ρ S).bind fun it S1 => (compL it p t e (wipeD ρ vs) it.xs 0 S1).bind fun xs S2 => mk xs S2
def mYes : M Bool := fun _ S => .ok true S
def frzD (xs : List D) (S : Store) : Res D := .ok (.lst xs) S
def lvD (xs : List D) (S : Store) : Res D := .ok (.ref S.length) (S ++ [.lst xs])

section
variable {K : PySem.W.Frag} {cl : Str → Option Addr} {W W' : Wd} {H : Hp} {S : Store} {σ : St} {ρ : Sl} {α β : Type} {rel : Wd → β → α → Prop} {A : Ends} {E : WX}
theorem PostS.up {o : Out} (l : Le W W') (p : PostS K cl W o A E) : PostS K cl W' o A E := by
  cases o with
  | nx ρ S => exact fun W2 H2 v l2 => p W2 H2 v (l.tr l2)
  | rt ρ S => exact fun W2 H2 v l2 => p W2 H2 v (l.tr l2)
  | bk ρ S => exact fun W2 H2 v l2 => p W2 H2 v (l.tr l2)
  | ct ρ S => exact fun W2 H2 v l2 => p W2 H2 v (l.tr l2)
  | exc x ρ S => exact fun W2 H2 v c dd l2 => p W2 H2 v c dd (l.tr l2)
  | stk => exact p
theorem stepS {m : M α} {f : α → Store → Out} {Q1 : β → Hp → Prop} (hr : R K cl W H S) (he : Envs K cl W σ ρ) (p : PostS K cl W (sB (m ρ S) ρ f) A E)
    (k : ∀ W' H' v d S', Le W W' → R K cl W' H' S' → Envs K cl W' σ ρ → rel W' v d → PostS K cl W' (f d S') A E → Q1 v H') : Tg K cl rel E m σ H Q1 := by
  refine ⟨W, ρ, S, hr, he, ?_⟩
  cases e : m ρ S with
  | ok d S1 =>
    rw [e] at p
    exact fun W1 H1 v l1 r1 q1 => k W1 H1 v d S1 l1 r1 (he.up l1) q1 (PostS.up l1 p)
  | exc x S1 =>
    rw [e] at p
    exact fun W1 H1 c dd l1 r1 x1 => p W1 H1 σ c dd l1 r1 (he.up l1) x1
  | stk =>
    rw [e] at p
    exact p.elim
end
section
variable {X : Cx} {cl : Str → Option Addr} {E : WX} {e tg : Expr} {es : List Expr} {m m1 m2 m3 : M D} {mb : M Bool} {s1 s2 : MS} {st : Stmt} {sts : List Stmt} {pos pos' : Pos}
theorem s_nil : PSs X [] (Ts X.K cl E sPass) := pss_imp pss_nil fun A σ H ⟨W, ρ, S, hr, he, p⟩ => p W H σ (.rf W) hr he
theorem s_one (h : PS X st (Ts X.K cl E s1)) : PSs X [st] (Ts X.K cl E s1) := pss_one h
theorem s_cons (h : PS X st (Ts X.K cl E s1)) (h2 : PSs X sts (Ts X.K cl E s2)) : PSs X (st :: sts) (Ts X.K cl E (sSeq s1 s2)) :=
  pss_imp (pss_cons h h2) fun A σ H ⟨W, ρ, S, hr, he, p⟩ => by
    refine ⟨W, ρ, S, hr, he, ?_⟩
    unfold sSeq at p
    cases q : s1 ρ S with
    | nx ρ1 S1 =>
      rw [q] at p
      exact fun W1 H1 σ1 l1 r1 e1 => ⟨W1, ρ1, S1, r1, e1, PostS.up l1 p⟩
    | rt d S1 => rw [q] at p; exact p
    | bk d S1 => rw [q] at p; exact p
    | ct d S1 => rw [q] at p; exact p
    | exc x d S1 => rw [q] at p; exact p
    | stk => rw [q] at p; exact p
theorem s_pass : PS X (.Pass pos) (Ts X.K cl E sPass) := ps_imp ps_pass fun A σ H ⟨W, ρ, S, hr, he, p⟩ => p W H σ (.rf W) hr he
theorem s_break : PS X (.Break pos) (Ts X.K cl E sBrk) := ps_imp ps_break fun A σ H ⟨W, ρ, S, hr, he, p⟩ => p W H σ (.rf W) hr he
theorem s_continue : PS X (.Continue pos) (Ts X.K cl E sCt) := ps_imp ps_continue fun A σ H ⟨W, ρ, S, hr, he, p⟩ => p W H σ (.rf W) hr he
theorem s_expr (h : PE X e (T X.K cl E m)) (hs : swapsWith e none pos.line X.env = pure false := by rfl) : PS X (.Expr e pos) (Ts X.K cl E (sExpr m)) :=
  ps_imp (ps_expr h hs) fun A σ H ⟨W, ρ, S, hr, he, p⟩ => stepS hr he p fun W1 H1 v d S1 l1 r1 e1 rv p1 => p1 W1 H1 σ (.rf W1) r1 e1
theorem s_ret (h : PE X e (T X.K cl E m)) : PS X (.Return (some e) pos) (Ts X.K cl E (sRet m)) :=
  ps_imp (ps_ret h) fun A σ H ⟨W, ρ, S, hr, he, p⟩ => stepS hr he p fun W1 H1 v d S1 l1 r1 e1 rv p1 => p1 W1 H1 v (.rf W1) r1 rv
theorem s_retN : PS X (.Return none pos) (Ts X.K cl E sRetN) := ps_imp ps_retN fun A σ H ⟨W, ρ, S, hr, he, p⟩ => p W H _ (.rf W) hr .non
theorem s_if {c : Expr} {a b : List Stmt} (hc : PT X c (TB X.K cl E mb)) (ha : PSs X a (Ts X.K cl E s1)) (hb : PSs X b (Ts X.K cl E s2)) : PS X (.If c a b pos) (Ts X.K cl E (sIf mb s1 s2)) :=
  ps_imp (ps_if hc ha hb) fun A σ H ⟨W, ρ, S, hr, he, p⟩ => stepS hr he p fun W1 H1 v d S1 l1 r1 e1 rv p1 => by
    obtain rfl : v = d := rv
    cases v with
    | true => exact ⟨W1, ρ, S1, r1, e1, p1⟩
    | false => exact ⟨W1, ρ, S1, r1, e1, p1⟩
theorem s_set (i : Nat) {x : Str} (hN : X.N.Nodup) (he : PE X e (T X.K cl E m)) (hi : X.N[i]? = some x := by rfl) (hx : Loc X.env.scope x := by first | exact Or.inl rfl | exact Or.inr rfl)
    (hs : swapsWith e (some (.Name x pos')) pos.line X.env = pure false := by rfl) (hf : X.fn x = true ∨ X.env.scope.names.lookup x = some .local := by first | exact .inl rfl | exact .inr rfl) :
    PS X (.Assign [.Name x pos'] e pos) (Ts X.K cl E (sSet i m)) :=
  ps_imp (ps_set hN hi hx he hs hf) fun A σ H ⟨W, ρ, S, hr, he, p⟩ => stepS hr he p fun W1 H1 v d S1 l1 r1 e1 rv p1 => p1 W1 H1 _ (.rf W1) r1 (e1.set i rv)
/-- targets -/
theorem g_name (i : Nat) {x : Str} (hN : X.N.Nodup) (hi : X.N[i]? = some x := by rfl) (hx : Loc X.env.scope x := by first | exact Or.inl rfl | exact Or.inr rfl)
    (hf : X.fn x = true ∨ X.env.scope.names.lookup x = some .local := by first | exact .inl rfl | exact .inr rfl) : PG X (.Name x pos) (Tp X.K cl [i] (ptN i)) :=
  ⟨fun pins s σ H v u Q I r ⟨W, ρ, S, d, ρ', hr, he, rv, ep, q⟩ => (pg_name hN hi hx hf).run pins s σ H v u Q I r (by
    cases ep
    exact q _ (he.set i rv) ⟨by simp, fun j hj => List.getElem?_set_ne (fun z => hj (by simp [z]))⟩)⟩
theorem Off.rf (σ : St) : Off [] σ σ := ⟨rfl, fun _ _ => rfl⟩
theorem Off.tr {a b : List Nat} {σ σ1 σ2 : St} (x : Off a σ σ1) (y : Off b σ1 σ2) : Off (a ++ b) σ σ2 := ⟨x.1.trans y.1, fun i hi => by
  rw [List.mem_append, not_or] at hi
  exact (y.2 i hi.2).trans (x.2 i hi.1)⟩
theorem gs_nil : PGs X [] (Tps X.K cl [] psN) := ⟨fun pins s σ H v u Q I r ⟨W, ρ, S, d, ρ', hr, he, rv, ep, q⟩ => pgs_nil.run pins s σ H v u Q I r (by
    cases rv with
    | nil =>
      cases ep
      exact ⟨rfl, q _ he (.rf _)⟩
    | cons _ _ => cases ep)⟩
theorem gs_cons {a b : List Nat} {p : Pt} {ps : List D → Sl → Option Sl} (h1 : PG X e (Tp X.K cl a p)) (h2 : PGs X es (Tps X.K cl b ps)) (hs : (assignEach (e :: es) X.env).map (·.2) = assign e X.env :: (assignEach es X.env).map (·.2) := by rfl) :
    PGs X (e :: es) (Tps X.K cl (a ++ b) (psC p ps)) := ⟨fun pins s σ H v u Q I r ⟨W, ρ, S, d, ρ', hr, he, rv, ep, q⟩ => (pgs_cons h1 h2 hs).run pins s σ H v u Q I r (by
    cases rv with
    | nil => cases ep
    | @cons x dx vs ds r1 r2 =>
      unfold psC at ep
      cases e1 : p dx ρ with
      | none => simp only [e1] at ep; cases ep
      | some ρ1 =>
        simp only [e1] at ep
        exact ⟨_, _, rfl, W, ρ, S, dx, ρ1, hr, he, r1, e1, fun σ1 he1 o1 => ⟨W, ρ1, S, ds, ρ', hr, he1, r2, ep, fun σ2 he2 o2 => q σ2 he2 (o1.tr o2)⟩⟩)⟩
theorem g_tup {k n : Nat} {a : List Nat} {ps : List D → Sl → Option Sl} (hc : X.calm = true) (h : PGs X es (Tps X.K cl a ps)) (hl : ∀ ds ρ ρ', ps ds ρ = some ρ' → ds.length = n)
    (hn : (assignEach es X.env).length = n := by rfl) (hst : (assignEach es X.env).findIdx? (·.1) = none := by rfl) : PG X (.Tuple es k pos) (Tp X.K cl a (ptT ps)) :=
  ⟨fun pins s σ H v u Q I r ⟨W, ρ, S, d, ρ', hr, he, rv, ep, q⟩ => (pg_tup hc h hn hst).run pins s σ H v u Q I r (by
    cases rv with
    | tup h1 t =>
      exact ⟨_, _, rfl, sqT_up hr.sub h1, by rw [t.len]; exact hl _ _ _ ep, W, ρ, S, _, ρ', hr, he, t, ep, q⟩
    | _ => cases ep)⟩
theorem ps_len0 : ∀ ds ρ ρ', psN ds ρ = some ρ' → ds.length = 0 := fun ds ρ ρ' h => by
  cases ds with
  | nil => rfl
  | cons _ _ => cases h
theorem ps_lenS {n : Nat} {p : Pt} {ps : List D → Sl → Option Sl} (hl : ∀ ds ρ ρ', ps ds ρ = some ρ' → ds.length = n) : ∀ ds ρ ρ', psC p ps ds ρ = some ρ' → ds.length = n + 1 := fun ds ρ ρ' h => by
  cases ds with
  | nil => cases h
  | cons d ds =>
    unfold psC at h
    cases e1 : p d ρ with
    | none => simp only [e1] at h; cases h
    | some ρ1 =>
      simp only [e1] at h
      rw [List.length_cons, hl _ _ _ h]
theorem s_asg {a : List Nat} {p : Pt} (he : PE X e (T X.K cl E m)) (hg : PG X tg (Tp X.K cl a p)) (hs : swapsWithSole [tg] e pos.line X.env = pure false := by rfl) (hw : swappedStores [tg] e X.env = pure none := by rfl) (h1 : (assignEach [tg] X.env).map (·.2) = [assign tg X.env] := by rfl) :
    PS X (.Assign [tg] e pos) (Ts X.K cl E (sAsg p m)) :=
  ps_imp (ps_asg he hg hs hw h1) fun A σ H ⟨W, ρ, S, hr, he, q⟩ => stepS hr he q fun W1 H1 v d S1 l1 r1 e1 rv p1 => by
    cases e2 : p d ρ with
    | none => simp only [e2] at p1; exact p1.elim
    | some ρ1 =>
      simp only [e2] at p1
      exact ⟨W1, ρ, S1, d, ρ1, r1, e1, rv, e2, fun σ1 he1 _ => p1 W1 H1 σ1 (.rf W1) r1 he1⟩
/-- x op= e, by a rule on values -/
theorem s_aug (i : Nat) {x : Str} {op : Operator} {r : TIp} {g : D → D → Store → Res D} (hN : X.N.Nodup) (ho : PIp X op r) (hg : OpS X.K cl r g) (he : PE X e (T X.K cl E m)) (hi : X.N[i]? = some x := by rfl) (hx : Loc X.env.scope x := by first | exact Or.inl rfl | exact Or.inr rfl)
    (hf : X.fn x = true ∨ X.env.scope.names.lookup x = some .local := by first | exact .inl rfl | exact .inr rfl) : PS X (.AugAssign (.Name x pos') op e pos) (Ts X.K cl E (sAug i g m)) :=
  ps_imp (ps_aug hN hi hx he ho hf) fun A σ H ⟨W, ρ, S, hr, he, p⟩ => by
    unfold sAug at p
    split at p
    · rename_i dx ex
      obtain ⟨v, h1, h2⟩ := he.at' i dx ex
      refine ⟨v, h1, stepS hr he p fun W1 H1 y dy S1 l1 r1 e1 ry p1 => ?_⟩
      refine hg W1 H1 S1 v y dx dy _ (fun c d H' => E c d σ H') r1 (h2.up l1) ry ?_
      cases q : g dx dy S1 with
      | ok z S2 =>
        rw [q] at p1
        exact fun W2 H2 w l2 r2 rw' => p1 W2 H2 _ l2 r2 ((e1.up l2).set i rw')
      | exc z S2 =>
        rw [q] at p1
        exact fun W2 H2 c dd l2 r2 x2 => p1 W2 H2 σ c dd l2 r2 (e1.up l2) x2
      | stk =>
        rw [q] at p1
        exact p1.elim
    · exact p.elim
theorem ip_addI {X : Cx} : PIp X .Add (rI0 fun i j => .int (i + j)) := fun pins s σ H x y v u Q I rx ry h => ip_add pins s σ H x y v u Q I rx ry h
theorem ip_subI {X : Cx} : PIp X .Sub (rI0 fun i j => .int (i - j)) := fun pins s σ H x y v u Q I rx ry h => ip_sub pins s σ H x y v u Q I rx ry h
def addI (a b : D) (S : Store) : Res D := match a, b with
  | .int i, .int j => .ok (.int (i + j)) S
  | _, _ => .stk
theorem addI_s {K : PySem.W.Frag} {cl : Str → Option Addr} : OpS K cl (rI0 fun i j => .int (i + j)) addI := by
  intro W H S x y a b Q E r rx ry p
  unfold addI at p
  split at p
  · cases rx; cases ry
    exact ⟨_, _, rfl, rfl, p.now r (.int _)⟩
  · exact p.elim
theorem s_put {o i : Expr} {tpos : Pos} (ho : PE X o (T X.K cl E m1)) (hi : PE X i (T X.K cl E m2)) (he : PE X e (T X.K cl E m3))
    (hs : swapsWithSole [.Subscript o i tpos] e pos.line X.env = pure false := by rfl) (hw : swappedStores [.Subscript o i tpos] e X.env = pure none := by rfl)
    (ha : ∀ v, assign (.Subscript o i tpos) X.env v = (do
      let a ← holding [v] (eval o X.env)
      let b ← holding [v, a] (eval i X.env)
      standAt tpos
      holding [v, a, b] (setItem a b v)
      release [v, a, b] []) := by intro _; rfl) : PS X (.Assign [.Subscript o i tpos] e pos) (Ts X.K cl E (sPut m1 m2 m3)) :=
  ps_imp (ps_asg he (pg_sub ho hi set_list ha) hs hw) fun A σ H ⟨W, ρ, S, hr, he, p⟩ => stepS hr he p fun W1 H1 v dv S1 l1 r1 e1 rv p1 =>
    stepS r1 e1 p1 fun W2 H2 x dx S2 l2 r2 e2 rx p2 => stepS r2 e2 p2 fun W3 H3 y dy S3 l3 r3 e3 ry p3 => by
      cases q : putD dx dy dv S3 with
      | none => simp only [q] at p3; exact p3.elim
      | some S4 =>
        simp only [q] at p3
        unfold putD at q
        split at q
        · rename_i n k
          cases ry
          cases (rx.up l3) with | ref hn =>
          split at q
          · rename_i xs e4
            split at q
            · rename_i j ej
              cases q
              obtain ⟨_, vs, h1, h2⟩ := r3.live n _ e4 (by intro z; cases z)
              have rv' := rv.up (l2.tr l3)
              refine ⟨_, _, _, j, rfl, rfl, h1, by rw [h2.len]; exact ej, ?_⟩
              exact p3 W3 _ σ (.rf W3) (r3.put e4 (by intro z; cases z) ⟨_, upd_same, Reps.set rv' j h2⟩) e3
            · cases q
          · cases q
        · cases q

/-! ### loops -/
section
variable (K : PySem.W.Frag) (cl : Str → Option Addr)
def ItS (W0 : Wd) (J : It) (it : Itb) : Prop := ∀ W H S, Ls W0 W → R K cl W H S → Grd it S →
  (∀ (i : Nat) (d : D), it.xs[i]? = some d → J.go i H ∧ ∀ x H', J.yld i H x H' → ∃ W', Le W W' ∧ R K cl W' H' S ∧ Rep K cl W' x d) ∧ J.stop it.xs.length H
abbrev TIt (E : WX) (m : M Itb) : TI := Tg K cl (ItS K cl) E m
end
theorem pi_imp {iter : Expr} {t t' : TI} (h : PI X tg iter t) (k : ∀ σ H Q, t' σ H Q → t σ H Q) : PI X tg iter t' := ⟨fun pins s σ H Q I q => h.run pins s σ H Q I (k σ H Q q)⟩
theorem pi_either {iter : Expr} {t t' : TI} (h : PI X tg iter t) (h' : PI X tg iter t') : PI X tg iter (fun σ H Q => t σ H Q ∨ t' σ H Q) := ⟨fun pins s σ H Q I q => q.elim (h.run pins s σ H Q I) (h'.run pins s σ H Q I)⟩
theorem s_for {iter : Expr} {body : List Stmt} {mi : M Itb} {a : List Nat} {p : Pt} (hp : PassesOwn (model X.prog X.w) X.A X.env X.xe) (hc : X.calm = true) (hi : PI X tg iter (TIt X.K cl E mi)) (hg : PG X tg (Tp X.K cl a p)) (hb : PSs X body (Ts X.K cl E s1))
    (hs : ∀ x, foldedSetIterable iter X.env x = pure x := by intro _; rfl) : PS X (.For tg iter body [] pos) (Ts X.K cl E (sFor mi p s1)) :=
  ps_imp (ps_for hp hc hi hg hb hs) fun A σ H ⟨W, ρ, S, hr, he, q⟩ => stepS hr he q fun W1 H1 J it S1 l1 r1 e1 hJ p1 => by
    refine ⟨fun i m σ' H' => m = it.xs.length - i ∧ i ≤ it.xs.length ∧ ∃ W' ρ' S', Le W1 W' ∧ R X.K cl W' H' S' ∧ Envs X.K cl W' σ' ρ' ∧ PostS X.K cl W' (forL it p s1 (it.xs.drop i) ρ' S') A E,
      ⟨_, rfl, Nat.zero_le _, W1, ρ, S1, .rf W1, r1, e1, p1⟩, ?_⟩
    rintro i m σ2 H2 ⟨rfl, hi, W2, ρ2, S2, l2, r2, e2, p2⟩
    by_cases hlt : i < it.xs.length
    · have ed : it.xs.drop i = it.xs[i] :: it.xs.drop (i + 1) := List.drop_eq_getElem_cons hlt
      have ei : it.xs[i]? = some it.xs[i] := List.getElem?_eq_getElem hlt
      generalize hd : it.xs[i] = d at ed ei
      rw [ed] at p2
      unfold forL at p2
      by_cases hG : Grd it S2
      · rw [if_pos hG] at p2
        obtain ⟨g1, _⟩ := hJ W2 H2 S2 l2.s r2 hG
        obtain ⟨go, yld⟩ := g1 i d ei
        refine .inr ⟨go, fun σ' H' => ∃ W' ρ' S', Le W1 W' ∧ R X.K cl W' H' S' ∧ Envs X.K cl W' σ' ρ' ∧ PostS X.K cl W' (forL it p s1 (it.xs.drop (i + 1)) ρ' S') A E, fun σ' H' n => ⟨it.xs.length - (i + 1), by omega, rfl, hlt, n⟩, fun x H3 y => ?_⟩
        obtain ⟨W3, l3, r3, rx⟩ := yld x H3 y
        cases e4 : p d ρ2 with
        | none => simp only [e4] at p2; exact p2.elim
        | some ρ3 =>
          simp only [e4] at p2
          refine ⟨W3, ρ2, S2, d, ρ3, r3, e2.up l3, rx, e4, fun σ3 e3 _ => ⟨W3, ρ3, S2, r3, e3, ?_⟩⟩
          cases q5 : s1 ρ3 S2 with
          | nx ρ5 S5 =>
            simp only [q5] at p2
            exact fun W5 H5 σ5 l5 r5 e5 => ⟨W5, ρ5, S5, (l2.tr l3).tr l5, r5, e5, p2.up (l3.tr l5)⟩
          | ct ρ5 S5 =>
            simp only [q5] at p2
            exact fun W5 H5 σ5 l5 r5 e5 => ⟨W5, ρ5, S5, (l2.tr l3).tr l5, r5, e5, p2.up (l3.tr l5)⟩
          | bk ρ5 S5 =>
            simp only [q5] at p2
            exact fun W5 H5 σ5 l5 r5 e5 => p2 W5 H5 σ5 (l3.tr l5) r5 e5
          | rt v S5 =>
            simp only [q5] at p2
            exact fun W5 H5 v5 l5 r5 e5 => p2 W5 H5 v5 (l3.tr l5) r5 e5
          | exc v ρ5 S5 =>
            simp only [q5] at p2
            exact fun W5 H5 v5 c dd l5 r5 e5 => p2 W5 H5 v5 c dd (l3.tr l5) r5 e5
          | stk =>
            simp only [q5] at p2
            exact p2.elim
      · rw [if_neg hG] at p2
        exact p2.elim
    · have ei : i = it.xs.length := by omega
      subst ei
      rw [List.drop_length] at p2
      unfold forL at p2
      by_cases hG : Grd it S2
      · rw [if_pos hG] at p2
        exact .inl ⟨(hJ W2 H2 S2 l2.s r2 hG).2, p2 W2 H2 σ2 (.rf W2) r2 e2⟩
      · rw [if_neg hG] at p2
        exact p2.elim
theorem s_while (n : Nat) {c : Expr} {body : List Stmt} (hp : PassesOwn (model X.prog X.w) X.A X.env X.xe) (hc : PT X c (TB X.K cl E mb)) (hb : PSs X body (Ts X.K cl E s1)) : PS X (.While c body [] pos) (Ts X.K cl E (whileF mb s1 n)) :=
  ps_imp (ps_while hp hc hb) fun A σ H ⟨W, ρ, S, hr, he, q⟩ => by
    refine ⟨fun m σ' H' => ∃ W' ρ' S', R X.K cl W' H' S' ∧ Envs X.K cl W' σ' ρ' ∧ PostS X.K cl W' (whileF mb s1 m ρ' S') A E, ⟨n, W, ρ, S, hr, he, q⟩, ?_⟩
    rintro m σ2 H2 ⟨W2, ρ2, S2, r2, e2, p2⟩
    cases m with
    | zero => exact p2.elim
    | succ m =>
      refine stepS r2 e2 p2 fun W3 H3 v d S3 l3 r3 e3 rv p3 => ?_
      obtain rfl : v = d := rv
      cases v with
      | false => exact p3 W3 H3 σ2 (.rf W3) r3 e3
      | true =>
        refine ⟨fun σ' H' => ∃ W' ρ' S', R X.K cl W' H' S' ∧ Envs X.K cl W' σ' ρ' ∧ PostS X.K cl W' (whileF mb s1 m ρ' S') A E, fun σ' H' n => ⟨m, Nat.lt_succ_self _, n⟩, W3, ρ2, S3, r3, e3, ?_⟩
        simp only [if_true] at p3
        cases q5 : s1 ρ2 S3 with
        | nx ρ5 S5 =>
          simp only [q5] at p3
          exact fun W5 H5 σ5 l5 r5 e5 => ⟨W5, ρ5, S5, r5, e5, p3.up l5⟩
        | ct ρ5 S5 =>
          simp only [q5] at p3
          exact fun W5 H5 σ5 l5 r5 e5 => ⟨W5, ρ5, S5, r5, e5, p3.up l5⟩
        | bk ρ5 S5 =>
          simp only [q5] at p3
          exact p3
        | rt v S5 =>
          simp only [q5] at p3
          exact p3
        | exc v ρ5 S5 =>
          simp only [q5] at p3
          exact p3
        | stk =>
          simp only [q5] at p3
          exact p3.elim
end
end G
namespace G
open PySem L2
section
variable {K : PySem.W.Frag} {cl : Str → Option Addr} {W W' : Wd} {H : Hp} {S : Store} {σ : St} {ρ : Sl}
/-- an object that nobody knows becomes a live one -/
theorem R.lvAt {p : Addr} {o : HO} {mo : MO} (r : R K cl W H S) (hp : H p = some o) (hg : W.G p = none) (nl : ∀ (i : Nat) (m : MO), S[i]? = some m → m ≠ .dead → W.ι i ≠ p) (np : W.P p = none) (hm : MRep K cl W H p mo) : R K cl (W.lv p) H (S ++ [mo]) := by
  have old : ∀ (i : Nat) (m : MO), (S ++ [mo])[i]? = some m → (i < S.length ∧ S[i]? = some m) ∨ (i = S.length ∧ m = mo) := fun i m h => by
    by_cases hi : i < S.length
    · rw [List.getElem?_append_left hi] at h
      exact .inl ⟨hi, h⟩
    · rw [List.getElem?_append_right (by omega)] at h
      have hk : i - S.length = 0 := by
        cases q : i - S.length with
        | zero => rfl
        | succ k => rw [q] at h; simp at h
      rw [hk] at h
      simp at h
      exact .inr ⟨by omega, h.symm⟩
  have ιo : ∀ i, i < S.length → (W.lv p).ι i = W.ι i := fun i h => (Le.lv W p).i i (by rw [r.n]; exact h)
  have ιn : (W.lv p).ι S.length = p := by rw [← r.n]; exact W.lv_at p
  refine ⟨?_, r.sub, fun i m h nd => ?_, fun i j m m' h h' nd nd' e => ?_, fun a u q => ?_⟩
  · show W.n + 1 = _
    rw [List.length_append, r.n]
    rfl
  · rcases old i m h with ⟨hi, h⟩ | ⟨rfl, rfl⟩
    · obtain ⟨h1, h2⟩ := r.live i m h nd
      rw [ιo i hi]
      exact ⟨h1, h2.up (Le.lv W p)⟩
    · rw [ιn]
      exact ⟨hg, hm.up (Le.lv W p)⟩
  · rcases old i m h with ⟨hi, h0⟩ | ⟨rfl, rfl⟩
    · rcases old j m' h' with ⟨hj, h1⟩ | ⟨rfl, rfl⟩
      · rw [ιo i hi, ιo j hj] at e
        exact r.inj i j m m' h0 h1 nd nd' e
      · rw [ιo i hi, ιn] at e
        exact absurd e (nl i m h0 nd)
    · rcases old j m' h' with ⟨hj, h1⟩ | ⟨rfl, rfl⟩
      · rw [ιo j hj, ιn] at e
        exact absurd e.symm (nl j m' h1 nd')
      · rfl
  · obtain ⟨g1, g2, g3⟩ := r.priv a u q
    refine ⟨g1, g2, fun i m h nd => ?_⟩
    rcases old i m h with ⟨hi, h⟩ | ⟨rfl, rfl⟩
    · rw [ιo i hi]
      exact g3 i m h nd
    · rw [ιn]
      exact (ne_of_none q np).symm
theorem rep_lv {p : Addr} (r : R K cl W H S) : Rep K cl (W.lv p) (.ref p) (.ref S.length) := by
  have e : (W.lv p).ι S.length = p := by rw [← r.n]; exact W.lv_at p
  have z := Rep.ref (K := K) (cl := cl) (W := W.lv p) (n := S.length) (by show _ < W.n + 1; rw [r.n]; exact Nat.lt_succ_self _)
  rw [e] at z
  exact z
/-- how a list that was just filled goes on -/
def MkS (K : PySem.W.Frag) (cl : Str → Option Addr) (mk : List D → Store → Res D) : Prop := ∀ (W : Wd) (H : Hp) (S : Store) (a : Addr) (vs : List V) (ds : List D) (Q : VK) (E : XK),
  R K cl W H S → H a = some (.lst vs) → W.G a = none → (∀ (i : Nat) (m : MO), S[i]? = some m → m ≠ .dead → W.ι i ≠ a) → W.P a = none → Reps K cl W vs ds → Post K cl (Rep K cl) W (mk ds S) Q E → Q (.ref a) H
theorem frz_s : MkS K cl frzD := fun W H S a vs ds Q E r ha hg nl np t p => p (W.fz a (.lst vs)) H _ (Le.fz hg) (r.fzAt ha hg nl np) (.lst upd_same (t.up (Le.fz hg)))
theorem lv_s : MkS K cl lvD := fun W H S a vs ds Q E r ha hg nl np t p => p (W.lv a) H _ (Le.lv W a) (r.lvAt ha hg nl np ⟨vs, ha, t⟩) (rep_lv r)
theorem Envs.wipe (e : Envs K cl W σ ρ) : ∀ vs : List Nat, Envs K cl W (L2.wipe σ vs) (wipeD ρ vs)
  | [] => e
  | v :: vs => (Envs.wipe e vs).unset v none
theorem wipe_ext {σ σ' : St} : ∀ {vs : List Nat}, σ.length = σ'.length → (∀ i : Nat, i ∉ vs → σ'[i]? = σ[i]?) → L2.wipe σ' vs = L2.wipe σ vs := fun {vs} hl h => by
  have at' : ∀ (vs : List Nat) (σ : St) (i : Nat), (L2.wipe σ vs)[i]? = if i ∈ vs then (if i < σ.length then some none else none) else σ[i]? := by
    intro vs
    induction vs with
    | nil => intro σ i; simp [L2.wipe]
    | cons v vs ih =>
      intro σ i
      unfold L2.wipe
      by_cases hv : v = i
      · subst hv
        rw [if_pos (by simp)]
        by_cases hi : v < σ.length
        · rw [List.getElem?_set_self (by rw [wipe_length]; exact hi), if_pos hi]
        · rw [List.getElem?_eq_none (by rw [List.length_set, wipe_length]; omega), if_neg hi]
      · rw [List.getElem?_set_ne hv, ih]
        have e : (i ∈ v :: vs) ↔ i ∈ vs := by simp [Ne.symm hv, fun z : i = v => hv z.symm]
        by_cases q : i ∈ vs
        · rw [if_pos q, if_pos (e.mpr q)]
        · rw [if_neg q, if_neg (fun z => q (e.mp z))]
  apply List.ext_getElem?
  intro i
  rw [at', at']
  by_cases q : i ∈ vs
  · rw [if_pos q, if_pos q, hl]
  · rw [if_neg q, if_neg q]
    exact h i q
def Wd.out (W : Wd) (P : Hp) : Wd := { W with P := P }
theorem Ls.out {P : Hp} : Ls W (W.out P) := ⟨fun _ _ h => h, fun _ _ => rfl, Nat.le_refl _⟩
end
abbrev F0 : WX := fun _ _ _ _ => False
section
variable {X : Cx} {cl : Str → Option Addr} {E : WX} {elt tg iter : Expr} {ifs : List Expr} {scope : Scope} {own : List (Str × Nat)} {pos : Pos} {mi : M Itb} {a : List Nat} {p : Pt} {mt : M Bool} {me : M D} {mk : List D → Store → Res D}
theorem tts_nil : PTs X [] (TB X.K cl E mYes) := ⟨fun pins s σ H Q I h => pts_nil.run pins s σ H Q I (by
  obtain ⟨W, ρ, S, hr, he, p⟩ := h
  exact p.now hr rfl)⟩
theorem tts_one {c : Expr} (h : PT X c (TB X.K cl E mt)) : PTs X [c] (TB X.K cl E mt) := pts_one h
/-- the reading of a comprehension -/
theorem lc_read {K : PySem.W.Frag} {σ : St} {H : Hp} {Q : VK} {vs : List Nat} (hk : MkS K cl mk) (ha : ∀ i ∈ a, i ∈ vs) (h : T K cl E (mComp mi p mt me vs mk) σ H Q) :
    tLc (TIt K cl E mi) (Tp K cl a p) (TB K cl F0 mt) (T K cl F0 me) vs σ H Q := by
  obtain ⟨W, ρ, S, hr, he, q⟩ := h
  refine step hr he q fun W1 H1 J it S1 l1 r1 e1 hJ p1 => ?_
  intro Dl hD
  have np : W1.P Dl = none := by
    cases e : W1.P Dl with
    | none => rfl
    | some u => rw [(r1.priv Dl u e).1] at hD; cases hD
  refine ⟨fun i m H' => m = it.xs.length - i ∧ i ≤ it.xs.length ∧ ∃ W' S' acc dacc, Le W1 W' ∧ R K cl (W'.hid Dl (.lst acc)) H' S' ∧ Reps K cl W' acc dacc ∧
      Post K cl (Rep K cl) W' ((compL it p mt me (wipeD ρ vs) (it.xs.drop i) dacc.length S').bind fun xs S2 => mk (dacc ++ xs) S2) Q (fun c d H' => E c d σ H'),
    ⟨_, rfl, Nat.zero_le _, W1, S1, [], [], .rf W1, r1.hide hD, .nil, p1⟩, ?_⟩
  rintro i m H2 ⟨rfl, hi, W2, S2, acc, dacc, l2, r2, t2, p2⟩
  by_cases hlt : i < it.xs.length
  · have ed : it.xs.drop i = it.xs[i] :: it.xs.drop (i + 1) := List.drop_eq_getElem_cons hlt
    have ei : it.xs[i]? = some it.xs[i] := List.getElem?_eq_getElem hlt
    generalize hd : it.xs[i] = d at ed ei
    rw [ed] at p2
    unfold compL at p2
    by_cases hG : Grd it S2
    · rw [if_pos hG] at p2
      obtain ⟨g1, _⟩ := hJ (W2.hid Dl (.lst acc)) H2 S2 (l2.s.tr Ls.hid) r2 hG
      obtain ⟨go, yld⟩ := g1 i d ei
      refine .inr ⟨go, fun H' => ∃ W' S' acc dacc, Le W1 W' ∧ R K cl (W'.hid Dl (.lst acc)) H' S' ∧ Reps K cl W' acc dacc ∧
          Post K cl (Rep K cl) W' ((compL it p mt me (wipeD ρ vs) (it.xs.drop (i + 1)) dacc.length S').bind fun xs S2 => mk (dacc ++ xs) S2) Q (fun c d H' => E c d σ H'), fun H' n => ⟨it.xs.length - (i + 1), by omega, rfl, hlt, n⟩, fun x H3 y => ?_⟩
      obtain ⟨W3, l3, r3, rx⟩ := yld x H3 y
      have back : ∀ W4 : Wd, Le (W2.hid Dl (.lst acc)) W4 → W4 = (W4.out W1.P).hid Dl (.lst acc) ∧ Le W2 (W4.out W1.P) := fun W4 l4 => by
        have eP : W4.P = upd W1.P Dl (.lst acc) := by rw [l4.p]; show upd W2.P Dl _ = _; rw [l2.p]
        refine ⟨?_, ⟨l4.g, l4.i, l4.n, l2.p.symm⟩⟩
        cases W4
        simp only [Wd.out, Wd.hid] at eP ⊢
        rw [eP]
      cases e4 : p d (wipeD ρ vs) with
      | none => simp only [e4] at p2; exact p2.elim
      | some ρ3 =>
        simp only [e4] at p2
        have ev : Envs K cl W3 (L2.wipe σ vs) (wipeD ρ vs) := ((e1.up l2).wipe vs).ups (Ls.hid.tr l3.s)
        refine ⟨W3, wipeD ρ vs, S2, d, ρ3, r3, ev, rx, e4, fun σ3 e3 off => ⟨?_, W3, ρ3, S2, r3, e3, ?_⟩⟩
        · have hw : L2.wipe σ3 vs = L2.wipe (L2.wipe σ vs) vs := wipe_ext off.1 fun j hj => off.2 j fun z => hj (ha j z)
          have hw2 : L2.wipe (L2.wipe σ vs) vs = L2.wipe σ vs := wipe_ext (wipe_length σ vs).symm fun j hj => by
            have : ∀ (vs : List Nat), j ∉ vs → (L2.wipe σ vs)[j]? = σ[j]? := by
              intro vs
              induction vs with
              | nil => intro _; rfl
              | cons v vs ih =>
                intro hj
                unfold L2.wipe
                rw [List.getElem?_set_ne (fun z => hj (by simp [z])), ih fun z => hj (by simp [z])]
            exact this vs hj
          exact hw.trans hw2
        · cases e5 : mt ρ3 S2 with
          | stk => rw [e5] at p2; exact p2.elim
          | exc z S5 => rw [e5] at p2; exact p2.elim
          | ok k S5 =>
            rw [e5] at p2
            intro W5 H5 b l5 r5 eb
            obtain rfl : b = k := eb
            cases b with
            | false =>
              obtain ⟨eq5, le5⟩ := back W5 (l3.tr l5)
              rw [eq5] at r5
              exact ⟨W5.out W1.P, S5, acc, dacc, l2.tr le5, r5, t2.up le5, Post.up le5 p2⟩
            | true =>
              refine ⟨W5, ρ3, S5, r5, e3.up l5, ?_⟩
              cases e6 : me ρ3 S5 with
              | stk => simp only [nox_ok, bind_ok, if_true, e6] at p2; exact p2.elim
              | exc z S6 => simp only [nox_ok, bind_ok, if_true, e6] at p2; exact p2.elim
              | ok dy S6 =>
                simp only [nox_ok, bind_ok, if_true, e6] at p2
                intro W6 H6 y6 l6 r6 ry
                obtain ⟨eq6, le6⟩ := back W6 ((l3.tr l5).tr l6)
                have r7 := r6
                rw [eq6] at r7
                by_cases hz : dacc.length < sizeLine
                · rw [if_pos hz] at p2
                  refine ⟨acc, (r7.priv Dl _ upd_same).1, by rw [t2.len]; exact hz, W6.out W1.P, S6, acc ++ [y6], dacc ++ [dy], l2.tr le6, r7.turn, (t2.up le6).app (.cons ?_ .nil), ?_⟩
                  · exact ry.ups Ls.out
                  · rw [List.length_append]
                    have p3 := Post.up le6 p2
                    revert p3
                    show _ → Post K cl (Rep K cl) _ ((compL it p mt me (wipeD ρ vs) (it.xs.drop (i + 1)) (dacc.length + 1) S6).bind fun xs S2 => mk (dacc ++ [dy] ++ xs) S2) _ _
                    cases compL it p mt me (wipeD ρ vs) (it.xs.drop (i + 1)) (dacc.length + 1) S6 with
                    | stk => exact fun z => z
                    | exc z S7 => exact fun z => z
                    | ok xs S7 =>
                      intro z
                      simp only [bind_ok] at z ⊢
                      rw [List.append_assoc]
                      exact z
                · rw [if_neg hz] at p2
                  exact p2.elim
    · rw [if_neg hG] at p2
      exact p2.elim
  · have ei : i = it.xs.length := by omega
    subst ei
    rw [List.drop_length] at p2
    unfold compL at p2
    by_cases hG : Grd it S2
    · rw [if_pos hG] at p2
      obtain ⟨g1, g2⟩ := hJ (W2.hid Dl (.lst acc)) H2 S2 (l2.s.tr Ls.hid) r2 hG
      have np2 : W2.P Dl = none := by rw [l2.p]; exact np
      obtain ⟨r3, h3, h4, h5⟩ := r2.unhide np2
      have p3 : Post K cl (Rep K cl) W2 (mk (dacc ++ []) S2) Q (fun c d H' => E c d σ H') := p2
      rw [List.append_nil] at p3
      exact .inl ⟨g2, hk W2 H2 S2 Dl acc dacc Q _ r3 h3 h4 h5 np2 t2 p3⟩
    · rw [if_neg hG] at p2
      exact p2.elim
theorem t_lc (own : List (Str × Nat)) (hk : MkS X.K cl mk) (hc : X.calm = true) (hN : X.N.Nodup) (hi : PI X tg iter (TIt X.K cl E mi)) (ok : BlkOk X.N X.env.scope scope own)
    (hg : ∀ (s : Shared) (H : Hp) (C : Addr) (ce : List (Str × Addr)) (fp : List Addr), PG (X.blk s H scope (compEnvC scope ce C X.env) fp) tg (Tp X.K cl a p))
    (ht : ∀ (s : Shared) (H : Hp) (C : Addr) (ce : List (Str × Addr)) (fp : List Addr), PTs (X.blk s H scope (compEnvC scope ce C X.env) fp) ifs (TB X.K cl F0 mt))
    (he : ∀ (s : Shared) (H : Hp) (C : Addr) (ce : List (Str × Addr)) (fp : List Addr), PE (X.blk s H scope (compEnvC scope ce C X.env) fp) elt (T X.K cl F0 me))
    (ha : ∀ i ∈ a, i ∈ own.map (·.2) := by decide) (hs : ∀ x, foldedSetIterable iter X.env x = pure x := by intro _; rfl) :
    PE X (.ListComp elt [⟨tg, iter, ifs, 0⟩] scope pos) (T X.K cl E (mComp mi p mt me (own.map (·.2)) mk)) :=
  pe_imp (pe_lc hc hN hi ok hg ht he hs) fun σ H Q h => lc_read hk ha h
/-- name = [..] on one line -/
theorem s_setLc (i : Nat) {y : Str} {py spos : Pos} (own : List (Str × Nat)) (hk : MkS X.K cl mk) (hc : X.calm = true) (hN : X.N.Nodup) (hi : PI X tg iter (TIt X.K cl E mi)) (ok : BlkOk X.N X.env.scope scope own)
    (hg : ∀ (s : Shared) (H : Hp) (C : Addr) (ce : List (Str × Addr)) (fp : List Addr), PG (X.blk s H scope (compEnvC scope ce C X.env) fp) tg (Tp X.K cl a p))
    (ht : ∀ (s : Shared) (H : Hp) (C : Addr) (ce : List (Str × Addr)) (fp : List Addr), PTs (X.blk s H scope (compEnvC scope ce C X.env) fp) ifs (TB X.K cl F0 mt))
    (he : ∀ (s : Shared) (H : Hp) (C : Addr) (ce : List (Str × Addr)) (fp : List Addr), PE (X.blk s H scope (compEnvC scope ce C X.env) fp) elt (T X.K cl F0 me))
    (hsw : swapsWith (.ListComp elt [⟨tg, iter, ifs, 0⟩] scope pos) (some (.Name y py)) spos.line X.env = pure true)
    (hy : X.N[i]? = some y := by rfl) (hyl : X.env.scope.names.lookup y = some .local := by rfl)
    (ha : ∀ i ∈ a, i ∈ own.map (·.2) := by decide) (hs : ∀ x, foldedSetIterable iter X.env x = pure x := by intro _; rfl) :
    PS X (.Assign [.Name y py] (.ListComp elt [⟨tg, iter, ifs, 0⟩] scope pos) spos) (Ts X.K cl E (sSet i (mComp mi p mt me (own.map (·.2)) mk))) :=
  ps_imp (ps_setLc hc hN hy hyl hsw hi ok hg ht he hs) fun A σ H ⟨W, ρ, S, hr, en, q⟩ => by
    refine lc_read hk ha ?_
    exact stepS hr en q fun W1 H1 v d S1 l1 r1 e1 rv p1 => p1 W1 H1 _ (.rf W1) r1 (e1.set i rv)

/-! ### what is walked -/
def itD (d : D) (S : Store) : Res Itb := match d with
  | .tup ds => .ok ⟨ds, none⟩ S
  | .lst ds => .ok ⟨ds, none⟩ S
  | .str z => .ok ⟨z.cps.toList.map fun c => .str ⟨#[c]⟩, none⟩ S
  | .ref n => (match S[n]? with
    | some (.lst ds) => .ok ⟨ds, some n⟩ S
    | _ => .stk)
  | _ => .stk
def mIt (m : M D) : M Itb := fun ρ S => (m ρ S).bind fun d S1 => itD d S1
theorem its_list {K : PySem.W.Frag} {W0 : Wd} {b : Addr} {it : Itb} (h : ∀ W H S, Ls W0 W → R K cl W H S → Grd it S → ∃ vs, SqL K H b vs ∧ (∀ ws, SqL K H b ws → ws = vs) ∧ Reps K cl W vs it.xs) : ItS K cl W0 (Itl K b) it := fun W H S l r g => by
  obtain ⟨vs, h1, h3, h2⟩ := h W H S l r g
  refine ⟨fun i d e => ?_, ⟨vs, h1, by rw [h2.len]; exact Nat.le_refl _⟩⟩
  obtain ⟨v, q1, q2⟩ := h2.at e
  refine ⟨⟨vs, v, h1, q1⟩, fun x H' ⟨eH, hx⟩ => ⟨W, .rf W, eH ▸ r, ?_⟩⟩
  have := hx vs h1
  rw [q1] at this
  cases this
  exact q2
theorem its_tup {K : PySem.W.Frag} {W0 : Wd} {b : Addr} {it : Itb} (h : ∀ W H S, Ls W0 W → R K cl W H S → Grd it S → ∃ vs, SqT K H b vs ∧ Reps K cl W vs it.xs) : ItS K cl W0 (Itt K b) it := fun W H S l r g => by
  obtain ⟨vs, h1, h2⟩ := h W H S l r g
  refine ⟨fun i d e => ?_, ⟨vs, h1, by rw [h2.len]; exact Nat.le_refl _⟩⟩
  obtain ⟨v, q1, q2⟩ := h2.at e
  refine ⟨⟨vs, v, h1, q1⟩, fun x H' ⟨eH, hx⟩ => ⟨W, .rf W, eH ▸ r, ?_⟩⟩
  have := hx vs h1
  rw [q1] at this
  cases this
  exact q2
theorem i_seq {m : M D} {e : Expr} (h : PE X e (T X.K cl E m)) : PI X tg e (TIt X.K cl E (mIt m)) :=
  pi_imp (pi_either (pi_tup h) (pi_either (pi_list h) (pi_str h))) fun σ H Q ⟨W, ρ, S, hr, he, q⟩ => by
    cases e0 : m ρ S with
    | stk => unfold mIt at q; rw [e0] at q; exact q.elim
    | exc x S1 =>
      unfold mIt at q
      rw [e0] at q
      refine .inl ⟨W, ρ, S, hr, he, ?_⟩
      rw [e0]
      exact q
    | ok d S1 =>
      unfold mIt at q
      rw [e0] at q
      replace q : Post X.K cl (ItS X.K cl) W (itD d S1) Q (fun c d H' => E c d σ H') := q
      unfold itD at q
      split at q
      · refine .inl ⟨W, ρ, S, hr, he, ?_⟩
        rw [e0]
        intro W1 H1 v l1 r1 rv
        cases rv with | tup h1 t =>
        refine ⟨_, rfl, ⟨_, sqT_up r1.sub h1⟩, q W1 H1 _ l1 r1 (its_tup fun W2 H2 S2 l2 r2 _ => ⟨_, sqT_up r2.sub (sqT_up l2.g h1), t.ups l2⟩)⟩
      · refine .inr (.inl ⟨W, ρ, S, hr, he, ?_⟩)
        rw [e0]
        intro W1 H1 v l1 r1 rv
        cases rv with | lst h1 t =>
        refine ⟨_, rfl, ⟨_, SqL.of (r1.sub _ _ h1)⟩, q W1 H1 _ l1 r1 ?_⟩
        intro W2 H2 S2 l2 r2 _
        have h2 := r2.sub _ _ (l2.g _ _ h1)
        refine ⟨fun i d e => ?_, ⟨_, SqL.of h2, by rw [t.len]; exact Nat.le_refl _⟩⟩
        obtain ⟨v, q1, q2⟩ := (t.ups l2).at e
        refine ⟨⟨_, v, SqL.of h2, q1⟩, fun x H' ⟨eH, hx⟩ => ⟨W2, .rf W2, eH ▸ r2, ?_⟩⟩
        have := hx _ (SqL.of h2)
        rw [q1] at this
        cases this
        exact q2
      · rename_i z
        refine .inr (.inr ⟨W, ρ, S, hr, he, ?_⟩)
        rw [e0]
        intro W1 H1 v l1 r1 rv
        cases rv
        refine ⟨_, rfl, q W1 H1 _ l1 r1 ?_⟩
        intro W2 H2 S2 l2 r2 _
        refine ⟨fun i d e => ?_, by show _ ≤ _; simp⟩
        rw [List.getElem?_map] at e
        cases ec : z.cps.toList[i]? with
        | none => rw [ec] at e; cases e
        | some c =>
          rw [ec] at e
          cases e
          refine ⟨?_, fun x H' ⟨eH, c', ec', ex⟩ => ⟨W2, .rf W2, eH ▸ r2, ?_⟩⟩
          · have := (List.getElem?_eq_some_iff.mp ec).1
            show i < z.cps.size
            simpa using this
          · rw [Array.getElem?_toList] at ec
            rw [ec] at ec'
            cases ec'
            rw [ex]
            exact .str _
      · rename_i n
        split at q
        · rename_i ds e1
          refine .inr (.inl ⟨W, ρ, S, hr, he, ?_⟩)
          rw [e0]
          intro W1 H1 v l1 r1 rv
          cases rv with | ref hn =>
          obtain ⟨g0, vs, h1, t⟩ := r1.live n _ e1 (by intro z; cases z)
          refine ⟨_, rfl, ⟨_, SqL.of h1⟩, q W1 H1 _ l1 r1 ?_⟩
          intro W2 H2 S2 l2 r2 hg
          have hg : S2[n]? = some (.lst ds) := hg
          obtain ⟨_, ws, h2, t2⟩ := r2.live n _ hg (by intro z; cases z)
          have ea : W2.ι n = W1.ι n := l2.i n hn
          rw [ea] at h2
          refine ⟨fun i d e => ?_, ⟨_, SqL.of h2, by rw [t2.len]; exact Nat.le_refl _⟩⟩
          obtain ⟨v, q1, q2⟩ := t2.at e
          refine ⟨⟨_, v, SqL.of h2, q1⟩, fun x H' ⟨eH, hx⟩ => ⟨W2, .rf W2, eH ▸ r2, ?_⟩⟩
          have := hx _ (SqL.of h2)
          rw [q1] at this
          cases this
          exact q2
        · exact q.elim
      · exact q.elim
def rng1 (as : List D) (S : Store) : Res Itb := match as with
  | [.int n] => if smR n = true then .ok ⟨(List.range n.toNat).map fun i => .int (i : Nat), none⟩ S else .stk
  | _ => .stk
def rng2 (as : List D) (S : Store) : Res Itb := match as with
  | [.int a, .int n] => if smR a = true ∧ smR n = true then .ok ⟨(List.range (n - a).toNat).map fun i => .int (a + (i : Nat)), none⟩ S else .stk
  | _ => .stk
def mRng (f : List D → Store → Res Itb) (m : M (List D)) : M Itb := fun ρ S => (m ρ S).bind fun d S1 => f d S1
theorem its_rng {K : PySem.W.Frag} {W0 : Wd} {lo : Int} {n : Nat} {xs : List D} (hx : xs = (List.range n).map fun i => D.int (lo + (i : Nat))) : ItS K cl W0 (Itr lo n) ⟨xs, none⟩ := fun W H S l r g => by
  subst hx
  refine ⟨fun i d e => ?_, by show n ≤ _; simp⟩
  have e : ((List.range n).map fun i => D.int (lo + (i : Nat)))[i]? = some d := e
  rw [List.getElem?_map] at e
  cases q : (List.range n)[i]? with
  | none => rw [q] at e; cases e
  | some j =>
    rw [q] at e
    cases e
    have hi : i < n := by have := (List.getElem?_eq_some_iff.mp q).1; simpa using this
    have hj : j = i := by rw [List.getElem?_range hi] at q; exact (Option.some.inj q).symm
    subst hj
    refine ⟨hi, fun x H' ⟨eH, ex⟩ => ⟨W, .rf W, eH ▸ r, ?_⟩⟩
    rw [ex]
    exact .int _
theorem i_range1 {e : Expr} {ms : M (List D)} {p pos : Pos} (hm : X.mg "range" = none) (ha : PA X [e] (TL X.K cl E ms)) (hg : Gl X "range" := by rfl) (hs : starEach [e] X.env = [(false, eval e X.env)] := by rfl) :
    PI X tg (.Call (.Name "range" p) [e] [] pos) (TIt X.K cl E (mRng rng1 ms)) :=
  pi_imp (pi_range1 hg hm ha hs) fun σ H Q ⟨W, ρ, S, hr, he, q⟩ => step hr he q fun W1 H1 x dx S1 l1 r1 e1 rx p1 => by
    unfold rng1 at p1
    split at p1
    · rename_i n
      cases rx with | cons ra rn =>
      cases rn; cases ra
      split at p1
      · rename_i hz
        refine ⟨n, rfl, (smR_of hz).1, (smR_of hz).2, p1.now r1 (its_rng ?_)⟩
        simp
      · exact p1.elim
    · exact p1.elim
theorem i_range2 {e e2 : Expr} {ms : M (List D)} {p pos : Pos} (hm : X.mg "range" = none) (ha : PA X [e, e2] (TL X.K cl E ms)) (hg : Gl X "range" := by rfl) (hs : starEach [e, e2] X.env = [(false, eval e X.env), (false, eval e2 X.env)] := by rfl)
    (hs2 : starEach [e2] X.env = [(false, eval e2 X.env)] := by rfl) : PI X tg (.Call (.Name "range" p) [e, e2] [] pos) (TIt X.K cl E (mRng rng2 ms)) :=
  pi_imp (pi_range2 hg hm ha hs hs2) fun σ H Q ⟨W, ρ, S, hr, he, q⟩ => step hr he q fun W1 H1 x dx S1 l1 r1 e1 rx p1 => by
    unfold rng2 at p1
    split at p1
    · rename_i b n
      cases rx with | cons ra rn =>
      cases rn with | cons rb rn =>
      cases rn; cases ra; cases rb
      split at p1
      · rename_i hz
        exact ⟨b, n, rfl, ⟨(smR_of hz.1).1, (smR_of hz.1).2, (smR_of hz.2).1, (smR_of hz.2).2⟩, p1.now r1 (its_rng rfl)⟩
      · exact p1.elim
    · exact p1.elim
end

/-! ### calls of defs -/
def ar (n : Nat) (g : List D → Store → Res D) (ds : List D) (S : Store) : Res D := if ds.length = n then g ds S else .stk
def spOf (K : PySem.W.Frag) (cl : Str → Option Addr) (n : Nat) (g : List D → Store → Res D) : Sp := fun vs H Q E => ∃ W S ds, R K cl W H S ∧ Reps K cl W vs ds ∧ Post K cl (Rep K cl) W (ar n g ds S) Q E
def startD (n : Nat) (ds : List D) : Sl := ds.map some ++ List.replicate (n - ds.length) none
def runB (n : Nat) (m : MS) (ds : List D) (S : Store) : Res D := match m (startD n ds) S with
  | .nx _ S => .ok .non S
  | .rt d S => .ok d S
  | .exc x _ S => .exc x S
  | .bk _ _ => .stk
  | .ct _ _ => .stk
  | .stk => .stk
theorem spOf_len {K : PySem.W.Frag} {cl : Str → Option Addr} {n : Nat} {g : List D → Store → Res D} {vs : List V} {H : Hp} {Q : VK} {E : XK} (h : spOf K cl n g vs H Q E) : vs.length = n := by
  obtain ⟨W, S, ds, r, t, p⟩ := h
  unfold ar at p
  by_cases hn : ds.length = n
  · rw [t.len]
    exact hn
  · rw [if_neg hn] at p
    exact p.elim
theorem spOf_imp {K : PySem.W.Frag} {cl : Str → Option Addr} {n : Nat} {g g' : List D → Store → Res D} (hg : ∀ ds S, ds.length = n → g' ds S = .stk ∨ g' ds S = g ds S) {vs : List V} {H : Hp} {Q : VK} {E : XK} (h : spOf K cl n g' vs H Q E) : spOf K cl n g vs H Q E := by
  obtain ⟨W, S, ds, r, t, p⟩ := h
  refine ⟨W, S, ds, r, t, ?_⟩
  unfold ar at p ⊢
  by_cases hn : ds.length = n
  · rw [if_pos hn] at p ⊢
    rcases hg ds S hn with e | e
    · rw [e] at p
      exact p.elim
    · rw [e] at p
      exact p
  · rw [if_neg hn] at p
    exact p.elim
theorem envs_start {K : PySem.W.Frag} {cl : Str → Option Addr} {W : Wd} {N : List Str} {vs : List V} {ds : List D} (t : Reps K cl W vs ds) : Envs K cl W (L2.start N vs) (startD N.length ds) := by
  unfold L2.start startD
  refine ⟨by simp [t.len], fun i d h => ?_⟩
  by_cases hi : i < ds.length
  · rw [List.getElem?_append_left (by simpa using hi), List.getElem?_map] at h
    cases e : ds[i]? with
    | none => rw [e] at h; cases h
    | some x =>
      rw [e] at h
      cases h
      obtain ⟨v, h1, h2⟩ := t.at e
      refine ⟨v, ?_, h2⟩
      rw [List.getElem?_append_left (by rw [List.length_map, t.len]; exact hi), List.getElem?_map, h1]
      rfl
  · rw [List.getElem?_append_right (by simpa using hi), List.getElem?_replicate] at h
    split at h <;> cases h
section
variable {P : Program} {w : World} {K : PySem.W.Frag} {mg : Str → Option Value} {base : Heap} {cl : Str → Option Addr}
/-- a def, by the semantics of its body -/
theorem fn_sem {x qual : Str} {st : Stmt} {f : Addr} {fd : FuncData} {N ps : List Str} {k n : Nat} {m : MS} (F : Fun K x qual st f fd) (Sc : FnScope N ps (defScope st)) (hn : ps.length = n)
    (body : ∀ (cdv : Value) (A : Around) (outer : List Env) (s : Shared) (H : Hp) (E : XK), Room k (A.deeper (PyProof.Rows.envOfC qual (defScope st) s.heap.objs.size f cdv)) →
      PSs (cxOf (L2.CX P w) P w K mg base N qual (defScope st) f cdv A outer s H E) (defBody st) (Ts K cl (fun c d _ H => E c d H) m)) : FnOk P w K mg base (L2.CX P w) (k + 1) f fd ps (spOf K cl n (runB N.length m)) := by
  refine F.okX Sc (fun vs H Q E h => by rw [spOf_len h, hn]) fun cdv A outer s H vs Q E hr h => ⟨_, body cdv A outer s H E hr, ?_⟩
  obtain ⟨W, S, ds, r, t, p⟩ := h
  refine ⟨W, startD N.length ds, S, r, envs_start t, ?_⟩
  unfold ar at p
  by_cases hn : ds.length = n
  · rw [if_pos hn] at p
    unfold runB at p
    cases e : m (startD N.length ds) S with
    | nx ρ S1 =>
      simp only [e] at p
      exact fun W1 H1 σ l1 r1 e1 => p W1 H1 _ l1 r1 .non
    | rt d S1 => simp only [e] at p; exact p
    | bk ρ S1 => simp only [e] at p; exact p.elim
    | ct ρ S1 => simp only [e] at p; exact p.elim
    | exc x ρ S1 =>
      simp only [e] at p
      exact fun W1 H1 σ c dd l1 r1 e1 x1 => p W1 H1 c dd l1 r1 x1
    | stk => simp only [e] at p; exact p.elim
  · rw [if_neg hn] at p
    exact p.elim
theorem fn_stk {f : Addr} {fd : FuncData} {ps : List Str} {n : Nat} : FnOk P w K mg base (L2.CX P w) 0 f fd ps (spOf K cl n fun _ _ => .stk) := by
  have no : ∀ {vs : List V} {H : Hp} {Q : VK} {E : XK}, spOf K cl n (fun _ _ => .stk) vs H Q E → False := fun h => by
    obtain ⟨W, S, ds, r, t, p⟩ := h
    unfold ar at p
    split at p <;> exact p
  exact ⟨fun vs H Q E h => (no h).elim, fun A outer s H args us vs Q E hr e0 hb r hs => (no hs).elim⟩
end
section
variable {X : Cx} {cl : Str → Option Addr} {E : WX} {k n : Nat} {f : Addr} {fd : FuncData} {ps : List Str} {g : List D → Store → Res D} {x : Str} {p pos : Pos} {e : Expr} {es : List Expr} {ms : M (List D)}
theorem t_call (F : FnOk X.prog X.w X.K X.mg X.base (L2.CX X.prog X.w) k f fd ps (spOf X.K cl n g)) (hr : Room k X.A) (hm : X.mg x = some (.ref f)) (hk : PySem.W.keepIn X.K (.ref f) = true) (hb : Binds X.K fd ps []) (tk : Takes X E)
    (ha : PA X (e :: es) (TL X.K cl E ms)) (hg : Gl X x := by rfl) (hdb : (x == ("__debug__" : Str)) = false := by decide) (he : starEach (e :: es) X.env = (false, eval e X.env) :: starEach es X.env := by rfl) (hpl : (backTo pos (starEach es X.env)).any (·.1) = false := by rfl) :
    PE X (.Call (.Name x p) (e :: es) [] pos) (T X.K cl E (mFn (ar n g) ms)) :=
  pe_imp (pe_callS F hr hg hm hk hb (fun σ => passAt tk σ) ha hdb he hpl) fun σ H Q ⟨W, ρ, S, hr, he, q⟩ => step hr he q fun W1 H1 x dx S1 l1 r1 e1 rx p1 => ⟨W1, S1, dx, r1, rx, p1⟩
end
end G
namespace G
open PySem L2
abbrev wFuel : Nat := 1000000
def mStk : M D := fun _ _ => .stk
def sStk : MS := fun _ _ => .stk
theorem bt_len : bootBuiltins "len" = some (.builtin "len") := by decide +kernel
theorem bt_all : bootBuiltins "all" = some (.builtin "all") := by decide +kernel
theorem bt_any : bootBuiltins "any" = some (.builtin "any") := by decide +kernel
theorem bt_isinstance : bootBuiltins "isinstance" = some (.builtin "isinstance") := by decide +kernel
theorem bt_int : bootBuiltins "int" = some (.type "int") := by decide +kernel
theorem bt_bool : bootBuiltins "bool" = some (.type "bool") := by decide +kernel
theorem bt_str : bootBuiltins "str" = some (.type "str") := by decide +kernel
theorem bt_list : bootBuiltins "list" = some (.type "list") := by decide +kernel
theorem bt_tuple : bootBuiltins "tuple" = some (.type "tuple") := by decide +kernel
theorem bt_dict : bootBuiltins "dict" = some (.type "dict") := by decide +kernel
section
variable {X : Cx} {cl : Str → Option Addr} {E : WX} {e : Expr} {st : Stmt} {sts : List Stmt} {pos : Pos}
/-- what is never come to -/
theorem t_stk : PE X e (T X.K cl E mStk) := ⟨fun _ _ _ _ _ _ ⟨_, _, _, _, _, p⟩ => p.elim⟩
theorem s_stk : PS X st (Ts X.K cl E sStk) := ⟨fun _ _ _ _ _ _ ⟨_, _, _, _, _, p⟩ => p.elim⟩
theorem ss_stk : PSs X sts (Ts X.K cl E sStk) := ⟨fun _ _ _ _ _ _ ⟨_, _, _, _, _, p⟩ => p.elim⟩
/-- a constant of the module, as the top left it -/
def GlobIs (K : PySem.W.Frag) (cl : Str → Option Addr) (mg : Str → Option Value) (x : Str) (d : D) : Prop := ∃ u v, mg x = some u ∧ RelV v u ∧ ∀ W, Rep K cl W v d
theorem t_glob' {x : Str} {d : D} (h : GlobIs X.K cl X.mg x d) (hg : Gl X x := by rfl) (hd : (x == ("__debug__" : Str)) = false := by decide) : PE X (.Name x pos) (T X.K cl E (mC d)) := by
  obtain ⟨u, v, hm, r, rp⟩ := h
  exact t_glob hm r rp hg hd
end
/-- a def of the module, by its semantics -/
structure Fn (P : Program) (w : World) (K : PySem.W.Frag) (mg : Str → Option Value) (base : Heap) (cl : Str → Option Addr) (x : Str) (k n : Nat) (g : List D → Store → Res D) : Prop where
  ex : ∃ f fd ps, FnOk P w K mg base (L2.CX P w) k f fd ps (spOf K cl n g) ∧ mg x = some (.ref f) ∧ PySem.W.keepIn K (.ref f) = true ∧ Binds K fd ps []
section
variable {X : Cx} {cl : Str → Option Addr} {E : WX} {k n : Nat} {g : List D → Store → Res D} {x : Str} {p pos : Pos} {e : Expr} {es : List Expr} {ms : M (List D)}
theorem t_callF (F : Fn X.prog X.w X.K X.mg X.base cl x k n g) (hr : Room k X.A) (tk : Takes X E) (ha : PA X (e :: es) (TL X.K cl E ms)) (hg : Gl X x := by rfl) (hdb : (x == ("__debug__" : Str)) = false := by decide)
    (he : starEach (e :: es) X.env = (false, eval e X.env) :: starEach es X.env := by rfl) (hpl : (backTo pos (starEach es X.env)).any (·.1) = false := by rfl) :
    PE X (.Call (.Name x p) (e :: es) [] pos) (T X.K cl E (mFn (ar n g) ms)) := by
  obtain ⟨f, fd, ps, h1, h2, h3, h4⟩ := F.ex
  exact t_call h1 hr h2 h3 h4 tk ha hg hdb he hpl
theorem t_callF0 (F : Fn X.prog X.w X.K X.mg X.base cl x k n g) (hr : Room k X.A) (tk : Takes X E) (hg : Gl X x := by rfl) (hdb : (x == ("__debug__" : Str)) = false := by decide) :
    PE X (.Call (.Name x p) [] [] pos) (T X.K cl E (mFn (ar n g) mNil)) := by
  obtain ⟨f, fd, ps, h1, h2, h3, h4⟩ := F.ex
  refine ⟨fun pins s σ H Q I ⟨W, ρ, S, hr', he', q⟩ => ?_⟩
  have hsp : spOf X.K cl n g [] H Q (WE E σ) := ⟨W, S, [], hr', .nil, q⟩
  refine wpAny_Call_Name_kw (ld_glob I hg h2 (PySem.W.callWith_K0 I.kIn h3 ?_) hdb)
  exact run_fnS (us := []) (vs := []) h1 hr h4 (passAt tk σ) I .nil hsp
end

/-! ### isinstance -/
inductive Kd where
  | non | bl | int | str | tup | lst | dct
def kd (S : Store) (d : D) : Option Kd := match d with
  | .non => some .non
  | .bl _ => some .bl
  | .int _ => some .int
  | .str _ => some .str
  | .tup _ => some .tup
  | .lst _ => some .lst
  | .dct _ => some .dct
  | .ref n => (match S[n]? with
    | some (.lst _) => some .lst
    | some (.dct _) => some .dct
    | _ => none)
  | _ => none
def Kd.ty : Kd → String
  | .non => "NoneType" | .bl => "bool" | .int => "int" | .str => "str" | .tup => "tuple" | .lst => "list" | .dct => "dict"
def isiD (f : Kd → Bool) (d : D) (S : Store) : Res D := ofB ((kd S d).map f) S
def k_int : Kd → Bool
  | .int => true | .bl => true | _ => false
def k_bool : Kd → Bool
  | .bl => true | _ => false
def k_str : Kd → Bool
  | .str => true | _ => false
def k_list : Kd → Bool
  | .lst => true | _ => false
def k_tuple : Kd → Bool
  | .tup => true | _ => false
def k_dict : Kd → Bool
  | .dct => true | _ => false
def k_list_tuple : Kd → Bool
  | .lst => true | .tup => true | _ => false
def IsK (T : String) (f : Kd → Bool) : Prop := ∀ k : Kd, kitB k.ty T = some (f k)
theorem is_int : IsK "int" k_int := fun k => by cases k <;> decide +kernel
theorem is_bool : IsK "bool" k_bool := fun k => by cases k <;> decide +kernel
theorem is_str : IsK "str" k_str := fun k => by cases k <;> decide +kernel
theorem is_list : IsK "list" k_list := fun k => by cases k <;> decide +kernel
theorem is_tuple : IsK "tuple" k_tuple := fun k => by cases k <;> decide +kernel
theorem is_dict : IsK "dict" k_dict := fun k => by cases k <;> decide +kernel
theorem kd_of {K : PySem.W.Frag} {cl : Str → Option Addr} {W : Wd} {H : Hp} {S : Store} {x : V} {d : D} {k : Kd} (r : R K cl W H S) (rx : Rep K cl W x d) (e : kd S d = some k) : TyX K H x (.type k.ty) := by
  cases rx with
  | non => cases e; exact .base .non
  | bl b => cases e; exact .base (.bl b)
  | int b => cases e; exact .base (.int b)
  | str b => cases e; exact .base (.str b)
  | tup h t =>
    cases e
    rcases h with (h | ⟨o, h⟩) | h
    · exact .base (.tup (r.sub _ _ h))
    · exact .fTuple (r.sub _ _ h)
    · obtain ⟨o, _, _, hk, hc, _⟩ := h
      exact .kTuple hk hc
  | lst h t => cases e; exact .base (.lst (r.sub _ _ h))
  | dct h t => cases e; exact .fDict (r.sub _ _ h)
  | ins h c t => cases e
  | exv0 => cases e
  | exv1 => cases e
  | scr h => cases e
  | @ref n hn =>
    unfold kd at e
    dsimp only at e
    cases q : S[n]? with
    | none => rw [q] at e; cases e
    | some mo =>
      rw [q] at e
      cases mo with
      | lst ys =>
        cases e
        obtain ⟨_, vs, h1, h2⟩ := r.live n _ q (by intro z; cases z)
        exact .base (.lst h1)
      | dct ys =>
        cases e
        obtain ⟨_, vs, h1, h2⟩ := r.live n _ q (by intro z; cases z)
        exact .base (.dK h1)
      | ldc ys => cases e
      | ins c fs => cases e
      | dead => cases e
section
variable {X : Cx} {cl : Str → Option Addr} {E : WX} {a b : Expr} {m : M D} {p p2 pos : Pos} {x : Str} {T' : String} {f : Kd → Bool}
theorem t_isi (hk : IsK T' f) (hm : X.mg "isinstance" = none) (hm2 : X.mg x = none) (hv : bootBuiltins x = some (.type T')) (ha : PE X a (T X.K cl E m)) (hg : Gl X "isinstance" := by rfl) (hg2 : Gl X x := by rfl) (hn : x ≠ "__name__" := by decide) (hdb : (x == ("__debug__" : Str)) = false := by decide)
    (hs : starEach [.Name x p2] X.env = (false, eval (.Name x p2) X.env) :: starEach [] X.env := by rfl)
    (he : starEach [a, .Name x p2] X.env = (false, eval a X.env) :: starEach [.Name x p2] X.env := by rfl) (hpl : (backTo pos (starEach [.Name x p2] X.env)).any (·.1) = false := by rfl) :
    PE X (.Call (.Name "isinstance" p) [a, .Name x p2] [] pos) (T X.K cl E (mUn (isiD f) m)) :=
  pe_imp (pe_callB call_isi hg hm bt_isinstance (pa_cons ha (pa_cons (pe_bltn (v := .ty T') hg2 hm2 hv rfl hn hdb) pa_nil hs) he) (by decide) (by decide) he hpl) fun σ H Q ⟨W, ρ, S, hr, en, q⟩ =>
    step hr en q fun W1 H1 v d S1 l1 r1 e1 rv p1 => by
      unfold isiD at p1
      cases e2 : kd S1 d with
      | none => rw [e2] at p1; exact p1.elim
      | some k =>
        rw [e2] at p1
        exact ⟨v, .ty T', _, _, f k, rfl, .ty T', kd_of r1 rv e2, kit_ty (hk k), p1.now r1 (.bl _)⟩
end

/-! ### methods of built-in types -/
def tyD (T : String) (S : Store) (d : D) : Bool := match d with
  | .str _ => T == "str"
  | .lst _ => T == "list"
  | .ref n => (match S[n]? with
    | some (.lst _) => T == "list"
    | some (.dct _) => T == "dict"
    | _ => false)
  | _ => false
def mMt (T : String) (g : D → List D → Store → Res D) (o : M D) (a : M (List D)) : M D := fun ρ S => (o ρ S).bind fun x S1 => if tyD T S1 x = true then (a ρ S1).bind fun y S2 => g x y S2 else .stk
theorem tyV_of {K : PySem.W.Frag} {cl : Str → Option Addr} {W : Wd} {H : Hp} {S : Store} {x : V} {d : D} {T : String} (r : R K cl W H S) (rx : Rep K cl W x d) (e : tyD T S d = true) : tyV K T x H := by
  cases rx with
  | str z => exact beq_iff_eq.mp e
  | lst h t => exact .inl ⟨beq_iff_eq.mp e, _, SqL.of (r.sub _ _ h)⟩
  | @ref n hn =>
    unfold tyD at e
    dsimp only at e
    cases q : S[n]? with
    | none => rw [q] at e; cases e
    | some mo =>
      rw [q] at e
      cases mo with
      | lst ys =>
        obtain ⟨_, vs, h1, h2⟩ := r.live n _ q (by intro z; cases z)
        exact .inl ⟨beq_iff_eq.mp e, _, SqL.of h1⟩
      | dct ys =>
        obtain ⟨_, vs, h1, h2⟩ := r.live n _ q (by intro z; cases z)
        exact .inr (.inr (.inl ⟨beq_iff_eq.mp e, .inl ⟨_, h1⟩⟩))
      | ldc ys => cases e
      | ins c fs => cases e
      | dead => cases e
  | _ => cases e
section
variable {X : Cx} {cl : Str → Option Addr} {E : WX} {o e : Expr} {es : List Expr} {m : M D} {ms : M (List D)} {name : Str} {apos cpos : Pos} {T' id : String} {r : V → List V → Hp → VK → Prop} {g : D → List D → Store → Res D}
theorem t_bm (pa : PlainAttrs T') (slot : Slot T' name id) (hty : typeOf (.builtin id) = pure (.type "method_descriptor")) (hm : MtR X id r) (hs : MtS X.K cl r g) (ho : PE X o (T X.K cl E m)) (ha : PA X (e :: es) (TL X.K cl E ms))
    (hbase : attributeBase o name X.env (eval o X.env) = eval o X.env := by rfl)
    (hfew : ((backTo cpos (starEach (e :: es) X.env)).all (fun x => !x.1) && (backToKw cpos (keywordEach [] X.env)).all (fun x => x.1.isSome) && decide ((e :: es).length + ([] : List Keyword).length + (if ([] : List Keyword).isEmpty then 0 else 1) < 30)) = true := by rfl)
    (hline : (apos.endLine == cpos.line) = true := by rfl) (hse : starEach (e :: es) X.env = (false, eval e X.env) :: starEach es X.env := by rfl) (hpl : (backTo cpos (starEach es X.env)).any (·.1) = false := by rfl) :
    PE X (.Call (.Attribute o name apos) (e :: es) [] cpos) (T X.K cl E (mMt T' g m ms)) :=
  pe_imp (pe_bm pa slot hty hm ho ha hbase hfew hline hse hpl) fun σ H Q ⟨W, ρ, S, hr, en, q⟩ => step hr en q fun W1 H1 v d S1 l1 r1 e1 rv p1 => by
    by_cases ht : tyD T' S1 d = true
    · rw [if_pos ht] at p1
      exact ⟨tyV_of r1 rv ht, step r1 e1 p1 fun W2 H2 ys ds S2 l2 r2 e2 ry p2 => hs _ _ _ _ _ _ _ _ _ r2 (rv.up l2) ry p2⟩
    · rw [if_neg ht] at p1
      exact p1.elim
theorem t_bm0 (pa : PlainAttrs T') (slot : Slot T' name id) (hty : typeOf (.builtin id) = pure (.type "method_descriptor")) (hm : MtR X id r) (hs : MtS X.K cl r g) (ho : PE X o (T X.K cl E m))
    (hbase : attributeBase o name X.env (eval o X.env) = eval o X.env := by rfl) (hline : (apos.endLine == cpos.line) = true := by rfl) :
    PE X (.Call (.Attribute o name apos) [] [] cpos) (T X.K cl E (mMt T' g m mNil)) :=
  pe_imp (pe_bm0 pa slot hty hm ho hbase hline) fun σ H Q ⟨W, ρ, S, hr, en, q⟩ => step hr en q fun W1 H1 v d S1 l1 r1 e1 rv p1 => by
    by_cases ht : tyD T' S1 d = true
    · rw [if_pos ht] at p1
      exact ⟨tyV_of r1 rv ht, hs _ _ _ _ _ _ _ _ _ r1 rv .nil p1⟩
    · rw [if_neg ht] at p1
      exact p1.elim
end
/-- sep.join -/
def stO : D → Option Str
  | .str b => some b
  | _ => none
def stsO : List D → Option (List Str)
  | [] => some []
  | d :: ds => (match stO d, stsO ds with
    | some b, some bs => some (b :: bs)
    | _, _ => none)
theorem sts_of {K : PySem.W.Frag} {cl : Str → Option Addr} {W : Wd} : ∀ {vs : List V} {ds : List D} {bs : List Str}, Reps K cl W vs ds → stsO ds = some bs → vs = bs.map V.str
  | _, _, _, .nil, e => by cases e; rfl
  | _, _, _, .cons (d := d) (ds := ds) h t, e => by
    unfold stsO at e
    cases e1 : stO d with
    | none => rw [e1] at e; cases e
    | some v =>
      cases e2 : stsO ds with
      | none => rw [e1, e2] at e; cases e
      | some vs =>
        rw [e1, e2] at e
        cases e
        rw [sts_of t e2]
        cases h <;> first | (cases e1; rfl) | cases e1
def joinD (x : D) (ys : List D) (S : Store) : Res D := match x, ys with
  | .str a, [y] => (match (sqOf S y).bind stsO with
    | some bs => if (bs.map (·.length)).sum + bs.length * a.length ≤ 16777216 then .ok (.str (Txt.join a bs)) S else .stk
    | none => .stk)
  | _, _ => .stk
theorem join_s {K : PySem.W.Frag} {cl : Str → Option Addr} : MtS K cl (fun x xs H Q => ∃ a p, ∃ ys : List Str, x = .str a ∧ xs = [.ref p] ∧ (SqL K H p (ys.map V.str) ∨ SqT K H p (ys.map V.str)) ∧
    (ys.map (·.length)).sum + ys.length * a.length ≤ 16777216 ∧ Q (.str (Txt.join a ys)) H) joinD := by
  intro W H S x a y b Q E r rx ry p
  unfold joinD at p
  split at p
  · rename_i z d
    cases rx
    cases ry with | cons ry rn =>
    cases rn
    split at p
    · rename_i bs eb
      cases e1 : sqOf S d with
      | none => rw [e1] at eb; cases eb
      | some ds =>
        rw [e1] at eb
        obtain ⟨q, vs, rfl, h, t⟩ := sq_of' r ry e1
        have ev := sts_of t (show stsO ds = some bs from eb)
        subst ev
        split at p
        · rename_i hz
          exact ⟨_, _, bs, rfl, rfl, h, hz, p.now r (.str _)⟩
        · exact p.elim
    · exact p.elim
  · exact p.elim
/-- append -/
def appD (x : D) (ys : List D) (S : Store) : Res D := match x, ys with
  | .ref n, [y] => (match S[n]? with
    | some (.lst xs) => if xs.length < sizeLine then .ok .non (S.set n (.lst (xs ++ [y]))) else .stk
    | _ => .stk)
  | _, _ => .stk
theorem app_s {K : PySem.W.Frag} {cl : Str → Option Addr} : MtS K cl rAppend appD := by
  intro W H S x a y b Q E r rx ry p
  unfold appD at p
  split at p
  · rename_i n d
    cases rx with | ref hn =>
    cases ry with | cons ry rn =>
    cases rn
    split at p
    · rename_i xs e1
      obtain ⟨_, vs, h1, h2⟩ := r.live n _ e1 (by intro z; cases z)
      split at p
      · rename_i hz
        exact ⟨_, vs, _, rfl, rfl, h1, by rw [h2.len]; exact hz, p W _ _ (.rf W) (r.put e1 (by intro z; cases z) ⟨_, upd_same, h2.app (.cons ry .nil)⟩) .non⟩
      · exact p.elim
    · exact p.elim
  · exact p.elim
section
variable {X : Cx} {cl : Str → Option Addr} {E : WX} {o e a b : Expr} {es : List Expr} {m : M D} {ms : M (List D)} {px py pt pt2 pos : Pos} {kt k2 : Nat}
/-- x, y = a, b -/
def sPar (i j : Nat) (a : M (List D)) : MS := fun ρ S => sB (a ρ S) ρ fun ds S1 => match ds with
  | [v, w] => .nx ((ρ.set i (some v)).set j (some w)) S1
  | _ => .stk
end
end G
/-! zip of two and three lists or tuples, enumerate: over the walks that tell the new tuple -/
namespace G
open PySem L2
/-- rows of n new tuples, as long as the sources stand -/
def Jt (n : Nat) (row : Nat → List V) (Sd : Hp → Prop) : It :=
  ⟨fun i H => i < n ∧ Sd H, fun i H v H' => ∃ a, v = .ref a ∧ H a = none ∧ H' = upd H a (.tup (row i)), fun i H => i = n ∧ Sd H⟩
theorem turn_of {P : Program} {w : World} {K : PySem.W.Frag} {elts : List Expr} {kk : Nat} {tpos : Pos} {fp : List Addr} {I : Addr} {n : Nat} {row : Nat → List V} {Sd : Hp → Prop} {tn : Nat → Heap → Prop}
    (mem : I ∈ fp) (obj : ∀ i h, tn i h → ∀ b ∈ fp, ∃ o, h.get? b = some o ∧ ∀ v, o.data ≠ .cell v)
    (keep : ∀ i h h', tn i h → (∀ b ∈ fp, ∀ o, h.get? b = some o → h'.get? b = some o) → tn i h') (small : ∀ i, (row i).length ≤ sizeLine)
    (src : ∀ (X : Cx) (pins : List (Addr × Obj)) (σ : L2.St) (H : Hp) (s : Shared), X.prog = P → X.w = w → X.K = K → X.calm = true → Inv X pins σ H s → Sd H → (∀ b ∈ fp, H b = none) →
      ∃ fp' wr Y Q, GoesN P w X.A (.Tuple elts kk tpos) I fp' wr n Y Q ∧ (∀ b ∈ wr, b ∈ fp) ∧ (∀ i, tn i s.heap → Q i s.heap) ∧ (∀ i h', Q i h' → tn i h') ∧
        ∀ i h v h', i < n → Y i h v h' → ∃ a us, v = .ref a ∧ h.objs.size ≤ a ∧ Vals (row i) us ∧ h'.IsTuple a us.toArray)
    (self : ∀ (A : Around) (i : Nat) (s : Shared) (Q : Value → Shared → Prop) (E : Value → Shared → Prop), tn i s.heap → Q (.ref I) s → wpAny (model P w) A (pyIter (.ref I)) Q E s) :
    Turn P w K (.Tuple elts kk tpos) (Jt n row Sd) fp I tn where
  mem := mem
  obj := obj
  keep := keep
  self := self
  item := by
    intro X hP hw hK hc i pins s σ H E J hf st hg
    obtain ⟨hi, sd⟩ := hg
    obtain ⟨fp', wr, Y, Q, W, hsub, h1, h2, h3⟩ := src X pins σ H s hP hw hK hc J sd fun b hb => (hf b hb).1
    refine W.goes i s _ E hi (h1 i st) fun v h' tk hY st' hk htk => ?_
    obtain ⟨a, us, rfl, hn, rv, ht⟩ := h3 i s.heap v h' hi hY
    have free : H a = none := J.hok.fresh hn
    have isT : ObjOk X.prog X.w (upd H a (.tup (row i))) h' a (.tup (row i)) := ⟨small i, us, rv, ht⟩
    have J' := J.turnedNew (t' := tk) (ch := fp) (fun b o hb e => hk b o (fun z => hb (hsub b z)) e) hf hn isT
    refine ⟨.ref a, _, J', rfl, ⟨a, rfl, free, rfl⟩, h2 _ _ st', fun b hb => ?_⟩
    obtain ⟨o, ho, _⟩ := obj i s.heap st b hb
    rw [upd_ne (Nat.ne_of_lt (Nat.lt_of_lt_of_le (Heap.lt_size ho) hn))]
    exact (hf b hb).1
  done := by
    intro X hP hw hK hc i pins s σ H E J hf st hg
    obtain ⟨rfl, sd⟩ := hg
    obtain ⟨fp', wr, Y, Q, W, hsub, h1, h2, h3⟩ := src X pins σ H s hP hw hK hc J sd fun b hb => (hf b hb).1
    exact W.stops s (fun s1 => Inv X pins σ H s1) E (h1 _ st) fun h' tk hk htk => J.turnedL (t' := tk) (ch := fp) (fun b o hb e => hk b o (fun z => hb (hsub b z)) e) hf

/-! a source: a tuple (true) or a list (false) -/
def SqK (k : Bool) (K : PySem.W.Frag) (H : Hp) (a : Addr) (xs : List V) : Prop := if k = true then SqT K H a xs else SqL K H a xs
def ItK (k : Bool) (h : Heap) (it a : Addr) (i : Nat) : Prop := if k = true then h.IsTupleIter it a i else h.IsListIter it a i
def HsK (k : Bool) (h : Heap) (a : Addr) (its : Array Value) : Prop := if k = true then h.IsTuple a its else h.IsList a its
def itO (k : Bool) (l : Addr) : Obj := { cls := .type (if k then "tuple_iterator" else "list_iterator"), data := .fields #[.ref l, .int 0 0] }
theorem drawsK (k : Bool) {prog : Program} {w : World} {A : Around} (hh : A.handled = none) (it t : Addr) (hne : t ≠ it) (its : Array Value) :
    Draws prog w A it [it, t] its.size (fun i v => its[i]? = some v) (fun i h => ItK k h it t i ∧ HsK k h t its) := by
  cases k
  · exact Draws.list hh it t hne its
  · exact Draws.tuple hh it t hne its
theorem beginsK (k : Bool) (l : Addr) (its : Array Value) : Begins (.ref l) (itO k l) fun h => HsK k h l its := by
  cases k
  · exact begins_list l its
  · exact begins_tuple l its
theorem itK_at {k : Bool} {h h' : Heap} {it a : Addr} {i : Nat} (x : ItK k h it a i) (e : ∀ o, h.get? it = some o → h'.get? it = some o) : ItK k h' it a i := by
  cases k
  · exact Heap.IsListIter.at x e
  · exact Heap.IsTupleIter.at x e
theorem itK_obj {k : Bool} {h : Heap} {it a : Addr} {i : Nat} (x : ItK k h it a i) : ∃ o, h.get? it = some o ∧ ∀ v, o.data ≠ .cell v := by
  cases k
  · obtain ⟨o, e, _, d⟩ := (show h.IsListIter it a i from x)
    exact ⟨o, e, fun v q => by rw [d] at q; cases q⟩
  · obtain ⟨o, e, _, d⟩ := (show h.IsTupleIter it a i from x)
    exact ⟨o, e, fun v q => by rw [d] at q; cases q⟩
theorem itK_new {k : Bool} {h : Heap} {it l : Addr} (e : h.get? it = some (itO k l)) : ItK k h it l 0 := by
  cases k
  · exact ⟨_, e, rfl, rfl⟩
  · exact ⟨_, e, rfl, rfl⟩
theorem sqK_up {k : Bool} {K : PySem.W.Frag} {A B : Hp} {a : Addr} {xs : List V} (g : ∀ a o, A a = some o → B a = some o) (h : SqK k K A a xs) : SqK k K B a xs := by
  cases k
  · exact sqL_up g h
  · exact sqT_up g h
theorem inv_K {X : Cx} {pins : List (Addr × Obj)} {σ : L2.St} {H : Hp} {s : Shared} {k : Bool} {a : Addr} {xs : List V} (J : Inv X pins σ H s) (h : SqK k X.K H a xs) : ∃ us : List Value, Vals xs us ∧ HsK k s.heap a us.toArray ∧ a < s.heap.objs.size := by
  cases k
  · obtain ⟨us, rv, p, _⟩ := J.list h
    exact ⟨us, rv, p.isList, p.lt⟩
  · obtain ⟨us, rv, p, _⟩ := J.tuple h
    obtain ⟨o, e, _⟩ := id p
    exact ⟨us, rv, p, Heap.lt_size e⟩
theorem vals_at {xs : List V} {us : List Value} {i : Nat} {x : V} {u : Value} (r : Vals xs us) (h : xs[i]? = some x) (e : us.toArray[i]? = some u) : RelV x u := by
  obtain ⟨u', h1, h2⟩ := r.get h
  have e : us[i]? = some u := by simpa using e
  rw [h1] at e
  cases e
  exact h2
def rowAt (ls : List (List V)) (i : Nat) : List V := ls.map fun xs => xs[i]?.getD .non
theorem fp_ok {X : Cx} {pins : List (Addr × Obj)} {σ : L2.St} {H : Hp} {s : Shared} (J : Inv X pins σ H s) {fp : List Addr} (h : ∀ b ∈ fp, s.heap.objs.size ≤ b) : ∀ b ∈ fp, FpOk X pins H b := fun b hb => J.fpOk (h b hb) (J.hok.fresh (h b hb))
def tn3 (k1 k2 k3 : Bool) (z ti tt i1 i2 i3 a b c : Addr) (i : Nat) (h : Heap) : Prop :=
  IsZip h z ti tt .none ∧ IsTupOf3 h ti (.ref i1) (.ref i2) (.ref i3) ∧ (∃ x y u, IsTupOf3 h tt x y u) ∧ ItK k1 h i1 a i ∧ ItK k2 h i2 b i ∧ ItK k3 h i3 c i
def tn2 (k1 k2 : Bool) (z ti tt i1 i2 a b : Addr) (i : Nat) (h : Heap) : Prop :=
  IsZip h z ti tt .none ∧ IsTupOf2 h ti (.ref i1) (.ref i2) ∧ (∃ x y, IsTupOf2 h tt x y) ∧ ItK k1 h i1 a i ∧ ItK k2 h i2 b i
theorem turn_zip3 {P : Program} {w : World} {K : PySem.W.Frag} {elts : List Expr} {kk : Nat} {tpos : Pos} {k1 k2 k3 : Bool} {N : Nat} {a b c : Addr} {xs ys zs : List V} (ha : a < N) (hb : b < N) (hc : c < N) :
    Turn P w K (.Tuple elts kk tpos) (Jt (min (min xs.length ys.length) zs.length) (rowAt [xs, ys, zs]) fun H => SqK k1 K H a xs ∧ SqK k2 K H b ys ∧ SqK k3 K H c zs) [N + 5, N + 3, N + 4, N, N + 1, N + 2] (N + 5) (tn3 k1 k2 k3 (N + 5) (N + 3) (N + 4) N (N + 1) (N + 2) a b c) := by
  refine turn_of (by simp) (fun i h st q hq => ?_) (fun i h h' st kp => ?_) (fun i => by show 3 ≤ sizeLine; decide) (fun X pins σ H s hP hw hK hcm J sd fr => ?_) (fun A i s Q E st q => wpAny_pyIter_zip st.1 q)
  · obtain ⟨hz, hTI, ⟨x, y, u, hTO⟩, h1, h2, h3⟩ := st
    simp only [List.mem_cons, List.not_mem_nil, or_false] at hq
    rcases hq with rfl | rfl | rfl | rfl | rfl | rfl
    · exact ⟨_, hz, fun v z => nomatch z⟩
    · exact ⟨_, hTI, fun v z => nomatch z⟩
    · exact ⟨_, hTO, fun v z => nomatch z⟩
    · exact itK_obj h1
    · exact itK_obj h2
    · exact itK_obj h3
  · obtain ⟨hz, hTI, ⟨x, y, u, hTO⟩, h1, h2, h3⟩ := st
    exact ⟨kp _ (by simp) _ hz, kp _ (by simp) _ hTI, ⟨x, y, u, kp _ (by simp) _ hTO⟩, itK_at h1 (kp _ (by simp)), itK_at h2 (kp _ (by simp)), itK_at h3 (kp _ (by simp))⟩
  · subst hP hw hK
    obtain ⟨s1, s2, s3⟩ := sd
    obtain ⟨u1, v1, q1, _⟩ := inv_K J s1
    obtain ⟨u2, v2, q2, _⟩ := inv_K J s2
    obtain ⟨u3, v3, q3, _⟩ := inv_K J s3
    have hh := J.ok.hd hcm
    have fst : ∀ d, d < N → ∀ e ∈ [d], e < N := fun d hd e he => by simp at he; omega
    have W := GoesN.zip3 (prog := X.prog) (w := X.w) (A := X.A) (elts := elts) (x1 := kk) (pos := tpos) (zip_sep3 (N := N) (fst a ha) (fst b hb) (fst c hc)) (drawsK k1 (A := X.A.in1) hh N a (Nat.ne_of_lt ha) u1.toArray) (drawsK k2 (A := X.A.in1) hh (N + 1) b (Nat.ne_of_lt (Nat.lt_of_lt_of_le hb (Nat.le_add_right _ _))) u2.toArray) (drawsK k3 (A := X.A.in1) hh (N + 2) c (Nat.ne_of_lt (Nat.lt_of_lt_of_le hc (Nat.le_add_right _ _))) u3.toArray)
    have en : min (min u1.toArray.size u2.toArray.size) u3.toArray.size = min (min xs.length ys.length) zs.length := by simp [v1.length, v2.length, v3.length]
    rw [en] at W
    refine ⟨_, _, _, _, W, ?_, fun i st => ?_, fun i h' st => ?_, fun i h v h' hi hY => ?_⟩
    · intro q hq
      simp only [List.mem_cons, List.not_mem_nil, or_false] at hq ⊢
      rcases hq with e | e | e | e | e <;> simp [e]
    · obtain ⟨hz, hTI, hTO, h1, h2, h3⟩ := st
      exact ⟨hz, hTI, hTO, ⟨h1, q1⟩, ⟨h2, q2⟩, ⟨h3, q3⟩⟩
    · obtain ⟨hz, hTI, hTO, h1, h2, h3⟩ := st
      exact ⟨hz, hTI, hTO, h1.1, h2.1, h3.1⟩
    · obtain ⟨t, x, y, u, rfl, hn, hx, hy, hu, ht⟩ := hY
      have g1 : xs[i]? = some (xs[i]?.getD .non) := by rw [List.getElem?_eq_getElem (by omega : i < xs.length)]; rfl
      have g2 : ys[i]? = some (ys[i]?.getD .non) := by rw [List.getElem?_eq_getElem (by omega : i < ys.length)]; rfl
      have g3 : zs[i]? = some (zs[i]?.getD .non) := by rw [List.getElem?_eq_getElem (by omega : i < zs.length)]; rfl
      exact ⟨t, [x, y, u], rfl, hn, .cons (vals_at v1 g1 hx) (.cons (vals_at v2 g2 hy) (.cons (vals_at v3 g3 hu) .nil)), ht⟩
theorem turn_zip2 {P : Program} {w : World} {K : PySem.W.Frag} {elts : List Expr} {kk : Nat} {tpos : Pos} {k1 k2 : Bool} {N : Nat} {a b : Addr} {xs ys : List V} (ha : a < N) (hb : b < N) :
    Turn P w K (.Tuple elts kk tpos) (Jt (min xs.length ys.length) (rowAt [xs, ys]) fun H => SqK k1 K H a xs ∧ SqK k2 K H b ys) [N + 4, N + 2, N + 3, N, N + 1] (N + 4) (tn2 k1 k2 (N + 4) (N + 2) (N + 3) N (N + 1) a b) := by
  refine turn_of (by simp) (fun i h st q hq => ?_) (fun i h h' st kp => ?_) (fun i => by show 2 ≤ sizeLine; decide) (fun X pins σ H s hP hw hK hcm J sd fr => ?_) (fun A i s Q E st q => wpAny_pyIter_zip st.1 q)
  · obtain ⟨hz, hTI, ⟨x, y, hTO⟩, h1, h2⟩ := st
    simp only [List.mem_cons, List.not_mem_nil, or_false] at hq
    rcases hq with rfl | rfl | rfl | rfl | rfl
    · exact ⟨_, hz, fun v z => nomatch z⟩
    · exact ⟨_, hTI, fun v z => nomatch z⟩
    · exact ⟨_, hTO, fun v z => nomatch z⟩
    · exact itK_obj h1
    · exact itK_obj h2
  · obtain ⟨hz, hTI, ⟨x, y, hTO⟩, h1, h2⟩ := st
    exact ⟨kp _ (by simp) _ hz, kp _ (by simp) _ hTI, ⟨x, y, kp _ (by simp) _ hTO⟩, itK_at h1 (kp _ (by simp)), itK_at h2 (kp _ (by simp))⟩
  · subst hP hw hK
    obtain ⟨s1, s2⟩ := sd
    obtain ⟨u1, v1, q1, _⟩ := inv_K J s1
    obtain ⟨u2, v2, q2, _⟩ := inv_K J s2
    have hh := J.ok.hd hcm
    have fst : ∀ d, d < N → ∀ e ∈ [d], e < N := fun d hd e he => by simp at he; omega
    have W := GoesN.zip2 (prog := X.prog) (w := X.w) (A := X.A) (elts := elts) (x1 := kk) (pos := tpos) (zip_sep2 (N := N) (fst a ha) (fst b hb)) (drawsK k1 (A := X.A.in1) hh N a (Nat.ne_of_lt ha) u1.toArray) (drawsK k2 (A := X.A.in1) hh (N + 1) b (Nat.ne_of_lt (Nat.lt_of_lt_of_le hb (Nat.le_add_right _ _))) u2.toArray)
    have en : min u1.toArray.size u2.toArray.size = min xs.length ys.length := by simp [v1.length, v2.length]
    rw [en] at W
    refine ⟨_, _, _, _, W, ?_, fun i st => ?_, fun i h' st => ?_, fun i h v h' hi hY => ?_⟩
    · intro q hq
      simp only [List.mem_cons, List.not_mem_nil, or_false] at hq ⊢
      rcases hq with e | e | e | e <;> simp [e]
    · obtain ⟨hz, hTI, hTO, h1, h2⟩ := st
      exact ⟨hz, hTI, hTO, ⟨h1, q1⟩, ⟨h2, q2⟩⟩
    · obtain ⟨hz, hTI, hTO, h1, h2⟩ := st
      exact ⟨hz, hTI, hTO, h1.1, h2.1⟩
    · obtain ⟨t, x, y, rfl, hn, hx, hy, ht⟩ := hY
      have g1 : xs[i]? = some (xs[i]?.getD .non) := by rw [List.getElem?_eq_getElem (by omega : i < xs.length)]; rfl
      have g2 : ys[i]? = some (ys[i]?.getD .non) := by rw [List.getElem?_eq_getElem (by omega : i < ys.length)]; rfl
      exact ⟨t, [x, y], rfl, hn, .cons (vals_at v1 g1 hx) (.cons (vals_at v2 g2 hy) .nil), ht⟩
/-- the walked things as they begin -/
def iZ3 (K : PySem.W.Frag) (ta : TA) : TI := fun σ H R => ta σ H fun vs H1 => ∃ k1 k2 k3 a b c xs ys zs, vs = [.ref a, .ref b, .ref c] ∧ SqK k1 K H1 a xs ∧ SqK k2 K H1 b ys ∧ SqK k3 K H1 c zs ∧
  R (Jt (min (min xs.length ys.length) zs.length) (rowAt [xs, ys, zs]) fun H => SqK k1 K H a xs ∧ SqK k2 K H b ys ∧ SqK k3 K H c zs) H1
def iZ2 (K : PySem.W.Frag) (ta : TA) : TI := fun σ H R => ta σ H fun vs H1 => ∃ k1 k2 a b xs ys, vs = [.ref a, .ref b] ∧ SqK k1 K H1 a xs ∧ SqK k2 K H1 b ys ∧
  R (Jt (min xs.length ys.length) (rowAt [xs, ys]) fun H => SqK k1 K H a xs ∧ SqK k2 K H b ys) H1
theorem pi_z3 {X : Cx} {e e2 e3 : Expr} {ta : TA} {p pos tpos : Pos} {elts : List Expr} {kk : Nat} (hg : Gl X "zip") (hm : X.mg "zip" = none) (ha : PA X [e, e2, e3] ta)
    (hs : starEach [e, e2, e3] X.env = (false, eval e X.env) :: starEach [e2, e3] X.env) (hpl : (backTo pos (starEach [e2, e3] X.env)).any (·.1) = false) :
    PI X (.Tuple elts kk tpos) (.Call (.Name "zip" p) [e, e2, e3] [] pos) (iZ3 X.K ta) := by
  refine ⟨fun pins s σ H Q J h => ?_⟩
  refine PyProof.Rows.Call_ (ld_blt J hg hm PyProof.Rows.boot_zip (PyProof.Rows.callWith_type1 (thn (ha.run pos pins s σ H _ J h) fun us s1 ⟨vs, H1, J1, r1, q1⟩ => ?_) hs hpl))
  obtain ⟨k1, k2, k3, a, b, c, xs, ys, zs, rfl, w1, w2, w3, q⟩ := q1
  cases r1 with | cons r r' =>
  cases r' with | cons r2 r' =>
  cases r' with | cons r3 r' =>
  cases r'; cases r; cases r2; cases r3
  obtain ⟨u1, v1, p1, t1⟩ := inv_K J1 w1
  obtain ⟨u2, v2, p2, t2⟩ := inv_K J1 w2
  obtain ⟨u3, v3, p3, t3⟩ := inv_K J1 w3
  refine zip_begins3 (beginsK k1 a u1.toArray) (beginsK k2 b u2.toArray) (beginsK k3 c u3.toArray) p1 p2 p3 fun h' hz hTI hTO o1 o2 o3 hsz hk => wpAny_pyIter_zip hz ?_
  have J2 : Inv X pins σ H1 { s1 with heap := h' } := J1.kept (t' := s1.toks) hk
  refine ⟨s1.heap.objs.size + 5, _, _, _, H1, rfl, J2, turn_zip3 (N := s1.heap.objs.size) t1 t2 t3, ⟨hz, hTI, ⟨_, _, _, hTO⟩, itK_new o1, itK_new o2, itK_new o3⟩, fp_ok J1 (fun q hq => ?_), q⟩
  simp only [List.mem_cons, List.not_mem_nil, or_false] at hq
  rcases hq with e | e | e | e | e | e <;> rw [e] <;> first | exact Nat.le_add_right _ _ | exact Nat.le_refl _
theorem pi_z2 {X : Cx} {e e2 : Expr} {ta : TA} {p pos tpos : Pos} {elts : List Expr} {kk : Nat} (hg : Gl X "zip") (hm : X.mg "zip" = none) (ha : PA X [e, e2] ta)
    (hs : starEach [e, e2] X.env = (false, eval e X.env) :: starEach [e2] X.env) (hpl : (backTo pos (starEach [e2] X.env)).any (·.1) = false) :
    PI X (.Tuple elts kk tpos) (.Call (.Name "zip" p) [e, e2] [] pos) (iZ2 X.K ta) := by
  refine ⟨fun pins s σ H Q J h => ?_⟩
  refine PyProof.Rows.Call_ (ld_blt J hg hm PyProof.Rows.boot_zip (PyProof.Rows.callWith_type1 (thn (ha.run pos pins s σ H _ J h) fun us s1 ⟨vs, H1, J1, r1, q1⟩ => ?_) hs hpl))
  obtain ⟨k1, k2, a, b, xs, ys, rfl, w1, w2, q⟩ := q1
  cases r1 with | cons r r' =>
  cases r' with | cons r2 r' =>
  cases r'; cases r; cases r2
  obtain ⟨u1, v1, p1, t1⟩ := inv_K J1 w1
  obtain ⟨u2, v2, p2, t2⟩ := inv_K J1 w2
  refine zip_begins2 (beginsK k1 a u1.toArray) (beginsK k2 b u2.toArray) p1 p2 fun h' hz hTI hTO o1 o2 hsz hk => wpAny_pyIter_zip hz ?_
  have J2 : Inv X pins σ H1 { s1 with heap := h' } := J1.kept (t' := s1.toks) hk
  refine ⟨s1.heap.objs.size + 4, _, _, _, H1, rfl, J2, turn_zip2 (N := s1.heap.objs.size) t1 t2, ⟨hz, hTI, ⟨_, _, hTO⟩, itK_new o1, itK_new o2⟩, fp_ok J1 (fun q hq => ?_), q⟩
  simp only [List.mem_cons, List.not_mem_nil, or_false] at hq
  rcases hq with e | e | e | e | e <;> rw [e] <;> first | exact Nat.le_add_right _ _ | exact Nat.le_refl _
/-- frozen lists and tuples -/
def frzOf (d : D) : Option (List D) := match d with
  | .tup ds => some ds
  | .lst ds => some ds
  | _ => none
theorem frz_of {K : PySem.W.Frag} {cl : Str → Option Addr} {W : Wd} {x : V} {d : D} {ds : List D} (h : Rep K cl W x d) (e : frzOf d = some ds) : ∃ k a vs, x = .ref a ∧ SqK k K W.G a vs ∧ Reps K cl W vs ds := by
  cases h <;> first | (cases e; done) | skip
  · rename_i hq t
    cases e
    exact ⟨true, _, _, rfl, hq, t⟩
  · rename_i hq t
    cases e
    exact ⟨false, _, _, rfl, SqL.of hq, t⟩
def zipRow (ls : List (List D)) (i : Nat) : D := .tup (ls.map fun xs => xs[i]?.getD .non)
theorem row_rep {K : PySem.W.Frag} {cl : Str → Option Addr} {W : Wd} {i : Nat} {xs : List V} {ds : List D} (t : Reps K cl W xs ds) (h : i < ds.length) : Rep K cl W (xs[i]?.getD .non) (ds[i]?.getD .non) := by
  obtain ⟨v, h1, h2⟩ := t.at (List.getElem?_eq_getElem h)
  rw [h1, List.getElem?_eq_getElem h]
  exact h2
def zip3 (as : List D) (S : Store) : Res Itb := match as with
  | [a, b, c] => (match frzOf a, frzOf b, frzOf c with
    | some x, some y, some z => .ok ⟨(List.range (min (min x.length y.length) z.length)).map (zipRow [x, y, z]), none⟩ S
    | _, _, _ => .stk)
  | _ => .stk
def zip2 (as : List D) (S : Store) : Res Itb := match as with
  | [a, b] => (match frzOf a, frzOf b with
    | some x, some y => .ok ⟨(List.range (min x.length y.length)).map (zipRow [x, y]), none⟩ S
    | _, _ => .stk)
  | _ => .stk
theorem its_row {K : PySem.W.Frag} {cl : Str → Option Addr} {W0 : Wd} {n : Nat} {row : Nat → List V} {Sd : Hp → Prop} {f : Nat → List D} (hs : ∀ W H S, Ls W0 W → R K cl W H S → Sd H) (hr : ∀ i, i < n → Reps K cl W0 (row i) (f i)) :
    ItS K cl W0 (Jt n row Sd) ⟨(List.range n).map fun i => .tup (f i), none⟩ := fun W H S l r g => by
  refine ⟨fun i d e => ?_, ?_⟩
  · have e : ((List.range n).map fun i => D.tup (f i))[i]? = some d := e
    rw [List.getElem?_map] at e
    cases q : (List.range n)[i]? with
    | none => rw [q] at e; cases e
    | some j =>
      rw [q] at e
      cases e
      have hi : i < n := by have := (List.getElem?_eq_some_iff.mp q).1; simpa using this
      have hj : j = i := by rw [List.getElem?_range hi] at q; exact (Option.some.inj q).symm
      subst hj
      refine ⟨⟨hi, hs W H S l r⟩, fun x H' ⟨a, ex, ha, eH⟩ => ?_⟩
      subst ex eH
      obtain ⟨r2, l2⟩ := r.fz (o := .tup (row j)) ha
      exact ⟨_, l2, r2, .tup (SqT.of upd_same) (((hr j hi).ups l).up l2)⟩
  · show _ = n ∧ Sd H
    exact ⟨by simp, hs W H S l r⟩
section
variable {X : Cx} {cl : Str → Option Addr} {E : WX} {e e2 e3 : Expr} {ms : M (List D)} {p pos tpos : Pos} {elts : List Expr} {kk : Nat}
theorem i_zip3 (hm : X.mg "zip" = none) (ha : PA X [e, e2, e3] (TL X.K cl E ms)) (hg : Gl X "zip" := by rfl)
    (hs : starEach [e, e2, e3] X.env = (false, eval e X.env) :: starEach [e2, e3] X.env := by rfl) (hpl : (backTo pos (starEach [e2, e3] X.env)).any (·.1) = false := by rfl) :
    PI X (.Tuple elts kk tpos) (.Call (.Name "zip" p) [e, e2, e3] [] pos) (TIt X.K cl E (mRng zip3 ms)) :=
  pi_imp (pi_z3 hg hm ha hs hpl) fun σ H Q ⟨W, ρ, S, hr, he, q⟩ => step hr he q fun W1 H1 x dx S1 l1 r1 e1 rx p1 => by
    unfold zip3 at p1
    split at p1
    · cases rx with | cons ra rn =>
      cases rn with | cons rb rn =>
      cases rn with | cons rc rn =>
      cases rn
      split at p1
      · rename_i x y z ea eb ec
        obtain ⟨k1, a, xs, rfl, s1, t1⟩ := frz_of ra ea
        obtain ⟨k2, b, ys, rfl, s2, t2⟩ := frz_of rb eb
        obtain ⟨k3, c, zs, rfl, s3, t3⟩ := frz_of rc ec
        refine ⟨k1, k2, k3, a, b, c, xs, ys, zs, rfl, sqK_up r1.sub s1, sqK_up r1.sub s2, sqK_up r1.sub s3, p1.now r1 ?_⟩
        rw [t1.len, t2.len, t3.len]
        refine its_row (fun W H S l r => ⟨sqK_up r.sub (sqK_up l.g s1), sqK_up r.sub (sqK_up l.g s2), sqK_up r.sub (sqK_up l.g s3)⟩) fun i hi => ?_
        exact .cons (row_rep t1 (by omega)) (.cons (row_rep t2 (by omega)) (.cons (row_rep t3 (by omega)) .nil))
      · exact p1.elim
    · exact p1.elim
theorem i_zip2 (hm : X.mg "zip" = none) (ha : PA X [e, e2] (TL X.K cl E ms)) (hg : Gl X "zip" := by rfl)
    (hs : starEach [e, e2] X.env = (false, eval e X.env) :: starEach [e2] X.env := by rfl) (hpl : (backTo pos (starEach [e2] X.env)).any (·.1) = false := by rfl) :
    PI X (.Tuple elts kk tpos) (.Call (.Name "zip" p) [e, e2] [] pos) (TIt X.K cl E (mRng zip2 ms)) :=
  pi_imp (pi_z2 hg hm ha hs hpl) fun σ H Q ⟨W, ρ, S, hr, he, q⟩ => step hr he q fun W1 H1 x dx S1 l1 r1 e1 rx p1 => by
    unfold zip2 at p1
    split at p1
    · cases rx with | cons ra rn =>
      cases rn with | cons rb rn =>
      cases rn
      split at p1
      · rename_i x y ea eb
        obtain ⟨k1, a, xs, rfl, s1, t1⟩ := frz_of ra ea
        obtain ⟨k2, b, ys, rfl, s2, t2⟩ := frz_of rb eb
        refine ⟨k1, k2, a, b, xs, ys, rfl, sqK_up r1.sub s1, sqK_up r1.sub s2, p1.now r1 ?_⟩
        rw [t1.len, t2.len]
        refine its_row (fun W H S l r => ⟨sqK_up r.sub (sqK_up l.g s1), sqK_up r.sub (sqK_up l.g s2)⟩) fun i hi => ?_
        exact .cons (row_rep t1 (by omega)) (.cons (row_rep t2 (by omega)) .nil)
      · exact p1.elim
    · exact p1.elim
end
end G
/-! running the semantics by simp: from the left, never under a continuation -/
namespace G
open PySem L2
def oB (o : Out) (f : Sl → Store → Out) : Out := match o with
  | .nx ρ S => f ρ S
  | o => o
def fB (o : Out) (f : Sl → Store → Out) : Out := match o with
  | .nx ρ S => f ρ S
  | .ct ρ S => f ρ S
  | .bk ρ S => .nx ρ S
  | .rt d S => .rt d S
  | .exc x ρ S => .exc x ρ S
  | .stk => .stk
def rB (o : Out) : Res D := match o with
  | .nx _ S => .ok .non S
  | .rt d S => .ok d S
  | .exc x _ S => .exc x S
  | .bk _ _ => .stk
  | .ct _ _ => .stk
  | .stk => .stk
def vO (o : Option (Option D)) (S : Store) : Res D := match o with
  | some (some d) => .ok d S
  | _ => .stk
def pO (o : Option Sl) (S : Store) : Out := match o with
  | some ρ => .nx ρ S
  | none => .stk
def qO (o : Option Store) (ρ : Sl) : Out := match o with
  | some S => .nx ρ S
  | none => .stk
def gO (o : Option (Option D)) (f : D → Out) : Out := match o with
  | some (some d) => f d
  | _ => .stk
def prO (d : D) (S : Store) : Res (Option Int) := match d with
  | .int i => .ok (some i) S
  | _ => .stk
/-! the continuations, by name -/
section
variable (ρ : Sl)
def kOp (g : D → D → Store → Res D) (b : M D) (x : D) (S : Store) : Res D := (b ρ S).bind (g x)
def kC (x : D) (y : List D) (S : Store) : Res (List D) := .ok (x :: y) S
def kCons (b : M (List D)) (x : D) (S : Store) : Res (List D) := (b ρ S).bind (kC x)
def kIte (a b : M D) (k : Bool) (S : Store) : Res D := if k = true then a ρ S else b ρ S
def kAnd (b : M Bool) (k : Bool) (S : Store) : Res Bool := if k = true then b ρ S else .ok false S
def kOr (b : M Bool) (k : Bool) (S : Store) : Res Bool := if k = true then .ok true S else b ρ S
def kNot (k : Bool) (S : Store) : Res Bool := .ok (!k) S
def kAndV2 (b : M D) (x : D) (k : Bool) (S : Store) : Res D := if k = true then b ρ S else .ok x S
def kAndV (b : M D) (x : D) (S : Store) : Res D := (truD x S).bind (kAndV2 ρ b x)
def kOrV2 (b : M D) (x : D) (k : Bool) (S : Store) : Res D := if k = true then .ok x S else b ρ S
def kOrV (b : M D) (x : D) (S : Store) : Res D := (truD x S).bind (kOrV2 ρ b x)
def kNotV2 (k : Bool) (S : Store) : Res D := .ok (.bl (!k)) S
def kNotV (x : D) (S : Store) : Res D := (truD x S).bind kNotV2
def kCh4 (g' : D → D → Store → Res D) (c : M D) (y : D) (k : Bool) (S : Store) : Res D := if k = true then (c ρ S).bind (g' y) else .ok (.bl false) S
def kCh3 (g' : D → D → Store → Res D) (c : M D) (y z : D) (S : Store) : Res D := (asB z S).bind (kCh4 ρ g' c y)
def kCh2 (g g' : D → D → Store → Res D) (c : M D) (x y : D) (S : Store) : Res D := (g x y S).bind (kCh3 ρ g' c y)
def kCh (g g' : D → D → Store → Res D) (b c : M D) (x : D) (S : Store) : Res D := (b ρ S).bind (kCh2 ρ g g' c x)
def kSl2 (g : D → Option Int → Option Int → Store → Res D) (h : M (Option Int)) (x : D) (lo : Option Int) (S : Store) : Res D := (h ρ S).bind (g x lo)
def kSl (g : D → Option Int → Option Int → Store → Res D) (l h : M (Option Int)) (x : D) (S : Store) : Res D := (l ρ S).bind (kSl2 ρ g h x)
def kMt (t : String) (g : D → List D → Store → Res D) (a : M (List D)) (x : D) (S : Store) : Res D := if tyD t S x = true then (a ρ S).bind (g x) else .stk
noncomputable def kComp (p : Pt) (t : M Bool) (e : M D) (vs : List Nat) (mk : List D → Store → Res D) (it : Itb) (S : Store) : Res D := (compL it p t e (wipeD ρ vs) it.xs 0 S).bind mk
def kSet (n : Nat) (d : D) (S : Store) : Out := .nx (ρ.set n (some d)) S
def kAsg (p : Pt) (d : D) (S : Store) : Out := pO (p d ρ) S
def kExpr (_ : D) (S : Store) : Out := .nx ρ S
def kIf (a b : MS) (k : Bool) (S : Store) : Out := if k = true then a ρ S else b ρ S
def kAug2 (n : Nat) (g : D → D → Store → Res D) (x y : D) (S : Store) : Out := sB (g x y S) ρ (kSet ρ n)
def kAug (n : Nat) (g : D → D → Store → Res D) (m : M D) (S : Store) (x : D) : Out := sB (m ρ S) ρ (kAug2 ρ n g x)
def kPut3 (v x y : D) (S : Store) : Out := qO (putD x y v S) ρ
def kPut2 (i : M D) (v x : D) (S : Store) : Out := sB (i ρ S) ρ (kPut3 ρ v x)
def kPut (o i : M D) (v : D) (S : Store) : Out := sB (o ρ S) ρ (kPut2 ρ i v)
noncomputable def kFor (p : Pt) (b : MS) (it : Itb) (S : Store) : Out := forL it p b it.xs ρ S
def kWh (c : M Bool) (b : MS) (n : Nat) (k : Bool) (S : Store) : Out := if k = true then fB (b ρ S) (whileF c b n) else .nx ρ S
def kCp3 (x : D) (xs : List D) (S : Store) : Res (List D) := .ok (x :: xs) S
noncomputable def kCp2 (it : Itb) (p : Pt) (t : M Bool) (e : M D) (ds : List D) (n : Nat) (x : D) (S : Store) : Res (List D) := if n < sizeLine then (compL it p t e ρ ds (n + 1) S).bind (kCp3 x) else .stk
noncomputable def kCp (it : Itb) (p : Pt) (t : M Bool) (e : M D) (ds : List D) (n : Nat) (ρ1 : Sl) (k : Bool) (S : Store) : Res (List D) := if k = true then (e ρ1 S).nox.bind (kCp2 ρ it p t e ds n) else compL it p t e ρ ds n S
end
def rtO (d : D) (S : Store) : Out := .rt d S
section
variable {α β : Type} {ρ : Sl} {S S1 : Store} {d x y z : D} {ds es : List D} {i j : Int} {n : Nat}
@[simp] theorem oB_nx {f : Sl → Store → Out} : oB (.nx ρ S) f = f ρ S := nrfl rfl
@[simp] theorem oB_rt {f : Sl → Store → Out} : oB (.rt d S) f = .rt d S := nrfl rfl
@[simp] theorem oB_bk {f : Sl → Store → Out} : oB (.bk ρ S) f = .bk ρ S := nrfl rfl
@[simp] theorem oB_ct {f : Sl → Store → Out} : oB (.ct ρ S) f = .ct ρ S := nrfl rfl
@[simp] theorem oB_exc {f : Sl → Store → Out} {x : Exc} : oB (.exc x ρ S) f = .exc x ρ S := nrfl rfl
@[simp] theorem oB_stk {f : Sl → Store → Out} : oB .stk f = .stk := nrfl rfl
@[simp] theorem fB_nx {f : Sl → Store → Out} : fB (.nx ρ S) f = f ρ S := nrfl rfl
@[simp] theorem fB_ct {f : Sl → Store → Out} : fB (.ct ρ S) f = f ρ S := nrfl rfl
@[simp] theorem fB_bk {f : Sl → Store → Out} : fB (.bk ρ S) f = .nx ρ S := nrfl rfl
@[simp] theorem fB_rt {f : Sl → Store → Out} : fB (.rt d S) f = .rt d S := nrfl rfl
@[simp] theorem fB_exc {f : Sl → Store → Out} {x : Exc} : fB (.exc x ρ S) f = .exc x ρ S := nrfl rfl
@[simp] theorem fB_stk {f : Sl → Store → Out} : fB .stk f = .stk := nrfl rfl
@[simp] theorem rB_nx : rB (.nx ρ S) = .ok .non S := nrfl rfl
@[simp] theorem rB_rt : rB (.rt d S) = .ok d S := nrfl rfl
@[simp] theorem rB_exc {x : Exc} : rB (.exc x ρ S) = .exc x S := nrfl rfl
@[simp] theorem rB_stk : rB .stk = .stk := nrfl rfl
@[simp] theorem vO_some : vO (some (some d)) S = .ok d S := nrfl rfl
@[simp] theorem pO_some : pO (some ρ) S = .nx ρ S := nrfl rfl
@[simp] theorem qO_some : qO (some S) ρ = .nx ρ S := nrfl rfl
@[simp] theorem gO_some {f : D → Out} : gO (some (some d)) f = f d := nrfl rfl
@[simp] theorem prO_int : prO (.int i) S = .ok (some i) S := nrfl rfl
@[simp] theorem rtO_eq : rtO d S = .rt d S := nrfl rfl
@[simp] theorem e_var : mVar n ρ S = vO ρ[n]? S := by
  unfold mVar vO
  rfl
@[simp] theorem e_c : mC d ρ S = .ok d S := nrfl rfl
@[simp] theorem e_op {g : D → D → Store → Res D} {a b : M D} : mOp g a b ρ S = (a ρ S).bind (kOp ρ g b) := nrfl rfl
@[simp] theorem e_op2 {g : D → D → Store → Res D} {b : M D} : kOp ρ g b x S = (b ρ S).bind (g x) := nrfl rfl
@[simp] theorem e_un {g : D → Store → Res D} {a : M D} : mUn g a ρ S = (a ρ S).bind g := nrfl rfl
@[simp] theorem e_nil : mNil ρ S = .ok [] S := nrfl rfl
@[simp] theorem e_cons {a : M D} {b : M (List D)} : mCons a b ρ S = (a ρ S).bind (kCons ρ b) := nrfl rfl
@[simp] theorem e_cons2 {b : M (List D)} : kCons ρ b x S = (b ρ S).bind (kC x) := nrfl rfl
@[simp] theorem e_cons3 : kC x ds S = .ok (x :: ds) S := nrfl rfl
@[simp] theorem e_fn {g : List D → Store → Res D} {a : M (List D)} : mFn g a ρ S = (a ρ S).bind g := nrfl rfl
@[simp] theorem e_ite {c : M Bool} {a b : M D} : mIte c a b ρ S = (c ρ S).bind (kIte ρ a b) := nrfl rfl
@[simp] theorem e_ite2 {a b : M D} {k : Bool} : kIte ρ a b k S = if k = true then a ρ S else b ρ S := nrfl rfl
@[simp] theorem e_asB {b : Bool} : asB (.bl b) S = .ok b S := nrfl rfl
@[simp] theorem e_test {a : M D} : mTest a ρ S = (a ρ S).bind asB := nrfl rfl
@[simp] theorem e_tru {a : M D} : mTru a ρ S = (a ρ S).bind truD := nrfl rfl
@[simp] theorem e_and {a b : M Bool} : mAnd a b ρ S = (a ρ S).bind (kAnd ρ b) := nrfl rfl
@[simp] theorem e_and2 {b : M Bool} {k : Bool} : kAnd ρ b k S = if k = true then b ρ S else .ok false S := nrfl rfl
@[simp] theorem e_or {a b : M Bool} : mOr a b ρ S = (a ρ S).bind (kOr ρ b) := nrfl rfl
@[simp] theorem e_or2 {b : M Bool} {k : Bool} : kOr ρ b k S = if k = true then .ok true S else b ρ S := nrfl rfl
@[simp] theorem e_not {a : M Bool} : mNot a ρ S = (a ρ S).bind kNot := nrfl rfl
@[simp] theorem e_not2 {k : Bool} : kNot k S = .ok (!k) S := nrfl rfl
@[simp] theorem e_andV {a b : M D} : mAndV a b ρ S = (a ρ S).bind (kAndV ρ b) := nrfl rfl
@[simp] theorem e_andV2 {b : M D} : kAndV ρ b x S = (truD x S).bind (kAndV2 ρ b x) := nrfl rfl
@[simp] theorem e_andV3 {b : M D} {k : Bool} : kAndV2 ρ b x k S = if k = true then b ρ S else .ok x S := nrfl rfl
@[simp] theorem e_orV {a b : M D} : mOrV a b ρ S = (a ρ S).bind (kOrV ρ b) := nrfl rfl
@[simp] theorem e_orV2 {b : M D} : kOrV ρ b x S = (truD x S).bind (kOrV2 ρ b x) := nrfl rfl
@[simp] theorem e_orV3 {b : M D} {k : Bool} : kOrV2 ρ b x k S = if k = true then .ok x S else b ρ S := nrfl rfl
@[simp] theorem e_notV {a : M D} : mNotV a ρ S = (a ρ S).bind kNotV := nrfl rfl
@[simp] theorem e_notV2 : kNotV x S = (truD x S).bind kNotV2 := nrfl rfl
@[simp] theorem e_notV3 {k : Bool} : kNotV2 k S = .ok (.bl (!k)) S := nrfl rfl
@[simp] theorem e_chain {g g' : D → D → Store → Res D} {a b c : M D} : mChain g g' a b c ρ S = (a ρ S).bind (kCh ρ g g' b c) := nrfl rfl
@[simp] theorem e_chain2 {g g' : D → D → Store → Res D} {b c : M D} : kCh ρ g g' b c x S = (b ρ S).bind (kCh2 ρ g g' c x) := nrfl rfl
@[simp] theorem e_chain3 {g g' : D → D → Store → Res D} {c : M D} : kCh2 ρ g g' c x y S = (g x y S).bind (kCh3 ρ g' c y) := nrfl rfl
@[simp] theorem e_chain4 {g' : D → D → Store → Res D} {c : M D} : kCh3 ρ g' c y z S = (asB z S).bind (kCh4 ρ g' c y) := nrfl rfl
@[simp] theorem e_chain5 {g' : D → D → Store → Res D} {c : M D} {k : Bool} : kCh4 ρ g' c y k S = if k = true then (c ρ S).bind (g' y) else .ok (.bl false) S := nrfl rfl
@[simp] theorem e_noPart : mNoPart ρ S = .ok none S := nrfl rfl
@[simp] theorem e_part {a : M D} : mPart a ρ S = (a ρ S).bind prO := by
  unfold mPart
  rfl
@[simp] theorem e_sl {g : D → Option Int → Option Int → Store → Res D} {a : M D} {l h : M (Option Int)} : mSl g a l h ρ S = (a ρ S).bind (kSl ρ g l h) := nrfl rfl
@[simp] theorem e_sl2 {g : D → Option Int → Option Int → Store → Res D} {l h : M (Option Int)} : kSl ρ g l h x S = (l ρ S).bind (kSl2 ρ g h x) := nrfl rfl
@[simp] theorem e_sl3 {g : D → Option Int → Option Int → Store → Res D} {h : M (Option Int)} {lo : Option Int} : kSl2 ρ g h x lo S = (h ρ S).bind (g x lo) := nrfl rfl
@[simp] theorem e_mt {t : String} {g : D → List D → Store → Res D} {o : M D} {a : M (List D)} : mMt t g o a ρ S = (o ρ S).bind (kMt ρ t g a) := nrfl rfl
@[simp] theorem e_mt2 {t : String} {g : D → List D → Store → Res D} {a : M (List D)} : kMt ρ t g a x S = if tyD t S x = true then (a ρ S).bind (g x) else .stk := nrfl rfl
@[simp] theorem e_rng {f : List D → Store → Res Itb} {m : M (List D)} : mRng f m ρ S = (m ρ S).bind f := nrfl rfl
@[simp] theorem e_it {m : M D} : mIt m ρ S = (m ρ S).bind itD := nrfl rfl
@[simp] theorem e_yes : mYes ρ S = .ok true S := nrfl rfl
@[simp] theorem e_stk : mStk ρ S = .stk := nrfl rfl
@[simp] theorem e_comp {m : M Itb} {p : Pt} {t : M Bool} {e : M D} {vs : List Nat} {mk : List D → Store → Res D} : mComp m p t e vs mk ρ S = (m ρ S).bind (kComp ρ p t e vs mk) := nrfl rfl
@[simp] theorem e_comp2 {p : Pt} {t : M Bool} {e : M D} {vs : List Nat} {mk : List D → Store → Res D} {it : Itb} : kComp ρ p t e vs mk it S = (compL it p t e (wipeD ρ vs) it.xs 0 S).bind mk := nrfl rfl
@[simp] theorem e_ar {g : List D → Store → Res D} : ar n g ds S = if ds.length = n then g ds S else .stk := nrfl rfl
theorem run_eq {m : MS} : runB n m ds S = rB (m (startD n ds) S) := by
  unfold runB rB
  rfl
@[simp] theorem e_frz : frzD ds S = .ok (.lst ds) S := nrfl rfl
@[simp] theorem e_lv : lvD ds S = .ok (.ref S.length) (S ++ [.lst ds]) := nrfl rfl
/-! statements -/
@[simp] theorem x_pass : sPass ρ S = .nx ρ S := nrfl rfl
@[simp] theorem x_brk : sBrk ρ S = .bk ρ S := nrfl rfl
@[simp] theorem x_ct : sCt ρ S = .ct ρ S := nrfl rfl
@[simp] theorem x_stk : sStk ρ S = .stk := nrfl rfl
@[simp] theorem x_set {m : M D} : sSet n m ρ S = sB (m ρ S) ρ (kSet ρ n) := nrfl rfl
@[simp] theorem x_set2 : kSet ρ n d S = .nx (ρ.set n (some d)) S := nrfl rfl
@[simp] theorem x_asg {p : Pt} {m : M D} : sAsg p m ρ S = sB (m ρ S) ρ (kAsg ρ p) := by
  unfold sAsg
  rfl
@[simp] theorem x_asg2 {p : Pt} : kAsg ρ p d S = pO (p d ρ) S := nrfl rfl
@[simp] theorem x_expr {m : M D} : sExpr m ρ S = sB (m ρ S) ρ (kExpr ρ) := nrfl rfl
@[simp] theorem x_expr2 : kExpr ρ d S = .nx ρ S := nrfl rfl
@[simp] theorem x_ret {m : M D} : sRet m ρ S = sB (m ρ S) ρ rtO := nrfl rfl
@[simp] theorem x_retN : sRetN ρ S = .rt .non S := nrfl rfl
@[simp] theorem x_if {c : M Bool} {a b : MS} : sIf c a b ρ S = sB (c ρ S) ρ (kIf ρ a b) := nrfl rfl
@[simp] theorem x_if2 {a b : MS} {k : Bool} : kIf ρ a b k S = if k = true then a ρ S else b ρ S := nrfl rfl
@[simp] theorem x_seq {a b : MS} : sSeq a b ρ S = oB (a ρ S) b := by
  unfold sSeq oB
  rfl
@[simp] theorem x_aug {g : D → D → Store → Res D} {m : M D} : sAug n g m ρ S = gO ρ[n]? (kAug ρ n g m S) := by
  unfold sAug gO
  rfl
@[simp] theorem x_aug2 {g : D → D → Store → Res D} {m : M D} : kAug ρ n g m S x = sB (m ρ S) ρ (kAug2 ρ n g x) := nrfl rfl
@[simp] theorem x_aug3 {g : D → D → Store → Res D} : kAug2 ρ n g x y S = sB (g x y S) ρ (kSet ρ n) := nrfl rfl
@[simp] theorem x_put {o i e : M D} : sPut o i e ρ S = sB (e ρ S) ρ (kPut ρ o i) := by
  unfold sPut
  rfl
@[simp] theorem x_put2 {o i : M D} : kPut ρ o i d S = sB (o ρ S) ρ (kPut2 ρ i d) := nrfl rfl
@[simp] theorem x_put3 {i : M D} : kPut2 ρ i d x S = sB (i ρ S) ρ (kPut3 ρ d x) := nrfl rfl
@[simp] theorem x_put4 : kPut3 ρ d x y S = qO (putD x y d S) ρ := nrfl rfl
@[simp] theorem x_for {m : M Itb} {p : Pt} {b : MS} : sFor m p b ρ S = sB (m ρ S) ρ (kFor ρ p b) := nrfl rfl
@[simp] theorem x_for2 {p : Pt} {b : MS} {it : Itb} : kFor ρ p b it S = forL it p b it.xs ρ S := nrfl rfl
theorem x_wh {c : M Bool} {b : MS} : whileF c b (n + 1) ρ S = sB (c ρ S) ρ (kWh ρ c b n) := nrfl rfl
@[simp] theorem x_wh2 {c : M Bool} {b : MS} {k : Bool} : kWh ρ c b n k S = if k = true then fB (b ρ S) (whileF c b n) else .nx ρ S := nrfl rfl
@[simp] theorem p_n : ptN n d ρ = some (ρ.set n (some d)) := nrfl rfl
@[simp] theorem p_t {p : List D → Sl → Option Sl} : ptT p (.tup ds) ρ = p ds ρ := nrfl rfl
@[simp] theorem p_nil : psN [] ρ = some ρ := nrfl rfl
@[simp] theorem p_cons {p : Pt} {q : List D → Sl → Option Sl} : psC p q (d :: ds) ρ = (p d ρ).bind (q ds) := by
  show (match p d ρ with | some ρ' => q ds ρ' | none => none) = _
  cases p d ρ <;> rfl
theorem for_nilG {it : Itb} {p : Pt} {b : MS} (hg : Grd it S) : forL it p b [] ρ S = .nx ρ S := by
  unfold forL
  exact if_pos hg
theorem for_consG {it : Itb} {p : Pt} {b : MS} {ρ1 : Sl} (hg : Grd it S) (h : p d ρ = some ρ1) : forL it p b (d :: ds) ρ S = fB (b ρ1 S) (forL it p b ds) := by
  rw [forL.eq_2, if_pos hg, h]
  unfold fB
  rfl
/-- a loop that changes slots alone -/
theorem for_all {it : Itb} {p : Pt} {b : MS} (hg : Grd it S) (Q : Sl → Prop) : ∀ (ds : List D) (ρ : Sl), (∀ d ∈ ds, ∀ ρ, Q ρ → ∃ ρ1 ρ2, p d ρ = some ρ1 ∧ (b ρ1 S = .nx ρ2 S ∨ b ρ1 S = .ct ρ2 S) ∧ Q ρ2) → Q ρ → ∃ ρ', forL it p b ds ρ S = .nx ρ' S ∧ Q ρ' := by
  intro ds
  induction ds with
  | nil => intro ρ _ q; exact ⟨ρ, for_nilG hg, q⟩
  | cons d ds ih =>
    intro ρ h q
    obtain ⟨ρ1, ρ2, hp, hb, q2⟩ := h d (by simp) ρ q
    obtain ⟨ρ3, e3, q3⟩ := ih ρ2 (fun d hd => h d (by simp [hd])) q2
    refine ⟨ρ3, ?_, q3⟩
    rw [for_consG hg hp]
    rcases hb with hb | hb <;> rw [hb]
    · rw [fB_nx, e3]
    · rw [fB_ct, e3]
theorem for_nil {xs : List D} {p : Pt} {b : MS} : forL ⟨xs, none⟩ p b [] ρ S = .nx ρ S := by
  unfold forL
  exact if_pos trivial
theorem for_cons {xs : List D} {p : Pt} {b : MS} {ρ1 : Sl} (h : p d ρ = some ρ1) : forL ⟨xs, none⟩ p b (d :: ds) ρ S = fB (b ρ1 S) (forL ⟨xs, none⟩ p b ds) := by
  rw [forL.eq_2, if_pos (show Grd ⟨xs, none⟩ S from trivial), h]
  unfold fB
  rfl
theorem comp_nil {xs : List D} {p : Pt} {t : M Bool} {e : M D} : compL ⟨xs, none⟩ p t e ρ [] n S = .ok [] S := by
  unfold compL
  exact if_pos trivial
theorem comp_cons {xs : List D} {p : Pt} {t : M Bool} {e : M D} {ρ1 : Sl} (h : p d ρ = some ρ1) : compL ⟨xs, none⟩ p t e ρ (d :: ds) n S = (t ρ1 S).nox.bind (kCp ρ ⟨xs, none⟩ p t e ds n ρ1) := by
  rw [compL.eq_2, if_pos (show Grd ⟨xs, none⟩ S from trivial), h]
  rfl
@[simp] theorem c_cp {it : Itb} {p : Pt} {t : M Bool} {e : M D} {ρ1 : Sl} {k : Bool} : kCp ρ it p t e ds n ρ1 k S = if k = true then (e ρ1 S).nox.bind (kCp2 ρ it p t e ds n) else compL it p t e ρ ds n S := nrfl rfl
@[simp] theorem c_cp2 {it : Itb} {p : Pt} {t : M Bool} {e : M D} : kCp2 ρ it p t e ds n x S = if n < sizeLine then (compL it p t e ρ ds (n + 1) S).bind (kCp3 x) else .stk := nrfl rfl
@[simp] theorem c_cp3 : kCp3 x ds S = .ok (x :: ds) S := nrfl rfl
/-! values -/
@[simp] theorem r_some : ofO (some d) S = .ok d S := nrfl rfl
@[simp] theorem r_bl {b : Bool} : ofB (some b) S = .ok (.bl b) S := nrfl rfl
@[simp] theorem v_ls : lsOf S (.lst ds) = some ds := nrfl rfl
@[simp] theorem v_sq : sqOf S (.tup ds) = some ds := nrfl rfl
@[simp] theorem v_sq' : sqOf S (.lst ds) = some ds := nrfl rfl
@[simp] theorem v_add : addD (.int i) (.int j) S = .ok (.int (i + j)) S := nrfl rfl
@[simp] theorem v_addS {a b : Str} : addD (.str a) (.str b) S = if a.length + b.length ≤ sizeLine then .ok (.str (a ++ b)) S else .stk := nrfl rfl
@[simp] theorem v_addT : addD (.tup ds) (.tup es) S = if ds.length + es.length ≤ sizeLine then .ok (.tup (ds ++ es)) S else .stk := nrfl rfl
@[simp] theorem v_addL : addD (.lst ds) (.lst es) S = if ds.length + es.length ≤ sizeLine then .ok (.lst (ds ++ es)) S else .stk := nrfl rfl
@[simp] theorem v_addI : addI (.int i) (.int j) S = .ok (.int (i + j)) S := nrfl rfl
@[simp] theorem v_sub : subD (.int i) (.int j) S = .ok (.int (i - j)) S := nrfl rfl
@[simp] theorem v_mul : mulD (.int i) (.int j) S = if (sm64 i || sm64 j) = true then .ok (.int (i * j)) S else .stk := nrfl rfl
@[simp] theorem v_mulL : mulD (.lst ds) (.int j) S = if 0 ≤ j ∧ smR j = true ∧ ds.length * j.toNat ≤ sizeLine then .ok (.lst (List.replicate j.toNat ds).flatten) S else .stk := nrfl rfl
@[simp] theorem v_fdiv : fdivD (.int i) (.int j) S = if 0 < j ∧ j.natAbs.log2 < 9000 then .ok (.int (i / j)) S else .stk := nrfl rfl
@[simp] theorem v_mod : modD (.int i) (.int j) S = if 0 < j then .ok (.int (i % j)) S else .stk := nrfl rfl
@[simp] theorem v_pow : powD (.int i) (.int j) S = if 0 ≤ j ∧ j ≤ 1000000 ∧ i.natAbs < 2 ^ 64 then .ok (.int (i ^ j.toNat)) S else .stk := nrfl rfl
@[simp] theorem v_neg : negD (.int i) S = .ok (.int (-i)) S := nrfl rfl
@[simp] theorem v_eq : eqD x y S = ofB (eqB S x y) S := nrfl rfl
@[simp] theorem v_ne : neD x y S = ofB ((eqB S x y).map not) S := nrfl rfl
@[simp] theorem q_int : eqB S (.int i) (.int j) = some (decide (i = j)) := by
  show some (decide (V.int i = V.int j)) = _
  simp
@[simp] theorem q_str {a b : Str} : eqB S (.str a) (.str b) = some (decide (a = b)) := by
  show some (decide (V.str a = V.str b)) = _
  simp
@[simp] theorem q_bl {a b : Bool} : eqB S (.bl a) (.bl b) = some (decide (a = b)) := by
  show some (decide (V.bl a = V.bl b)) = _
  simp
@[simp] theorem q_nn : eqB S .non .non = some true := nrfl rfl
@[simp] theorem q_ni : eqB S .non (.int i) = some false := nrfl rfl
@[simp] theorem q_in : eqB S (.int i) .non = some false := nrfl rfl
@[simp] theorem q_ns {a : Str} : eqB S .non (.str a) = some false := nrfl rfl
@[simp] theorem q_sn {a : Str} : eqB S (.str a) .non = some false := nrfl rfl
@[simp] theorem v_lt : ltD (.int i) (.int j) S = .ok (.bl (decide (i < j))) S := nrfl rfl
@[simp] theorem v_ltS {a b : Str} : ltD (.str a) (.str b) S = .ok (.bl (decide (a.cps.toList < b.cps.toList))) S := nrfl rfl
@[simp] theorem v_le : leD (.int i) (.int j) S = .ok (.bl (decide (i ≤ j))) S := nrfl rfl
@[simp] theorem v_gt : gtD (.int i) (.int j) S = .ok (.bl (decide (j < i))) S := nrfl rfl
@[simp] theorem v_ge : geD (.int i) (.int j) S = .ok (.bl (decide (j ≤ i))) S := nrfl rfl
@[simp] theorem v_isN : isND x .non S = .ok (.bl (isNb x)) S := nrfl (by cases x <;> rfl)
@[simp] theorem v_isB {a b : Bool} : isND (.bl a) (.bl b) S = .ok (.bl (decide (a = b))) S := nrfl rfl
@[simp] theorem v_notB {a b : Bool} : notND (.bl a) (.bl b) S = .ok (.bl (!decide (a = b))) S := nrfl rfl
@[simp] theorem v_notN : notND x .non S = .ok (.bl (!isNb x)) S := nrfl (by cases x <;> rfl)
@[simp] theorem n_non : isNb .non = true := nrfl rfl
@[simp] theorem n_int : isNb (.int i) = false := nrfl rfl
@[simp] theorem n_str {a : Str} : isNb (.str a) = false := nrfl rfl
@[simp] theorem n_bl {a : Bool} : isNb (.bl a) = false := nrfl rfl
@[simp] theorem n_tup : isNb (.tup ds) = false := nrfl rfl
@[simp] theorem n_lst : isNb (.lst ds) = false := nrfl rfl
@[simp] theorem n_ref : isNb (.ref n) = false := nrfl rfl
@[simp] theorem t_bl' {b : Bool} : truD (.bl b) S = .ok b S := nrfl rfl
@[simp] theorem t_non' : truD .non S = .ok false S := nrfl rfl
@[simp] theorem t_int' : truD (.int i) S = .ok (i != 0) S := nrfl rfl
@[simp] theorem t_tup' : truD (.tup ds) S = .ok (!ds.isEmpty) S := nrfl rfl
@[simp] theorem t_lst' : truD (.lst ds) S = .ok (!ds.isEmpty) S := nrfl rfl
@[simp] theorem v_ix : ixD x y S = ofO (ixO S x y) S := nrfl rfl
@[simp] theorem i_tup : ixO S (.tup ds) (.int i) = atI ds i := nrfl rfl
@[simp] theorem i_lst : ixO S (.lst ds) (.int i) = atI ds i := nrfl rfl
@[simp] theorem i_scr {ns : List Int} : ixO S (.scr ns) (.int i) = (atI ns i).map D.int := nrfl rfl
@[simp] theorem i_str {a : Str} : ixO S (.str a) (.int i) = if a.length ≤ sizeLine then (atI a.cps.toList i).map (fun c => .str ⟨#[c]⟩) else none := nrfl rfl
/-- the store by its own names -/
def sg (S : Store) (n : Nat) : Option MO := S[n]?
def sp (S : Store) (n : Nat) (m : MO) : Store := S.set n m
@[simp] theorem sp_len {m : MO} : (sp S n m).length = S.length := List.length_set
@[simp] theorem sg_sp {m : MO} (h : n < S.length) : sg (sp S n m) n = some m := List.getElem?_set_self h
theorem sg_ne {m : MO} {k : Nat} (h : n ≠ k) : sg (sp S n m) k = sg S k := List.getElem?_set_ne h
@[simp] theorem sp_sp {m m' : MO} : sp (sp S n m) n m' = sp S n m' := List.set_set ..
theorem sg_lt {m : MO} (h : sg S n = some m) : n < S.length := (List.getElem?_eq_some_iff.mp h).1
def rI (o : Option MO) (i : Int) : Option D := match o with
  | some (.lst ds) => atI ds i
  | _ => none
@[simp] theorem rI_some : rI (some (.lst ds)) i = atI ds i := nrfl rfl
@[simp] theorem i_ref' : ixO S (.ref n) (.int i) = rI (sg S n) i := by
  show (match lsOf S (.ref n) with | some ds => atI ds i | none => none) = _
  unfold lsOf rI sg
  dsimp only
  cases S[n]? with
  | none => rfl
  | some mo => cases mo <;> rfl
def rP (o : Option MO) (n : Nat) (i : Int) (x : D) (S : Store) : Option Store := match o with
  | some (.lst ds) => (match ixN ds.length i with
    | some k => some (sp S n (.lst (ds.set k x)))
    | none => none)
  | _ => none
theorem rP_some {k : Nat} (hk : ixN ds.length i = some k) : rP (some (.lst ds)) n i x S = some (sp S n (.lst (ds.set k x))) := by
  unfold rP
  simp only [hk]
def tyO (t : String) (o : Option MO) : Bool := match o with
  | some (.lst _) => t == "list"
  | some (.dct _) => t == "dict"
  | _ => false
@[simp] theorem tyO_lst {t : String} : tyO t (some (.lst ds)) = (t == "list") := nrfl rfl
@[simp] theorem ty_ref {t : String} : tyD t S (.ref n) = tyO t (sg S n) := by
  unfold tyD tyO sg
  rfl
@[simp] theorem ty_str {t : String} {a : Str} : tyD t S (.str a) = (t == "str") := nrfl rfl
@[simp] theorem ty_lst {t : String} : tyD t S (.lst ds) = (t == "list") := nrfl rfl
def rA (o : Option MO) (n : Nat) (y : D) (S : Store) : Res D := match o with
  | some (.lst xs) => if xs.length < sizeLine then .ok .non (sp S n (.lst (xs ++ [y]))) else .stk
  | _ => .stk
@[simp] theorem rA_some {xs : List D} : rA (some (.lst xs)) n y S = if xs.length < sizeLine then .ok .non (sp S n (.lst (xs ++ [y]))) else .stk := nrfl rfl
@[simp] theorem app_ref : appD (.ref n) [y] S = rA (sg S n) n y S := by
  unfold appD rA sg sp
  rfl
def rW (o : Option MO) (n : Nat) (S : Store) : Res Itb := match o with
  | some (.lst xs) => .ok ⟨xs, some n⟩ S
  | _ => .stk
@[simp] theorem rW_some {xs : List D} : rW (some (.lst xs)) n S = .ok ⟨xs, some n⟩ S := nrfl rfl
@[simp] theorem w_ref' : itD (.ref n) S = rW (sg S n) n S := by
  unfold itD rW sg
  rfl
@[simp] theorem put_ref' : putD (.ref n) (.int i) x S = rP (sg S n) n i x S := by
  unfold putD rP sg sp
  rfl
theorem i_ref (h : S[n]? = some (.lst ds)) : ixO S (.ref n) (.int i) = atI ds i := by
  show (match lsOf S (.ref n) with | some ds => atI ds i | none => none) = _
  unfold lsOf
  simp only [h]
theorem put_ref (h : S[n]? = some (.lst ds)) {k : Nat} (hk : ixN ds.length i = some k) : putD (.ref n) (.int i) x S = some (S.set n (.lst (ds.set k x))) := by
  unfold putD
  simp only [h, hk]
@[simp] theorem v_sl {lo hi : Option Int} : slD (.tup ds) lo hi S = .ok (.tup (cutD ds lo hi)) S := nrfl rfl
@[simp] theorem v_len : lenD [x] S = ofO ((lenO S x).map fun n => .int n) S := nrfl rfl
@[simp] theorem l_tup : lenO S (.tup ds) = some ds.length := nrfl rfl
@[simp] theorem l_lst : lenO S (.lst ds) = some ds.length := nrfl rfl
@[simp] theorem l_scr {ns : List Int} : lenO S (.scr ns) = some ns.length := nrfl rfl
@[simp] theorem l_str {a : Str} : lenO S (.str a) = if a.length ≤ sizeLine then some a.length else none := nrfl rfl
theorem l_ref (h : S[n]? = some (.lst ds)) : lenO S (.ref n) = some ds.length := by
  show (match lsOf S (.ref n) with | some ds => some ds.length | none => none) = _
  unfold lsOf
  simp only [h]
@[simp] theorem v_int : intD [.int i] S = .ok (.int i) S := nrfl rfl
@[simp] theorem v_bool {b : Bool} : boolD [.bl b] S = .ok (.bl b) S := nrfl rfl
@[simp] theorem v_tupleL : tupleD [.lst ds] S = .ok (.tup ds) S := nrfl rfl
@[simp] theorem v_tupleT : tupleD [.tup ds] S = .ok (.tup ds) S := nrfl rfl
@[simp] theorem v_listL : listD [.lst ds] S = .ok (.lst ds) S := nrfl rfl
@[simp] theorem v_listT : listD [.tup ds] S = .ok (.lst ds) S := nrfl rfl
@[simp] theorem v_tupD : tupD ds S = if ds.length ≤ sizeLine then .ok (.tup ds) S else .stk := nrfl rfl
@[simp] theorem v_lstD : lstD ds S = if ds.length ≤ sizeLine then .ok (.lst ds) S else .stk := nrfl rfl
@[simp] theorem v_lstL : lstL ds S = if ds.length ≤ sizeLine then .ok (.ref S.length) (S ++ [.lst ds]) else .stk := nrfl rfl
@[simp] theorem w_tup : itD (.tup ds) S = .ok ⟨ds, none⟩ S := nrfl rfl
@[simp] theorem w_lst : itD (.lst ds) S = .ok ⟨ds, none⟩ S := nrfl rfl
theorem w_ref (h : S[n]? = some (.lst ds)) : itD (.ref n) S = .ok ⟨ds, some n⟩ S := by
  unfold itD
  simp only [h]
@[simp] theorem w_str {a : Str} : itD (.str a) S = .ok ⟨a.cps.toList.map fun c => .str ⟨#[c]⟩, none⟩ S := nrfl rfl
@[simp] theorem w_r1 : rng1 [.int i] S = if smR i = true then .ok ⟨(List.range i.toNat).map fun k => .int (k : Nat), none⟩ S else .stk := nrfl rfl
@[simp] theorem w_r2 : rng2 [.int i, .int j] S = if smR i = true ∧ smR j = true then .ok ⟨(List.range (j - i).toNat).map fun k => .int (i + (k : Nat)), none⟩ S else .stk := nrfl rfl
@[simp] theorem w_isi {f : Kd → Bool} : isiD f x S = ofB ((kd S x).map f) S := nrfl rfl
@[simp] theorem k_bl' {b : Bool} : kd S (.bl b) = some .bl := nrfl rfl
@[simp] theorem k_int' : kd S (.int i) = some .int := nrfl rfl
@[simp] theorem k_str' {a : Str} : kd S (.str a) = some .str := nrfl rfl
@[simp] theorem k_non' : kd S .non = some .non := nrfl rfl
@[simp] theorem k_tup' : kd S (.tup ds) = some .tup := nrfl rfl
@[simp] theorem k_lst' : kd S (.lst ds) = some .lst := nrfl rfl
end
end G
namespace G
open PySem L2
/-! ### texts: split, index; range with a step; a new dict; lists joined to a live one -/
theorem strs_rep {K : PySem.W.Frag} {cl : Str → Option Addr} {W : Wd} : ∀ ns : List Str, Reps K cl W (ns.map V.str) (ns.map D.str)
  | [] => .nil
  | n :: ns => .cons (.str n) (strs_rep ns)
def splitD (x : D) (ys : List D) (S : Store) : Res D := match x, ys with
  | .str a, [.str b] => if (b.length == 0) = false ∧ a.length + 2 ≤ sizeLine then .ok (.lst ((Txt.split a b).map D.str)) S else .stk
  | _, _ => .stk
theorem split_s {K : PySem.W.Frag} {cl : Str → Option Addr} : MtS K cl (fun x xs H Q => ∃ a b, x = .str a ∧ xs = [.str b] ∧ (b.length == 0) = false ∧ a.length + 2 ≤ sizeLine ∧ rNewStrs (Txt.split a b) H Q) splitD := by
  intro W H S x a y b Q E r rx ry p
  unfold splitD at p
  split at p
  · cases rx
    cases ry with | cons ry rn =>
    cases rn; cases ry
    split at p
    · rename_i hz
      exact ⟨_, _, rfl, rfl, hz.1, hz.2, newL r (strs_rep _) p⟩
    · exact p.elim
  · exact p.elim
def indexD (x : D) (ys : List D) (S : Store) : Res D := match x, ys with
  | .str a, [.str b] => (match Builtin.Str.occurrences a b 0 a.length 1 with
    | i :: _ => .ok (.int (i : Nat)) S
    | [] => .stk)
  | _, _ => .stk
theorem index_s {K : PySem.W.Frag} {cl : Str → Option Addr} : MtS K cl (fun x xs H Q => ∃ a b i rest, x = .str a ∧ xs = [.str b] ∧ Builtin.Str.occurrences a b 0 a.length 1 = i :: rest ∧ Q (.int (i : Nat)) H) indexD := by
  intro W H S x a y b Q E r rx ry p
  unfold indexD at p
  split at p
  · cases rx
    cases ry with | cons ry rn =>
    cases rn; cases ry
    split at p
    · rename_i e
      exact ⟨_, _, _, _, rfl, rfl, e, p.now r (.int _)⟩
    · exact p.elim
  · exact p.elim
section
variable {X : Cx} {tg : Expr} {cl : Str → Option Addr} {E : WX}
def rng3 (as : List D) (S : Store) : Res Itb := match as with
  | [.int a, .int n, .int c] => if c = -1 ∧ smR a = true ∧ smR n = true then .ok ⟨(List.range (a - n).toNat).map fun i => .int (a - (i : Nat)), none⟩ S else .stk
  | _ => .stk
theorem its_rngC {K : PySem.W.Frag} {W0 : Wd} {lo c : Int} {n : Nat} {xs : List D} (hx : xs = (List.range n).map fun i => D.int (lo + (i : Nat) * c)) : ItS K cl W0 (Itc lo c n) ⟨xs, none⟩ := fun W H S l r g => by
  subst hx
  refine ⟨fun i d e => ?_, by show n ≤ _; simp⟩
  have e : ((List.range n).map fun i => D.int (lo + (i : Nat) * c))[i]? = some d := e
  rw [List.getElem?_map] at e
  cases q : (List.range n)[i]? with
  | none => rw [q] at e; cases e
  | some j =>
    rw [q] at e
    cases e
    have hi : i < n := by have := (List.getElem?_eq_some_iff.mp q).1; simpa using this
    have hj : j = i := by rw [List.getElem?_range hi] at q; exact (Option.some.inj q).symm
    subst hj
    refine ⟨hi, fun x H' ⟨eH, ex⟩ => ⟨W, .rf W, eH ▸ r, ?_⟩⟩
    rw [ex]
    exact .int _
theorem i_range3 {e e2 e3 : Expr} {ms : M (List D)} {p pos : Pos} (hm : X.mg "range" = none) (ha : PA X [e, e2, e3] (TL X.K cl E ms)) (hg : Gl X "range" := by rfl) (hs : starEach [e, e2, e3] X.env = (false, eval e X.env) :: starEach [e2, e3] X.env := by rfl)
    (hpl : (backTo pos (starEach [e2, e3] X.env)).any (·.1) = false := by rfl) : PI X tg (.Call (.Name "range" p) [e, e2, e3] [] pos) (TIt X.K cl E (mRng rng3 ms)) :=
  pi_imp (pi_range3 hg hm ha hs hpl) fun σ H Q ⟨W, ρ, S, hr, he, q⟩ => step hr he q fun W1 H1 x dx S1 l1 r1 e1 rx p1 => by
    unfold rng3 at p1
    split at p1
    · rename_i b n c
      cases rx with | cons ra rn =>
      cases rn with | cons rb rn =>
      cases rn with | cons rc rn =>
      cases rn; cases ra; cases rb; cases rc
      split at p1
      · rename_i hz
        obtain ⟨rfl, h1, h2⟩ := hz
        refine ⟨b, n, -1, _, rfl, RgC.neg (smR_of h1).1 (smR_of h1).2 (smR_of h2).1 (smR_of h2).2, p1.now r1 (its_rngC ?_)⟩
        congr 1
        funext i
        congr 1
        omega
      · exact p1.elim
    · exact p1.elim
theorem upd_twice {H : Hp} {a : Addr} {o u : HO} : upd (upd H a o) a u = upd H a u := by
  funext b
  by_cases hb : b = a
  · subst hb; rw [upd_same, upd_same]
  · rw [upd_ne hb, upd_ne hb, upd_ne hb]
/-- a new thing is locked for good -/
theorem pe_frzD {e : Expr} {t : TE} (h : PE X e t) : PE X e (fun σ H Q => t σ H fun x H1 => ∃ d u, x = .ref d ∧ H1 d = some u ∧ Mut (some u) ∧ ∀ od, Q x (upd H1 d (.frz od u))) :=
  ⟨fun pins s σ H Q I hw => thn (h.run pins s σ H _ I hw) fun v s1 ⟨x, H1, I1, r, d, u, _, hd, mu, q⟩ => let ⟨od, I2⟩ := I1.lock hd mu; ⟨x, _, I2, r, q od⟩⟩
theorem t_dict0 {pos : Pos} : PE X (.Dict [] [] pos) (T X.K cl E (mC (.dct []))) :=
  pe_imp (pe_frzD pe_dnewK) fun σ H Q ⟨W, ρ, S, hr, he, q⟩ p hp => ⟨p, .dK [], rfl, upd_same, True.intro, fun od => by
    rw [upd_twice]
    obtain ⟨r2, l2⟩ := hr.fz (o := .frz od (.dK [])) hp
    exact q _ _ _ l2 r2 (.dct upd_same .nil)⟩
end
/-! a tuple of the module -/
def absD : V → Option D
  | .non => some .non
  | .bl b => some (.bl b)
  | .int i => some (.int i)
  | .str s => some (.str s)
  | _ => none
theorem abs_rep {K : PySem.W.Frag} {cl : Str → Option Addr} {W : Wd} {v : V} {d : D} (h : absD v = some d) : Rep K cl W v d := by
  cases v <;> cases h <;> constructor
inductive AbsL : List Value → List D → Prop
  | nil : AbsL [] []
  | cons {u : Value} {d : D} {us : List Value} {ds : List D} : (∃ v, RelV v u ∧ absD v = some d) → AbsL us ds → AbsL (u :: us) (d :: ds)
theorem AbsL.get {K : PySem.W.Frag} {cl : Str → Option Addr} {W : Wd} : ∀ {us : List Value} {ds : List D}, AbsL us ds → ∃ vs, Vals vs us ∧ Reps K cl W vs ds
  | _, _, .nil => ⟨[], .nil, .nil⟩
  | _, _, .cons ⟨v, h1, h2⟩ t => let ⟨vs, q1, q2⟩ := t.get; ⟨v :: vs, .cons h1 q1, .cons (abs_rep h2) q2⟩
theorem AbsL.str {s : Str} {n : Tok} {us : List Value} {ds : List D} (t : AbsL us ds) : AbsL (.str s n :: us) (.str s :: ds) := .cons ⟨.str s, ⟨n, rfl⟩, rfl⟩ t

/-! ### a call that leaves no objects behind: what is answered is frozen, new objects are forgotten -/
mutual
def belD (n : Nat) : D → Bool
  | .tup xs => belL n xs
  | .lst xs => belL n xs
  | .dct xs => belK n xs
  | .ins _ xs => belF n xs
  | .exv _ xs => belF n xs
  | .ref m => decide (m < n)
  | _ => true
def belL (n : Nat) : List D → Bool
  | [] => true
  | d :: ds => belD n d && belL n ds
def belK (n : Nat) : List (Key × D) → Bool
  | [] => true
  | (_, d) :: ds => belD n d && belK n ds
def belF (n : Nat) : List (Str × D) → Bool
  | [] => true
  | (_, d) :: ds => belD n d && belF n ds
end
def belM (n : Nat) : MO → Bool
  | .lst xs => belL n xs
  | .dct xs => belK n xs
  | .ldc xs => belK n xs
  | .ins _ xs => belF n xs
  | .dead => true
def topF (n : Nat) (d : D) (S : Store) : D × Store := match d with
  | .ref m => if n ≤ m then (match S[m]? with
    | some (.lst xs) => (.lst xs, S.set m .dead)
    | _ => (.ref m, S)) else (.ref m, S)
  | d => (d, S)
def clE (n : Nat) (r : Res D) : Res D := match r with
  | .ok d S => if belD n (topF n d S).1 = true ∧ ((topF n d S).2.take n).all (belM n) = true then .ok (topF n d S).1 ((topF n d S).2.take n) else .stk
  | .exc x S => if belF n x.fs = true ∧ (S.take n).all (belM n) = true then .exc x (S.take n) else .stk
  | .stk => .stk
def cln (g : List D → Store → Res D) (ds : List D) (S : Store) : Res D := clE S.length (g ds S)
section
variable {K : PySem.W.Frag} {cl : Str → Option Addr} {W W' : Wd} {H : Hp} {S : Store} {n : Nat}
def Wd.cut (W : Wd) (n : Nat) : Wd := { W with n := n }
mutual
theorem Rep.cut : ∀ {v : V} {d : D}, Rep K cl W v d → belD n d = true → Rep K cl (W.cut n) v d
  | _, _, .non, _ => .non
  | _, _, .bl b, _ => .bl b
  | _, _, .int i, _ => .int i
  | _, _, .str x, _ => .str x
  | _, _, .tup h t, e => .tup h (Reps.cut t e)
  | _, _, .lst h t, e => .lst h (Reps.cut t e)
  | _, _, .scr h, _ => .scr h
  | _, _, .dct h t, e => .dct h (RepK.cut t e)
  | _, _, .ins h c t, e => .ins h c (RepF.cut t e)
  | _, _, .ref (n := m) h, e => .ref (W := W.cut n) (of_decide_eq_true e)
  | _, _, .exv0 h1 h2 h3 h4, _ => .exv0 h1 h2 h3 h4
  | _, _, .exv1 h1 h2 h3 h4 h5 h6 t, e => .exv1 h1 h2 h3 h4 h5 h6 (RepF.cut t e)
theorem Reps.cut : ∀ {v : List V} {d : List D}, Reps K cl W v d → belL n d = true → Reps K cl (W.cut n) v d
  | _, _, .nil, _ => .nil
  | _, _, .cons h t, e => .cons (Rep.cut h (Bool.and_eq_true_iff.mp e).1) (Reps.cut t (Bool.and_eq_true_iff.mp e).2)
theorem RepK.cut : ∀ {v : List (Key × V)} {d : List (Key × D)}, RepK K cl W v d → belK n d = true → RepK K cl (W.cut n) v d
  | _, _, .nil, _ => .nil
  | _, _, .cons h t, e => .cons (Rep.cut h (Bool.and_eq_true_iff.mp e).1) (RepK.cut t (Bool.and_eq_true_iff.mp e).2)
theorem RepF.cut : ∀ {v : List (Str × V)} {d : List (Str × D)}, RepF K cl W v d → belF n d = true → RepF K cl (W.cut n) v d
  | _, _, .nil, _ => .nil
  | _, _, .cons h t, e => .cons (Rep.cut h (Bool.and_eq_true_iff.mp e).1) (RepF.cut t (Bool.and_eq_true_iff.mp e).2)
end
theorem MRep.cut {a : Addr} {mo : MO} (h : MRep K cl W H a mo) (e : belM n mo = true) : MRep K cl (W.cut n) H a mo := by
  cases mo with
  | lst ds => obtain ⟨vs, h1, h2⟩ := h; exact ⟨vs, h1, h2.cut e⟩
  | dct ds => obtain ⟨vs, h1, h2⟩ := h; exact ⟨vs, h1, h2.cut e⟩
  | ldc ds => obtain ⟨o, vs, h1, h2⟩ := h; exact ⟨o, vs, h1, h2.cut e⟩
  | ins c ds => obtain ⟨C, dx, vs, h0, h1, h2⟩ := h; exact ⟨C, dx, vs, h0, h1, h2.cut e⟩
  | dead => trivial
theorem take_some {i : Nat} {mo : MO} (h : (S.take n)[i]? = some mo) : S[i]? = some mo := by
  rw [List.getElem?_take] at h
  split at h
  · exact h
  · cases h
theorem R.cut (r : R K cl W H S) (hn : n ≤ S.length) (hb : (S.take n).all (belM n) = true) : R K cl (W.cut n) H (S.take n) := by
  refine ⟨?_, r.sub, fun i mo h nd => ?_, fun i j m m' h h' nd nd' e => ?_, fun a o h => ?_⟩
  · show n = _
    rw [List.length_take]
    omega
  · obtain ⟨h1, h2⟩ := r.live i mo (take_some h) nd
    exact ⟨h1, h2.cut (List.all_eq_true.mp hb mo (List.mem_of_getElem? h))⟩
  · exact r.inj i j m m' (take_some h) (take_some h') nd nd' e
  · obtain ⟨h1, h2, h3⟩ := r.priv a o h
    exact ⟨h1, h2, fun i mo h nd => h3 i mo (take_some h) nd⟩
theorem Le.cut {W0 : Wd} (l : Le W0 W) : Le W0 (W.cut W0.n) := ⟨l.g, l.i, Nat.le_refl _, l.p⟩
theorem set_live {m i : Nat} {mo : MO} (h : (S.set m .dead)[i]? = some mo) (nd : mo ≠ .dead) : S[i]? = some mo ∧ i ≠ m := by
  by_cases e : m = i
  · subst e
    by_cases hm : m < S.length
    · rw [List.getElem?_set_self hm] at h
      exact absurd (Option.some.inj h).symm nd
    · rw [List.getElem?_eq_none (by simpa using hm)] at h
      cases h
  · rw [List.getElem?_set_ne e] at h
    exact ⟨h, fun q => e q.symm⟩
theorem R.kill (r : R K cl W H S) (m : Nat) : R K cl W H (S.set m .dead) := by
  refine ⟨by simpa using r.n, r.sub, fun i mo h nd => r.live i mo (set_live h nd).1 nd, fun i j m m' h h' nd nd' e => r.inj i j m m' (set_live h nd).1 (set_live h' nd').1 nd nd' e, fun a o h => ?_⟩
  obtain ⟨h1, h2, h3⟩ := r.priv a o h
  exact ⟨h1, h2, fun i mo h nd => h3 i mo (set_live h nd).1 nd⟩
theorem R.freeze {m : Nat} {xs : List D} (r : R K cl W H S) (e : S[m]? = some (.lst xs)) : ∃ W', Le W W' ∧ R K cl W' H (S.set m .dead) ∧ Rep K cl W' (.ref (W.ι m)) (.lst xs) := by
  have nd : MO.lst xs ≠ .dead := by intro z; cases z
  obtain ⟨g0, vs, h1, t⟩ := r.live m _ e nd
  refine ⟨W.fz (W.ι m) (.lst vs), Le.fz g0, (r.kill m).fzAt h1 g0 (fun i mo h ndi q => ?_) ?_, .lst upd_same (t.up (Le.fz g0))⟩
  · obtain ⟨h', hne⟩ := set_live h ndi
    exact hne (r.inj i m mo _ h' e ndi nd q)
  · cases q : W.P (W.ι m) with
    | none => rfl
    | some o => exact absurd rfl ((r.priv _ _ q).2.2 m _ e nd)
theorem top_ok {d : D} {v : V} (r : R K cl W H S) (rv : Rep K cl W v d) : ∃ W', Le W W' ∧ R K cl W' H (topF n d S).2 ∧ Rep K cl W' v (topF n d S).1 := by
  unfold topF
  split
  · rename_i m
    split
    · split
      · rename_i xs e
        cases rv
        exact r.freeze e
      · exact ⟨W, .rf W, r, rv⟩
    · exact ⟨W, .rf W, r, rv⟩
  · exact ⟨W, .rf W, r, rv⟩
theorem top_len {d : D} : (topF n d S).2.length = S.length := by
  unfold topF
  split
  · split
    · split
      · simp
      · rfl
    · rfl
  · rfl
theorem cln_post {g : List D → Store → Res D} {ds : List D} {Q : VK} {E : XK} (r : R K cl W H S) (p : Post K cl (Rep K cl) W (cln g ds S) Q E) : Post K cl (Rep K cl) W (g ds S) Q E := by
  unfold cln at p
  have en := r.n
  cases e : g ds S with
  | stk => rw [e] at p; exact p
  | ok d S1 =>
    rw [e] at p
    unfold clE at p
    dsimp only at p
    split at p
    · rename_i hz
      intro W1 H1 v l1 r1 rv
      obtain ⟨W2, l2, r2, rv2⟩ := top_ok (n := S.length) r1 rv
      have hl : S.length ≤ (topF S.length d S1).2.length := by
        rw [top_len, ← r1.n, ← en]
        exact l1.n
      have q := p (W2.cut S.length) H1 v (by rw [← en]; exact (l1.tr l2).cut) (r2.cut hl hz.2) (rv2.cut hz.1)
      exact q
    · exact p.elim
  | exc x S1 =>
    rw [e] at p
    unfold clE at p
    dsimp only at p
    split at p
    · rename_i hz
      intro W1 H1 c dd l1 r1 rx
      have hl : S.length ≤ S1.length := by
        rw [← r1.n, ← en]
        exact l1.n
      refine p (W1.cut S.length) H1 c dd (by rw [← en]; exact l1.cut) (r1.cut hl hz.2) ?_
      obtain ⟨C, q1, q2, q3⟩ := rx
      refine ⟨C, q1, q2, ?_⟩
      rcases q3 with q3 | ⟨a, vs, q3, q4, qn, q5⟩
      · exact .inl q3
      · exact .inr ⟨a, vs, q3, q4, qn, q5.cut hz.1⟩
    · exact p.elim
end
theorem spOf_cln {K : PySem.W.Frag} {cl : Str → Option Addr} {n : Nat} {g : List D → Store → Res D} {vs : List V} {H : Hp} {Q : VK} {E : XK} (h : spOf K cl n (cln g) vs H Q E) : spOf K cl n g vs H Q E := by
  obtain ⟨W, S, ds, r, t, p⟩ := h
  refine ⟨W, S, ds, r, t, ?_⟩
  unfold ar at p ⊢
  split at p
  · rename_i e
    rw [if_pos e]
    exact cln_post r p
  · exact p.elim
/-- lists joined to a live one -/
def addLv (a b : D) (S : Store) : Res D := match lsOf S a, lsOf S b with
  | some x, some y => if x.length + y.length ≤ sizeLine then .ok (.ref S.length) (S ++ [.lst (x ++ y)]) else .stk
  | _, _ => .stk
theorem addLv_s {K : PySem.W.Frag} {cl : Str → Option Addr} : OpS K cl (rAddA K) addLv := by
  intro W H S x y a b Q E r rx ry p
  unfold addLv at p
  cases e1 : lsOf S a with
  | none => rw [e1] at p; exact p.elim
  | some xs =>
    cases e2 : lsOf S b with
    | none => rw [e1, e2] at p; exact p.elim
    | some ys =>
      rw [e1, e2] at p
      dsimp only at p
      obtain ⟨l1, vs1, rfl, h1, t1⟩ := ls_of r rx e1
      obtain ⟨l2, vs2, rfl, h2, t2⟩ := ls_of r ry e2
      by_cases hz : xs.length + ys.length ≤ sizeLine
      · rw [if_pos hz] at p
        exact .inr (.inr (.inr ⟨_, _, _, _, rfl, rfl, h1, h2, by rw [t1.len, t2.len]; exact hz, newLv r (t1.app t2) p⟩))
      · rw [if_neg hz] at p
        exact p.elim
theorem glob_sc {K : PySem.W.Frag} {cl : Str → Option Addr} {mg : Str → Option Value} {x : Str} {u : Value} {d : D} (h : mg x = some u) (r : ∃ v, RelV v u ∧ absD v = some d) : GlobIs K cl mg x d := by
  obtain ⟨v, h1, h2⟩ := r
  exact ⟨u, v, h, h1, fun W => abs_rep h2⟩
theorem glob_tup {K : PySem.W.Frag} {cl : Str → Option Addr} {mg : Str → Option Value} {x : Str} {p : Addr} {od : Option Addr} {its : Array Value} {n : Nat} {sl : Array (Option Value)} {ds : List D} (h : mg x = some (.ref p))
    (hk : K.lookup p = some ⟨.type "tuple", od, .seq its n, sl⟩) (t : AbsL its.toList ds) (hz : its.size ≤ sizeLine) : GlobIs K cl mg x (.tup ds) := by
  refine ⟨_, .ref p, h, rfl, fun W => ?_⟩
  obtain ⟨vs, h1, h2⟩ := t.get (K := K) (cl := cl) (W := W)
  exact .tup (.inr ⟨_, its, n, hk, rfl, rfl, hz, h1⟩) h2
theorem fn_cln {P : Program} {w : World} {K : PySem.W.Frag} {mg : Str → Option Value} {base : Heap} {cl : Str → Option Addr} {k n : Nat} {f : Addr} {fd : FuncData} {ps : List Str} {g : List D → Store → Res D} (F : FnOk P w K mg base (L2.CX P w) k f fd ps (spOf K cl n g)) :
    FnOk P w K mg base (L2.CX P w) k f fd ps (spOf K cl n (cln g)) := F.imp fun _ _ _ _ h => spOf_cln h
end G
namespace G
open PySem L2
/-! ### plain helps -/
@[simp] theorem v_intB {k : Bool} {S : Store} : intD [.bl k] S = .ok (.int (if k = true then 1 else 0)) S := nrfl rfl
@[simp] theorem v_slL {ds : List D} {S : Store} {lo hi : Option Int} : slD (.lst ds) lo hi S = .ok (.lst (cutD ds lo hi)) S := nrfl rfl
@[simp] theorem v_slS {z : Str} {S : Store} {lo hi : Option Int} : slD (.str z) lo hi S = if z.length ≤ sizeLine then .ok (.str (cutS z lo hi)) S else .stk := nrfl rfl
@[simp] theorem v_slC {ns : List Int} {S : Store} {lo hi : Option Int} : slD (.scr ns) lo hi S = .ok (.lst (cutD (ns.map D.int) lo hi)) S := nrfl rfl
@[simp] theorem v_r3 {i j k : Int} {S : Store} : rng3 [.int i, .int j, .int k] S = if k = -1 ∧ smR i = true ∧ smR j = true then .ok ⟨(List.range (i - j).toNat).map fun k => .int (i - (k : Nat)), none⟩ S else .stk := nrfl rfl
@[simp] theorem v_leS {x y : Str} {S : Store} : leD (.str x) (.str y) S = .ok (.bl (!decide (y.cps.toList < x.cps.toList))) S := nrfl rfl
@[simp] theorem v_addLv {x y : List D} {S : Store} : addLv (.lst x) (.lst y) S = if x.length + y.length ≤ sizeLine then .ok (.ref S.length) (S ++ [.lst (x ++ y)]) else .stk := nrfl rfl
theorem sm_of {i : Int} (h0 : 0 ≤ i) (h1 : i < 4294967296) : sm64 i = true := by
  unfold sm64
  simp
  omega
theorem sm_mod {x : Int} (k : Int) (h0 : 0 < k) (h1 : k < 4294967296) : sm64 (x % k) = true := sm_of (Int.emod_nonneg _ (by omega)) (Int.lt_trans (Int.emod_lt_of_pos _ h0) h1)
theorem sz {n : Nat} (h : n ≤ 100000) : n ≤ sizeLine := Nat.le_trans h (by decide)
theorem szl {n : Nat} (h : n < 100000) : n < sizeLine := Nat.lt_of_lt_of_le h (by decide)
theorem atI_lt {α : Type} {xs : List α} {r : Int} (h0 : 0 ≤ r) (h1 : r < xs.length) : ∃ x, atI xs r = some x ∧ x ∈ xs := by
  obtain ⟨k, rfl⟩ := Int.eq_ofNat_of_zero_le h0
  have hk : k < xs.length := by omega
  exact ⟨xs[k], atI_nat (List.getElem?_eq_getElem hk), List.getElem_mem hk⟩
/-- the store but for the object at n is S0 -/
structure AtP (P : MO → Prop) (n : Nat) (S0 S : Store) : Prop where
  lt : n < S0.length
  ex : ∃ m, P m ∧ S = sp S0 n m
theorem AtP.get {P : MO → Prop} {n : Nat} {S0 S : Store} (h : AtP P n S0 S) : ∃ m, P m ∧ sg S n = some m := by
  obtain ⟨hl, m, hp, rfl⟩ := h
  exact ⟨m, hp, sg_sp hl⟩
theorem AtP.put {P : MO → Prop} {n : Nat} {S0 S : Store} {m : MO} (h : AtP P n S0 S) (hm : P m) : AtP P n S0 (sp S n m) := by
  obtain ⟨hl, m', hp, rfl⟩ := h
  exact ⟨hl, m, hm, by rw [sp_sp]⟩
theorem AtP.len {P : MO → Prop} {n : Nat} {S0 S : Store} (h : AtP P n S0 S) : S.length = S0.length := by
  obtain ⟨hl, m', hp, rfl⟩ := h
  exact sp_len
/-- a comprehension whose element goes on with the state -/
theorem comp_each {all : List D} {p : Pt} {e : M D} {ρ : Sl} (I : Store → Prop) (Q : D → Prop) : ∀ (xs : List D) (k : Nat) (S : Store),
    (∀ d ∈ xs, ∃ ρ1, p d ρ = some ρ1 ∧ ∀ S, I S → ∃ y S', e ρ1 S = .ok y S' ∧ I S' ∧ Q y) → I S → k + xs.length ≤ sizeLine →
    ∃ ys S', compL ⟨all, none⟩ p mYes e ρ xs k S = .ok ys S' ∧ ys.length = xs.length ∧ (∀ y ∈ ys, Q y) ∧ I S' := by
  intro xs
  induction xs with
  | nil => intro k S _ hI _; exact ⟨[], S, comp_nil, rfl, fun y h => (nomatch h), hI⟩
  | cons d xs ih =>
    intro k S h hI hk
    obtain ⟨ρ1, hp, he⟩ := h d (by simp)
    obtain ⟨y, S1, e1, I1, q1⟩ := he S hI
    rw [List.length_cons] at hk
    obtain ⟨ys, S2, e2, l2, q2, I2⟩ := ih (k + 1) S1 (fun d hd => h d (by simp [hd])) I1 (by omega)
    refine ⟨y :: ys, S2, ?_, by simp [l2], fun z hz => ?_, I2⟩
    · rw [comp_cons hp]
      have hk' : k < sizeLine := by omega
      simp [e1, hk', e2]
    · rcases List.mem_cons.mp hz with rfl | hz
      · exact q1
      · exact q2 z hz
/-- a comprehension of a plain function -/
theorem comp_fun {all : List D} {p : Pt} {e : M D} {ρ : Sl} {S : Store} (f : D → D) : ∀ (xs : List D) (k : Nat),
    (∀ d ∈ xs, ∃ ρ1, p d ρ = some ρ1 ∧ e ρ1 S = .ok (f d) S) → k + xs.length ≤ sizeLine →
    compL ⟨all, none⟩ p mYes e ρ xs k S = .ok (xs.map f) S := by
  intro xs
  induction xs with
  | nil => intro k _ _; exact comp_nil
  | cons d xs ih =>
    intro k h hk
    obtain ⟨ρ1, hp, he⟩ := h d (by simp)
    rw [List.length_cons] at hk
    have e2 := ih (k + 1) (fun d hd => h d (by simp [hd])) (by omega)
    rw [comp_cons hp]
    have hk' : k < sizeLine := by omega
    simp [he, hk', e2]
theorem comp_map {α : Type} {all : List D} {p : Pt} {e : M D} {ρ : Sl} {S : Store} (g f : α → D) : ∀ (xs : List α) (k : Nat),
    (∀ d ∈ xs, ∃ ρ1, p (g d) ρ = some ρ1 ∧ e ρ1 S = .ok (f d) S) → k + xs.length ≤ sizeLine →
    compL ⟨all, none⟩ p mYes e ρ (xs.map g) k S = .ok (xs.map f) S := by
  intro xs
  induction xs with
  | nil => intro k _ _; exact comp_nil
  | cons d xs ih =>
    intro k h hk
    obtain ⟨ρ1, hp, he⟩ := h d (by simp)
    rw [List.length_cons] at hk
    have e2 := ih (k + 1) (fun d hd => h d (by simp [hd])) (by omega)
    rw [List.map_cons, comp_cons hp]
    have hk' : k < sizeLine := by omega
    simp [he, hk', e2]
theorem bls_map {α : Type} (f : α → Bool) : ∀ l : List α, blsO (l.map fun x => .bl (f x)) = some (l.map f)
  | [] => rfl
  | x :: l => by
    rw [List.map_cons, List.map_cons]
    unfold blsO
    rw [bls_map f l]
    rfl
theorem all_bl {α : Type} {S : Store} (f : α → Bool) (l : List α) : allD [.lst (l.map fun x => .bl (f x))] S = .ok (.bl (l.all f)) S := by
  show ofO ((blsO (l.map fun x => .bl (f x))).map fun bs => D.bl (bs.all id)) S = _
  rw [bls_map]
  show Res.ok (D.bl ((l.map f).all id)) S = _
  rw [List.all_map]
  rfl
/-- a loop that goes through, with the state -/
theorem for_inv {all : List D} {p : Pt} {b : MS} (I : Sl → Store → Prop) : ∀ (ds : List D) (ρ : Sl) (S : Store),
    (∀ d ∈ ds, ∀ ρ S, I ρ S → ∃ ρ1 ρ2 S2, p d ρ = some ρ1 ∧ (b ρ1 S = .nx ρ2 S2 ∨ b ρ1 S = .ct ρ2 S2) ∧ I ρ2 S2) → I ρ S →
    ∃ ρ' S', forL ⟨all, none⟩ p b ds ρ S = .nx ρ' S' ∧ I ρ' S' := by
  intro ds
  induction ds with
  | nil => intro ρ S _ q; exact ⟨ρ, S, for_nil, q⟩
  | cons d ds ih =>
    intro ρ S h q
    obtain ⟨ρ1, ρ2, S2, hp, hb, q2⟩ := h d (by simp) ρ S q
    obtain ⟨ρ3, S3, e3, q3⟩ := ih ρ2 S2 (fun d hd => h d (by simp [hd])) q2
    refine ⟨ρ3, S3, ?_, q3⟩
    rw [for_cons hp]
    rcases hb with hb | hb <;> rw [hb]
    · rw [fB_nx, e3]
    · rw [fB_ct, e3]
/-- a loop that goes through, counted -/
theorem for_cnt {all : List D} {p : Pt} {b : MS} (N : Nat) (I : Nat → Sl → Store → Prop) : ∀ (ds : List D) (k : Nat) (ρ : Sl) (S : Store), k + ds.length ≤ N →
    (∀ k, k < N → ∀ d ∈ ds, ∀ ρ S, I k ρ S → ∃ ρ1 ρ2 S2, p d ρ = some ρ1 ∧ (b ρ1 S = .nx ρ2 S2 ∨ b ρ1 S = .ct ρ2 S2) ∧ I (k + 1) ρ2 S2) → I k ρ S →
    ∃ ρ' S', forL ⟨all, none⟩ p b ds ρ S = .nx ρ' S' ∧ I (k + ds.length) ρ' S' := by
  intro ds
  induction ds with
  | nil => intro k ρ S _ _ q; exact ⟨ρ, S, for_nil, q⟩
  | cons d ds ih =>
    intro k ρ S hN h q
    rw [List.length_cons] at hN
    obtain ⟨ρ1, ρ2, S2, hp, hb, q2⟩ := h k (by omega) d (by simp) ρ S q
    obtain ⟨ρ3, S3, e3, q3⟩ := ih (k + 1) ρ2 S2 (by omega) (fun k hk d hd => h k hk d (by simp [hd])) q2
    refine ⟨ρ3, S3, ?_, by rw [List.length_cons, Nat.add_comm ds.length 1, ← Nat.add_assoc]; exact q3⟩
    rw [for_cons hp]
    rcases hb with hb | hb <;> rw [hb]
    · rw [fB_nx, e3]
    · rw [fB_ct, e3]
/-- slices, lengths of a live list -/
def rSl (o : Option MO) (lo hi : Option Int) (S : Store) : Res D := match o with
  | some (.lst ds) => .ok (.lst (cutD ds lo hi)) S
  | _ => .stk
@[simp] theorem rSl_some {ds : List D} {lo hi : Option Int} {S : Store} : rSl (some (.lst ds)) lo hi S = .ok (.lst (cutD ds lo hi)) S := nrfl rfl
@[simp] theorem v_slR {n : Nat} {S : Store} {lo hi : Option Int} : slD (.ref n) lo hi S = rSl (sg S n) lo hi S := by
  show (match lsOf S (.ref n) with | some ds => Res.ok (D.lst (cutD ds lo hi)) S | none => Res.stk) = _
  unfold lsOf rSl sg
  dsimp only
  cases S[n]? with
  | none => rfl
  | some mo => cases mo <;> rfl
/-- calls that leave nothing behind -/
theorem cln_ok {g : List D → Store → Res D} {ds : List D} {S S' T : Store} {d d' : D} (e : g ds S = .ok d S') (h1 : topF S.length d S' = (d', T)) (h2 : belD S.length d' = true) (h3 : (T.take S.length).all (belM S.length) = true) :
    cln g ds S = .ok d' (T.take S.length) := by
  unfold cln clE
  rw [e]
  dsimp only
  rw [h1]
  exact if_pos ⟨h2, h3⟩
theorem topF_ref {n m : Nat} {S : Store} {xs : List D} (h : n ≤ m) (e : sg S m = some (.lst xs)) : topF n (.ref m) S = (.lst xs, sp S m .dead) := by
  unfold topF
  dsimp only
  rw [if_pos h, show S[m]? = some (.lst xs) from e]
  rfl
def Wf (S : Store) : Prop := S.all (belM S.length) = true
theorem take_sp {S : Store} {n k : Nat} {m : MO} : (sp S n m).take k = sp (S.take k) n m := List.take_set
theorem take_sp_ge {S : Store} {n k : Nat} {m : MO} (h : k ≤ n) : (sp S n m).take k = S.take k := List.take_set_of_le h
theorem Wf.sp {S : Store} {n : Nat} {m : MO} (h : Wf S) (hm : belM S.length m = true) : Wf (sp S n m) := by
  unfold Wf
  rw [sp_len]
  refine List.all_eq_true.mpr fun x hx => ?_
  rcases List.mem_or_eq_of_mem_set hx with hx | rfl
  · exact List.all_eq_true.mp h x hx
  · exact hm
theorem bel_strs {n : Nat} : ∀ l : List Str, belL n (l.map D.str) = true
  | [] => rfl
  | _ :: l => by
    show (true && belL n (l.map D.str)) = true
    rw [bel_strs l]
    rfl
/-! texts -/
def cs (t : Str) : List Nat := t.cps.toList
def ofC (l : List Nat) : Str := ⟨⟨l⟩⟩
theorem ofC_cs (t : Str) : ofC (cs t) = t := rfl
theorem cs_ofC (l : List Nat) : cs (ofC l) = l := rfl
theorem len_cs (t : Str) : t.length = (cs t).length := rfl
theorem cs_app (x y : Str) : cs (x ++ y) = cs x ++ cs y := by
  show (x.cps ++ y.cps).toList = _
  exact Array.toList_append
theorem str_eq {x y : Str} : x = y ↔ cs x = cs y := ⟨fun h => h ▸ rfl, fun h => by rw [← ofC_cs x, ← ofC_cs y, h]⟩
theorem join_ones (l : List Nat) : cs (Txt.join "" (l.map fun c => (⟨#[c]⟩ : Str))) = l := by
  show (Txt.join "" (l.map fun c => (⟨#[c]⟩ : Str))).cps.toList = l
  rw [TL.join_eq]
  have h := TL.tl_join ("" : Str) (l.map fun c => (⟨#[c]⟩ : Str))
  have e : (TL.tl ("" : Str)) = [] := rfl
  rw [e] at h
  refine h.trans ?_
  clear h e
  induction l with
  | nil => rfl
  | cons c l ih =>
    cases l with
    | nil => rfl
    | cons d l =>
      show [c] ++ ([] ++ TL.joinL [] (List.map TL.tl (List.map (fun c => (⟨#[c]⟩ : Str)) (d :: l)))) = _
      rw [ih]
      rfl
def OneIn (P : Nat → Prop) (d : D) : Prop := ∃ c : Nat, d = .str ⟨#[c]⟩ ∧ P c
theorem ones_sts {P : Nat → Prop} : ∀ {ys : List D}, (∀ y ∈ ys, OneIn P y) → ∃ l : List Nat, stsO ys = some (l.map fun c => (⟨#[c]⟩ : Str)) ∧ l.length = ys.length ∧ ∀ c ∈ l, P c
  | [], _ => ⟨[], rfl, rfl, fun c h => nomatch h⟩
  | y :: ys, h => by
    obtain ⟨c, rfl, hc⟩ := h y (by simp)
    obtain ⟨l, e, hl, hcs⟩ := ones_sts (ys := ys) fun z hz => h z (by simp [hz])
    refine ⟨c :: l, ?_, by simp [hl], fun d hd => ?_⟩
    · unfold stsO
      rw [e]
      rfl
    · rcases List.mem_cons.mp hd with rfl | hd
      · exact hc
      · exact hcs d hd
theorem ones_sum (l : List Nat) : (l.map ((fun x : Str => x.length) ∘ fun c => (⟨#[c]⟩ : Str))).sum = l.length := by
  induction l with
  | nil => rfl
  | cons c l ih => rw [List.map_cons, List.sum_cons, ih]; show 1 + _ = _; rw [List.length_cons]; omega
end G
namespace G
open PySem L2
/-! ### instances -/
def insO (S : Store) (d : D) : Option (Str × List (Str × D)) := match d with
  | .ref n => (match S[n]? with
    | some (.ins c fs) => some (c, fs)
    | _ => none)
  | .ins c fs => some (c, fs)
  | _ => none
section
variable {K : PySem.W.Frag} {cl : Str → Option Addr} {W : Wd} {H : Hp} {S : Store}
theorem ins_of {v : V} {d : D} {c : Str} {fs : List (Str × D)} (r : R K cl W H S) (h : Rep K cl W v d) (e : insO S d = some (c, fs)) : ∃ a C dx vs, v = .ref a ∧ cl c = some C ∧ H a = some (.ins C dx vs) ∧ RepF K cl W vs fs := by
  cases h with
  | ins g q t =>
    cases e
    exact ⟨_, _, _, _, rfl, q, r.sub _ _ g, t⟩
  | @ref n hn =>
    unfold insO at e
    dsimp only at e
    cases q : S[n]? with
    | none => rw [q] at e; cases e
    | some mo =>
      rw [q] at e
      cases mo with
      | ins c' fs' =>
        cases e
        obtain ⟨_, C, dx, vs, h0, h1, h2⟩ := r.live n _ q (by intro z; cases z)
        exact ⟨_, _, _, _, rfl, h0, h1, h2⟩
      | _ => cases e
  | _ => cases e
theorem RepF.get : ∀ {vs : List (Str × V)} {fs : List (Str × D)} {f : Str} {d : D}, RepF K cl W vs fs → fs.lookup f = some d → ∃ v, vs.lookup f = some v ∧ Rep K cl W v d
  | _, _, _, _, .nil, e => by cases e
  | _, _, f, d, .cons (k := k) h t, e => by
    rw [List.lookup_cons] at e ⊢
    cases q : f == k with
    | true =>
      rw [q] at e
      cases e
      exact ⟨_, rfl, h⟩
    | false =>
      rw [q] at e
      exact t.get e
theorem RepF.no : ∀ {vs : List (Str × V)} {fs : List (Str × D)} {f : Str}, RepF K cl W vs fs → fs.lookup f = none → vs.lookup f = none
  | _, _, _, .nil, _ => rfl
  | _, _, f, .cons (k := k) h t, e => by
    rw [List.lookup_cons] at e ⊢
    cases q : f == k with
    | true =>
      rw [q] at e
      cases e
    | false =>
      rw [q] at e
      exact t.no e
theorem RepF.len : ∀ {vs : List (Str × V)} {fs : List (Str × D)}, RepF K cl W vs fs → vs.length = fs.length
  | _, _, .nil => rfl
  | _, _, .cons _ t => by simp [t.len]
end
def putFD (f : Str) (v : D) : List (Str × D) → List (Str × D)
  | [] => [(f, v)]
  | (g, x) :: r => if g = f then (g, v) :: r else (g, x) :: putFD f v r
theorem RepF.put {K : PySem.W.Frag} {cl : Str → Option Addr} {W : Wd} {f : Str} {y : V} {d : D} (hy : Rep K cl W y d) : ∀ {vs : List (Str × V)} {fs : List (Str × D)}, RepF K cl W vs fs → RepF K cl W (putF f y vs) (putFD f d fs)
  | _, _, .nil => .cons hy .nil
  | _, _, .cons (k := k) h t => by
    unfold putF putFD
    by_cases e : k = f
    · rw [if_pos e, if_pos e]
      exact .cons hy t
    · rw [if_neg e, if_neg e]
      exact .cons h (t.put hy)
/-- f is a field of the objects of these classes -/
def AttrOk (K : PySem.W.Frag) (cl : Str → Option Addr) (f : Str) (cs : List Str) : Prop := ∀ c ∈ cs, ∀ C, cl c = some C → Cls K C ∧ NoAttr K C f
def fldD (cs : List Str) (f : Str) (d : D) (S : Store) : Res D := match insO S d with
  | some (c, fs) => if c ∈ cs then ofO (fs.lookup f) S else .stk
  | none => .stk
section
variable {X : Cx} {cl : Str → Option Addr} {E : WX} {e o value : Expr} {m mo mv : M D} {f : Str} {pos pos' : Pos} {cs : List Str}
theorem t_fld (ht : AttrOk X.K cl f cs) (h : PE X e (T X.K cl E m)) (hb : attributeBase e f X.env (eval e X.env) = eval e X.env := by rfl) : PE X (.Attribute e f pos) (T X.K cl E (mUn (fldD cs f) m)) :=
  pe_imp (pe_fld h hb) fun σ H Q ⟨W, ρ, S, hr, en, q⟩ => step hr en q fun W1 H1 v d S1 l1 r1 e1 rv p1 => by
    unfold fldD at p1
    split at p1
    · rename_i c fs ei
      obtain ⟨a, C, dx, vs, rfl, hc, ha, rf⟩ := ins_of r1 rv ei
      split at p1
      · rename_i hm
        obtain ⟨q1, q2⟩ := ht c hm C hc
        cases el : fs.lookup f with
        | none => rw [el] at p1; exact p1.elim
        | some x =>
          rw [el] at p1
          obtain ⟨y, hy, ry⟩ := rf.get el
          exact ⟨a, C, dx, vs, y, rfl, ha, q1, q2, hy, p1.now r1 ry⟩
      · exact p1.elim
    · exact p1.elim
def setFD (cs : List Str) (f : Str) (v x : D) (S : Store) : Option Store := match x with
  | .ref n => (match S[n]? with
    | some (.ins c fs) => if c ∈ cs ∧ fs.length < 1000 then some (S.set n (.ins c (putFD f v fs))) else none
    | _ => none)
  | _ => none
def sSetF (cs : List Str) (f : Str) (o e : M D) : MS := fun ρ S => sB (e ρ S) ρ fun v S1 => sB (o ρ S1) ρ fun x S2 => match setFD cs f v x S2 with
  | some S3 => .nx ρ S3
  | none => .stk
theorem s_fld (ht : AttrOk X.K cl f cs) (ho : PE X o (T X.K cl E mo)) (hv : PE X value (T X.K cl E mv)) (hs : swapsWith value (some (.Attribute o f pos')) pos.line X.env = pure false := by rfl) :
    PS X (.Assign [.Attribute o f pos'] value pos) (Ts X.K cl E (sSetF cs f mo mv)) :=
  ps_imp (ps_fld ho hv hs) fun A σ H ⟨W, ρ, S, hr, en, q⟩ => stepS hr en q fun W1 H1 v d S1 l1 r1 e1 rv p1 => stepS r1 e1 p1 fun W2 H2 x y S2 l2 r2 e2 rx p2 => by
    cases q : setFD cs f d y S2 with
    | none => simp only [q] at p2; exact p2.elim
    | some S3 =>
      simp only [q] at p2
      unfold setFD at q
      split at q
      · rename_i n
        split at q
        · rename_i c fs es
          split at q
          · rename_i hm
            cases q
            cases rx with | ref hn =>
            obtain ⟨g0, C, dx, vs, hc, ha, rf⟩ := r2.live n _ es (by intro z; cases z)
            obtain ⟨q1, q2⟩ := ht c hm.1 C hc
            refine ⟨_, C, dx, vs, rfl, ha, q1, q2, by rw [rf.len]; exact hm.2, ?_⟩
            exact p2 W2 _ σ (.rf W2) (r2.put es (by intro z; cases z) ⟨C, dx, _, hc, upd_same, rf.put (rv.up l2)⟩) e2
          · cases q
        · cases q
      · cases q
end

/-! methods: by the class of the object -/
def MFn (P : Program) (w : World) (K : PySem.W.Frag) (mg : Str → Option Value) (base : Heap) (cl : Str → Option Addr) (c m : Str) (k n : Nat) (g : List D → Store → Res D) : Prop :=
  ∃ C f fd ps, cl c = some C ∧ Cls K C ∧ Meth K C m f ∧ FnOk P w K mg base (L2.CX P w) k f fd ps (spOf K cl n g) ∧ Binds K fd ps []
def Mkr (P : Program) (w : World) (K : PySem.W.Frag) (mg : Str → Option Value) (base : Heap) (cl : Str → Option Addr) (c : Str) (k n : Nat) (g : List D → Store → Res D) : Prop :=
  ∃ C f fd ps, cl c = some C ∧ mg c = some (.ref C) ∧ Mk K C f ∧ FnOk P w K mg base (L2.CX P w) k f fd ps (spOf K cl n g) ∧ Binds K fd ps []
abbrev MT := List (Str × (List D → Store → Res D))
def mMeth (tb : MT) (m : Str) (n : Nat) (o : M D) (a : M (List D)) : M D := fun ρ S => (o ρ S).bind fun x S1 => match insO S1 x with
  | some (c, fs) => (match fs.lookup m, tb.lookup c with
    | none, some g => (a ρ S1).bind fun ys S2 => ar n g (x :: ys) S2
    | _, _ => .stk)
  | none => .stk
section
variable {X : Cx} {k : Nat} {f C : Addr} {fd : FuncData} {ps : List Str} {pr : Sp} {E : WX} {x m : Str} {p pos apos : Pos} {e o : Expr} {es : List Expr} {ta : TE} {t : TA}
/-- a method's call; the wish about exceptions may speak of the slots -/
theorem pe_methX {pl : Sem Bool} (ho : PE X o ta) (hC : Cls X.K C) (hM : Meth X.K C m f) (Fk : FnOk X.prog X.w X.K X.mg X.base (L2.CX X.prog X.w) k f fd ps pr) (rm : Room k X.A) (bd : Binds X.K fd ps []) (tk : Takes X E) (hA : PA X (e :: es) t)
    (h1 : starEach (e :: es) X.env = (false, eval e X.env) :: starEach es X.env := by rfl) (h2 : (backTo pos (starEach es X.env)).any (·.1) = false := by rfl)
    (h3 : eval (.Call (.Attribute o m apos) (e :: es) [] pos) X.env = (do
      let obj ← eval o X.env
      standAt apos.atName
      let (g, fst) ← holding [obj] (getMethod obj m pl)
      callWith pos g fst (backTo pos (starEach (e :: es) X.env)) (backToKw pos (keywordEach [] X.env))) := by rfl) :
    PE X (.Call (.Attribute o m apos) (e :: es) [] pos) (fun σ H Q => ta σ H fun x H1 => ∃ a dx fs, x = .ref a ∧ H1 a = some (.ins C dx fs) ∧ fs.lookup m = none ∧ t σ H1 fun vs H2 => pr (x :: vs) H2 Q (fun c d H' => E c d σ H')) := by
  refine ⟨fun pins s σ H Q I q => ?_⟩
  refine PySem.W.methodCall_KW (pl := pl) (thn (ho.run pins s σ H _ I q) fun u s1 ⟨y, H1, I1, ry, a, dx, fs, ey, ea, l, q1⟩ => ?_) h3
  subst ey
  obtain rfl : u = Value.ref a := ry
  refine getmeth_ok I1 ea hC hM l ?_
  refine PySem.W.callWith_K (first := [.ref a]) (h₀ := X.base) I.ok.mod.kin hM.kp (thn (hA.run pos pins s1 σ H1 _ I1 q1) fun us s2 ⟨vs, H2, I2, rs, q2⟩ => ⟨I2.kIn, ?_⟩) h1 h2
  exact run_fnSD (E := fun σ c d H' => E c d σ H') (dvs := []) (us := .ref a :: us) (vs := .ref a :: vs) Fk rm bd .nil (passAt tk σ) I2 (.cons rfl rs) (by rw [List.append_nil]; exact q2)
theorem pe_methX0 {pl : Sem Bool} (ho : PE X o ta) (hC : Cls X.K C) (hM : Meth X.K C m f) (Fk : FnOk X.prog X.w X.K X.mg X.base (L2.CX X.prog X.w) k f fd ps pr) (rm : Room k X.A) (bd : Binds X.K fd ps []) (tk : Takes X E)
    (h3 : eval (.Call (.Attribute o m apos) [] [] pos) X.env = (do
      let obj ← eval o X.env
      standAt apos.atName
      let (g, fst) ← holding [obj] (getMethod obj m pl)
      callWith pos g fst (backTo pos (starEach [] X.env)) (backToKw pos (keywordEach [] X.env))) := by rfl) :
    PE X (.Call (.Attribute o m apos) [] [] pos) (fun σ H Q => ta σ H fun x H1 => ∃ a dx fs, x = .ref a ∧ H1 a = some (.ins C dx fs) ∧ fs.lookup m = none ∧ pr [x] H1 Q (fun c d H' => E c d σ H')) := by
  refine ⟨fun pins s σ H Q I q => ?_⟩
  refine PySem.W.methodCall_KW (pl := pl) (thn (ho.run pins s σ H _ I q) fun u s1 ⟨y, H1, I1, ry, a, dx, fs, ey, ea, l, q1⟩ => ?_) h3
  subst ey
  obtain rfl : u = Value.ref a := ry
  refine getmeth_ok I1 ea hC hM l ?_
  refine PySem.W.callWith_K0 (first := [.ref a]) I1.kIn hM.kp ?_
  exact run_fnSD (E := fun σ c d H' => E c d σ H') (dvs := []) (us := [.ref a]) (vs := [.ref a]) Fk rm bd .nil (passAt tk σ) I1 (.cons rfl .nil) q1
end
section
variable {X : Cx} {cl : Str → Option Addr} {E : WX} {k n : Nat} {m : Str} {p pos apos : Pos} {e o : Expr} {es : List Expr} {mo : M D} {ms : M (List D)} {tb : MT}
theorem t_meth {pl : Sem Bool} (ht : ∀ c g, tb.lookup c = some g → MFn X.prog X.w X.K X.mg X.base cl c m k n g) (h0 : ∃ c g, tb.lookup c = some g) (rm : Room k X.A) (tk : Takes X E) (ho : PE X o (T X.K cl E mo)) (hA : PA X (e :: es) (TL X.K cl E ms))
    (h1 : starEach (e :: es) X.env = (false, eval e X.env) :: starEach es X.env := by rfl) (h2 : (backTo pos (starEach es X.env)).any (·.1) = false := by rfl)
    (h3 : eval (.Call (.Attribute o m apos) (e :: es) [] pos) X.env = (do
      let obj ← eval o X.env
      standAt apos.atName
      let (g, fst) ← holding [obj] (getMethod obj m pl)
      callWith pos g fst (backTo pos (starEach (e :: es) X.env)) (backToKw pos (keywordEach [] X.env))) := by rfl) :
    PE X (.Call (.Attribute o m apos) (e :: es) [] pos) (T X.K cl E (mMeth tb m n mo ms)) := by
  refine ⟨fun pins s σ H Q I ⟨W, ρ, S, hr, en, q⟩ => ?_⟩
  unfold mMeth at q
  cases e0 : mo ρ S with
  | stk => rw [e0] at q; exact q.elim
  | exc x S1 =>
    rw [e0] at q
    obtain ⟨c, g, hg⟩ := h0
    obtain ⟨C, f, fd, ps, c1, c2, c3, c4, c5⟩ := ht c g hg
    refine (pe_methX (pl := pl) ho c2 c3 c4 rm c5 tk hA h1 h2 h3).run pins s σ H Q I ⟨W, ρ, S, hr, en, ?_⟩
    rw [e0]
    exact q
  | ok d S1 =>
    rw [e0] at q
    dsimp only [Res.bind] at q
    split at q
    · rename_i c fs ei
      split at q
      · rename_i g l1 hg
        obtain ⟨C, f, fd, ps, c1, c2, c3, c4, c5⟩ := ht c g hg
        refine (pe_methX (pl := pl) ho c2 c3 c4 rm c5 tk hA h1 h2 h3).run pins s σ H Q I ⟨W, ρ, S, hr, en, ?_⟩
        rw [e0]
        intro W1 H1 v le r1 rv
        obtain ⟨a, C', dx, vs, rfl, hc, ha, rf⟩ := ins_of r1 rv ei
        rw [c1] at hc
        cases hc
        refine ⟨a, dx, vs, rfl, ha, rf.no l1, ?_⟩
        exact step r1 (en.up le) (Post.up le q) fun W2 H2 ys ds S2 l2 r2 e2 ry p2 => ⟨W2, S2, d :: ds, r2, .cons (rv.up l2) ry, p2⟩
      · exact q.elim
    · exact q.elim
theorem t_meth0 {pl : Sem Bool} (ht : ∀ c g, tb.lookup c = some g → MFn X.prog X.w X.K X.mg X.base cl c m k n g) (h0 : ∃ c g, tb.lookup c = some g) (rm : Room k X.A) (tk : Takes X E) (ho : PE X o (T X.K cl E mo))
    (h3 : eval (.Call (.Attribute o m apos) [] [] pos) X.env = (do
      let obj ← eval o X.env
      standAt apos.atName
      let (g, fst) ← holding [obj] (getMethod obj m pl)
      callWith pos g fst (backTo pos (starEach [] X.env)) (backToKw pos (keywordEach [] X.env))) := by rfl) :
    PE X (.Call (.Attribute o m apos) [] [] pos) (T X.K cl E (mMeth tb m n mo mNil)) := by
  refine ⟨fun pins s σ H Q I ⟨W, ρ, S, hr, en, q⟩ => ?_⟩
  unfold mMeth at q
  cases e0 : mo ρ S with
  | stk => rw [e0] at q; exact q.elim
  | exc x S1 =>
    rw [e0] at q
    obtain ⟨c, g, hg⟩ := h0
    obtain ⟨C, f, fd, ps, c1, c2, c3, c4, c5⟩ := ht c g hg
    refine (pe_methX0 (pl := pl) ho c2 c3 c4 rm c5 tk h3).run pins s σ H Q I ⟨W, ρ, S, hr, en, ?_⟩
    rw [e0]
    exact q
  | ok d S1 =>
    rw [e0] at q
    dsimp only [Res.bind] at q
    split at q
    · rename_i c fs ei
      split at q
      · rename_i g l1 hg
        obtain ⟨C, f, fd, ps, c1, c2, c3, c4, c5⟩ := ht c g hg
        refine (pe_methX0 (pl := pl) ho c2 c3 c4 rm c5 tk h3).run pins s σ H Q I ⟨W, ρ, S, hr, en, ?_⟩
        rw [e0]
        intro W1 H1 v le r1 rv
        obtain ⟨a, C', dx, vs, rfl, hc, ha, rf⟩ := ins_of r1 rv ei
        rw [c1] at hc
        cases hc
        exact ⟨a, dx, vs, rfl, ha, rf.no l1, W1, S1, [d], r1, .cons rv .nil, Post.up le q⟩
      · exact q.elim
    · exact q.elim
end
/-! makers -/
/-- a new object of the class, then __init__ -/
def mMake (c : Str) (n : Nat) (g : List D → Store → Res D) (a : M (List D)) : M D := fun ρ S => (a ρ S).bind fun ys S1 => (ar n g (.ref S1.length :: ys) (S1 ++ [.ins c []])).bind fun d S2 => match d with
  | .non => .ok (.ref S1.length) S2
  | _ => .stk
section
variable {X : Cx} {k : Nat} {f C : Addr} {fd : FuncData} {ps : List Str} {pr : Sp} {E : WX} {x m : Str} {p pos apos : Pos} {e o : Expr} {es : List Expr} {ta : TE} {t : TA}
theorem run_makeX {pins : List (Addr × Obj)} {σ : St} {H : Hp} {s : Shared} {Q : VK} {us : List Value} {vs : List V} (Mq : Mk X.K C f) (Fk : FnOk X.prog X.w X.K X.mg X.base (L2.CX X.prog X.w) k f fd ps pr) (rm : Room (k + 1) X.A) (bd : Binds X.K fd ps []) (tk : Takes X E)
    (I : L2.Inv X pins σ H s) (rs : Vals vs us)
    (q : ∀ x dx, H x = none → H dx = none → dx ≠ x → pr (.ref x :: vs) (upd (upd H dx (.own x)) x (.ins C dx [])) (fun v H2 => v = .non ∧ Q (.ref x) H2) (fun c d H' => E c d σ H')) :
    wpAny (model X.prog X.w) X.A (call (.ref C) us) (EP X pins σ Q) X.xe s := by
  have z := s.heap.objs.size
  have q0 := q (s.heap.objs.size + 1) s.heap.objs.size (I.hok.fresh (Nat.le_succ _)) (I.hok.fresh (Nat.le_refl _)) (Nat.ne_of_lt (Nat.lt_succ_self _))
  have J := Inv.made (C := C) I
  have rs2 : Vals (V.ref (s.heap.objs.size + 1) :: vs) (Value.ref (s.heap.objs.size + 1) :: us) := .cons rfl rs
  have hl : ((Value.ref (s.heap.objs.size + 1) :: us) ++ ([] : List Value)).length = ps.length := by
    rw [List.append_nil, ← rs2.length]
    exact Fk.len _ _ _ _ q0
  have bb := bd _ (Value.ref (s.heap.objs.size + 1) :: us) J.kIn hl
  rw [List.append_nil] at bb
  refine wpAny_call (make_map (f := f) I.kIn Mq.makes Mq.init (beq_iff_eq.mp Mq.fn) (codeAny_mono (Fk.run _ X.stack _ _ ⟨Value.ref (s.heap.objs.size + 1) :: us, []⟩ _ _ _ _ (rm.make C us []) (J.env0.make C us []) bb rs2 q0) fun r s2 h2 => ?_))
  match r, h2 with
  | .error e, h2 => exact passAt tk σ pins _ _ e s2 J h2
  | .ok (.ret u), h2 =>
    obtain ⟨v, H2, J2, rv, ev, q2⟩ := J.after h2
    subst ev
    exact ⟨rv, ⟨V.ref (s.heap.objs.size + 1), H2, J2, rfl, q2⟩⟩
  | .ok .next, h2 => exact h2.elim
  | .ok .brk, h2 => exact h2.elim
  | .ok .cont, h2 => exact h2.elim
end
section
variable {X : Cx} {cl : Str → Option Addr} {E : WX} {k n : Nat} {c : Str} {p pos : Pos} {e : Expr} {es : List Expr} {ms : M (List D)} {g : List D → Store → Res D}
theorem make_rd {W : Wd} {H : Hp} {S : Store} {C : Addr} {vs : List V} {ds : List D} {Q : VK} {σ : St} (hC : cl c = some C) (r : R X.K cl W H S) (t : Reps X.K cl W vs ds)
    (q : Post X.K cl (Rep X.K cl) W ((ar n g (.ref S.length :: ds) (S ++ [.ins c []])).bind fun d S2 => match d with
      | .non => .ok (.ref S.length) S2
      | _ => .stk) Q (fun c d H' => E c d σ H')) :
    ∀ x dx, H x = none → H dx = none → dx ≠ x → spOf X.K cl n g (.ref x :: vs) (upd (upd H dx (.own x)) x (.ins C dx [])) (fun v H2 => v = .non ∧ Q (.ref x) H2) (fun c d H' => E c d σ H') := by
  intro x dx hx hdx ne
  have r1 := r.junk (o := .own x) hdx
  have hx1 : upd H dx (.own x) x = none := by
    rw [upd_ne (fun h => ne h.symm)]
    exact hx
  have r2 := r1.new (o := .ins C dx []) (mo := .ins c []) hx1 ⟨C, dx, [], hC, upd_same, .nil⟩
  have ew : (W.lv x).ι S.length = x := by rw [← r.n]; exact W.lv_at x
  have rx : Rep X.K cl (W.lv x) (.ref x) (.ref S.length) := by
    have z := Rep.ref (K := X.K) (cl := cl) (W := W.lv x) (n := S.length) (by show S.length < W.n + 1; rw [r.n]; exact Nat.lt_succ_self _)
    rw [ew] at z
    exact z
  refine ⟨W.lv x, S ++ [.ins c []], .ref S.length :: ds, r2, .cons rx (t.up (Le.lv W x)), ?_⟩
  cases e : ar n g (.ref S.length :: ds) (S ++ [.ins c []]) with
  | stk => rw [e] at q; exact q.elim
  | exc y S3 =>
    rw [e] at q
    exact fun W' H' c' dd l' r' rx' => q W' H' c' dd ((Le.lv W x).tr l') r' rx'
  | ok d S3 =>
    rw [e] at q
    intro W' H' v l' r' rv
    dsimp only [Res.bind] at q
    split at q
    · cases rv
      exact ⟨rfl, q W' H' _ ((Le.lv W x).tr l') r' (rx.up l')⟩
    · exact q.elim
theorem t_make (hM : Mkr X.prog X.w X.K X.mg X.base cl c k n g) (rm : Room (k + 1) X.A) (tk : Takes X E) (hA : PA X (e :: es) (TL X.K cl E ms)) (hg : Gl X c := by rfl) (hdb : (c == ("__debug__" : Str)) = false := by decide)
    (h1 : starEach (e :: es) X.env = (false, eval e X.env) :: starEach es X.env := by rfl) (h2 : (backTo pos (starEach es X.env)).any (·.1) = false := by rfl) :
    PE X (.Call (.Name c p) (e :: es) [] pos) (T X.K cl E (mMake c n g ms)) := by
  obtain ⟨C, f, fd, ps, c1, c2, c3, c4, c5⟩ := hM
  refine ⟨fun pins s σ H Q I ⟨W, ρ, S, hr, en, q⟩ => ?_⟩
  refine wpAny_Call_Name_kw (ld_glob I hg c2 ?_ hdb)
  refine PySem.W.callWith_K (h₀ := X.base) I.ok.mod.kin c3.kp (thn (hA.run pos pins s σ H _ I (step (rel := Reps X.K cl) hr en q fun W1 H1 ys ds S1 l1 r1 e1 ry p1 => make_rd c1 r1 ry p1)) fun us s1 ⟨vs, H1, I1, rs, q1⟩ => ⟨I1.kIn, ?_⟩) h1 h2
  exact run_makeX c3 c4 rm c5 tk I1 rs q1
theorem t_make0 (hM : Mkr X.prog X.w X.K X.mg X.base cl c k n g) (rm : Room (k + 1) X.A) (tk : Takes X E) (hg : Gl X c := by rfl) (hdb : (c == ("__debug__" : Str)) = false := by decide) :
    PE X (.Call (.Name c p) [] [] pos) (T X.K cl E (mMake c n g mNil)) := by
  obtain ⟨C, f, fd, ps, c1, c2, c3, c4, c5⟩ := hM
  refine ⟨fun pins s σ H Q I ⟨W, ρ, S, hr, en, q⟩ => ?_⟩
  refine wpAny_Call_Name_kw (ld_glob I hg c2 ?_ hdb)
  exact PySem.W.callWith_K0 I.kIn c3.kp (run_makeX (us := []) c3 c4 rm c5 tk I .nil (make_rd c1 hr .nil q))
end
end G
namespace G
open PySem L2
/-! ### the handled exception: cl at reserved names -/
structure Rsv (cl : Str → Option Addr) : Prop where
  a : cl "#a" = none
  c : cl "#c" = none
  d : cl "#d" = none
def clX (cl : Str → Option Addr) (a C : Addr) (d : Option Addr) : Str → Option Addr := fun s => if s = "#a" then some a else if s = "#c" then some C else if s = "#d" then d else cl s
theorem clX_a {cl : Str → Option Addr} {a C : Addr} {d : Option Addr} : clX cl a C d "#a" = some a := if_pos rfl
theorem clX_c {cl : Str → Option Addr} {a C : Addr} {d : Option Addr} : clX cl a C d "#c" = some C := (if_neg (by decide)).trans (if_pos rfl)
theorem clX_d {cl : Str → Option Addr} {a C : Addr} {d : Option Addr} : clX cl a C d "#d" = d := (if_neg (by decide)).trans ((if_neg (by decide)).trans (if_pos rfl))
theorem clX_of {cl : Str → Option Addr} {a C : Addr} {d : Option Addr} {c : Str} {B : Addr} (r : Rsv cl) (h : cl c = some B) : clX cl a C d c = some B := by
  have h1 : c ≠ "#a" := fun e => by rw [e, r.a] at h; cases h
  have h2 : c ≠ "#c" := fun e => by rw [e, r.c] at h; cases h
  have h3 : c ≠ "#d" := fun e => by rw [e, r.d] at h; cases h
  unfold clX
  rw [if_neg h1, if_neg h2, if_neg h3]
  exact h
def rsvN (c : Str) : Bool := decide (c = "#a") || decide (c = "#c") || decide (c = "#d")
theorem clX_to {cl : Str → Option Addr} {a C : Addr} {d : Option Addr} {c : Str} {B : Addr} (n : rsvN c = false) (h : clX cl a C d c = some B) : cl c = some B := by
  unfold rsvN at n
  simp only [Bool.or_eq_false_iff, decide_eq_false_iff_not] at n
  unfold clX at h
  rw [if_neg n.1.1, if_neg n.1.2, if_neg n.2] at h
  exact h
mutual
/-- no handled exception within -/
def xf : D → Bool
  | .tup xs => xfL xs
  | .lst xs => xfL xs
  | .dct xs => xfK xs
  | .ins c xs => !rsvN c && xfF xs
  | .exv _ _ => false
  | _ => true
def xfL : List D → Bool
  | [] => true
  | d :: ds => xf d && xfL ds
def xfK : List (Key × D) → Bool
  | [] => true
  | (_, d) :: ds => xf d && xfK ds
def xfF : List (Str × D) → Bool
  | [] => true
  | (_, d) :: ds => xf d && xfF ds
end
theorem rsv_no {cl : Str → Option Addr} {c : Str} {B : Addr} (r : Rsv cl) (h : cl c = some B) : rsvN c = false := by
  unfold rsvN
  simp only [Bool.or_eq_false_iff, decide_eq_false_iff_not]
  refine ⟨⟨fun e => ?_, fun e => ?_⟩, fun e => ?_⟩
  · rw [e, r.a] at h; cases h
  · rw [e, r.c] at h; cases h
  · rw [e, r.d] at h; cases h
section
variable {K : PySem.W.Frag} {cl : Str → Option Addr} {W : Wd} {H : Hp} {S : Store} {a C : Addr} {d : Option Addr}
mutual
theorem Rep.toX (q : Rsv cl) : ∀ {v : V} {x : D}, Rep K cl W v x → Rep K (clX cl a C d) W v x ∧ xf x = true
  | _, _, .non => ⟨.non, rfl⟩
  | _, _, .bl b => ⟨.bl b, rfl⟩
  | _, _, .int i => ⟨.int i, rfl⟩
  | _, _, .str x => ⟨.str x, rfl⟩
  | _, _, .tup h t => ⟨.tup h (Reps.toX q t).1, (Reps.toX q t).2⟩
  | _, _, .lst h t => ⟨.lst h (Reps.toX q t).1, (Reps.toX q t).2⟩
  | _, _, .scr h => ⟨.scr h, rfl⟩
  | _, _, .dct h t => ⟨.dct h (RepK.toX q t).1, (RepK.toX q t).2⟩
  | _, _, .ins h c t => ⟨.ins h (clX_of q c) (RepF.toX q t).1, by
    show (!rsvN _ && _) = true
    rw [rsv_no q c, (RepF.toX q t).2]
    rfl⟩
  | _, _, .ref h => ⟨.ref h, rfl⟩
  | _, _, .exv0 h _ _ _ => by rw [q.a] at h; cases h
  | _, _, .exv1 h _ _ _ _ _ _ => by rw [q.a] at h; cases h
theorem Reps.toX (q : Rsv cl) : ∀ {v : List V} {x : List D}, Reps K cl W v x → Reps K (clX cl a C d) W v x ∧ xfL x = true
  | _, _, .nil => ⟨.nil, rfl⟩
  | _, _, .cons h t => ⟨.cons (Rep.toX q h).1 (Reps.toX q t).1, by
    show (_ && _) = true
    rw [(Rep.toX q h).2, (Reps.toX q t).2]
    rfl⟩
theorem RepK.toX (q : Rsv cl) : ∀ {v : List (Key × V)} {x : List (Key × D)}, RepK K cl W v x → RepK K (clX cl a C d) W v x ∧ xfK x = true
  | _, _, .nil => ⟨.nil, rfl⟩
  | _, _, .cons h t => ⟨.cons (Rep.toX q h).1 (RepK.toX q t).1, by
    show (_ && _) = true
    rw [(Rep.toX q h).2, (RepK.toX q t).2]
    rfl⟩
theorem RepF.toX (q : Rsv cl) : ∀ {v : List (Str × V)} {x : List (Str × D)}, RepF K cl W v x → RepF K (clX cl a C d) W v x ∧ xfF x = true
  | _, _, .nil => ⟨.nil, rfl⟩
  | _, _, .cons h t => ⟨.cons (Rep.toX q h).1 (RepF.toX q t).1, by
    show (_ && _) = true
    rw [(Rep.toX q h).2, (RepF.toX q t).2]
    rfl⟩
end
mutual
theorem Rep.ofX : ∀ {v : V} {x : D}, Rep K (clX cl a C d) W v x → xf x = true → Rep K cl W v x
  | _, _, .non, _ => .non
  | _, _, .bl b, _ => .bl b
  | _, _, .int i, _ => .int i
  | _, _, .str x, _ => .str x
  | _, _, .tup h t, e => .tup h (Reps.ofX t e)
  | _, _, .lst h t, e => .lst h (Reps.ofX t e)
  | _, _, .scr h, _ => .scr h
  | _, _, .dct h t, e => .dct h (RepK.ofX t e)
  | _, _, .ins h c t, e => .ins h (clX_to (by simpa using (Bool.and_eq_true_iff.mp e).1) c) (RepF.ofX t (Bool.and_eq_true_iff.mp e).2)
  | _, _, .ref h, _ => .ref h
  | _, _, .exv0 _ _ _ _, e => by cases e
  | _, _, .exv1 _ _ _ _ _ _ _, e => by cases e
theorem Reps.ofX : ∀ {v : List V} {x : List D}, Reps K (clX cl a C d) W v x → xfL x = true → Reps K cl W v x
  | _, _, .nil, _ => .nil
  | _, _, .cons h t, e => .cons (Rep.ofX h (Bool.and_eq_true_iff.mp e).1) (Reps.ofX t (Bool.and_eq_true_iff.mp e).2)
theorem RepK.ofX : ∀ {v : List (Key × V)} {x : List (Key × D)}, RepK K (clX cl a C d) W v x → xfK x = true → RepK K cl W v x
  | _, _, .nil, _ => .nil
  | _, _, .cons h t, e => .cons (Rep.ofX h (Bool.and_eq_true_iff.mp e).1) (RepK.ofX t (Bool.and_eq_true_iff.mp e).2)
theorem RepF.ofX : ∀ {v : List (Str × V)} {x : List (Str × D)}, RepF K (clX cl a C d) W v x → xfF x = true → RepF K cl W v x
  | _, _, .nil, _ => .nil
  | _, _, .cons h t, e => .cons (Rep.ofX h (Bool.and_eq_true_iff.mp e).1) (RepF.ofX t (Bool.and_eq_true_iff.mp e).2)
end
def xfM : MO → Bool
  | .lst xs => xfL xs
  | .dct xs => xfK xs
  | .ldc xs => xfK xs
  | .ins c xs => !rsvN c && xfF xs
  | .dead => true
theorem MRep.toX {b : Addr} {mo : MO} (q : Rsv cl) (h : MRep K cl W H b mo) : MRep K (clX cl a C d) W H b mo ∧ xfM mo = true := by
  cases mo with
  | lst ds => obtain ⟨vs, h1, h2⟩ := h; exact ⟨⟨vs, h1, (h2.toX q).1⟩, (h2.toX (a := a) (C := C) (d := d) q).2⟩
  | dct ds => obtain ⟨vs, h1, h2⟩ := h; exact ⟨⟨vs, h1, (h2.toX q).1⟩, (h2.toX (a := a) (C := C) (d := d) q).2⟩
  | ldc ds => obtain ⟨o, vs, h1, h2⟩ := h; exact ⟨⟨o, vs, h1, (h2.toX q).1⟩, (h2.toX (a := a) (C := C) (d := d) q).2⟩
  | ins c ds =>
    obtain ⟨B, dx, vs, h0, h1, h2⟩ := h
    refine ⟨⟨B, dx, vs, clX_of q h0, h1, (h2.toX q).1⟩, ?_⟩
    show (!rsvN c && _) = true
    rw [rsv_no q h0, (h2.toX (a := a) (C := C) (d := d) q).2]
    rfl
  | dead => exact ⟨trivial, rfl⟩
theorem MRep.ofX {b : Addr} {mo : MO} (h : MRep K (clX cl a C d) W H b mo) (e : xfM mo = true) : MRep K cl W H b mo := by
  cases mo with
  | lst ds => obtain ⟨vs, h1, h2⟩ := h; exact ⟨vs, h1, h2.ofX e⟩
  | dct ds => obtain ⟨vs, h1, h2⟩ := h; exact ⟨vs, h1, h2.ofX e⟩
  | ldc ds => obtain ⟨o, vs, h1, h2⟩ := h; exact ⟨o, vs, h1, h2.ofX e⟩
  | ins c ds =>
    obtain ⟨B, dx, vs, h0, h1, h2⟩ := h
    exact ⟨B, dx, vs, clX_to (by simpa using (Bool.and_eq_true_iff.mp e).1) h0, h1, h2.ofX (Bool.and_eq_true_iff.mp e).2⟩
  | dead => trivial
theorem R.toX (q : Rsv cl) (r : R K cl W H S) : R K (clX cl a C d) W H S ∧ ∀ (i : Nat) (mo : MO), S[i]? = some mo → mo ≠ .dead → xfM mo = true :=
  ⟨⟨r.n, r.sub, fun i mo h nd => ⟨(r.live i mo h nd).1, ((r.live i mo h nd).2.toX q).1⟩, r.inj, r.priv⟩, fun i mo h nd => ((r.live i mo h nd).2.toX (a := a) (C := C) (d := d) q).2⟩
theorem R.ofX (r : R K (clX cl a C d) W H S) (x : ∀ (i : Nat) (mo : MO), S[i]? = some mo → mo ≠ .dead → xfM mo = true) : R K cl W H S :=
  ⟨r.n, r.sub, fun i mo h nd => ⟨(r.live i mo h nd).1, (r.live i mo h nd).2.ofX (x i mo h nd)⟩, r.inj, r.priv⟩
theorem Envs.toX {σ : St} {ρ : Sl} (q : Rsv cl) (e : Envs K cl W σ ρ) : Envs K (clX cl a C d) W σ ρ ∧ ∀ (i : Nat) (x : D), ρ[i]? = some (some x) → xf x = true :=
  ⟨⟨e.len, fun i x h => let ⟨v, h1, h2⟩ := e.at' i x h; ⟨v, h1, (h2.toX q).1⟩⟩, fun i x h => by
    obtain ⟨v, h1, h2⟩ := e.at' i x h
    exact (h2.toX (a := a) (C := C) (d := d) q).2⟩
theorem XRep.exv {x : Exc} (q : Rsv cl) (h : XRep K cl W (.ref C) d x) : Rep K (clX cl a C d) W (.ref a) (.exv x.cls x.fs) := by
  obtain ⟨B, h1, h2, h3⟩ := h
  cases h2
  rcases h3 with ⟨h3, rfl⟩ | ⟨d', vs, rfl, h4, hn, h5⟩
  · rw [h3]
    exact .exv0 clX_a clX_c clX_d (clX_of q h1)
  · exact .exv1 clX_a clX_c clX_d (clX_of q h1) h4 hn (h5.toX q).1
end
/-- a suite's reading, by the class of the exception -/
def tsX (t : Addr → Addr → Option Addr → TS) (a : Addr) (cls : Value) (d : Option Addr) : TS := match cls with
  | .ref C => t a C d
  | _ => fun _ _ _ => False
theorem tsX_of {X : Cx} {st : List Stmt} {t : Addr → Addr → Option Addr → TS} (h : ∀ (a : Addr) (oe : Obj) (C : Addr) (d : Option Addr) (pn : List (Addr × Obj)), Zc (.ref C) d oe → (∃ vs, oe.data = .fields vs) → PSs (X.suite a ((a, oe) :: pn)) st (t a C d)) :
    ∀ (a : Addr) (oe : Obj) (cls : Value) (d : Option Addr) (pn : List (Addr × Obj)), Zc cls d oe → (∃ vs, oe.data = .fields vs) → PSs (X.suite a ((a, oe) :: pn)) st (tsX t a cls d) := fun a oe cls d pn hz hf => by
  cases cls with
  | ref C => exact h a oe C d pn hz hf
  | _ => exact ⟨fun _ _ _ _ _ _ q => q.elim⟩
/-- try: body; except c as n: slot j = m -/
noncomputable def sTryA (cs : List (Str × Bool)) (i j : Nat) (m : M D) (mb : MS) : MS := open Classical in fun ρ S => match mb ρ S with
  | .exc x ρ1 S1 => (match cs.lookup x.cls with
    | some true => (match m (ρ1.set i (some (.exv x.cls x.fs))) S1 with
      | .ok d S2 => if xf d = true ∧ S2 = S1 then .nx ((ρ1.set j (some d)).set i none) S1 else .stk
      | _ => .stk)
    | some false => .exc x ρ1 S1
    | none => .stk)
  | o => o
section
variable {X : Cx} {cl : Str → Option Addr} {E : WX} {x n t : Str} {hc : Value} {i j : Nat} {body : List Stmt} {e : Expr} {np pos pos' ap : Pos} {mb : MS} {m : M D} {cs : List (Str × Bool)} {tp : Pos}
theorem s_tryA (q : Rsv cl) (hs : X.stack = X.env :: X.outer) (hf : X.env.frame = some X.env.locals) (hN : X.N.Nodup) (hi : X.N[i]? = some n) (hln : X.env.kindOf n = some .local) (hn : Names X x hc) (tk : Takes X E) (hij : i ≠ j)
    (ht : ∀ c b, cs.lookup c = some b → ∀ C, cl c = some C → PySem.W.exmOne X.K (.ref C) hc = some b)
    (hb : ∀ (W : WX) (pn : List (Addr × Obj)) (xe : Value → Shared → Prop), Takes (X.tr pn xe) W → PassesOwn (model X.prog X.w) X.A X.env xe → PSs (X.tr pn xe) body (Ts X.K cl W mb))
    (hsu : ∀ (a : Addr) (oe : Obj) (C : Addr) (d : Option Addr) (pn : List (Addr × Obj)), Zc (.ref C) d oe → (∃ vs, oe.data = .fields vs) → PSs (X.suite a ((a, oe) :: pn)) [.Assign [.Name t tp] e ap] (Ts X.K (clX cl a C d) (fun _ _ _ _ => False) (sSet j m))) :
    PS X (.Try body [.ExceptHandler (some (.Name x np)) (some n) [.Assign [.Name t tp] e ap] pos'] [] [] pos) (Ts X.K cl E (sTryA cs i j m mb)) :=
  ps_imp (ps_try_as hs hf hN hi hln hn tk hb (tsX_of (t := fun a C d => Ts X.K (clX cl a C d) (fun _ _ _ _ => False) (sSet j m)) hsu)) fun A σ H ⟨W, ρ, S, hr, he, p⟩ => ⟨W, ρ, S, hr, he, by
    unfold sTryA at p
    cases eb : mb ρ S with
    | nx ρ1 S1 => rw [eb] at p; exact p
    | rt v S1 => rw [eb] at p; exact p
    | bk ρ1 S1 => rw [eb] at p; exact p
    | ct ρ1 S1 => rw [eb] at p; exact p
    | stk => rw [eb] at p; exact p
    | exc y ρ1 S1 =>
      rw [eb] at p
      dsimp only at p
      intro W1 H1 σ1 cls dd l1 r1 e1 xr
      have xr0 := xr
      obtain ⟨C, h1, rfl, h3⟩ := xr0
      cases el : cs.lookup y.cls with
      | none => rw [el] at p; exact p.elim
      | some b =>
        rw [el] at p
        refine ⟨b, ht _ _ el C h1, fun hbt a ha => ?_, fun hbf => ?_⟩
        · subst hbt
          dsimp only at p
          have rX := r1.toX (a := a) (C := C) (d := dd) q
          have eX := e1.toX (a := a) (C := C) (d := dd) q
          have xX : Rep X.K (clX cl a C dd) W1 (.ref a) (.exv y.cls y.fs) := xr.exv q
          refine ⟨W1, ρ1.set i (some (.exv y.cls y.fs)), S1, rX.1, eX.1.set i xX, ?_⟩
          unfold sSet
          cases em : m (ρ1.set i (some (.exv y.cls y.fs))) S1 with
          | stk => rw [em] at p; exact p.elim
          | exc z S2 => rw [em] at p; exact p.elim
          | ok d S2 =>
            rw [em] at p
            dsimp only at p
            split at p
            · rename_i hg
              obtain ⟨hx, rfl⟩ := hg
              intro W2 H2 σ2 l2 r2 e2
              refine p W2 H2 _ (l1.tr l2) (r2.ofX rX.2) ⟨by simpa using e2.len, fun k z hz => ?_⟩
              by_cases hk : i = k
              · subst hk
                by_cases hl : i < (ρ1.set j (some d)).length
                · rw [List.getElem?_set_self hl] at hz
                  cases hz
                · rw [List.getElem?_eq_none (by simpa using hl)] at hz
                  cases hz
              · rw [List.getElem?_set_ne hk] at hz
                have hz2 : ((ρ1.set i (some (.exv y.cls y.fs))).set j (some d))[k]? = some (some z) := by
                  by_cases hj : j = k
                  · subst hj
                    by_cases hl : j < ρ1.length
                    · rw [List.getElem?_set_self hl] at hz
                      rw [List.getElem?_set_self (by simpa using hl)]
                      exact hz
                    · rw [List.getElem?_eq_none (by simpa using hl)] at hz
                      cases hz
                  · rw [List.getElem?_set_ne hj] at hz ⊢
                    rw [List.getElem?_set_ne hk]
                    exact hz
                obtain ⟨v, hv, rv⟩ := e2.at' k z hz2
                refine ⟨v, by rw [List.getElem?_set_ne hk]; exact hv, rv.ofX ?_⟩
                by_cases hj : j = k
                · subst hj
                  by_cases hl : j < ρ1.length
                  · rw [List.getElem?_set_self hl] at hz
                    have := Option.some.inj (Option.some.inj hz)
                    rw [← this]
                    exact hx
                  · rw [List.getElem?_eq_none (by simpa using hl)] at hz
                    cases hz
                · rw [List.getElem?_set_ne hj] at hz
                  exact eX.2 k z hz
            · exact p.elim
        · subst hbf
          exact p W1 H1 σ1 _ dd l1 r1 e1 xr⟩
end
end G
namespace G
open PySem L2
/-! ### raise -/
section
variable {X : Cx}
/-- C(), an own error without __init__ of its own -/
theorem pmk_own0 {C : Addr} {bmB : List Value} {B newId initId : String} {x : Str} {p pos : Pos} (Fx : ExcBaseFacts B newId initId bmB) (q : PySem.W.excIn X.K C bmB newId = true) (gC : X.mg x = some (.ref C)) (kC : PySem.W.keepIn X.K (.ref C) = true) (r : Raises X (.ref C)) (hg : Gl X x)
    (hdb : (x == ("__debug__" : Str)) = false := by decide) : PMk X (.Call (.Name x p) [] [] pos) (fun σ H Q => Q (.ref C) none H) := by
  intro pins s σ H Q I h
  refine wpAny_Call_Name_kw (ld_glob I hg gC ?_ hdb)
  refine PySem.W.callWith_K0 I.kIn kC ?_
  obtain ⟨bm, N, nm, qn, bs, hdct, sn, sub, ab, col, dd, k0, k1, k2, k3, k5, mN, hC, hN, hni, Tq⟩ := exc_obj I.kIn q
  refine wpAny_call_exc_subT Fx Tq hC hN hni (fun h2 e hm => ?_) (Nat.zero_le _)
  exact mk_of I hm r h (I.hok.gone hm.new)
end
/-! an own error with fields: its __init__ -/
def tErr (K : PySem.W.Frag) : List (Str × Nat) → TS
  | [] => tNext
  | (f, i) :: r => tSeq (tOst K f (tVar 0) (tVar i)) (tErr K r)
section
variable {X : Cx} {f p : Str} {i : Nat} {r : List (Str × Nat)} {sts : List Stmt} {p0 p1 p2 pos : Pos} {self : Str}
theorem er_nil : PSs X [] (tErr X.K []) := pss_nil
theorem er_cons (i : Nat) (h : PSs X sts (tErr X.K r)) (h0 : X.N[0]? = some self := by rfl) (h1 : X.N[i]? = some p := by rfl) (v0 : Vis X.env.scope self := by first | exact Or.inl rfl | exact Or.inr (Or.inl rfl) | exact Or.inr (Or.inr rfl))
    (v1 : Vis X.env.scope p := by first | exact Or.inl rfl | exact Or.inr (Or.inl rfl) | exact Or.inr (Or.inr rfl)) (d0 : (self == ("__debug__" : Str)) = false := by decide) (c0 : (self == ("__classdict__" : Str)) = false := by decide)
    (d1 : (p == ("__debug__" : Str)) = false := by decide) (c1 : (p == ("__classdict__" : Str)) = false := by decide) (hs : swapsWith (.Name p p2) (some (.Attribute (.Name self p0) f p1)) pos.line X.env = pure false := by rfl) :
    PSs X (.Assign [.Attribute (.Name self p0) f p1] (.Name p p2) pos :: sts) (tErr X.K ((f, i) :: r)) :=
  pss_cons (ps_ost (pe_var h0 v0 d0 c0) (pe_var h1 v1 d1 c1) hs) h
end
def errF (σ : St) : List (Str × V) → List (Str × Nat) → List (Str × V)
  | acc, [] => acc
  | acc, (f, i) :: r => errF σ ((f, ((σ[i]?.bind id).getD .non)) :: acc) r
theorem err_run {K : PySem.W.Frag} {H : Hp} {a C dx : Addr} {σ : St} {D : Ends} (T : OexC K C) (h0 : σ[0]? = some (some (.ref a))) (hne : dx ≠ a) : ∀ (r : List (Str × Nat)) (acc : List (Str × V)), (∀ q ∈ r, PySem.W.findIn K (.ref C) q.1 = some none ∧ ∃ w, σ[q.2]? = some (some w)) → acc.length + r.length ≤ 900 →
    D.nx σ (upd (upd H dx (exd dx (errF σ acc r))) a (exo a C (some dx))) → tErr K r D σ (upd (upd H dx (exd dx acc)) a (exo a C (some dx)))
  | [], acc, _, _, q => q
  | (f, i) :: r, acc, hr, hl, q => by
    obtain ⟨hf, w, hw⟩ := hr (f, i) (by simp)
    rw [List.length_cons] at hl
    refine ⟨w, hw, .ref a, h0, a, C, rfl, T, hf, .inr ⟨dx, acc, upd_same, ?_, by omega, ?_⟩⟩
    · rw [upd_ne hne]
      exact upd_same
    · have e : upd (upd (upd H dx (exd dx acc)) a (exo a C (some dx))) dx (exd dx ((f, w) :: acc)) = upd (upd H dx (exd dx ((f, w) :: acc))) a (exo a C (some dx)) := by
        funext b
        by_cases hb : b = dx
        · subst hb
          rw [upd_same, upd_ne hne, upd_same]
        · rw [upd_ne hb]
          by_cases ha : b = a
          · subst ha
            rw [upd_same, upd_same]
          · rw [upd_ne ha, upd_ne ha, upd_ne hb, upd_ne hb]
      show tErr K r D σ _
      rw [e]
      refine err_run T h0 hne r _ (fun q hq => hr q (by simp [hq])) (by simp; omega) ?_
      have ew : ((σ[i]?.bind id).getD .non) = w := by rw [hw]; rfl
      unfold errF at q
      rw [ew] at q
      exact q
/-- what an error's __init__ promises -/
def spErr (K : PySem.W.Frag) (N : List Str) (n : Nat) (r : List (Str × Nat)) : Sp := fun vs H Q _ => ∃ (a C : Addr) (ws : List V), vs = .ref a :: ws ∧ vs.length = n ∧ OexC K C ∧ (∀ q ∈ r, PySem.W.findIn K (.ref C) q.1 = some none) ∧ H a = some (exo a C none) ∧
  ∀ dx, H dx = none → dx ≠ a → Q .non (upd (upd H dx (exd dx (errF (L2.start N vs) [] r))) a (exo a C (some dx)))
section
variable {P : Program} {w : World} {K : PySem.W.Frag} {mg : Str → Option Value} {base : Heap}
theorem err_fn {x qual : Str} {st : Stmt} {f : Addr} {fd : FuncData} {N ps : List Str} {k n : Nat} {g : Str} {i : Nat} {r : List (Str × Nat)} (F : Fun K x qual st f fd) (Sc : FnScope N ps (defScope st)) (hn : ps.length = n) (hlen : r.length ≤ 800) (hps : ∀ q ∈ (g, i) :: r, q.2 < n)
    (body : ∀ (cdv : Value) (A : Around) (outer : List Env) (s : Shared) (H : Hp) (E : XK), PSs (cxOf (L2.CX P w) P w K mg base N qual (defScope st) f cdv A outer s H E) (defBody st) (tErr K ((g, i) :: r))) :
    FnOk P w K mg base (L2.CX P w) (k + 1) f fd ps (spErr K N n ((g, i) :: r)) := by
  refine F.okX Sc (fun vs H Q E h => by obtain ⟨_, _, _, _, h, _⟩ := h; rw [h, hn]) fun cdv A outer s H vs Q E hr h => ⟨_, body cdv A outer s H E, ?_⟩
  obtain ⟨a, C, ws, rfl, hl, T, hf, ha, q⟩ := h
  have st0 : (L2.start N (V.ref a :: ws))[0]? = some (some (.ref a)) := rfl
  have sti : ∀ j, j < n → ∃ v, (L2.start N (V.ref a :: ws))[j]? = some (some v) := fun j hj => by
    have hj2 : j < (V.ref a :: ws).length := by rw [hl]; exact hj
    refine ⟨(V.ref a :: ws)[j], ?_⟩
    unfold L2.start
    rw [List.getElem?_append_left (by simpa using hj2), List.getElem?_map, List.getElem?_eq_getElem hj2]
    rfl
  obtain ⟨v, hv⟩ := sti i (hps (g, i) (by simp))
  refine ⟨v, hv, .ref a, st0, a, C, rfl, T, hf (g, i) (by simp), .inl ⟨ha, fun dx hdx hne => ?_⟩⟩
  refine err_run T st0 hne r [(g, v)] (fun q hq => ⟨hf q (by simp [hq]), sti q.2 (hps q (by simp [hq]))⟩) (by simp; omega) ?_
  have := q dx hdx hne
  have ew : (((L2.start N (V.ref a :: ws))[i]?.bind id).getD .non) = v := by rw [hv]; rfl
  unfold errF at this
  rw [ew] at this
  exact this
end
def errFD (ρ : Sl) : List (Str × D) → List (Str × Nat) → List (Str × D)
  | acc, [] => acc
  | acc, (f, i) :: r => errFD ρ ((f, ((ρ[i]?.bind id).getD .non)) :: acc) r
theorem errF_rep {K : PySem.W.Frag} {cl : Str → Option Addr} {W : Wd} {σ : St} {ρ : Sl} : ∀ (r : List (Str × Nat)) {acc : List (Str × V)} {acd : List (Str × D)}, (∀ q ∈ r, ∃ v d, σ[q.2]? = some (some v) ∧ ρ[q.2]? = some (some d) ∧ Rep K cl W v d) → RepF K cl W acc acd →
    RepF K cl W (errF σ acc r) (errFD ρ acd r)
  | [], _, _, _, h => h
  | (f, i) :: r, acc, acd, hr, h => by
    obtain ⟨v, d, h1, h2, h3⟩ := hr (f, i) (by simp)
    unfold errF errFD
    rw [h1, h2]
    exact errF_rep r (fun q hq => hr q (by simp [hq])) (.cons h3 h)
theorem errFD_len {ρ : Sl} : ∀ (r : List (Str × Nat)) (acc : List (Str × D)), (errFD ρ acc r).length = acc.length + r.length
  | [], acc => rfl
  | (f, i) :: r, acc => by
    unfold errFD
    rw [errFD_len r]
    simp
    omega
theorem errFD_ne {ρ : Sl} {r : List (Str × Nat)} (h : r ≠ []) : errFD ρ [] r ≠ [] := fun e => by
  have q := errFD_len (ρ := ρ) r []
  rw [e] at q
  have := List.length_pos_iff.mpr h
  simp at q
  omega
/-- raise c(..), an own error with fields -/
def ErrF (P : Program) (w : World) (K : PySem.W.Frag) (mg : Str → Option Value) (base : Heap) (cl : Str → Option Addr) (c : Str) (k n : Nat) (N : List Str) (r : List (Str × Nat)) : Prop :=
  ∃ C fI fd ps, cl c = some C ∧ mg c = some (.ref C) ∧ OexC K C ∧ PySem.W.findIn K (.ref C) "__init__" = some (some (.ref fI)) ∧ PySem.W.typeIn K (.ref fI) = some (.type "function") ∧
    FnOk P w K mg base (L2.CX P w) k fI fd ps (spErr K N n r) ∧ Binds K fd ps [] ∧ ∀ q ∈ r, PySem.W.findIn K (.ref C) q.1 = some none
def sRaise (c : Str) (n N : Nat) (r : List (Str × Nat)) (a : M (List D)) : MS := fun ρ S => sB (a ρ S) ρ fun ds S1 => if ds.length + 1 = n ∧ ds.length ≤ 1000 then .exc ⟨c, errFD (startD N (.non :: ds)) [] r⟩ ρ S1 else .stk
section
variable {X : Cx} {cl : Str → Option Addr} {E : WX} {c : Str} {k n : Nat} {N : List Str} {r : List (Str × Nat)} {e : Expr} {es : List Expr} {ms : M (List D)} {p pos pos' : Pos}
theorem s_raiseF (h : ErrF X.prog X.w X.K X.mg X.base cl c k n N r) (rm : Room (k + 1) X.A) (tk : Takes X E) (hA : PA X (e :: es) (TL X.K cl E ms)) (hr0 : r ≠ []) (hq : ∀ q ∈ r, 1 ≤ q.2 ∧ q.2 < n) (hcalm : X.calm = true := by rfl) (hg : Gl X c := by rfl)
    (hdb : (c == ("__debug__" : Str)) = false := by decide) (h1 : starEach (e :: es) X.env = (false, eval e X.env) :: starEach es X.env := by rfl) (h2 : (backTo pos (starEach es X.env)).any (·.1) = false := by rfl) :
    PS X (.Raise (some (.Call (.Name c p) (e :: es) [] pos)) none pos') (Ts X.K cl E (sRaise c n N.length r ms)) := by
  obtain ⟨C, fI, fd, ps, c1, c2, c3, c4, c5, c6, c7, c8⟩ := h
  have hx : Passes (L2.CX X.prog X.w) X (fun _ _ _ => False) := fun pins σ H s e s' I z => passAt (X := X) (W := fun _ _ _ _ => False) takes0 σ pins H s e s' I z
  refine ps_imp (ps_raise hcalm tk (pmk_oex c3 c4 c5 c6 rm c7 .nil hx hg c2 hA hdb h1 h2)) fun A σ H ⟨W, ρ, S, hr, he, pp⟩ => ?_
  refine stepS (rel := Reps X.K cl) hr he pp fun W1 H1 vs ds S1 l1 r1 e1 rv p1 => ?_
  split at p1
  · rename_i hz
    refine ⟨by rw [rv.len]; exact hz.2, fun a ha => ?_⟩
    rw [List.append_nil]
    have lv : vs.length = ds.length := rv.len
    refine ⟨a, C, vs, rfl, by rw [List.length_cons, lv]; exact hz.1, c3, c8, upd_same, fun dx hdx hne => ⟨rfl, dx, errF (L2.start N (V.ref a :: vs)) [] r, upd_same, ?_, ?_, ?_⟩⟩
    · rw [upd_ne hne]
      exact upd_same
    · rw [upd_ne hne] at hdx
      exact hdx
    · rw [upd_ne hne] at hdx
      have eh : upd (del (upd (upd (upd H1 a (exo a C none)) dx (exd dx (errF (L2.start N (V.ref a :: vs)) [] r))) a (exo a C (some dx))) a) dx (.xd (errF (L2.start N (V.ref a :: vs)) [] r)) = upd H1 dx (.xd (errF (L2.start N (V.ref a :: vs)) [] r)) := by
        funext b
        by_cases hb : b = dx
        · subst hb
          rw [upd_same, upd_same]
        · rw [upd_ne hb, upd_ne hb]
          by_cases hba : b = a
          · subst hba
            rw [del_same, ha]
          · rw [del_ne hba, upd_ne hba, upd_ne hb, upd_ne hba]
      rw [eh]
      obtain ⟨r2, l2⟩ := r1.fz (o := .xd (errF (L2.start N (V.ref a :: vs)) [] r)) hdx
      refine p1 _ _ σ (.ref C) (some dx) l2 r2 (e1.up l2) ⟨C, c1, rfl, .inr ⟨dx, _, rfl, upd_same, errFD_ne hr0, errF_rep r (fun q hqq => ?_) .nil⟩⟩
      obtain ⟨q1, q2⟩ := hq q hqq
      obtain ⟨m, hm⟩ : ∃ m, q.2 = m + 1 := ⟨q.2 - 1, by omega⟩
      have hmd : m < ds.length := by omega
      obtain ⟨y, hy, ry⟩ := (rv.up l2).at (i := m) (x := ds[m]) (List.getElem?_eq_getElem hmd)
      refine ⟨y, ds[m], ?_, ?_, ry⟩
      · rw [hm]
        unfold L2.start
        rw [List.getElem?_append_left (by simp; omega), List.getElem?_map, List.getElem?_cons_succ, hy]
        rfl
      · rw [hm]
        unfold startD
        rw [List.getElem?_append_left (by simp; omega), List.getElem?_map, List.getElem?_cons_succ, List.getElem?_eq_getElem hmd]
        rfl
  · exact p1.elim
end
/-- raise c(), an own error without fields -/
def Err0 (K : PySem.W.Frag) (mg : Str → Option Value) (cl : Str → Option Addr) (c : Str) : Prop :=
  ∃ (C : Addr) (B newId initId : String) (bmB : List Value), cl c = some C ∧ mg c = some (.ref C) ∧ ExcBaseFacts B newId initId bmB ∧ PySem.W.excIn K C bmB newId = true ∧ PySem.W.keepIn K (.ref C) = true ∧ PySem.W.subIn K (.ref C) (.type "BaseException") = some true ∧ PySem.W.typeIn K (.ref C) = some (.type "type")
def sRaise0 (c : Str) : MS := fun ρ S => .exc ⟨c, []⟩ ρ S
theorem s_raise0 {X : Cx} {cl : Str → Option Addr} {E : WX} {c : Str} {p pos pos' : Pos} (h : Err0 X.K X.mg cl c) (tk : Takes X E) (hcalm : X.calm = true := by rfl) (hg : Gl X c := by rfl) (hdb : (c == ("__debug__" : Str)) = false := by decide) :
    PS X (.Raise (some (.Call (.Name c p) [] [] pos)) none pos') (Ts X.K cl E (sRaise0 c)) := by
  obtain ⟨C, B, newId, initId, bmB, c1, c2, c3, c4, c5, c6, c7⟩ := h
  exact ps_imp (ps_raise hcalm tk (pmk_own0 c3 c4 c2 c5 (raises_own c6 c7) hg hdb)) fun A σ H ⟨W, ρ, S, hr, he, pp⟩ => pp W H σ (.ref C) none (.rf W) hr he ⟨C, c1, rfl, .inl ⟨rfl, rfl⟩⟩
end G
namespace G
open PySem L2
/-! ### in an except suite: fields of the handled exception -/
def xfD (cs : List Str) (f : Str) (d : D) (S : Store) : Res D := match d with
  | .exv c fs => if c ∈ cs then ofO (fs.lookup f) S else .stk
  | _ => .stk
/-- f is a field of these errors -/
def XAttr (K : PySem.W.Frag) (cl : Str → Option Addr) (f : Str) (cs : List Str) : Prop := ∀ c ∈ cs, rsvN c = false ∧ ∀ C, cl c = some C → XfC K C ∧ PySem.W.findIn K (.ref C) f = some none
section
variable {X : Cx} {cl : Str → Option Addr} {E : WX} {a : Addr} {oe : Obj} {C0 : Addr} {d : Option Addr} {pn : List (Addr × Obj)} {f n : Str} {cs : List Str} {i : Nat} {np pos : Pos}
theorem t_xf (i : Nat) (ht : XAttr X.K cl f cs) (hz : Zc (.ref C0) d oe) (hf : ∃ vs, oe.data = .fields vs) (hN : X.N[i]? = some n := by rfl) (hv : Vis X.env.scope n := by first | exact Or.inl rfl | exact Or.inr (Or.inl rfl) | exact Or.inr (Or.inr rfl))
    (hd : (n == ("__debug__" : Str)) = false := by decide) (hcd : (n == ("__classdict__" : Str)) = false := by decide) (hb : attributeBase (.Name n np) f X.env (eval (.Name n np) X.env) = eval (.Name n np) X.env := by rfl) :
    PE (X.suite a ((a, oe) :: pn)) (.Attribute (.Name n np) f pos) (T X.K (clX cl a C0 d) E (mUn (xfD cs f) (mVar i))) := by
  refine ⟨fun pins s σ H Q I ⟨W, ρ, S, hr, he, p⟩ => ?_⟩
  unfold mUn mVar at p
  split at p
  · rename_i x e
    obtain ⟨v, h1, h2⟩ := he.at' i x e
    dsimp only [Res.bind] at p
    unfold xfD at p
    split at p
    · rename_i c fs
      split at p
      · rename_i hm
        obtain ⟨n1, n2⟩ := ht c hm
        cases el : fs.lookup f with
        | none => rw [el] at p; exact p.elim
        | some y =>
          rw [el] at p
          cases h2 with
          | exv0 g1 g2 g3 g4 => cases el
          | exv1 g1 g2 g3 g4 g5 g7 g6 =>
            rw [clX_a] at g1
            rw [clX_c] at g2
            rw [clX_d] at g3
            cases g1
            cases g2
            obtain ⟨T1, T2⟩ := n2 _ (clX_to n1 g4)
            obtain ⟨u, hu, ru⟩ := g6.get el
            refine (pe_xf (te := tVar i) T1 T2 hz hf (pe_var (X := X.suite a ((a, oe) :: pn)) hN hv hd hcd) hb).run pins s σ H Q I ⟨_, h1, rfl, rfl, _, _, u, g3, hr.sub _ _ g5, hu, p.now hr ru⟩
      · exact p.elim
    · exact p.elim
  · exact p.elim
end
/-! isinstance of the handled exception (an error without fields) -/
def isE (tb : List (Str × Bool)) (d : D) (S : Store) : Res D := match d with
  | .exv c [] => (match tb.lookup c with
    | some b => .ok (.bl b) S
    | none => .stk)
  | _ => .stk
def XIs (K : PySem.W.Frag) (cl : Str → Option Addr) (c2 : Value) (tb : List (Str × Bool)) : Prop := ∀ c b, tb.lookup c = some b → rsvN c = false ∧ ∀ C, cl c = some C → ExcC K C ∧ PySem.W.kitOne K (.ref C) c2 = some b
section
variable {X : Cx} {cl : Str → Option Addr} {E : WX} {a C0 C2 : Addr} {oe : Obj} {d : Option Addr} {pn : List (Addr × Obj)} {n x2 : Str} {tb : List (Str × Bool)} {i : Nat} {p p1 p2 pos : Pos}
theorem t_isE (i : Nat) (ht : XIs X.K cl (.ref C2) tb) (hm2 : X.mg x2 = some (.ref C2)) (hz : Zc (.ref C0) d oe) (hf : ∃ vs, oe.data = .fields vs) (hm : X.mg "isinstance" = none) (hN : X.N[i]? = some n := by rfl) (hv : Vis X.env.scope n := by first | exact Or.inl rfl | exact Or.inr (Or.inl rfl) | exact Or.inr (Or.inr rfl))
    (hd : (n == ("__debug__" : Str)) = false := by decide) (hcd : (n == ("__classdict__" : Str)) = false := by decide) (hg : Gl X "isinstance" := by rfl) (hg2 : Gl X x2 := by rfl) (hd2 : (x2 == ("__debug__" : Str)) = false := by decide)
    (hs : starEach [.Name x2 p2] X.env = (false, eval (.Name x2 p2) X.env) :: starEach [] X.env := by rfl)
    (he : starEach [.Name n p1, .Name x2 p2] X.env = (false, eval (.Name n p1) X.env) :: starEach [.Name x2 p2] X.env := by rfl) (hpl : (backTo pos (starEach [.Name x2 p2] X.env)).any (·.1) = false := by rfl) :
    PE (X.suite a ((a, oe) :: pn)) (.Call (.Name "isinstance" p) [.Name n p1, .Name x2 p2] [] pos) (T X.K (clX cl a C0 d) E (mUn (isE tb) (mVar i))) := by
  refine ⟨fun pins s σ H Q I ⟨W, ρ, S, hr, hen, q⟩ => ?_⟩
  unfold mUn mVar at q
  split at q
  · rename_i x e
    obtain ⟨v, h1, h2⟩ := hen.at' i x e
    dsimp only [Res.bind] at q
    unfold isE at q
    split at q
    · rename_i c
      split at q
      · rename_i b el
        obtain ⟨n1, n2⟩ := ht c b el
        cases h2 with
        | exv1 g1 g2 g3 g4 g5 g7 g6 => exact absurd rfl g7
        | exv0 g1 g2 g3 g4 =>
          rw [clX_a] at g1
          rw [clX_c] at g2
          rw [clX_d] at g3
          cases g1
          cases g2
          subst g3
          obtain ⟨T1, T2⟩ := n2 _ (clX_to n1 g4)
          refine (pe_callB (X := X.suite a ((a, oe) :: pn)) (call_isE T1 hz hf) hg hm bt_isinstance (pa_cons (pe_var (X := X.suite a ((a, oe) :: pn)) hN hv hd hcd) (pa_cons (pe_glob (v := .ref C2) hg2 hm2 rfl hd2) pa_nil hs) he) (by decide) (by decide) he hpl).run pins s σ H Q I ?_
          exact ⟨_, h1, .ref C2, .ref C2, b, rfl, fun u r => r, T2, q.now hr (.bl b)⟩
      · exact q.elim
    · exact q.elim
  · exact q.elim
end
end G
namespace G
open PySem L2
/-! ### the table of classes, read from the written part -/
def clOf (names : List Str) (K : PySem.W.Frag) : Str → Option Addr := fun c => if names.contains c = true then (match PySem.W.nsIn K mainGlobals c with
  | some (some (.ref C)) => some C
  | _ => none) else none
theorem clOf_at {names : List Str} {K : PySem.W.Frag} {c : Str} {C : Addr} (h : PySem.W.nsIn K mainGlobals c = some (some (.ref C))) (hm : names.contains c = true) : clOf names K c = some C := by
  unfold clOf
  rw [if_pos hm, h]
theorem clOf_rsv {names : List Str} {K : PySem.W.Frag} (h : (names.contains "#a" || names.contains "#c" || names.contains "#d") = false) : Rsv (clOf names K) := by
  simp only [Bool.or_eq_false_iff] at h
  obtain ⟨⟨h1, h2⟩, h3⟩ := h
  exact ⟨by unfold clOf; rw [h1]; rfl, by unfold clOf; rw [h2]; rfl, by unfold clOf; rw [h3]; rfl⟩
/-! tables of methods -/
section
variable {P : Program} {w : World} {K : PySem.W.Frag} {mg : Str → Option Value} {base : Heap} {cl : Str → Option Addr} {c m : Str} {j k n : Nat} {g : List D → Store → Res D} {tb : MT}
theorem MFn.mono (h : MFn P w K mg base cl c m j n g) (le : j ≤ k) : MFn P w K mg base cl c m k n g := by
  obtain ⟨C, f, fd, ps, h1, h2, h3, h4, h5⟩ := h
  exact ⟨C, f, fd, ps, h1, h2, h3, h4.mono le, h5⟩
theorem mt_nil : ∀ c g, ([] : MT).lookup c = some g → MFn P w K mg base cl c m k n g := fun c g h => by cases h
theorem mt_cons (h : MFn P w K mg base cl c m k n g) (ht : ∀ c g, tb.lookup c = some g → MFn P w K mg base cl c m k n g) : ∀ c' g', ((c, g) :: tb).lookup c' = some g' → MFn P w K mg base cl c' m k n g' := fun c' g' e => by
  rw [List.lookup_cons] at e
  cases q : c' == c with
  | true =>
    rw [q] at e
    cases e
    rw [eq_of_beq q]
    exact h
  | false =>
    rw [q] at e
    exact ht c' g' e
theorem mt_ex : ∃ c' g', ((c, g) :: tb).lookup c' = some g' := ⟨c, g, by rw [List.lookup_cons, beq_self_eq_true]⟩
theorem at_nil {f : Str} : AttrOk K cl f [] := fun _ h => nomatch h
theorem at_cons {f : Str} {C : Addr} {cs : List Str} (hc : cl c = some C) (h1 : Cls K C) (h2 : NoAttr K C f) (h : AttrOk K cl f cs) : AttrOk K cl f (c :: cs) := fun c' hm C' hC' => by
  rcases List.mem_cons.mp hm with rfl | hm
  · rw [hc] at hC'
    cases hC'
    exact ⟨h1, h2⟩
  · exact h c' hm C' hC'
end
/-- a live [x] * n -/
def mulLv (a b : D) (S : Store) : Res D := match b with
  | .int k => (match lsOf S a with
    | some xs => if 0 ≤ k ∧ smR k = true ∧ xs.length * k.toNat ≤ sizeLine then .ok (.ref S.length) (S ++ [.lst (List.replicate k.toNat xs).flatten]) else .stk
    | none => .stk)
  | _ => .stk
theorem mulLv_s {K : PySem.W.Frag} {cl : Str → Option Addr} : OpS K cl rMulA mulLv := by
  intro W H S x y a b Q E r rx ry p
  unfold mulLv at p
  split at p
  · cases ry
    split at p
    · rename_i xs e1
      obtain ⟨l1, vs1, rfl, h1, t1⟩ := ls_of r rx e1
      split at p
      · rename_i hz
        exact .inr ⟨_, _, _, rfl, rfl, h1, by have := (smR_of hz.2.1).1; omega, by have := (smR_of hz.2.1).2; omega, by rw [t1.len]; exact hz.2.2, newLv r (t1.rep _) p⟩
      · exact p.elim
    · exact p.elim
  · exact p.elim
/-! exceptions, by name -/
def XIsN (K : PySem.W.Frag) (mg : Str → Option Value) (cl : Str → Option Addr) (x : Str) (tb : List (Str × Bool)) : Prop := ∃ C2, mg x = some (.ref C2) ∧ XIs K cl (.ref C2) tb
def TryT (K : PySem.W.Frag) (mg : Str → Option Value) (cl : Str → Option Addr) (x : Str) (tb : List (Str × Bool)) : Prop := ∃ C2, mg x = some (.ref C2) ∧ ∀ c b, tb.lookup c = some b → ∀ C, cl c = some C → PySem.W.exmOne K (.ref C) (.ref C2) = some b
section
variable {X : Cx} {cl : Str → Option Addr} {E : WX} {a C0 : Addr} {oe : Obj} {d : Option Addr} {pn : List (Addr × Obj)} {n x2 : Str} {tb : List (Str × Bool)} {p p1 p2 pos : Pos}
theorem t_isEN (i : Nat) (ht : XIsN X.K X.mg cl x2 tb) (hz : Zc (.ref C0) d oe) (hf : ∃ vs, oe.data = .fields vs) (hm : X.mg "isinstance" = none) (hN : X.N[i]? = some n := by rfl) (hv : Vis X.env.scope n := by first | exact Or.inl rfl | exact Or.inr (Or.inl rfl) | exact Or.inr (Or.inr rfl))
    (hd : (n == ("__debug__" : Str)) = false := by decide) (hcd : (n == ("__classdict__" : Str)) = false := by decide) (hg : Gl X "isinstance" := by rfl) (hg2 : Gl X x2 := by rfl) (hd2 : (x2 == ("__debug__" : Str)) = false := by decide)
    (hs : starEach [.Name x2 p2] X.env = (false, eval (.Name x2 p2) X.env) :: starEach [] X.env := by rfl)
    (he : starEach [.Name n p1, .Name x2 p2] X.env = (false, eval (.Name n p1) X.env) :: starEach [.Name x2 p2] X.env := by rfl) (hpl : (backTo pos (starEach [.Name x2 p2] X.env)).any (·.1) = false := by rfl) :
    PE (X.suite a ((a, oe) :: pn)) (.Call (.Name "isinstance" p) [.Name n p1, .Name x2 p2] [] pos) (T X.K (clX cl a C0 d) E (mUn (isE tb) (mVar i))) := by
  obtain ⟨C2, h1, h2⟩ := ht
  exact t_isE i h2 h1 hz hf hm hN hv hd hcd hg hg2 hd2 hs he hpl
end
section
variable {X : Cx} {cl : Str → Option Addr} {E : WX} {x n t : Str} {i j : Nat} {body : List Stmt} {e : Expr} {np pos pos' ap : Pos} {mb : MS} {m : M D} {cs : List (Str × Bool)} {tp : Pos}
theorem s_tryAN (q : Rsv cl) (hs : X.stack = X.env :: X.outer) (hf : X.env.frame = some X.env.locals) (hN : X.N.Nodup) (hi : X.N[i]? = some n) (hln : X.env.kindOf n = some .local) (ht : TryT X.K X.mg cl x cs) (tk : Takes X E) (hij : i ≠ j)
    (hb : ∀ (W : WX) (pn : List (Addr × Obj)) (xe : Value → Shared → Prop), Takes (X.tr pn xe) W → PassesOwn (model X.prog X.w) X.A X.env xe → PSs (X.tr pn xe) body (Ts X.K cl W mb))
    (hsu : ∀ (a : Addr) (oe : Obj) (C : Addr) (d : Option Addr) (pn : List (Addr × Obj)), Zc (.ref C) d oe → (∃ vs, oe.data = .fields vs) → PSs (X.suite a ((a, oe) :: pn)) [.Assign [.Name t tp] e ap] (Ts X.K (clX cl a C d) (fun _ _ _ _ => False) (sSet j m)))
    (hg : Gl X x := by rfl) (hdb : (x == ("__debug__" : Str)) = false := by decide) :
    PS X (.Try body [.ExceptHandler (some (.Name x np)) (some n) [.Assign [.Name t tp] e ap] pos'] [] [] pos) (Ts X.K cl E (sTryA cs i j m mb)) := by
  obtain ⟨C2, h1, h2⟩ := ht
  exact s_tryA q hs hf hN hi hln ⟨hg, hdb, .inl h1⟩ tk hij h2 hb hsu
end
end G
namespace G
open PySem L2
/-! ### o.f, o.g = e -/
section
variable {X : Cx} {cl : Str → Option Addr} {E : WX} {o e : Expr} {m mo : M D} {f g : Str} {pos pos' p1 p2 : Pos} {cs : List Str} {kt : Nat}
/-- the target o.f -/
theorem pg_fldX {to : TE} (ho : PE X o to) : PG X (.Attribute o f pos) (fun v σ H Q => to σ H fun x H1 => ∃ a C dx fs, x = .ref a ∧ H1 a = some (.ins C dx fs) ∧ Cls X.K C ∧ NoAttr X.K C f ∧ fs.length < 1000 ∧ Q σ (upd H1 a (.ins C dx (putF f v fs)))) :=
  ⟨fun pins s σ H v u Q I rv hw => PySem.W.kas_attr (thn (ho.run pins s σ H _ I hw) fun ov s1 ⟨x, H1, I1, rx, a, C, dx, fs, ex, ea, c, n, l, q⟩ => by
    subst ex
    obtain rfl : ov = Value.ref a := rx
    exact setattr_ok I1 ea c n l rv fun s2 I2 => ⟨σ, _, I2, q⟩)⟩
def sSetF2 (cs : List Str) (f g : Str) (o e : M D) : MS := fun ρ S => sB (e ρ S) ρ fun v S1 => match v with
  | .tup [x, y] => sB (o ρ S1) ρ fun z S2 => (match setFD cs f x z S2 with
    | some S3 => sB (o ρ S3) ρ fun z' S4 => (match setFD cs g y z' S4 with
      | some S5 => .nx ρ S5
      | none => .stk)
    | none => .stk)
  | _ => .stk
theorem setFD_of {K : PySem.W.Frag} {W : Wd} {H : Hp} {S S3 : Store} {x : V} {y d : D} {v : V} (ht : AttrOk K cl f cs) (r : R K cl W H S) (rx : Rep K cl W x y) (rv : Rep K cl W v d) (q : setFD cs f d y S = some S3) :
    ∃ a C dx fs, x = .ref a ∧ H a = some (.ins C dx fs) ∧ Cls K C ∧ NoAttr K C f ∧ fs.length < 1000 ∧ R K cl W (upd H a (.ins C dx (putF f v fs))) S3 := by
  unfold setFD at q
  split at q
  · rename_i n
    split at q
    · rename_i c fs es
      split at q
      · rename_i hm
        cases q
        cases rx with | ref hn =>
        obtain ⟨g0, C, dx, vs, hc, ha, rf⟩ := r.live n _ es (by intro z; cases z)
        obtain ⟨q1, q2⟩ := ht c hm.1 C hc
        exact ⟨_, C, dx, vs, rfl, ha, q1, q2, by rw [rf.len]; exact hm.2, r.put es (by intro z; cases z) ⟨C, dx, _, hc, upd_same, rf.put rv⟩⟩
      · cases q
    · cases q
  · cases q
theorem s_fld2 {o' : Expr} (hf : AttrOk X.K cl f cs) (hg : AttrOk X.K cl g cs) (ho : PE X o (T X.K cl E mo)) (ho' : PE X o' (T X.K cl E mo)) (he : PE X e (T X.K cl E m)) (hc : X.calm = true := by rfl)
    (hs : swapsWithSole [.Tuple [.Attribute o f p1, .Attribute o' g p2] kt pos'] e pos.line X.env = pure false := by rfl) (hw : swappedStores [.Tuple [.Attribute o f p1, .Attribute o' g p2] kt pos'] e X.env = pure none := by rfl)
    (h1 : (assignEach [.Tuple [.Attribute o f p1, .Attribute o' g p2] kt pos'] X.env).map (·.2) = [assign (.Tuple [.Attribute o f p1, .Attribute o' g p2] kt pos') X.env] := by rfl)
    (ha : (assignEach [.Attribute o f p1, .Attribute o' g p2] X.env).map (·.2) = assign (.Attribute o f p1) X.env :: (assignEach [.Attribute o' g p2] X.env).map (·.2) := by rfl)
    (hb : (assignEach [.Attribute o' g p2] X.env).map (·.2) = assign (.Attribute o' g p2) X.env :: (assignEach [] X.env).map (·.2) := by rfl)
    (hn : (assignEach [.Attribute o f p1, .Attribute o' g p2] X.env).length = 2 := by rfl) (hst : (assignEach [.Attribute o f p1, .Attribute o' g p2] X.env).findIdx? (·.1) = none := by rfl) :
    PS X (.Assign [.Tuple [.Attribute o f p1, .Attribute o' g p2] kt pos'] e pos) (Ts X.K cl E (sSetF2 cs f g mo m)) :=
  ps_imp (ps_asg he (pg_tup hc (pgs_cons (pg_fldX ho) (pgs_cons (pg_fldX ho') pgs_nil hb) ha) hn hst) hs hw h1) fun A σ H ⟨W, ρ, S, hr, en, q⟩ => stepS hr en q fun W1 H1 v d S1 l1 r1 e1 rv p1 => by
    split at p1
    · rename_i dx dy
      cases rv with | tup h t =>
      cases t with | cons r2 t =>
      cases t with | cons r3 t =>
      cases t
      refine ⟨_, _, rfl, sqT_up r1.sub h, rfl, _, _, rfl, ?_⟩
      refine stepS r1 e1 p1 fun W2 H2 z dz S2 l2 r4 e2 rz p2 => ?_
      cases q3 : setFD cs f dx dz S2 with
      | none => simp only [q3] at p2; exact p2.elim
      | some S3 =>
        simp only [q3] at p2
        obtain ⟨a, C, dx', fs, ez, ea, c1, c2, c3, r5⟩ := setFD_of hf r4 rz (r2.up l2) q3
        refine ⟨a, C, dx', fs, ez, ea, c1, c2, c3, _, _, rfl, ?_⟩
        refine stepS r5 e2 p2 fun W3 H3 z' dz' S4 l3 r6 e3 rz' p3 => ?_
        cases q4 : setFD cs g dy dz' S4 with
        | none => simp only [q4] at p3; exact p3.elim
        | some S5 =>
          simp only [q4] at p3
          obtain ⟨a', C', dx2, fs', ez', ea', c1', c2', c3', r7⟩ := setFD_of hg r6 rz' (r3.up (l2.tr l3)) q4
          exact ⟨a', C', dx2, fs', ez', ea', c1', c2', c3', rfl, p3 W3 _ σ (.rf W3) r7 e3⟩
    · exact p1.elim
end
theorem s_par {X : Cx} {cl : Str → Option Addr} {E : WX} {x y : Str} {a b : Expr} {ms : M (List D)} {px py pt pos : Pos} {kt k2 : Nat} {pt2 : Pos} (i j : Nat) (hN : X.N.Nodup) (ha : PA X [a, b] (TL X.K cl E ms)) (hc : X.calm = true := by rfl) (hi : X.N[i]? = some x := by rfl) (hj : X.N[j]? = some y := by rfl) (hij : i ≠ j := by decide)
    (hx : X.env.scope.names.lookup x = some .local := by rfl) (hy : X.env.scope.names.lookup y = some .local := by rfl)
    (hw : swappedStores [.Tuple [.Name x px, .Name y py] kt pt] (.Tuple [a, b] k2 pt2) X.env = pure (some [x, y]) := by rfl)
    (hs : swapsWithSole [.Tuple [.Name x px, .Name y py] kt pt] (.Tuple [a, b] k2 pt2) pos.line X.env = pure false := by rfl) :
    PS X (.Assign [.Tuple [.Name x px, .Name y py] kt pt] (.Tuple [a, b] k2 pt2) pos) (Ts X.K cl E (sPar i j ms)) :=
  ps_imp (ps_par hc hN hi hj hij hx hy ha hw hs) fun A σ H ⟨W, ρ, S, hr, en, q⟩ => stepS hr en q fun W1 H1 vs ds S1 l1 r1 e1 rv p1 => by
    split at p1
    · cases rv with | cons r2 t =>
      cases t with | cons r3 t =>
      cases t
      exact ⟨_, _, rfl, p1 W1 H1 _ (.rf W1) r1 ((e1.set i r2).set j r3)⟩
    · exact p1.elim
/-! ### list(range(a, b)) -/
def rngL (as : List D) (S : Store) : Res D := match as with
  | [.int a, .int b] => if 0 ≤ a ∧ a ≤ 16777216 ∧ 0 ≤ b ∧ b ≤ 16777216 then .ok (.lst ((List.range (b - a).toNat).map fun i => .int (a + (i : Nat)))) S else .stk
  | _ => .stk
theorem reps_rng {K : PySem.W.Frag} {cl : Str → Option Addr} {W : Wd} (a : Int) : ∀ l : List Nat, Reps K cl W (l.map fun i => V.int (a + (i : Nat))) (l.map fun i => D.int (a + (i : Nat)))
  | [] => .nil
  | _ :: l => .cons (.int _) (reps_rng a l)
theorem t_listRg2 {X : Cx} {cl : Str → Option Addr} {E : WX} {a b : Expr} {m1 m2 : M D} {p p2 pos pos2 : Pos} (hm : X.mg "list" = none) (hm2 : X.mg "range" = none) (ha : PE X a (T X.K cl E m1)) (hb : PE X b (T X.K cl E m2)) (hc : X.calm = true := by rfl) (hg : Gl X "list" := by rfl) (hg2 : Gl X "range" := by rfl)
    (na : starEach [a, b] X.env = (false, eval a X.env) :: starEach [b] X.env := by rfl) (nb : starEach [b] X.env = (false, eval b X.env) :: starEach [] X.env := by rfl) (hp : (backTo pos2 (starEach [b] X.env)).any (·.1) = false := by rfl)
    (nc : starEach [.Call (.Name "range" p2) [a, b] [] pos2] X.env = (false, eval (.Call (.Name "range" p2) [a, b] [] pos2) X.env) :: starEach [] X.env := by rfl) :
    PE X (.Call (.Name "list" p) [.Call (.Name "range" p2) [a, b] [] pos2] [] pos) (T X.K cl E (mFn rngL (mCons m1 (mCons m2 mNil)))) :=
  pe_imp (pe_listRg hc hg hm (prg_2 hg2 hm2 ha hb na nb hp) nc) fun σ H Q ⟨W, ρ, S, hr, en, q⟩ => by
    have q : Post X.K cl (Rep X.K cl) W ((m1 ρ S).bind fun x S1 => (m2 ρ S1).bind fun y S2 => rngL [x, y] S2) Q (fun c d H' => E c d σ H') := by
      revert q
      unfold mFn mCons mNil
      cases m1 ρ S with
      | ok x S1 =>
        dsimp only [Res.bind]
        cases m2 ρ S1 <;> exact fun z => z
      | _ => exact fun z => z
    exact step hr en q fun W1 H1 x dx S1 l1 r1 e1 rx p1 => step r1 e1 p1 fun W2 H2 y dy S2 l2 r2 e2 ry p2 => by
      unfold rngL at p2
      split at p2
      · rename_i i j hij
        cases hij
        cases rx
        cases ry
        split at p2
        · rename_i hz
          refine ⟨_, _, rfl, rfl, RgOk.of_le hz.1 hz.2.2.2 hz.2.1 hz.2.2.1, ?_⟩
          exact newL r2 (reps_rng _ _) p2
        · exact p2.elim
      · exact p2.elim
/-! ### dicts -/
def dcOf (S : Store) (d : D) : Option (List (Key × D)) := match d with
  | .dct kvs => some kvs
  | .ref n => (match S[n]? with
    | some (.dct kvs) => some kvs
    | some (.ldc kvs) => some kvs
    | _ => none)
  | _ => none
def keyO : D → Option Key
  | .int i => some (.inl i)
  | .str s => some (.inr s)
  | _ => none
def valK (kvs : List (Key × D)) (k : Key) : Option D := (kvs.find? fun kv => decide (kv.1 = k)).map (·.2)
def putKD (kvs : List (Key × D)) (k : Key) (v : D) : List (Key × D) := if (kvs.any fun kv => decide (kv.1 = k)) = true then kvs.map (fun kv => if kv.1 = k then (kv.1, v) else kv) else kvs ++ [(k, v)]
section
variable {K : PySem.W.Frag} {cl : Str → Option Addr} {W : Wd} {H : Hp} {S : Store}
theorem key_rep {x : V} {d : D} {k : Key} (h : Rep K cl W x d) (e : keyO d = some k) : x = kV k := by
  cases h <;> first | (cases e; rfl) | cases e
theorem dc_of {v : V} {d : D} {kvs : List (Key × D)} (r : R K cl W H S) (h : Rep K cl W v d) (e : dcOf S d = some kvs) : ∃ a vs, v = .ref a ∧ Rd H a (.dK vs) ∧ RepK K cl W vs kvs := by
  cases h with
  | dct g t =>
    cases e
    exact ⟨_, _, rfl, .inr ⟨_, r.sub _ _ g⟩, t⟩
  | @ref n hn =>
    unfold dcOf at e
    dsimp only at e
    cases q : S[n]? with
    | none => rw [q] at e; cases e
    | some mo =>
      rw [q] at e
      cases mo with
      | dct ys =>
        cases e
        obtain ⟨_, vs, h1, h2⟩ := r.live n _ q (by intro z; cases z)
        exact ⟨_, _, rfl, .inl h1, h2⟩
      | ldc ys =>
        cases e
        obtain ⟨_, o, vs, h1, h2⟩ := r.live n _ q (by intro z; cases z)
        exact ⟨_, _, rfl, .inr ⟨o, h1⟩, h2⟩
      | _ => cases e
  | _ => cases e
theorem RepK.val : ∀ {vs : List (Key × V)} {ds : List (Key × D)} (k : Key), RepK K cl W vs ds → (∃ v d, valV vs k = some v ∧ valK ds k = some d ∧ Rep K cl W v d) ∨ (valV vs k = none ∧ valK ds k = none)
  | _, _, k, .nil => .inr ⟨rfl, rfl⟩
  | _, _, k, .cons (k := j) (v := v) (d := d) h t => by
    by_cases e : j = k
    · subst e
      exact .inl ⟨v, d, by simp [valV], by simp [valK], h⟩
    · have e1 := RepK.val k t
      have e2 : ∀ {α : Type} (x : α) (r : List (Key × α)), ((j, x) :: r).find? (fun kv => decide (kv.1 = k)) = r.find? (fun kv => decide (kv.1 = k)) := fun x r => by simp [List.find?_cons, e]
      unfold valV valK at e1 ⊢
      rw [e2, e2]
      exact e1
theorem RepK.any : ∀ {vs : List (Key × V)} {ds : List (Key × D)} (k : Key), RepK K cl W vs ds → (vs.any fun kv => decide (kv.1 = k)) = (ds.any fun kv => decide (kv.1 = k))
  | _, _, k, .nil => rfl
  | _, _, k, .cons h t => by rw [List.any_cons, List.any_cons, RepK.any k t]
theorem RepK.repl {y : V} {d : D} (hy : Rep K cl W y d) : ∀ {vs : List (Key × V)} {ds : List (Key × D)} (k : Key), RepK K cl W vs ds → RepK K cl W (vs.map fun kv => if kv.1 = k then (kv.1, y) else kv) (ds.map fun kv => if kv.1 = k then (kv.1, d) else kv)
  | _, _, k, .nil => .nil
  | _, _, k, .cons (k := j) h t => by
    rw [List.map_cons, List.map_cons]
    by_cases e : j = k
    · rw [if_pos e, if_pos e]
      exact .cons hy (RepK.repl hy k t)
    · rw [if_neg e, if_neg e]
      exact .cons h (RepK.repl hy k t)
theorem RepK.snoc {y : V} {d : D} {k : Key} (hy : Rep K cl W y d) : ∀ {vs : List (Key × V)} {ds : List (Key × D)}, RepK K cl W vs ds → RepK K cl W (vs ++ [(k, y)]) (ds ++ [(k, d)])
  | _, _, .nil => .cons hy .nil
  | _, _, .cons h t => .cons h (RepK.snoc hy t)
theorem RepK.put {y : V} {d : D} {vs : List (Key × V)} {ds : List (Key × D)} (k : Key) (hy : Rep K cl W y d) (t : RepK K cl W vs ds) : RepK K cl W (putK vs k y) (putKD ds k d) := by
  unfold putK putKD
  rw [t.any k]
  by_cases e : (ds.any fun kv => decide (kv.1 = k)) = true
  · rw [if_pos e, if_pos e]
    exact t.repl hy k
  · rw [if_neg e, if_neg e]
    exact t.snoc hy
theorem RepK.len : ∀ {vs : List (Key × V)} {ds : List (Key × D)}, RepK K cl W vs ds → vs.length = ds.length
  | _, _, .nil => rfl
  | _, _, .cons _ t => by simp [t.len]
end
/-- in, not in: dicts too -/
def inDK (a b : D) (S : Store) : Option Bool := match dcOf S b, keyO a with
  | some kvs, some k => some (valK kvs k).isSome
  | _, _ => none
def inA (a b : D) (S : Store) : Res D := match dcOf S b with
  | some _ => ofB (inDK a b S) S
  | none => inD a b S
def notInA (a b : D) (S : Store) : Res D := match dcOf S b with
  | some _ => ofB ((inDK a b S).map not) S
  | none => notInD a b S
def rInDK : R2 := fun x y H Q => ∃ a o, y = .ref a ∧ DGet H a x o ∧ Q (.bl o.isSome) H
def rNotInDK : R2 := fun x y H Q => ∃ a o, y = .ref a ∧ DGet H a x o ∧ Q (.bl (!o.isSome)) H
theorem op_inD2 {X : Cx} {k : Nat} (hr : Room k X.A) : OpR X (compareOp .In) (fun x y H Q => rInA X.K x y H Q ∨ rInDK x y H Q) := opr_or op_inA fun pins s σ H x y v u Q I rx ry ⟨a, o, ey, g, q⟩ => by
  subst ey
  obtain rfl : u = Value.ref a := ry
  exact d_in (by have := hr.un; omega) I g rx fun s' I' => ⟨.bl o.isSome, _, I', rfl, q⟩
theorem op_notInD2 {X : Cx} {k : Nat} (hr : Room k X.A) : OpR X (compareOp .NotIn) (fun x y H Q => rNotInA X.K x y H Q ∨ rNotInDK x y H Q) := opr_or op_notInA fun pins s σ H x y v u Q I rx ry ⟨a, o, ey, g, q⟩ => by
  subst ey
  obtain rfl : u = Value.ref a := ry
  exact d_notIn (by have := hr.un; omega) I g rx fun s' I' => ⟨.bl (!o.isSome), _, I', rfl, q⟩
theorem dget_of {K : PySem.W.Frag} {cl : Str → Option Addr} {W : Wd} {H : Hp} {a : Addr} {vs : List (Key × V)} {kvs : List (Key × D)} {k : Key} (h : Rd H a (.dK vs)) (t : RepK K cl W vs kvs) :
    ∃ o, DGet H a (kV k) o ∧ o.isSome = (valK kvs k).isSome ∧ ∀ d, valK kvs k = some d → ∃ v, o = some v ∧ Rep K cl W v d := by
  refine ⟨valV vs k, .inl ⟨vs, k, h, rfl, rfl⟩, ?_⟩
  rcases t.val k with ⟨v, d, h1, h2, h3⟩ | ⟨h1, h2⟩
  · exact ⟨by rw [h1, h2]; rfl, fun d' e => by rw [h2] at e; cases e; exact ⟨v, h1, h3⟩⟩
  · exact ⟨by rw [h1, h2]; rfl, fun d' e => by rw [h2] at e; cases e⟩
theorem inA_s {K : PySem.W.Frag} {cl : Str → Option Addr} : OpS K cl (fun x y H Q => rInA K x y H Q ∨ rInDK x y H Q) inA := by
  intro W H S x y a b Q E r rx ry p
  unfold inA at p
  split at p
  · rename_i kvs e
    unfold inDK at p
    rw [e] at p
    cases ek : keyO a with
    | none => rw [ek] at p; exact p.elim
    | some k =>
      rw [ek] at p
      obtain ⟨l, vs, rfl, h, t⟩ := dc_of r ry e
      obtain rfl := key_rep rx ek
      obtain ⟨o, g, e1, _⟩ := dget_of (k := k) h t
      exact .inr ⟨l, o, rfl, g, by rw [e1]; exact p.now r (.bl _)⟩
  · exact .inl (in_s W H S x y a b Q E r rx ry p)
theorem notInA_s {K : PySem.W.Frag} {cl : Str → Option Addr} : OpS K cl (fun x y H Q => rNotInA K x y H Q ∨ rNotInDK x y H Q) notInA := by
  intro W H S x y a b Q E r rx ry p
  unfold notInA at p
  split at p
  · rename_i kvs e
    unfold inDK at p
    rw [e] at p
    cases ek : keyO a with
    | none => rw [ek] at p; exact p.elim
    | some k =>
      rw [ek] at p
      obtain ⟨l, vs, rfl, h, t⟩ := dc_of r ry e
      obtain rfl := key_rep rx ek
      obtain ⟨o, g, e1, _⟩ := dget_of (k := k) h t
      exact .inr ⟨l, o, rfl, g, by rw [e1]; exact p.now r (.bl _)⟩
  · exact .inl (notIn_s W H S x y a b Q E r rx ry p)
end G
namespace G
open PySem L2
/-! ### what the top has made of classes, as tests -/
def clsB (K : PySem.W.Frag) (C : Addr) : Bool := PySem.W.plainGet K C Str.empty && (PySem.W.hasDictIn K C && (PySem.W.plainOver K C && decide (PySem.W.findIn K (.ref C) "__setattr__" = some (some (.builtin "object.__setattr__")))))
theorem clsB_ok {K : PySem.W.Frag} {C : Addr} (h : clsB K C = true) : Cls K C := by
  obtain ⟨h1, h⟩ := Bool.and_eq_true_iff.mp h
  obtain ⟨h2, h⟩ := Bool.and_eq_true_iff.mp h
  obtain ⟨h3, h⟩ := Bool.and_eq_true_iff.mp h
  exact ⟨h1, h2, h3, of_decide_eq_true h⟩
def oexB (K : PySem.W.Frag) (C : Addr) : Bool := decide (PySem.W.findIn K (.ref C) "__setattr__" = some (some (.builtin "object.__setattr__"))) && (decide (PySem.W.subIn K (.ref C) (.type "BaseException") = some true) && (decide (PySem.W.typeIn K (.ref C) = some (.type "type")) && PySem.W.keepIn K (.ref C)))
theorem oexB_ok {K : PySem.W.Frag} {C : Addr} (c : ∃ nm q N bs bm sn sub ab col dd k0 k1 k2 k3 k5, K.lookup C = some (excClassObj nm q C N bs bm true sn sub ab col dd k0 k1 k2 k3 k5 "ValueError.__new__") ∧ PySem.HandSPX.refsVE bm = true) (h : oexB K C = true) : OexC K C := by
  obtain ⟨h1, h⟩ := Bool.and_eq_true_iff.mp h
  obtain ⟨h2, h⟩ := Bool.and_eq_true_iff.mp h
  obtain ⟨h3, h⟩ := Bool.and_eq_true_iff.mp h
  exact ⟨c, of_decide_eq_true h1, of_decide_eq_true h2, of_decide_eq_true h3, h⟩
def excB (K : PySem.W.Frag) (D : Addr) : Bool := decide (PySem.W.findIn K (.ref D) "__getattribute__" = some (some (.builtin "BaseException.__getattribute__"))) && (decide (PySem.W.findIn K (.ref D) "__getattr__" = some none) && (decide (PySem.W.subIn K (.ref D) (.type "BaseException") = some true) && (PySem.W.hasDictIn K D &&
  (decide (PySem.W.findIn K (.ref D) "__class__" = some (some (.builtin "object.__class__"))) && (decide (PySem.W.specialIn K (.builtin "object.__class__") "__get__" = some (some (.builtin "getset_descriptor.__get__"))) && (decide (PySem.W.takesIn K (.builtin "object.__class__") = some true) && decide (PySem.W.mroIn K D (.type "object") = some true)))))))
theorem excB_ok {K : PySem.W.Frag} {C : Addr} (h : excB K C = true) : ExcC K C := by
  obtain ⟨h1, h⟩ := Bool.and_eq_true_iff.mp h
  obtain ⟨h2, h⟩ := Bool.and_eq_true_iff.mp h
  obtain ⟨h3, h⟩ := Bool.and_eq_true_iff.mp h
  obtain ⟨h4, h⟩ := Bool.and_eq_true_iff.mp h
  obtain ⟨h5, h⟩ := Bool.and_eq_true_iff.mp h
  obtain ⟨h6, h⟩ := Bool.and_eq_true_iff.mp h
  obtain ⟨h7, h⟩ := Bool.and_eq_true_iff.mp h
  exact ⟨of_decide_eq_true h1, of_decide_eq_true h2, of_decide_eq_true h3, h4, of_decide_eq_true h5, of_decide_eq_true h6, of_decide_eq_true h7, of_decide_eq_true h⟩
section
variable {K : PySem.W.Frag} {mg : Str → Option Value} {cl : Str → Option Addr} {c x : Str} {C C2 : Addr} {b : Bool} {tb : List (Str × Bool)} {cs : List Str} {f : Str}
theorem xat_nil : XAttr K cl f [] := fun _ h => nomatch h
theorem xat_cons (hc : cl c = some C) (h1 : XfC K C) (h2 : PySem.W.findIn K (.ref C) f = some none) (h : XAttr K cl f cs) (hr : rsvN c = false := by decide) : XAttr K cl f (c :: cs) := fun c' hm => by
  rcases List.mem_cons.mp hm with rfl | hm
  · exact ⟨hr, fun C' hC' => by rw [hc] at hC'; cases hC'; exact ⟨h1, h2⟩⟩
  · exact h c' hm
theorem xis_nil : XIs K cl (.ref C2) [] := fun _ _ h => by cases h
theorem xis_cons (hc : cl c = some C) (h1 : ExcC K C) (h2 : PySem.W.kitOne K (.ref C) (.ref C2) = some b) (h : XIs K cl (.ref C2) tb) (hr : rsvN c = false := by decide) : XIs K cl (.ref C2) ((c, b) :: tb) := fun c' b' e => by
  rw [List.lookup_cons] at e
  cases q : c' == c with
  | true =>
    rw [q] at e
    cases e
    rw [eq_of_beq q]
    exact ⟨hr, fun C' hC' => by rw [hc] at hC'; cases hC'; exact ⟨h1, h2⟩⟩
  | false =>
    rw [q] at e
    exact h c' b' e
def TryX (K : PySem.W.Frag) (cl : Str → Option Addr) (C2 : Addr) (tb : List (Str × Bool)) : Prop := ∀ c b, tb.lookup c = some b → ∀ C, cl c = some C → PySem.W.exmOne K (.ref C) (.ref C2) = some b
theorem try_nil : TryX K cl C2 [] := fun _ _ h => by cases h
theorem try_cons (hc : cl c = some C) (h2 : PySem.W.exmOne K (.ref C) (.ref C2) = some b) (h : TryX K cl C2 tb) : TryX K cl C2 ((c, b) :: tb) := fun c' b' e => by
  rw [List.lookup_cons] at e
  cases q : c' == c with
  | true =>
    rw [q] at e
    cases e
    rw [eq_of_beq q]
    exact fun C' hC' => by rw [hc] at hC'; cases hC'; exact h2
  | false =>
    rw [q] at e
    exact h c' b' e
end
end G
namespace G
open PySem L2
/-! ### running: written texts -/
theorem str_inj {a b : String} (h : Str.ofString a = Str.ofString b) : a = b := by
  rw [Str.ofString_eq_toList, Str.ofString_eq_toList] at h
  have h1 : (a.toList.map Char.toNat) = (b.toList.map Char.toNat) := by
    have := congrArg (fun s : Str => s.cps.toList) h
    simpa using this
  have inj : ∀ {l r : List Char}, l.map Char.toNat = r.map Char.toNat → l = r := by
    intro l
    induction l with
    | nil => intro r e; cases r with | nil => rfl | cons _ _ => simp at e
    | cons c l ih =>
      intro r e
      cases r with
      | nil => simp at e
      | cons d r =>
        simp only [List.map_cons, List.cons.injEq] at e
        have e0 : c.val = d.val := UInt32.toNat_inj.mp e.1
        have e1 : c = d := Char.ext e0
        rw [e1, ih e.2]
  exact String.toList_inj.mp (inj h1)
@[simp] theorem str_lit {a b : String} : (Str.ofString a = Str.ofString b) = (a = b) := propext ⟨str_inj, fun h => h ▸ rfl⟩
@[simp] theorem str_beq {a b : String} : (Str.ofString a == Str.ofString b) = decide (a = b) := by
  by_cases h : a = b
  · subst h; simp
  · have : Str.ofString a ≠ Str.ofString b := fun e => h (str_inj e)
    simp [h, beq_eq_false_iff_ne.mpr this]
@[simp] theorem lk_cons {α : Type} {f m : Str} {x : α} {fs : List (Str × α)} : List.lookup f ((m, x) :: fs) = if f = m then some x else List.lookup f fs := by
  rw [List.lookup_cons]
  by_cases h : f = m
  · subst h; simp
  · simp [h, beq_eq_false_iff_ne.mpr h]
theorem szn (n : Nat) (h : Nat.ble n 16777216 = true) : (n ≤ sizeLine) = True := eq_true (by rw [sizeLine_eq]; exact Nat.le_of_ble_eq_true h)
@[simp] theorem sz1 : (1 ≤ sizeLine) = True := szn 1 rfl
@[simp] theorem sz2 : (2 ≤ sizeLine) = True := szn 2 rfl
@[simp] theorem sz3 : (3 ≤ sizeLine) = True := szn 3 rfl
@[simp] theorem sz4 : (4 ≤ sizeLine) = True := szn 4 rfl
@[simp] theorem sz5 : (5 ≤ sizeLine) = True := szn 5 rfl
@[simp] theorem sz6 : (6 ≤ sizeLine) = True := szn 6 rfl
@[simp] theorem sz7 : (7 ≤ sizeLine) = True := szn 7 rfl
@[simp] theorem sz8 : (8 ≤ sizeLine) = True := szn 8 rfl
@[simp] theorem sz9 : (9 ≤ sizeLine) = True := szn 9 rfl
@[simp] theorem sz10 : (10 ≤ sizeLine) = True := szn 10 rfl
@[simp] theorem sz11 : (11 ≤ sizeLine) = True := szn 11 rfl
@[simp] theorem sz12 : (12 ≤ sizeLine) = True := szn 12 rfl
@[simp] theorem sz13 : (13 ≤ sizeLine) = True := szn 13 rfl
@[simp] theorem sz14 : (14 ≤ sizeLine) = True := szn 14 rfl
@[simp] theorem sz16 : (16 ≤ sizeLine) = True := szn 16 rfl
@[simp] theorem sz17 : (17 ≤ sizeLine) = True := szn 17 rfl
@[simp] theorem sz21 : (21 ≤ sizeLine) = True := szn 21 rfl
/-! ### running: instances -/
section
variable {ρ : Sl} {S : Store} {d x y v : D} {ds es : List D} {n k l : Nat} {c f m : Str} {cs : List Str} {fs : List (Str × D)} {tb : MT} {i j : Int}
def rF (cs : List Str) (f : Str) (o : Option MO) (S : Store) : Res D := match o with
  | some (.ins c fs) => if c ∈ cs then ofO (fs.lookup f) S else .stk
  | _ => .stk
@[simp] theorem rF_some : rF cs f (some (.ins c fs)) S = if c ∈ cs then ofO (fs.lookup f) S else .stk := nrfl rfl
@[simp] theorem fld_ref : fldD cs f (.ref n) S = rF cs f (sg S n) S := by
  unfold fldD insO rF sg
  dsimp only
  cases S[n]? with
  | none => rfl
  | some mo => cases mo <;> rfl
def kM2 (n : Nat) (g : List D → Store → Res D) (x : D) (ys : List D) (S : Store) : Res D := ar n g (x :: ys) S
@[simp] theorem e_meth4 {g : List D → Store → Res D} : kM2 n g x ds S = ar n g (x :: ds) S := nrfl rfl
def rM3 (ρ : Sl) (n : Nat) (a : M (List D)) (x : D) (S : Store) (o : Option D) (g : Option (List D → Store → Res D)) : Res D := match o, g with
  | none, some g => (a ρ S).bind (kM2 n g x)
  | _, _ => .stk
@[simp] theorem e_meth3 {a : M (List D)} {g : List D → Store → Res D} : rM3 ρ n a x S none (some g) = (a ρ S).bind (kM2 n g x) := nrfl rfl
def rM (ρ : Sl) (tb : MT) (m : Str) (n : Nat) (a : M (List D)) (x : D) (S : Store) (o : Option MO) : Res D := match o with
  | some (.ins c fs) => rM3 ρ n a x S (fs.lookup m) (tb.lookup c)
  | _ => .stk
@[simp] theorem rM_some {a : M (List D)} : rM ρ tb m n a x S (some (.ins c fs)) = rM3 ρ n a x S (fs.lookup m) (tb.lookup c) := nrfl rfl
def kMeth (ρ : Sl) (tb : MT) (m : Str) (n : Nat) (a : M (List D)) (x : D) (S : Store) : Res D := match insO S x with
  | some (c, fs) => rM3 ρ n a x S (fs.lookup m) (tb.lookup c)
  | none => .stk
@[simp] theorem e_meth {o : M D} {a : M (List D)} : mMeth tb m n o a ρ S = (o ρ S).bind (kMeth ρ tb m n a) := nrfl rfl
@[simp] theorem e_meth2 {a : M (List D)} : kMeth ρ tb m n a (.ref k) S = rM ρ tb m n a (.ref k) S (sg S k) := by
  unfold kMeth insO rM sg
  dsimp only
  cases S[k]? with
  | none => rfl
  | some mo => cases mo <;> rfl
def kMake2 (l : Nat) (d : D) (S : Store) : Res D := match d with
  | .non => .ok (.ref l) S
  | _ => .stk
@[simp] theorem e_make3 : kMake2 l .non S = .ok (.ref l) S := nrfl rfl
def kMake (c : Str) (n : Nat) (g : List D → Store → Res D) (ys : List D) (S : Store) : Res D := (ar n g (.ref S.length :: ys) (S ++ [.ins c []])).bind (kMake2 S.length)
@[simp] theorem e_make {g : List D → Store → Res D} {a : M (List D)} : mMake c n g a ρ S = (a ρ S).bind (kMake c n g) := nrfl rfl
@[simp] theorem e_make2 {g : List D → Store → Res D} : kMake c n g ds S = (ar n g (.ref S.length :: ds) (S ++ [.ins c []])).bind (kMake2 S.length) := nrfl rfl
def rSF (cs : List Str) (f : Str) (v : D) (n : Nat) (o : Option MO) (S : Store) : Option Store := match o with
  | some (.ins c fs) => if c ∈ cs ∧ fs.length < 1000 then some (sp S n (.ins c (putFD f v fs))) else none
  | _ => none
@[simp] theorem rSF_some : rSF cs f v n (some (.ins c fs)) S = if c ∈ cs ∧ fs.length < 1000 then some (sp S n (.ins c (putFD f v fs))) else none := nrfl rfl
@[simp] theorem set_ref : setFD cs f v (.ref n) S = rSF cs f v n (sg S n) S := by
  unfold setFD rSF sg sp
  try dsimp only
  all_goals (rcases S[n]? with _ | mo)
  all_goals first | rfl | (cases mo <;> rfl)
def kSF2 (ρ : Sl) (cs : List Str) (f : Str) (v x : D) (S : Store) : Out := qO (setFD cs f v x S) ρ
def kSF (ρ : Sl) (cs : List Str) (f : Str) (o : M D) (v : D) (S : Store) : Out := sB (o ρ S) ρ (kSF2 ρ cs f v)
@[simp] theorem x_setF {o e : M D} : sSetF cs f o e ρ S = sB (e ρ S) ρ (kSF ρ cs f o) := by
  unfold sSetF
  rfl
@[simp] theorem x_setF2 {o : M D} : kSF ρ cs f o v S = sB (o ρ S) ρ (kSF2 ρ cs f v) := nrfl rfl
@[simp] theorem x_setF3 : kSF2 ρ cs f v x S = qO (setFD cs f v x S) ρ := nrfl rfl
@[simp] theorem putF_nil : putFD f v [] = [(f, v)] := nrfl rfl
@[simp] theorem putF_cons : putFD f v ((m, x) :: fs) = if m = f then (m, v) :: fs else (m, x) :: putFD f v fs := nrfl rfl
def qB (o : Option Store) (f : Store → Out) : Out := match o with
  | some S => f S
  | none => .stk
@[simp] theorem qB_some {f : Store → Out} : qB (some S) f = f S := nrfl rfl
def kF2c (ρ : Sl) (cs : List Str) (g : Str) (y : D) (z : D) (S : Store) : Out := qO (setFD cs g y z S) ρ
def kF2b (ρ : Sl) (cs : List Str) (f g : Str) (o : M D) (x y z : D) (S : Store) : Out := qB (setFD cs f x z S) fun S3 => sB (o ρ S3) ρ (kF2c ρ cs g y)
def kF2 (ρ : Sl) (cs : List Str) (f g : Str) (o : M D) (v : D) (S : Store) : Out := match v with
  | .tup [x, y] => sB (o ρ S) ρ (kF2b ρ cs f g o x y)
  | _ => .stk
@[simp] theorem x_f2 {g : Str} {o e : M D} : sSetF2 cs f g o e ρ S = sB (e ρ S) ρ (kF2 ρ cs f g o) := by
  unfold sSetF2
  congr 1
@[simp] theorem x_f2b {g : Str} {o : M D} : kF2 ρ cs f g o (.tup [x, y]) S = sB (o ρ S) ρ (kF2b ρ cs f g o x y) := nrfl rfl
@[simp] theorem x_f2c {g : Str} {o : M D} {z : D} : kF2b ρ cs f g o x y z S = qB (setFD cs f x z S) fun S3 => sB (o ρ S3) ρ (kF2c ρ cs g y) := nrfl rfl
@[simp] theorem x_f2d {g : Str} {z : D} : kF2c ρ cs g y z S = qO (setFD cs g y z S) ρ := nrfl rfl
def kPar (ρ : Sl) (n k : Nat) (ds : List D) (S : Store) : Out := match ds with
  | [v, w] => .nx ((ρ.set n (some v)).set k (some w)) S
  | _ => .stk
@[simp] theorem x_par {a : M (List D)} : sPar n k a ρ S = sB (a ρ S) ρ (kPar ρ n k) := nrfl rfl
@[simp] theorem x_par2 : kPar ρ n k [x, y] S = .nx ((ρ.set n (some x)).set k (some y)) S := nrfl rfl
/-! errors -/
@[simp] theorem x_raise0 : sRaise0 c ρ S = .exc ⟨c, []⟩ ρ S := nrfl rfl
def kRaise (ρ : Sl) (c : Str) (n k : Nat) (r : List (Str × Nat)) (ds : List D) (S : Store) : Out := if ds.length + 1 = n ∧ ds.length ≤ 1000 then .exc ⟨c, errFD (startD k (.non :: ds)) [] r⟩ ρ S else .stk
@[simp] theorem x_raise {r : List (Str × Nat)} {a : M (List D)} : sRaise c n k r a ρ S = sB (a ρ S) ρ (kRaise ρ c n k r) := nrfl rfl
@[simp] theorem x_raise2 {r : List (Str × Nat)} : kRaise ρ c n k r ds S = if ds.length + 1 = n ∧ ds.length ≤ 1000 then .exc ⟨c, errFD (startD k (.non :: ds)) [] r⟩ ρ S else .stk := nrfl rfl
@[simp] theorem err_nil {acc : List (Str × D)} : errFD ρ acc [] = acc := nrfl rfl
@[simp] theorem err_cons {acc : List (Str × D)} {r : List (Str × Nat)} : errFD ρ acc ((f, n) :: r) = errFD ρ ((f, ((ρ[n]?.bind id).getD .non)) :: acc) r := nrfl rfl
noncomputable def kTry3 (n k : Nat) (ρ : Sl) (S : Store) (r : Res D) : Out := open Classical in match r with
  | .ok d S2 => if xf d = true ∧ S2 = S then .nx ((ρ.set k (some d)).set n none) S else .stk
  | _ => .stk
@[simp] theorem x_try3 {S2 : Store} : kTry3 n k ρ S (.ok d S2) = open Classical in if xf d = true ∧ S2 = S then .nx ((ρ.set k (some d)).set n none) S else .stk := nrfl rfl
noncomputable def kTry2 (n k : Nat) (m : M D) (e : Exc) (ρ : Sl) (S : Store) (b : Option Bool) : Out := match b with
  | some true => kTry3 n k ρ S (m (ρ.set n (some (.exv e.cls e.fs))) S)
  | some false => .exc e ρ S
  | none => .stk
@[simp] theorem x_try2 {m : M D} {e : Exc} : kTry2 n k m e ρ S (some true) = kTry3 n k ρ S (m (ρ.set n (some (.exv e.cls e.fs))) S) := nrfl rfl
@[simp] theorem x_try2f {m : M D} {e : Exc} : kTry2 n k m e ρ S (some false) = .exc e ρ S := nrfl rfl
noncomputable def kTry (tb : List (Str × Bool)) (n k : Nat) (m : M D) (o : Out) : Out := match o with
  | .exc e ρ S => kTry2 n k m e ρ S (tb.lookup e.cls)
  | o => o
@[simp] theorem x_tryE {tb : List (Str × Bool)} {m : M D} {e : Exc} : kTry tb n k m (.exc e ρ S) = kTry2 n k m e ρ S (tb.lookup e.cls) := nrfl rfl
@[simp] theorem x_tryN {tb : List (Str × Bool)} {m : M D} : kTry tb n k m (.nx ρ S) = .nx ρ S := nrfl rfl
@[simp] theorem x_tryR {tb : List (Str × Bool)} {m : M D} : kTry tb n k m (.rt d S) = .rt d S := nrfl rfl
@[simp] theorem x_try {tb : List (Str × Bool)} {m : M D} {b : MS} : sTryA tb n k m b ρ S = kTry tb n k m (b ρ S) := by
  unfold sTryA kTry
  cases b ρ S with
  | exc e ρ1 S1 =>
    dsimp only
    unfold kTry2
    cases tb.lookup e.cls with
    | none => rfl
    | some b => cases b <;> rfl
  | _ => rfl
@[simp] theorem v_xf {fs : List (Str × D)} : xfD cs f (.exv c fs) S = if c ∈ cs then ofO (fs.lookup f) S else .stk := nrfl rfl
def rIsE (o : Option Bool) (S : Store) : Res D := match o with
  | some b => .ok (.bl b) S
  | none => .stk
@[simp] theorem rIsE_some {b : Bool} : rIsE (some b) S = .ok (.bl b) S := nrfl rfl
@[simp] theorem v_isE {tb : List (Str × Bool)} : isE tb (.exv c []) S = rIsE (tb.lookup c) S := by
  unfold isE rIsE
  rfl
/-! the store -/
@[simp] theorem sg_new {mo : MO} : sg (S ++ [mo]) S.length = some mo := by
  unfold sg
  simp
@[simp] theorem sp_new {mo m' : MO} : sp (S ++ [mo]) S.length m' = S ++ [m'] := by
  unfold sp
  simp
@[simp] theorem sg_a0 {a : MO} {l : Store} : sg (S ++ a :: l) S.length = some a := by unfold sg; simp
@[simp] theorem sg_a1 {a b : MO} {l : Store} : sg (S ++ a :: b :: l) (S.length + 1) = some b := by unfold sg; simp
@[simp] theorem sg_a2 {a b c : MO} {l : Store} : sg (S ++ a :: b :: c :: l) (S.length + 2) = some c := by unfold sg; simp
@[simp] theorem sg_a3 {a b c e : MO} {l : Store} : sg (S ++ a :: b :: c :: e :: l) (S.length + 3) = some e := by unfold sg; simp
@[simp] theorem sp_a0 {a m : MO} {l : Store} : sp (S ++ a :: l) S.length m = S ++ m :: l := by unfold sp; simp
@[simp] theorem sp_a1 {a b m : MO} {l : Store} : sp (S ++ a :: b :: l) (S.length + 1) m = S ++ a :: m :: l := by unfold sp; simp
@[simp] theorem sp_a2 {a b c m : MO} {l : Store} : sp (S ++ a :: b :: c :: l) (S.length + 2) m = S ++ a :: b :: m :: l := by unfold sp; simp
theorem sg_app {l : Store} (h : n < S.length) : sg (S ++ l) n = sg S n := by unfold sg; rw [List.getElem?_append_left h]
theorem sp_app {l : Store} {m' : MO} (h : n < S.length) : sp (S ++ l) n m' = sp S n m' ++ l := by unfold sp; rw [List.set_append_left _ _ h]
theorem sg_old {mo : MO} (h : n < S.length) : sg (S ++ [mo]) n = sg S n := by
  unfold sg
  rw [List.getElem?_append_left h]
theorem sp_old {mo m' : MO} (h : n < S.length) : sp (S ++ [mo]) n m' = sp S n m' ++ [mo] := by
  unfold sp
  rw [List.set_append_left _ _ h]
def rLen (o : Option MO) : Option Nat := match o with
  | some (.lst xs) => some xs.length
  | _ => none
@[simp] theorem rLen_some : rLen (some (.lst ds)) = some ds.length := nrfl rfl
@[simp] theorem l_refS : lenO S (.ref n) = rLen (sg S n) := by
  show (match lsOf S (.ref n) with | some ds => some ds.length | none => none) = _
  unfold lsOf rLen sg
  dsimp only
  cases S[n]? with
  | none => rfl
  | some mo => cases mo <;> rfl
def rLs (o : Option MO) : Option (List D) := match o with
  | some (.lst xs) => some xs
  | _ => none
@[simp] theorem rLs_some : rLs (some (.lst ds)) = some ds := nrfl rfl
@[simp] theorem ls_refS : lsOf S (.ref n) = rLs (sg S n) := by
  unfold lsOf rLs sg
  try dsimp only
  all_goals (rcases S[n]? with _ | mo)
  all_goals first | rfl | (cases mo <;> rfl)
@[simp] theorem sq_refS : sqOf S (.ref n) = rLs (sg S n) := ls_refS
@[simp] theorem v_listS : listD [x] S = ofO ((sqOf S x).map D.lst) S := nrfl rfl
def rLL (o : Option (List D)) (S : Store) : Res D := match o with
  | some xs => .ok (.ref S.length) (S ++ [.lst xs])
  | none => .stk
@[simp] theorem rLL_some : rLL (some ds) S = .ok (.ref S.length) (S ++ [.lst ds]) := nrfl rfl
@[simp] theorem v_listLS : listL [x] S = rLL (sqOf S x) S := by
  unfold listL rLL
  rfl
@[simp] theorem v_mulLv : mulLv (.lst ds) (.int j) S = if 0 ≤ j ∧ smR j = true ∧ ds.length * j.toNat ≤ sizeLine then .ok (.ref S.length) (S ++ [.lst (List.replicate j.toNat ds).flatten]) else .stk := nrfl rfl
@[simp] theorem v_rngL : rngL [.int i, .int j] S = if 0 ≤ i ∧ i ≤ 16777216 ∧ 0 ≤ j ∧ j ≤ 16777216 then .ok (.lst ((List.range (j - i).toNat).map fun k => .int (i + (k : Nat)))) S else .stk := nrfl rfl
def kdO (o : Option MO) : Option Kd := match o with
  | some (.lst _) => some .lst
  | some (.dct _) => some .dct
  | _ => none
@[simp] theorem kdO_lst : kdO (some (.lst ds)) = some .lst := nrfl rfl
@[simp] theorem k_refS : kd S (.ref n) = kdO (sg S n) := by
  unfold kd kdO sg
  rfl
@[simp] theorem k_dct' {kvs : List (Key × D)} : kd S (.dct kvs) = some .dct := nrfl rfl
def trO (o : Option MO) (S : Store) : Res Bool := match o with
  | some (.lst xs) => .ok (!xs.isEmpty) S
  | some (.dct xs) => .ok (!xs.isEmpty) S
  | _ => .stk
@[simp] theorem trO_lst : trO (some (.lst ds)) S = .ok (!ds.isEmpty) S := nrfl rfl
@[simp] theorem t_refS : truD (.ref n) S = trO (sg S n) S := by
  unfold truD trO sg
  rfl
@[simp] theorem dc_dct {kvs : List (Key × D)} : dcOf S (.dct kvs) = some kvs := nrfl rfl
@[simp] theorem key_int : keyO (.int i) = some (.inl i) := nrfl rfl
@[simp] theorem key_str {a : Str} : keyO (.str a) = some (.inr a) := nrfl rfl
end
/-! ### comprehensions that choose; loops over what was walked -/
theorem comp_filter {α : Type} {all : List D} {p : Pt} {t : M Bool} {e : M D} {ρ : Sl} {S : Store} (g f : α → D) (q : α → Bool) : ∀ (xs : List α) (k : Nat),
    (∀ d ∈ xs, ∃ ρ1, p (g d) ρ = some ρ1 ∧ t ρ1 S = .ok (q d) S ∧ (q d = true → e ρ1 S = .ok (f d) S)) → k + xs.length ≤ sizeLine →
    compL ⟨all, none⟩ p t e ρ (xs.map g) k S = .ok ((xs.filter q).map f) S := by
  intro xs
  induction xs with
  | nil => intro k _ _; exact comp_nil
  | cons d xs ih =>
    intro k h hk
    obtain ⟨ρ1, hp, ht, he⟩ := h d (by simp)
    rw [List.length_cons] at hk
    rw [List.map_cons, comp_cons hp, ht]
    cases hq : q d with
    | true =>
      have e2 := ih (k + 1) (fun d hd => h d (by simp [hd])) (by omega)
      have hk' : k < sizeLine := by omega
      simp [he hq, hk', e2, hq]
    | false =>
      have e2 := ih k (fun d hd => h d (by simp [hd])) (by omega)
      simp [e2, hq]
theorem comp_N {xs ds : List D} {i n : Nat} {d : D} {t : M Bool} {e : M D} {ρ : Sl} {S : Store} : compL ⟨xs, none⟩ (ptN i) t e ρ (d :: ds) n S = (t (ρ.set i (some d)) S).nox.bind (kCp ρ ⟨xs, none⟩ (ptN i) t e ds n (ρ.set i (some d))) := comp_cons rfl
theorem for_N {xs ds : List D} {i : Nat} {d : D} {b : MS} {ρ : Sl} {S : Store} : forL ⟨xs, none⟩ (ptN i) b (d :: ds) ρ S = fB (b (ρ.set i (some d)) S) (forL ⟨xs, none⟩ (ptN i) b ds) := for_cons rfl
@[simp] theorem sl0 : (0 < sizeLine) = True := eq_true (by decide)
@[simp] theorem sl1 : (1 < sizeLine) = True := eq_true (by decide)
@[simp] theorem sl2 : (2 < sizeLine) = True := eq_true (by decide)
@[simp] theorem sl3 : (3 < sizeLine) = True := eq_true (by decide)
@[simp] theorem sl4 : (4 < sizeLine) = True := eq_true (by decide)
/-- new objects at the end -/
def Ext (S S' : Store) : Prop := ∃ T, S' = S ++ T
theorem Ext.rf (S : Store) : Ext S S := ⟨[], by simp⟩
theorem Ext.tr {A B C : Store} (x : Ext A B) (y : Ext B C) : Ext A C := by
  obtain ⟨T, rfl⟩ := x
  obtain ⟨U, rfl⟩ := y
  exact ⟨T ++ U, by simp⟩
theorem Ext.one {S : Store} {m : MO} : Ext S (S ++ [m]) := ⟨[m], rfl⟩
theorem Ext.get {S S' : Store} {n : Nat} {m : MO} (h : Ext S S') (e : sg S n = some m) : sg S' n = some m := by
  obtain ⟨T, rfl⟩ := h
  unfold sg at e ⊢
  rw [List.getElem?_append_left (List.getElem?_eq_some_iff.mp e).1]
  exact e
end G
namespace G
open PySem L2
/-- a loop over f 0, f 1, .. -/
theorem for_rng {all : List D} {p : Pt} {b : MS} (n : Nat) (f : Nat → D) (I : Nat → Sl → Store → Prop) (h : ∀ i, i < n → ∀ ρ S, I i ρ S → ∃ ρ1 ρ2 S2, p (f i) ρ = some ρ1 ∧ (b ρ1 S = .nx ρ2 S2 ∨ b ρ1 S = .ct ρ2 S2) ∧ I (i + 1) ρ2 S2) {ρ : Sl} {S : Store} (h0 : I 0 ρ S) :
    ∃ ρ' S', forL ⟨all, none⟩ p b ((List.range n).map f) ρ S = .nx ρ' S' ∧ I n ρ' S' := by
  have go : ∀ m j ρ S, j + m = n → I j ρ S → ∃ ρ' S', forL ⟨all, none⟩ p b ((List.range' j m).map f) ρ S = .nx ρ' S' ∧ I n ρ' S' := by
    intro m
    induction m with
    | zero =>
      intro j ρ S e q
      have : j = n := by omega
      subst this
      exact ⟨ρ, S, for_nil, q⟩
    | succ m ih =>
      intro j ρ S e q
      obtain ⟨ρ1, ρ2, S2, hp, hb, q2⟩ := h j (by omega) ρ S q
      obtain ⟨ρ3, S3, e3, q3⟩ := ih (j + 1) ρ2 S2 (by omega) q2
      refine ⟨ρ3, S3, ?_, q3⟩
      rw [List.range'_succ, List.map_cons, for_cons hp]
      rcases hb with hb | hb <;> rw [hb]
      · rw [fB_nx, e3]
      · rw [fB_ct, e3]
  have := go n 0 ρ S (by omega) h0
  rw [List.range_eq_range']
  exact this
theorem range_getD (l : List D) : (List.range l.length).map (fun i => l.getD i .non) = l := by
  apply List.ext_getElem?
  intro i
  by_cases hi : i < l.length
  · rw [List.getElem?_map, List.getElem?_range hi, List.getElem?_eq_getElem hi, Option.map_some, List.getD_eq_getElem?_getD, List.getElem?_eq_getElem hi]
    rfl
  · rw [List.getElem?_eq_none (by simp; omega), List.getElem?_eq_none (by omega)]
theorem getD_at {l : List D} {i : Nat} (hi : i < l.length) : l[i]? = some (l.getD i .non) := by
  rw [List.getD_eq_getElem?_getD, List.getElem?_eq_getElem hi]
  rfl
/-- the items of a made list -/
theorem rep_at {α : Type} {n i : Nat} {x : α} (h : i < n) : (List.replicate n x)[i]? = some x := by
  rw [List.getElem?_replicate, if_pos h]
end G
namespace G
open PySem L2
/-! ### a, b = a list -/
def ptL (p : List D → Sl → Option Sl) : Pt := fun d ρ => match d with
  | .lst ds => p ds ρ
  | _ => none
theorem g_lstP {X : Cx} {cl : Str → Option Addr} {es : List Expr} {pos : Pos} {k n : Nat} {a : List Nat} {ps : List D → Sl → Option Sl} (hc : X.calm = true) (h : PGs X es (Tps X.K cl a ps)) (hl : ∀ ds ρ ρ', ps ds ρ = some ρ' → ds.length = n)
    (hn : (assignEach es X.env).length = n := by rfl) (hst : (assignEach es X.env).findIdx? (·.1) = none := by rfl) : PG X (.Tuple es k pos) (Tp X.K cl a (ptL ps)) :=
  ⟨fun pins s σ H v u Q I r ⟨W, ρ, S, d, ρ', hr, he, rv, ep, q⟩ => (pg_lst hc h hn hst).run pins s σ H v u Q I r (by
    cases rv with
    | lst h1 t => exact ⟨_, _, rfl, SqL.of (hr.sub _ _ h1), by rw [t.len]; exact hl _ _ _ ep, W, ρ, S, _, ρ', hr, he, t, ep, q⟩
    | _ => cases ep)⟩
/-! ### live dicts -/
def dctL (S : Store) : Res D := .ok (.ref S.length) (S ++ [.dct []])
def mDctL : M D := fun _ S => dctL S
theorem t_dictL {X : Cx} {cl : Str → Option Addr} {E : WX} {pos : Pos} : PE X (.Dict [] [] pos) (T X.K cl E mDctL) :=
  pe_imp pe_dnewK fun σ H Q ⟨W, ρ, S, hr, he, q⟩ p hp => q (W.lv p) _ _ (Le.lv W p) (hr.new hp ⟨[], upd_same, .nil⟩) (rep_lv hr)
def putA (o i v : D) (S : Store) : Option Store := match o with
  | .ref n => (match S[n]? with
    | some (.dct kvs) => (match keyO i with
      | some k => if kvs.length < sizeLine then some (S.set n (.dct (putKD kvs k v))) else none
      | none => none)
    | _ => putD o i v S)
  | _ => none
def sPutA (o i e : M D) : MS := fun ρ S => sB (e ρ S) ρ fun v S1 => sB (o ρ S1) ρ fun x S2 => sB (i ρ S2) ρ fun y S3 => match putA x y v S3 with
  | some S4 => .nx ρ S4
  | none => .stk
theorem set_both {X : Cx} {k : Nat} (hr : Room k X.A) : PSet X (fun o i v H Q => rSetL o i v H Q ∨ rSetD o i v H Q) := fun pins s σ H o i v ov iv u Q I ro ri rv h =>
  h.elim (set_list pins s σ H o i v ov iv u Q I ro ri rv) (set_dict (by have := hr.un; omega) pins s σ H o i v ov iv u Q I ro ri rv)
section
variable {X : Cx} {cl : Str → Option Addr} {E : WX} {e : Expr} {m1 m2 m3 : M D} {pos : Pos}
theorem s_putA {k : Nat} {o i : Expr} {tpos : Pos} (rm : Room k X.A) (ho : PE X o (T X.K cl E m1)) (hi : PE X i (T X.K cl E m2)) (he : PE X e (T X.K cl E m3))
    (hs : swapsWithSole [.Subscript o i tpos] e pos.line X.env = pure false := by rfl) (hw : swappedStores [.Subscript o i tpos] e X.env = pure none := by rfl)
    (ha : ∀ v, assign (.Subscript o i tpos) X.env v = (do
      let a ← holding [v] (eval o X.env)
      let b ← holding [v, a] (eval i X.env)
      standAt tpos
      holding [v, a, b] (setItem a b v)
      release [v, a, b] []) := by intro _; rfl) : PS X (.Assign [.Subscript o i tpos] e pos) (Ts X.K cl E (sPutA m1 m2 m3)) :=
  ps_imp (ps_asg he (pg_sub ho hi (set_both rm) ha) hs hw) fun A σ H ⟨W, ρ, S, hr, he, p⟩ => stepS hr he p fun W1 H1 v dv S1 l1 r1 e1 rv p1 =>
    stepS r1 e1 p1 fun W2 H2 x dx S2 l2 r2 e2 rx p2 => stepS r2 e2 p2 fun W3 H3 y dy S3 l3 r3 e3 ry p3 => by
      cases q : putA dx dy dv S3 with
      | none => simp only [q] at p3; exact p3.elim
      | some S4 =>
        simp only [q] at p3
        unfold putA at q
        split at q
        · rename_i n
          cases (rx.up l3) with | ref hn =>
          have rv' := rv.up (l2.tr l3)
          split at q
          · rename_i kvs e4
            split at q
            · rename_i kk ek
              split at q
              · rename_i hz
                cases q
                obtain ⟨_, vs, h1, h2⟩ := r3.live n _ e4 (by intro z; cases z)
                obtain rfl := key_rep ry ek
                refine .inr ⟨_, _, rfl, .inl ⟨vs, kk, h1, rfl, by rw [h2.len]; exact hz, rfl⟩, ?_⟩
                exact p3 W3 _ σ (.rf W3) (r3.put e4 (by intro z; cases z) ⟨_, upd_same, h2.put kk rv'⟩) e3
              · cases q
            · cases q
          · unfold putD at q
            split at q
            · rename_i n' k' eq1
              cases eq1
              cases ry
              split at q
              · rename_i xs e4
                split at q
                · rename_i j ej
                  cases q
                  obtain ⟨_, vs, h1, h2⟩ := r3.live _ _ e4 (by intro z; cases z)
                  refine .inl ⟨_, _, _, j, rfl, rfl, h1, by rw [h2.len]; exact ej, ?_⟩
                  exact p3 W3 _ σ (.rf W3) (r3.put e4 (by intro z; cases z) ⟨_, upd_same, Reps.set rv' j h2⟩) e3
                · cases q
              · cases q
            · cases q
        · cases q
end
/-! d.get(k, x) -/
def getA (x y z : D) (S : Store) : Res D := match dcOf S x, keyO y with
  | some kvs, some k => .ok ((valK kvs k).getD z) S
  | _, _ => .stk
def mGet2 (o a b : M D) : M D := fun ρ S => (o ρ S).bind fun x S1 => match dcOf S1 x with
  | some _ => (a ρ S1).bind fun y S2 => (b ρ S2).bind fun z S3 => getA x y z S3
  | none => .stk
section
variable {X : Cx} {cl : Str → Option Addr} {E : WX} {o e f : Expr} {m m1 m2 : M D} {apos cpos : Pos}
theorem t_get2 {k : Nat} (rm : Room k X.A) (ho : PE X o (T X.K cl E m)) (he : PE X e (T X.K cl E m1)) (hf : PE X f (T X.K cl E m2)) (h1 : attributeBase o "get" X.env (eval o X.env) = eval o X.env := by rfl)
    (h2 : ((backTo cpos (starEach [e, f] X.env)).all (fun x => !x.1) && (backToKw cpos (keywordEach [] X.env)).all (fun x => x.1.isSome) && decide (([e, f] : List Expr).length + ([] : List Keyword).length + (if ([] : List Keyword).isEmpty then 0 else 1) < 30)) = true := by rfl)
    (h3 : (apos.endLine == cpos.line) = true := by rfl) (h4 : backTo cpos (starEach [e, f] X.env) = [(false, eval e X.env), (false, eval f X.env)] := by rfl) :
    PE X (.Call (.Attribute o "get" apos) [e, f] [] cpos) (T X.K cl E (mGet2 m m1 m2)) :=
  pe_imp (pe_dget2 (by have := rm.un; omega) ho he hf ⟨h1, h2, h3, h4⟩) fun σ H Q ⟨W, ρ, S, hr, en, q⟩ => step hr en q fun W1 H1 x dx S1 l1 r1 e1 rx p1 => by
    split at p1
    · rename_i kvs ek
      obtain ⟨a, vs, rfl, ha, t⟩ := dc_of r1 rx ek
      refine ⟨a, rfl, .inl ⟨vs, ha⟩, step r1 e1 p1 fun W2 H2 y dy S2 l2 r2 e2 ry p2 => step r2 e2 p2 fun W3 H3 z dz S3 l3 r3 e3 rz p3 => ?_⟩
      unfold getA at p3
      split at p3
      · rename_i kvs2 kk ek2 ey
        obtain ⟨a2, vs2, ea, ha2, t2⟩ := dc_of r3 (rx.up (l2.tr l3)) ek2
        cases ea
        obtain rfl := key_rep ry ey
        refine ⟨valV vs2 kk, .inl ⟨vs2, kk, ha2, rfl, rfl⟩, ?_⟩
        rcases t2.val kk with ⟨v, d, q1, q2, q3⟩ | ⟨q1, q2⟩
        · rw [q1]
          rw [q2] at p3
          exact p3.now r3 q3
        · rw [q1]
          rw [q2] at p3
          exact p3.now r3 rz
      · exact p3.elim
    · exact p1.elim
/-! d[k], lists and tuples too -/
def ixA (x y : D) (S : Store) : Res D := match dcOf S x with
  | some kvs => (match keyO y with
    | some k => ofO (valK kvs k) S
    | none => .stk)
  | none => ixD x y S
theorem t_ixA {k : Nat} (rm : Room k X.A) (ha : PE X o (T X.K cl E m1)) (hb : PE X e (T X.K cl E m2)) (hp : PlainIx e := by exact fun _ _ => rfl) (hs : NoSl e := by exact fun _ _ => rfl) : PE X (.Subscript o e apos) (T X.K cl E (mOp ixA m1 m2)) :=
  pe_imp (pe_either (pe_ix ix_seq ha hb hp) (pe_dget (by have := rm.un; omega) ha hb hs)) fun σ H Q ⟨W, ρ, S, hr, he, q⟩ => by
    cases e1 : m1 ρ S with
    | stk => unfold mOp at q; rw [e1] at q; exact q.elim
    | exc x S1 =>
      refine .inl ⟨W, ρ, S, hr, he, ?_⟩
      unfold mOp at q
      rw [e1] at q ⊢
      exact q
    | ok x S1 =>
      cases e2 : m2 ρ S1 with
      | stk => unfold mOp at q; rw [e1] at q; dsimp only [Res.bind] at q; rw [e2] at q; exact q.elim
      | exc z S2 =>
        refine .inl ⟨W, ρ, S, hr, he, ?_⟩
        unfold mOp at q
        rw [e1] at q ⊢
        dsimp only [Res.bind] at q
        exact fun W1 H1 v l1 r1 rv => ⟨W1, ρ, S1, r1, he.up l1, by rw [e2] at q ⊢; exact Post.up l1 q⟩
      | ok y S2 =>
        cases e3 : dcOf S2 x with
        | none =>
          refine .inl (step (f := fun x S1 => (m2 ρ S1).bind fun y S2 => ixD x y S2) hr he ?_ fun W1 H1 v d S3 l1 r1 en rv p1 => step r1 en p1 fun W2 H2 u d2 S4 l2 r2 en2 ru p2 => ix_s _ _ _ _ _ _ _ _ _ r2 (rv.up l2) ru p2)
          unfold mOp at q
          rw [e1] at q ⊢
          dsimp only [Res.bind] at q ⊢
          rw [e2] at q ⊢
          dsimp only at q ⊢
          unfold ixA at q
          rw [e3] at q
          exact q
        | some kvs =>
          refine .inr ⟨W, ρ, S, hr, he, ?_⟩
          rw [e1]
          intro W1 H1 v l1 r1 rv
          refine ⟨W1, ρ, S1, r1, he.up l1, ?_⟩
          rw [e2]
          intro W2 H2 u l2 r2 ru
          unfold mOp at q
          rw [e1] at q
          dsimp only [Res.bind] at q
          rw [e2] at q
          dsimp only at q
          unfold ixA at q
          rw [e3] at q
          dsimp only at q
          cases ek : keyO y with
          | none => rw [ek] at q; exact q.elim
          | some kk =>
            rw [ek] at q
            dsimp only at q
            obtain ⟨a, vs, rfl, h, t⟩ := dc_of r2 (rv.up l2) e3
            obtain rfl := key_rep ru ek
            rcases t.val kk with ⟨v', d', q1, q2, q3⟩ | ⟨q1, q2⟩
            · rw [q2] at q
              exact ⟨a, v', rfl, .inl ⟨vs, kk, h, rfl, q1.symm⟩, q W2 H2 v' (l1.tr l2) r2 q3⟩
            · rw [q2] at q
              exact q.elim
end
end G
namespace G
open PySem L2
def keyD : Key → D
  | .inl i => .int i
  | .inr x => .str x
theorem keyD_rep {K : PySem.W.Frag} {cl : Str → Option Addr} {W : Wd} (k : Key) : Rep K cl W (kV k) (keyD k) := by
  cases k with
  | inl i => exact .int i
  | inr x => exact .str x
theorem RepK.at {K : PySem.W.Frag} {cl : Str → Option Addr} {W : Wd} : ∀ {vs : List (Key × V)} {ds : List (Key × D)} {i : Nat} {k : Key} {v : V}, RepK K cl W vs ds → vs[i]? = some (k, v) → ∃ d, ds[i]? = some (k, d) ∧ Rep K cl W v d
  | _, _, _, _, _, .nil, e => by simp at e
  | _, _, 0, _, _, .cons h t, e => by simp at e; obtain ⟨rfl, rfl⟩ := e; exact ⟨_, rfl, h⟩
  | _, _, i + 1, k, v, .cons _ t, e => by
    obtain ⟨d, h1, h2⟩ := RepK.at (i := i) t (by simpa using e)
    exact ⟨d, by simpa using h1, h2⟩
/-! ### for k in d, d locked for good -/
def itK (d : D) (S : Store) : Res Itb := match d with
  | .dct kvs => .ok ⟨kvs.map fun kv => keyD kv.1, none⟩ S
  | _ => .stk
def mItK (m : M D) : M Itb := fun ρ S => (m ρ S).bind fun d S1 => itK d S1
section
variable {X : Cx} {cl : Str → Option Addr} {E : WX} {tg e o : Expr} {m : M D} {apos cpos pos p : Pos}
theorem i_dict (h : PE X e (T X.K cl E m)) : PI X tg e (TIt X.K cl E (mItK m)) :=
  pi_imp (pi_keys h) fun σ H Q ⟨W, ρ, S, hr, he, q⟩ => step hr he q fun W1 H1 v d S1 l1 r1 e1 rv p1 => by
    unfold itK at p1
    split at p1
    · rename_i ds
      cases rv with | @dct a ob vs _ g t =>
      refine ⟨a, ob, rfl, .inl ⟨vs, r1.sub _ _ g, p1 W1 H1 _ (.rf W1) r1 ?_⟩⟩
      intro W2 H2 S2 l2 r2 _
      have hh := r2.sub _ _ (l2.g _ _ g)
      have t2 := t.ups l2
      have lv : vs.length = ds.length := t.len
      refine ⟨fun i x ex => ?_, hh, by show _ ≤ _; rw [List.length_map]; exact Nat.le_of_eq lv⟩
      have hi : i < vs.length := by
        have := (List.getElem?_eq_some_iff.mp ex).1
        rw [List.length_map] at this
        omega
      refine ⟨⟨hh, hi⟩, fun y H' ⟨eH, k, v, ekv, ey⟩ => ⟨W2, .rf W2, eH ▸ r2, ?_⟩⟩
      obtain ⟨dd, g1, g2⟩ := t2.at ekv
      have ex : (ds.map fun kv => keyD kv.1)[i]? = some x := ex
      rw [List.getElem?_map, g1] at ex
      cases ex
      rw [ey]
      exact keyD_rep k
    · exact p1.elim
/-! ### list(d), d locked -/
theorem cr_listF (hc : X.calm = true) : CallR X (.type "list") (fun xs H Q => ∃ a od kvs, xs = [.ref a] ∧ H a = some (.frz od (.dK kvs)) ∧ ∀ q, H q = none → Q (.ref q) (upd H q (.lst (kvs.map fun kv => kV kv.1)))) := by
  intro pins s σ H xs us Q I rr ⟨a, od, kvs, ex, ha, q⟩
  subst ex
  obtain ⟨u, eu, ru⟩ := vals1 rr
  subst eu
  obtain rfl : u = Value.ref a := ru
  obtain ⟨zz, lw, vs, kv, dd⟩ := dk_rd I.hok (.inr ⟨od, ha⟩)
  obtain ⟨ep, atd⟩ := dd.dictAt
  have len : kvs.length = vs.length := Paired.length kv
  refine PySem.W.kdl_call (PySem.W.kdl_dict (knd := mixKind X.prog X.w) (kvs := vs) (ep := ep) lw) (I.ok.hd hc) atd (len ▸ zz) fun h1 t1 acc c1 kp new its => ?_
  have okk : ObjOk X.prog X.w (upd H s.heap.objs.size (.lst (kvs.map fun kv => kV kv.1))) h1 s.heap.objs.size (.lst (kvs.map fun kv => kV kv.1)) := by
    refine ⟨by rw [List.length_map]; exact zz, acc.toList, c1, vals_of_at ?_ fun j x w g1 g2 => ?_, by rw [Array.toArray_toList]; exact new⟩
    · rw [List.length_map, len, ← its.1]
      simp
    · obtain ⟨k, y, hk, is⟩ := its.2 j w (by rw [← Array.getElem?_toList]; exact g2)
      have f1 : (kvs.map (·.1))[j]? = some k := by rw [KV.keys kv, List.getElem?_map, hk]; rfl
      have f2 : (kvs.map fun kv => kV kv.1)[j]? = some (kV k) := by
        rw [show (kvs.map fun kv => kV kv.1) = (kvs.map (·.1)).map kV from (by rw [List.map_map]; rfl), List.getElem?_map, f1]
        rfl
      rw [f2] at g1
      cases g1
      exact keyIs_rel is
  exact ⟨.ref s.heap.objs.size, _, I.laid kp (Nat.le_refl _) okk, rfl, q _ (I.hok.fresh (Nat.le_refl _))⟩
def listK (as : List D) (S : Store) : Res D := match as with
  | [.dct kvs] => .ok (.lst (kvs.map fun kv => keyD kv.1)) S
  | _ => .stk
theorem reps_keys {K : PySem.W.Frag} {W : Wd} : ∀ {vs : List (Key × V)} {ds : List (Key × D)}, RepK K cl W vs ds → Reps K cl W (vs.map fun kv => kV kv.1) (ds.map fun kv => keyD kv.1)
  | _, _, .nil => .nil
  | _, _, .cons (k := k) _ t => .cons (keyD_rep k) (reps_keys t)
theorem listK_s {K : PySem.W.Frag} : FnS K cl (fun xs H Q => ∃ a od kvs, xs = [.ref a] ∧ H a = some (.frz od (.dK kvs)) ∧ ∀ q, H q = none → Q (.ref q) (upd H q (.lst (kvs.map fun kv => kV kv.1)))) listK := by
  intro W H S x a Q E r rx p
  unfold listK at p
  split at p
  · cases rx with | cons rx rn =>
    cases rn
    cases rx with | dct g t =>
    exact ⟨_, _, _, rfl, r.sub _ _ g, newL r (reps_keys t) p⟩
  · exact p.elim
/-! ### sorted(list of ints) -/
def intsO : List D → Option (List Int)
  | [] => some []
  | .int i :: ds => (intsO ds).map (i :: ·)
  | _ :: _ => none
theorem ints_of {K : PySem.W.Frag} {W : Wd} : ∀ {vs : List V} {ds : List D} {ns : List Int}, Reps K cl W vs ds → intsO ds = some ns → vs = ns.map V.int
  | _, _, _, .nil, e => by cases e; rfl
  | _, _, _, .cons (d := d) (ds := ds) h t, e => by
    cases h with
    | int i =>
      unfold intsO at e
      cases e1 : intsO ds with
      | none => rw [e1] at e; cases e
      | some l =>
        rw [e1] at e
        cases e
        rw [ints_of t e1]
        rfl
    | _ => cases e
noncomputable def srt (ns : List Int) : List Int := ns.mergeSort (fun a b => decide (a ≤ b))
theorem srt_eq {l ns : List Int} (h1 : l.Perm ns) (h2 : l.Pairwise (· ≤ ·)) : l = srt ns := by
  have p1 : (srt ns).Perm ns := List.mergeSort_perm _ _
  have p2 : (srt ns).Pairwise (· ≤ ·) := by
    have := List.pairwise_mergeSort (le := fun a b : Int => decide (a ≤ b)) (fun a b c h1 h2 => by simp at h1 h2 ⊢; omega) (fun a b => by simp; omega) ns
    exact this.imp (by simp)
  exact List.Perm.eq_of_pairwise (fun x y _ _ h1 h2 => Int.le_antisymm h1 h2) h2 p2 (h1.trans p1.symm)
theorem srt_perm (ns : List Int) : (srt ns).Perm ns := List.mergeSort_perm _ _
noncomputable def sortedD (as : List D) (S : Store) : Res D := match as with
  | [x] => (match (lsOf S x).bind intsO with
    | some ns => .ok (.lst ((srt ns).map D.int)) S
    | none => .stk)
  | _ => .stk
theorem reps_ints {K : PySem.W.Frag} {W : Wd} : ∀ l : List Int, Reps K cl W (l.map V.int) (l.map D.int)
  | [] => .nil
  | i :: l => .cons (.int i) (reps_ints l)
theorem sorted_s {K : PySem.W.Frag} : FnS K cl (rSortedI K) sortedD := by
  intro W H S x a Q E r rx p
  unfold sortedD at p
  split at p
  · rename_i d
    cases rx with | cons rx rn =>
    cases rn
    split at p
    · rename_i ns en
      cases e1 : lsOf S d with
      | none => rw [e1] at en; cases en
      | some ds =>
        rw [e1] at en
        obtain ⟨l, vs, rfl, h, t⟩ := ls_of r rx e1
        have ev := ints_of t (show intsO ds = some ns from en)
        subst ev
        refine ⟨l, ns, rfl, SqL.of h, fun ns' q hp hs hq => ?_⟩
        rw [srt_eq hp hs]
        exact newL r (reps_ints _) p q hq
    · exact p.elim
  · exact p.elim
/-! ### d.copy(), the copy locked for good -/
theorem pe_copyK {te : TE} (he : PE X o te) (hb : attributeBase o "copy" X.env (eval o X.env) = eval o X.env := by rfl) (hl : (apos.endLine == cpos.line) = true := by rfl) :
    PE X (.Call (.Attribute o "copy" apos) [] [] cpos) (fun σ H Q => te σ H fun x H1 => ∃ a kvs, x = .ref a ∧ Rd H1 a (.dK kvs) ∧ ∀ q, H1 q = none → Q (.ref q) (upd H1 q (.dK kvs))) := by
  refine ⟨fun pins s σ H Q I hw => ?_⟩
  refine wpAny_Call_method (T := "dict") (id := "dict.copy") hb rfl hl F.plainAttrs_dict F.slot_dict_copy F.type_dict_copy (thn (he.run pins s σ H _ I hw) fun u s1 ⟨x, H1, I1, rx, a, kvs, ex, ha, q⟩ => ?_)
  subst ex
  obtain rfl : u = Value.ref a := rx
  obtain ⟨ty, nd, lw⟩ := isD_at I1 (.inl ⟨kvs, ha⟩)
  obtain ⟨zz, _, vs, kv, dd⟩ := dk_rd I1.hok ha
  refine ⟨ty, nd, ?_⟩
  show wpAny _ _ (callWith cpos (.builtin "dict.copy") [.ref a] [] []) _ X.xe s1
  refine method_meetsIn F.slot_dict_copy F.entry_dict_copy rfl (PySem.evalArgs_none ⟨rfl, ty, F.args_dict_copy_1 _, _, meets_dict_copy (mixKind X.prog X.w) a lw, vs, dd, by rw [← KV.length kv]; exact zz, fun h1 n1 _ kp => ?_⟩)
  have nm : (s1.heap.objs.size == sysModules) = false := beq_eq_false_iff_ne.mpr (Nat.ne_of_gt I1.big)
  exact ⟨.ref s1.heap.objs.size, _, I1.laid (t' := s1.toks) kp (Nat.le_refl _) (show ObjOk X.prog X.w _ _ _ (.dK kvs) from ⟨zz, nm, vs, kv, n1⟩), rfl, q _ (I1.hok.fresh (Nat.le_refl _))⟩
def copyF (d : D) (S : Store) : Res D := match dcOf S d with
  | some kvs => .ok (.dct kvs) S
  | none => .stk
theorem t_copyF (he : PE X o (T X.K cl E m)) (hb : attributeBase o "copy" X.env (eval o X.env) = eval o X.env := by rfl) (hl : (apos.endLine == cpos.line) = true := by rfl) :
    PE X (.Call (.Attribute o "copy" apos) [] [] cpos) (T X.K cl E (mUn copyF m)) :=
  pe_imp (pe_frzD (pe_copyK he hb hl)) fun σ H Q ⟨W, ρ, S, hr, en, q⟩ => step hr en q fun W1 H1 v d S1 l1 r1 e1 rv p1 => by
    unfold copyF at p1
    split at p1
    · rename_i kvs ek
      obtain ⟨a, vs, rfl, ha, t⟩ := dc_of r1 rv ek
      refine ⟨a, vs, rfl, ha, fun q hq => ⟨q, .dK vs, rfl, upd_same, True.intro, fun od => ?_⟩⟩
      rw [upd_twice]
      obtain ⟨r2, l2⟩ := r1.fz (o := .frz od (.dK vs)) hq
      exact p1 _ _ _ l2 r2 (.dct upd_same (t.up l2))
    · exact p1.elim
/-! ### d == {} -/
def rEqD0 : R2 := fun x y H Q => ∃ a b ks, x = .ref a ∧ y = .ref b ∧ Rd H a (.dK ks) ∧ Rd H b (.dK []) ∧ Q (.bl ks.isEmpty) H
theorem op_eqD0 {k : Nat} (rm : Room k X.A) : OpR X (compareOp .Eq) rEqD0 := by
  intro pins s σ H x y v u Q I rx ry ⟨a, b, ks, ex, ey, ha, hb, q⟩
  subst ex
  subst ey
  obtain rfl : v = Value.ref a := rx
  obtain rfl : u = Value.ref b := ry
  obtain ⟨_, la, va, ka, da⟩ := dk_rd I.hok ha
  obtain ⟨_, lb, vb, kb, db⟩ := dk_rd I.hok hb
  have l1 : ks.length = va.length := KV.length ka
  have l2 : 0 = vb.length := KV.length kb
  refine PySem.W.keq_eq (knd := mixKind X.prog X.w) (r := true) la lb da db (by have := rm.un; omega) (fun hl => ?_) (fin_bl I q ?_)
  · have : va = [] := List.eq_nil_of_length_eq_zero (by omega)
    rw [this]
    exact .nil
  · rw [← l1, ← l2]
    cases ks <;> simp
def eqD0 (x y : D) (S : Store) : Res D := match dcOf S x, dcOf S y with
  | some ks, some [] => .ok (.bl ks.isEmpty) S
  | _, _ => .stk
theorem eqD0_s {K : PySem.W.Frag} : OpS K cl rEqD0 eqD0 := by
  intro W H S x y a b Q E r rx ry p
  unfold eqD0 at p
  split at p
  · rename_i ks e1 e2
    obtain ⟨l, vs, rfl, h, t⟩ := dc_of r rx e1
    obtain ⟨l', vs', rfl, h', t'⟩ := dc_of r ry e2
    cases t'
    refine ⟨l, l', vs, rfl, rfl, h, h', ?_⟩
    have : vs.isEmpty = ks.isEmpty := by cases t <;> rfl
    rw [this]
    exact p.now r (.bl _)
  · exact p.elim
end
/-! ### running -/
section
variable {ρ : Sl} {S : Store} {d x y z v : D} {ds : List D} {n : Nat} {i : Int}
@[simp] theorem p_l {p : List D → Sl → Option Sl} : ptL p (.lst ds) ρ = p ds ρ := nrfl rfl
@[simp] theorem e_dctL : mDctL ρ S = .ok (.ref S.length) (S ++ [.dct []]) := nrfl rfl
def kPA3 (ρ : Sl) (v x y : D) (S : Store) : Out := qO (putA x y v S) ρ
def kPA2 (ρ : Sl) (i : M D) (v x : D) (S : Store) : Out := sB (i ρ S) ρ (kPA3 ρ v x)
def kPA (ρ : Sl) (o i : M D) (v : D) (S : Store) : Out := sB (o ρ S) ρ (kPA2 ρ i v)
@[simp] theorem x_pa {o i e : M D} : sPutA o i e ρ S = sB (e ρ S) ρ (kPA ρ o i) := by
  unfold sPutA
  rfl
@[simp] theorem x_pa2 {o i : M D} : kPA ρ o i v S = sB (o ρ S) ρ (kPA2 ρ i v) := nrfl rfl
@[simp] theorem x_pa3 {i : M D} : kPA2 ρ i v x S = sB (i ρ S) ρ (kPA3 ρ v x) := nrfl rfl
@[simp] theorem x_pa4 : kPA3 ρ v x y S = qO (putA x y v S) ρ := nrfl rfl
theorem putA_dct {kvs : List (Key × D)} {k : Key} (h : sg S n = some (.dct kvs)) (hk : keyO y = some k) (hz : kvs.length < sizeLine) : putA (.ref n) y v S = some (sp S n (.dct (putKD kvs k v))) := by
  unfold putA
  dsimp only
  rw [show S[n]? = some (.dct kvs) from h]
  dsimp only
  rw [hk]
  exact if_pos hz
theorem putA_lst (h : sg S n = some (.lst ds)) : putA (.ref n) y v S = putD (.ref n) y v S := by
  unfold putA
  dsimp only
  rw [show S[n]? = some (.lst ds) from h]
def kG3 (x y z : D) (S : Store) : Res D := getA x y z S
def kG2 (ρ : Sl) (b : M D) (x y : D) (S : Store) : Res D := (b ρ S).bind (kG3 x y)
def kG1 (ρ : Sl) (a b : M D) (x : D) (S : Store) (o : Option (List (Key × D))) : Res D := match o with
  | some _ => (a ρ S).bind (kG2 ρ b x)
  | none => .stk
def kG (ρ : Sl) (a b : M D) (x : D) (S : Store) : Res D := kG1 ρ a b x S (dcOf S x)
@[simp] theorem e_get {o a b : M D} : mGet2 o a b ρ S = (o ρ S).bind (kG ρ a b) := by
  unfold mGet2
  congr 1
@[simp] theorem e_get2 {a b : M D} : kG ρ a b x S = kG1 ρ a b x S (dcOf S x) := nrfl rfl
@[simp] theorem e_get3 {a b : M D} {kvs : List (Key × D)} : kG1 ρ a b x S (some kvs) = (a ρ S).bind (kG2 ρ b x) := nrfl rfl
@[simp] theorem e_get4 {b : M D} : kG2 ρ b x y S = (b ρ S).bind (kG3 x y) := nrfl rfl
theorem get_ok {kvs : List (Key × D)} {k : Key} (h : dcOf S x = some kvs) (hk : keyO y = some k) : kG3 x y z S = .ok ((valK kvs k).getD z) S := by
  unfold kG3 getA
  rw [h, hk]
theorem dc_ref {kvs : List (Key × D)} (h : sg S n = some (.dct kvs)) : dcOf S (.ref n) = some kvs := by
  unfold dcOf
  dsimp only
  rw [show S[n]? = some (.dct kvs) from h]
theorem ixA_dct {kvs : List (Key × D)} {k : Key} (h : dcOf S x = some kvs) (hk : keyO y = some k) : ixA x y S = ofO (valK kvs k) S := by
  unfold ixA
  rw [h, hk]
@[simp] theorem e_itK {m : M D} : mItK m ρ S = (m ρ S).bind itK := nrfl rfl
@[simp] theorem itK_dct {kvs : List (Key × D)} : itK (.dct kvs) S = .ok ⟨kvs.map fun kv => keyD kv.1, none⟩ S := nrfl rfl
@[simp] theorem listK_dct {kvs : List (Key × D)} : listK [.dct kvs] S = .ok (.lst (kvs.map fun kv => keyD kv.1)) S := nrfl rfl
theorem copy_ok {kvs : List (Key × D)} (h : dcOf S x = some kvs) : copyF x S = .ok (.dct kvs) S := by
  unfold copyF
  rw [h]
@[simp] theorem kdO_dct {kvs : List (Key × D)} : kdO (some (.dct kvs)) = some .dct := nrfl rfl
end
end G
namespace G
open PySem L2
theorem bt_sorted : bootBuiltins "sorted" = some (.builtin "sorted") := by decide +kernel
/-! ### frames: what stays of a store -/
structure Fr (A : List Nat) (S S' : Store) : Prop where
  le : S.length ≤ S'.length
  eq : ∀ i, i < S.length → i ∉ A → sg S' i = sg S i
section
variable {A B : List Nat} {S S1 S2 : Store} {n : Nat} {m : MO}
theorem Fr.rf (A : List Nat) (S : Store) : Fr A S S := ⟨Nat.le_refl _, fun _ _ _ => rfl⟩
theorem Fr.tr (x : Fr A S S1) (y : Fr A S1 S2) : Fr A S S2 := ⟨Nat.le_trans x.le y.le, fun i hi hA => (y.eq i (Nat.lt_of_lt_of_le hi x.le) hA).trans (x.eq i hi hA)⟩
theorem Fr.mono (x : Fr A S S1) (h : ∀ i ∈ A, i < S.length → i ∈ B) : Fr B S S1 := ⟨x.le, fun i hi hB => x.eq i hi fun hA => hB (h i hA hi)⟩
theorem Fr.sub (x : Fr A S S1) (h : ∀ i ∈ A, i ∈ B) : Fr B S S1 := x.mono fun i hi _ => h i hi
theorem Fr.get (x : Fr A S S1) (h : sg S n = some m) (hn : n ∉ A) : sg S1 n = some m := (x.eq n (sg_lt h) hn).trans h
theorem Fr.put (h : n ∈ A) : Fr A S (sp S n m) := ⟨Nat.le_of_eq sp_len.symm, fun i hi hA => sg_ne fun e => hA (e ▸ h)⟩
theorem Fr.ext (h : Ext S S1) : Fr A S S1 := by
  obtain ⟨T, rfl⟩ := h
  exact ⟨by simp, fun i hi _ => sg_app hi⟩
theorem Fr.app {T : Store} : Fr A S (S ++ T) := ⟨by simp, fun i hi _ => sg_app hi⟩
end
theorem Ext.app {S T : Store} : Ext S (S ++ T) := ⟨T, rfl⟩
theorem Ext.le {S T : Store} (h : Ext S T) : S.length ≤ T.length := by
  obtain ⟨U, rfl⟩ := h
  simp
/-! ### loops and comprehensions, in general -/
def Stp0 (I : Sl → Store → Prop) (Z : Out → Prop) (o : Out) : Prop := match o with
  | .nx ρ S => I ρ S
  | .ct ρ S => I ρ S
  | .bk ρ S => Z (.nx ρ S)
  | .rt d S => Z (.rt d S)
  | .exc x ρ S => Z (.exc x ρ S)
  | .stk => False
structure Stp (I : Sl → Store → Prop) (Z : Out → Prop) (o : Out) : Prop where
  out : Stp0 I Z o
section
variable {I : Sl → Store → Prop} {Z : Out → Prop} {ρ : Sl} {S : Store} {d : D} {x : Exc}
@[simp] theorem stp_nx : Stp I Z (.nx ρ S) = I ρ S := propext ⟨fun h => h.out, fun h => ⟨h⟩⟩
@[simp] theorem stp_ct : Stp I Z (.ct ρ S) = I ρ S := propext ⟨fun h => h.out, fun h => ⟨h⟩⟩
@[simp] theorem stp_bk : Stp I Z (.bk ρ S) = Z (.nx ρ S) := propext ⟨fun h => h.out, fun h => ⟨h⟩⟩
@[simp] theorem stp_rt : Stp I Z (.rt d S) = Z (.rt d S) := propext ⟨fun h => h.out, fun h => ⟨h⟩⟩
@[simp] theorem stp_exc : Stp I Z (.exc x ρ S) = Z (.exc x ρ S) := propext ⟨fun h => h.out, fun h => ⟨h⟩⟩
end
section
variable {it : Itb} {p : Pt} {b : MS}
theorem for_genA (I : Nat → Sl → Store → Prop) (Z : Out → Prop) : ∀ (ds : List D) (k : Nat) (ρ : Sl) (S : Store),
    (∀ j d, ds[j]? = some d → ∀ ρ S, I (k + j) ρ S → Grd it S ∧ ∃ ρ1, p d ρ = some ρ1 ∧ Stp (I (k + j + 1)) Z (b ρ1 S)) →
    (∀ ρ S, I (k + ds.length) ρ S → Grd it S ∧ Z (.nx ρ S)) → I k ρ S → Z (forL it p b ds ρ S) := by
  intro ds
  induction ds with
  | nil =>
    intro k ρ S _ h0 hI
    obtain ⟨hg, hz⟩ := h0 ρ S hI
    rw [for_nilG hg]
    exact hz
  | cons d ds ih =>
    intro k ρ S h h0 hI
    obtain ⟨hg, ρ1, hp, hb⟩ := h 0 d rfl ρ S hI
    have go : ∀ ρ2 S2, I (k + 1) ρ2 S2 → Z (forL it p b ds ρ2 S2) := fun ρ2 S2 hI2 => ih (k + 1) ρ2 S2 (fun j d hj ρ S hI => by
        have := h (j + 1) d hj ρ S (by rw [show k + (j + 1) = k + 1 + j by omega]; exact hI)
        rw [show k + (j + 1) = k + 1 + j by omega] at this
        exact this) (fun ρ S hI => h0 ρ S (by rw [List.length_cons, show k + (ds.length + 1) = k + 1 + ds.length by omega]; exact hI)) hI2
    rw [for_consG hg hp]
    cases e : b ρ1 S with
    | nx ρ2 S2 => rw [e] at hb; rw [fB_nx]; exact go _ _ hb.out
    | ct ρ2 S2 => rw [e] at hb; rw [fB_ct]; exact go _ _ hb.out
    | bk ρ2 S2 => rw [e] at hb; rw [fB_bk]; exact hb.out
    | rt x S2 => rw [e] at hb; rw [fB_rt]; exact hb.out
    | exc x ρ2 S2 => rw [e] at hb; rw [fB_exc]; exact hb.out
    | stk => rw [e] at hb; exact hb.out.elim
theorem for_gen (I : Nat → Sl → Store → Prop) (Z : Out → Prop) {ds : List D} {ρ : Sl} {S : Store}
    (h : ∀ j d, ds[j]? = some d → ∀ ρ S, I j ρ S → Grd it S ∧ ∃ ρ1, p d ρ = some ρ1 ∧ Stp (I (j + 1)) Z (b ρ1 S))
    (h0 : ∀ ρ S, I ds.length ρ S → Grd it S ∧ Z (.nx ρ S)) (hI : I 0 ρ S) : Z (forL it p b ds ρ S) :=
  for_genA I Z ds 0 ρ S (fun j d hj ρ S hI => by rw [Nat.zero_add] at hI ⊢; exact h j d hj ρ S hI) (fun ρ S hI => by rw [Nat.zero_add] at hI; exact h0 ρ S hI) hI
/-- a loop that goes through -/
theorem for_thru (I : Nat → Sl → Store → Prop) (ds : List D) {ρ : Sl} {S : Store}
    (h : ∀ j d, ds[j]? = some d → ∀ ρ S, I j ρ S → Grd it S ∧ ∃ ρ1, p d ρ = some ρ1 ∧ Stp (I (j + 1)) (fun _ => False) (b ρ1 S))
    (h0 : ∀ ρ S, I ds.length ρ S → Grd it S) (hI : I 0 ρ S) : ∃ ρ' S', forL it p b ds ρ S = .nx ρ' S' ∧ I ds.length ρ' S' := by
  refine for_gen (it := it) (p := p) (b := b) I (fun o => ∃ ρ' S', o = .nx ρ' S' ∧ I ds.length ρ' S') (fun j d hj ρ S hI => ?_) (fun ρ S hI => ⟨h0 ρ S hI, ρ, S, rfl, hI⟩) hI
  obtain ⟨hg, ρ1, hp, hb⟩ := h j d hj ρ S hI
  refine ⟨hg, ρ1, hp, ?_⟩
  refine ⟨?_⟩
  have hb := hb.out
  cases e : b ρ1 S <;> rw [e] at hb <;> first | exact hb | exact hb.elim
theorem comp_nilG {t : M Bool} {e : M D} {ρ : Sl} {n : Nat} {S : Store} (hg : Grd it S) : compL it p t e ρ [] n S = .ok [] S := by
  unfold compL
  rw [if_pos hg]
theorem comp_consG {t : M Bool} {e : M D} {ρ ρ1 : Sl} {n : Nat} {S : Store} {d : D} {ds : List D} (hg : Grd it S) (h : p d ρ = some ρ1) : compL it p t e ρ (d :: ds) n S = (t ρ1 S).nox.bind (kCp ρ it p t e ds n ρ1) := by
  rw [compL.eq_2, if_pos hg, h]
  rfl
/-- a comprehension, with the state -/
theorem comp_gen {t : M Bool} {e : M D} {ρ : Sl} (I : Nat → List D → Store → Prop) : ∀ (ds : List D) (k n : Nat) (acc : List D) (S : Store),
    (∀ j d, ds[j]? = some d → ∀ ys S, I (k + j) ys S → Grd it S ∧ ∃ ρ1, p d ρ = some ρ1 ∧ ∃ q S1, t ρ1 S = .ok q S1 ∧ ((q = false ∧ I (k + j + 1) ys S1) ∨ (q = true ∧ ∃ y S2, e ρ1 S1 = .ok y S2 ∧ I (k + j + 1) (ys ++ [y]) S2))) →
    (∀ ys S, I (k + ds.length) ys S → Grd it S) → n + ds.length ≤ sizeLine → I k acc S → ∃ ys S', compL it p t e ρ ds n S = .ok ys S' ∧ I (k + ds.length) (acc ++ ys) S' := by
  intro ds
  induction ds with
  | nil =>
    intro k n acc S _ h0 _ hI
    exact ⟨[], S, comp_nilG (h0 acc S hI), by rw [List.append_nil]; exact hI⟩
  | cons d ds ih =>
    intro k n acc S h h0 hn hI
    rw [List.length_cons] at hn
    obtain ⟨hg, ρ1, hp, q, S1, ht, hq⟩ := h 0 d rfl acc S hI
    have h' : ∀ j d, ds[j]? = some d → ∀ ys S, I (k + 1 + j) ys S → Grd it S ∧ ∃ ρ1, p d ρ = some ρ1 ∧ ∃ q S1, t ρ1 S = .ok q S1 ∧ ((q = false ∧ I (k + 1 + j + 1) ys S1) ∨ (q = true ∧ ∃ y S2, e ρ1 S1 = .ok y S2 ∧ I (k + 1 + j + 1) (ys ++ [y]) S2)) := fun j d hj ys S hI => by
      have := h (j + 1) d hj ys S (by rw [show k + (j + 1) = k + 1 + j by omega]; exact hI)
      rw [show k + (j + 1) = k + 1 + j by omega] at this
      exact this
    have h0' : ∀ ys S, I (k + 1 + ds.length) ys S → Grd it S := fun ys S hI => h0 ys S (by rw [List.length_cons, show k + (ds.length + 1) = k + 1 + ds.length by omega]; exact hI)
    have el : k + (d :: ds).length = k + 1 + ds.length := by rw [List.length_cons]; omega
    rw [comp_consG hg hp, ht, el]
    rcases hq with ⟨rfl, hI2⟩ | ⟨rfl, y, S2, he, hI2⟩
    · obtain ⟨ys, S3, e3, I3⟩ := ih (k + 1) n acc S1 h' h0' (by omega) hI2
      exact ⟨ys, S3, by simp [e3], I3⟩
    · obtain ⟨ys, S3, e3, I3⟩ := ih (k + 1) (n + 1) (acc ++ [y]) S2 h' h0' (by omega) hI2
      have hn' : n < sizeLine := by omega
      exact ⟨y :: ys, S3, by simp [he, hn', e3], by rw [List.append_assoc] at I3; exact I3⟩
/-- a comprehension that changes nothing -/
theorem comp_pure {α : Type} {t : M Bool} {e : M D} {ρ : Sl} {S : Store} (hg : Grd it S) (g f : α → D) (q : α → Bool) : ∀ (xs : List α) (k : Nat),
    (∀ d ∈ xs, ∃ ρ1, p (g d) ρ = some ρ1 ∧ t ρ1 S = .ok (q d) S ∧ (q d = true → e ρ1 S = .ok (f d) S)) → k + xs.length ≤ sizeLine →
    compL it p t e ρ (xs.map g) k S = .ok ((xs.filter q).map f) S := by
  intro xs
  induction xs with
  | nil => intro k _ _; exact comp_nilG hg
  | cons d xs ih =>
    intro k h hk
    obtain ⟨ρ1, hp, ht, he⟩ := h d (by simp)
    rw [List.length_cons] at hk
    rw [List.map_cons, comp_consG hg hp, ht]
    cases hq : q d with
    | true =>
      have e2 := ih (k + 1) (fun d hd => h d (by simp [hd])) (by omega)
      have hk' : k < sizeLine := by omega
      simp [he hq, hk', e2, hq]
    | false =>
      have e2 := ih k (fun d hd => h d (by simp [hd])) (by omega)
      simp [e2, hq]
end
theorem grd_none {xs : List D} {S : Store} : Grd ⟨xs, none⟩ S := trivial
theorem grd_some {xs : List D} {n : Nat} {S : Store} (h : sg S n = some (.lst xs)) : Grd ⟨xs, some n⟩ S := h
theorem ixN_nat {n i : Nat} (h : i < n) : ixN n (i : Int) = some i := by
  unfold ixN
  rw [if_pos (by omega), if_pos (by omega)]
  simp
section
variable {S l : Store} {a b c e f g m : MO}
@[simp] theorem sp_a3 : sp (S ++ a :: b :: c :: e :: l) (S.length + 3) m = S ++ a :: b :: c :: m :: l := by unfold sp; simp
@[simp] theorem sp_a4 : sp (S ++ a :: b :: c :: e :: f :: l) (S.length + 4) m = S ++ a :: b :: c :: e :: m :: l := by unfold sp; simp
@[simp] theorem sg_a4 : sg (S ++ a :: b :: c :: e :: f :: l) (S.length + 4) = some f := by unfold sg; simp
@[simp] theorem sg_a5 : sg (S ++ a :: b :: c :: e :: f :: g :: l) (S.length + 5) = some g := by unfold sg; simp
end
end G
namespace G
open PySem L2
/-! ### it answers, and so -/
inductive Ok {α : Type} : Res α → (α → Store → Prop) → Prop
  | mk {a : α} {S : Store} {P : α → Store → Prop} : P a S → Ok (.ok a S) P
section
variable {α β : Type} {r x : Res α} {P Q : α → Store → Prop}
@[simp] theorem ok_ok {a : α} {S : Store} : Ok (.ok a S) P = P a S := propext ⟨fun h => by cases h with | mk h => exact h, .mk⟩
theorem Ok.ex (h : Ok r P) : ∃ a S, r = .ok a S ∧ P a S := by
  cases h with
  | mk h => exact ⟨_, _, rfl, h⟩
theorem Ok.of {a : α} {S : Store} (e : r = .ok a S) (h : P a S) : Ok r P := by
  rw [e]
  exact .mk h
theorem Ok.g (hx : r = x) (h : Ok r P) : ∃ a S, x = .ok a S ∧ P a S := by
  rw [← hx]
  exact h.ex
theorem Ok.imp (h : Ok r P) (k : ∀ a S, P a S → Q a S) : Ok r Q := by
  obtain ⟨a, S, rfl, hq⟩ := h.ex
  exact .mk (k a S hq)
end
section
variable {it : Itb} {p : Pt} {b : MS} {e : M D} {t : M Bool} {ρ : Sl} {S : Store}
/-- a comprehension of draws -/
theorem compE (I : Store → Prop) (Q : D → Prop) {ds : List D} {k : Nat} (hg : ∀ S, I S → Grd it S) (h : ∀ d ∈ ds, ∃ ρ1, p d ρ = some ρ1 ∧ ∀ S, I S → Ok (e ρ1 S) fun y S' => I S' ∧ Q y) (hI : I S) (hk : k + ds.length ≤ sizeLine) :
    Ok (compL it p mYes e ρ ds k S) fun ys S' => ys.length = ds.length ∧ (∀ y ∈ ys, Q y) ∧ I S' := by
  obtain ⟨ys, S', e1, h1, h2, h3⟩ := comp_gen (it := it) (p := p) (t := mYes) (e := e) (ρ := ρ) (fun j ys S => ys.length = j ∧ (∀ y ∈ ys, Q y) ∧ I S) ds 0 k [] S (fun j d hj ys S ⟨q1, q2, q3⟩ => by
    obtain ⟨ρ1, hp, he⟩ := h d (List.mem_of_getElem? hj)
    obtain ⟨y, S2, e2, i2, qy⟩ := (he S q3).ex
    refine ⟨hg S q3, ρ1, hp, true, S, rfl, .inr ⟨rfl, y, S2, e2, by rw [List.length_append, q1]; rfl, fun z hz => ?_, i2⟩⟩
    rcases List.mem_append.mp hz with hz | hz
    · exact q2 z hz
    · simp at hz; subst hz; exact qy) (fun ys S ⟨q1, q2, q3⟩ => hg S q3) hk ⟨rfl, fun y h => (nomatch h), hI⟩
  rw [List.nil_append, Nat.zero_add] at h1
  rw [List.nil_append] at h2
  exact Ok.of e1 ⟨h1, h2, h3⟩
/-- a comprehension by places -/
theorem compI (I : Nat → List D → Store → Prop) {ds : List D} {k : Nat} (hg : ∀ j ys S, I j ys S → Grd it S)
    (h : ∀ j d, ds[j]? = some d → ∃ ρ1, p d ρ = some ρ1 ∧ ∀ ys S, I j ys S → Ok (e ρ1 S) fun y S' => I (j + 1) (ys ++ [y]) S') (hI : I 0 [] S) (hk : k + ds.length ≤ sizeLine) :
    Ok (compL it p mYes e ρ ds k S) fun ys S' => I ds.length ys S' := by
  obtain ⟨ys, S', e1, h1⟩ := comp_gen (it := it) (p := p) (t := mYes) (e := e) (ρ := ρ) I ds 0 k [] S (fun j d hj ys S hI => by
    rw [Nat.zero_add] at hI ⊢
    obtain ⟨ρ1, hp, he⟩ := h j d hj
    obtain ⟨y, S2, e2, i2⟩ := (he ys S hI).ex
    exact ⟨hg _ _ _ hI, ρ1, hp, true, S, rfl, .inr ⟨rfl, y, S2, e2, i2⟩⟩) (fun ys S hI => hg _ _ _ hI) hk hI
  rw [List.nil_append, Nat.zero_add] at h1
  exact Ok.of e1 h1
/-- a comprehension that changes nothing -/
theorem compP {α : Type} (g f : α → D) (q : α → Bool) {xs : List α} {k : Nat} (hg : Grd it S)
    (h : ∀ d ∈ xs, ∃ ρ1, p (g d) ρ = some ρ1 ∧ t ρ1 S = .ok (q d) S ∧ (q d = true → e ρ1 S = .ok (f d) S)) (hk : k + xs.length ≤ sizeLine) :
    Ok (compL it p t e ρ (xs.map g) k S) fun ys S' => ys = (xs.filter q).map f ∧ S' = S := Ok.of (comp_pure hg g f q xs k h hk) ⟨rfl, rfl⟩
theorem compM {α : Type} (g f : α → D) {xs : List α} {k : Nat} (hg : Grd it S) (h : ∀ d ∈ xs, ∃ ρ1, p (g d) ρ = some ρ1 ∧ e ρ1 S = .ok (f d) S) (hk : k + xs.length ≤ sizeLine) :
    Ok (compL it p mYes e ρ (xs.map g) k S) fun ys S' => ys = xs.map f ∧ S' = S := by
  refine (compP (t := mYes) g f (fun _ => true) hg (fun d hd => ?_) hk).imp fun ys S' h => ⟨by rw [h.1, List.filter_eq_self.mpr (fun _ _ => rfl)], h.2⟩
  obtain ⟨ρ1, h1, h2⟩ := h d hd
  exact ⟨ρ1, h1, rfl, fun _ => h2⟩
/-- loops -/
inductive OkN : Out → (Sl → Store → Prop) → Prop
  | mk {ρ : Sl} {S : Store} {P : Sl → Store → Prop} : P ρ S → OkN (.nx ρ S) P
theorem OkN.ex {o : Out} {P : Sl → Store → Prop} (h : OkN o P) : ∃ ρ S, o = .nx ρ S ∧ P ρ S := by
  cases h with
  | mk h => exact ⟨_, _, rfl, h⟩
theorem OkN.g {o x : Out} {P : Sl → Store → Prop} (hx : o = x) (h : OkN o P) : ∃ ρ S, x = .nx ρ S ∧ P ρ S := by
  rw [← hx]
  exact h.ex
@[simp] theorem okn_nx {P : Sl → Store → Prop} : OkN (.nx ρ S) P = P ρ S := propext ⟨fun h => by cases h with | mk h => exact h, .mk⟩
theorem forI (I : Nat → Sl → Store → Prop) {ds : List D} (hg : ∀ j ρ S, I j ρ S → Grd it S)
    (h : ∀ j d, ds[j]? = some d → ∀ ρ S, I j ρ S → ∃ ρ1, p d ρ = some ρ1 ∧ Stp (I (j + 1)) (fun _ => False) (b ρ1 S)) (hI : I 0 ρ S) : OkN (forL it p b ds ρ S) (I ds.length) := by
  obtain ⟨ρ', S', e1, h1⟩ := for_thru (it := it) (p := p) (b := b) I ds (fun j d hj ρ S hI => ⟨hg _ _ _ hI, h j d hj ρ S hI⟩) (fun ρ S hI => hg _ _ _ hI) hI
  rw [e1]
  exact .mk h1
end
/-! ### the places of a list -/
theorem sg_at {S T : Store} {k : Nat} : sg (S ++ T) (S.length + k) = T[k]? := by
  unfold sg
  rw [List.getElem?_append_right (by omega)]
  congr 1
  omega
theorem sp_at {S T : Store} {k : Nat} {m : MO} : sp (S ++ T) (S.length + k) m = S ++ sp T k m := by
  unfold sp
  rw [List.set_append_right _ _ (by omega)]
  congr 2
  omega
end G
namespace G
open PySem PySem.Spec PyProof.Rows L2
/-! ### several clauses, with names and without -/
abbrev Sut := Addr → Value → Option Addr → TS
/-- the ends of a suite that bears a name -/
def offN (o : Option Nat) (D : Ends) : Ends := match o with
  | none => D
  | some i => { nx := fun z y => D.nx (z.set i none) y, rt := D.rt, bk := fun z y => D.bk (z.set i none) y, ct := fun z y => D.ct (z.set i none) y }
def onN (o : Option Nat) (a : Addr) (σ : L2.St) : L2.St := match o with
  | none => σ
  | some i => σ.set i (some (.ref a))
def wMix (K : PySem.W.Frag) (Wo : WX) (D : Ends) : List (Value × Option Nat × Sut) → WX
  | [] => Wo
  | (c, o, t) :: r => fun k d σ H => ∃ b, PySem.W.exmOne K k c = some b ∧ (b = true → ∀ a, H a = none → t a k d (offN o D) (onN o a σ) H) ∧ (b = false → wMix K Wo D r k d σ H)
inductive Mix (X : Cx) : List ExceptHandler → List (Value × Option Nat × Sut) → Prop
  | nil : Mix X [] []
  | bare {x : Str} {c : Value} {t : Sut} {s0 : Stmt} {su : List Stmt} {p p' : Pos} {hs : List ExceptHandler} {l : List (Value × Option Nat × Sut)} (hc : Names X x c)
      (hu : ∀ (a : Addr) (oe : Obj) (k : Value) (d : Option Addr) (pn : List (Addr × Obj)), Zc k d oe → (∃ v, oe.data = .fields v) → PSs (X.suite a ((a, oe) :: pn)) (s0 :: su) (t a k d)) (r : Mix X hs l) :
      Mix X (.ExceptHandler (some (.Name x p)) none (s0 :: su) p' :: hs) ((c, none, t) :: l)
  | name {x n : Str} {c : Value} {i : Nat} {t : Sut} {s0 : Stmt} {su : List Stmt} {p p' : Pos} {hs : List ExceptHandler} {l : List (Value × Option Nat × Sut)} (hc : Names X x c) (hi : X.N[i]? = some n) (hk : X.env.kindOf n = some .local)
      (hu : ∀ (a : Addr) (oe : Obj) (k : Value) (d : Option Addr) (pn : List (Addr × Obj)), Zc k d oe → (∃ v, oe.data = .fields v) → PSs (X.suite a ((a, oe) :: pn)) (s0 :: su) (t a k d)) (r : Mix X hs l) :
      Mix X (.ExceptHandler (some (.Name x p)) (some n) (s0 :: su) p' :: hs) ((c, some i, t) :: l)
section
variable {X : Cx} {body : List Stmt} {h0 : ExceptHandler} {hds : List ExceptHandler} {l : List (Value × Option Nat × Sut)} {pos : Pos} {tb : WX → TS} {Wo : WX}
theorem ps_try_mix (hst : X.stack = X.env :: X.outer) (hfr : X.env.frame = some X.env.locals) (hN : X.N.Nodup) (tk : Takes X Wo)
    (hb : ∀ (W : WX) (pn : List (Addr × Obj)) (xe : Value → Shared → Prop), Takes (X.tr pn xe) W → PassesOwn (model X.prog X.w) X.A X.env xe → PSs (X.tr pn xe) body (tb W))
    (hh : Mix X (h0 :: hds) l) : PS X (.Try body (h0 :: hds) [] [] pos) (fun D σ H => tb (wMix X.K Wo D l) D σ H) := by
  refine ⟨fun pins s σ H D I h => wpAny_Try_except (wpAny_mono ((hb (wMix X.K Wo D l) (X.pn ++ pins) (fun e y => wpAny (model X.prog X.w) X.A (noteFrame e X.env) (fun _ y2 => wpAny (model X.prog X.w) X.A (setFlight e none) (fun _ y3 =>
    wpAny (model X.prog X.w) X.A (handleBy e X.env (h0 :: hds)) (SP X pins D) X.xe y3) X.xe y2) X.xe y) (fun u z xx => ?_) PassesOwn.looking).run [] s σ H D (I.toTry _) h) (fun f y hsp => ?_) (fun e y he => he))⟩
  · have okk := I.ok
    have hfs : X.A.frames = some (X.env :: X.outer) := by rw [okk.frames, hst]
    obtain ⟨a, B, sI, pins', σ1, H1, k, d, rfl, J0, nb, up, sky, na, os, ag, w⟩ := xx
    have J1 : Inv X pins σ1 H1 sI := J0.ofTry okk
    have sk : Sky B (X.env :: X.outer) a (Zc k d) X.env.locals z.heap := by rw [← hst]; exact sky
    refine Sky.land Zc.steady hfs hfr sk fun g1 fl1 up1 => ?_
    have J2 : Inv X pins σ1 H1 { z with heap := g1 } := J1.landed nb fl1.1 (up.trans up1) os ag
    obtain ⟨oe1, v1, he1, hz1, hd1⟩ := fl1.there
    have nfr : a ∉ frs (X.env :: X.outer) := fun hm => by obtain ⟨_, o2, e2, hnf⟩ := fl1.2.2.1.mem hm; rw [he1] at e2; cases e2; exact hnf _ hd1
    have n1 : a ≠ X.env.locals := fun q => nfr (List.mem_filterMap.mpr ⟨X.env, List.mem_cons_self, by rw [hfr, q]⟩)
    have n2 : a ∉ X.fs := fun hm => by obtain ⟨e, he, q⟩ := List.mem_filterMap.mp hm; exact nfr (List.mem_filterMap.mpr ⟨e, List.mem_cons_of_mem _ he, q⟩)
    have U1 := J2.suite he1 hd1 na n1 n2
    have test : ∀ {x : Str} {c : Value} {np : Pos} {Q : Value → Shared → Prop} {E : Value → Shared → Prop}, Names X x c → Q c { z with heap := g1 } → wpAny (model X.prog X.w) (X.A.mark (some (.ref a))) (eval (.Name x np) X.env) Q E { z with heap := g1 } := fun {x c np Q E} hc q => by
      obtain ⟨hg, hdb, hm | ⟨hm, hv, hnn⟩⟩ := hc
      · exact ld_glob (X := X.suite a ((a, oe1) :: (X.pn ++ pins))) U1 hg hm q hdb
      · exact ld_blt (X := X.suite a ((a, oe1) :: (X.pn ++ pins))) U1 hg hm hv q hnn hdb
    have LT : PySem.W.Looks (model X.prog X.w) g1 (typeOf (.ref a)) k := fun A Q E s kk q => wpAny_typeOf_ref (kk _ _ he1) (by rw [hz1.1]; exact q)
    have go : ∀ {hs : List ExceptHandler} {l' : List (Value × Option Nat × Sut)}, Mix X hs l' → wMix X.K Wo D l' k d σ1 H1 → wpAny (model X.prog X.w) X.A (handleBy (.ref a) X.env hs) (SP X pins D) X.xe { z with heap := g1 } := by
      intro hs l' hk
      induction hk with
      | nil =>
        intro w
        refine wpAny_handleBy_nil ?_
        obtain ⟨k1, k2, k3, oe, vs, T, oT, ts', he, hz, hd, h1, hr⟩ := id fl1
        unfold PySem.passOn
        refine wpAny_bind (wpAny_field he hd h1 ?_)
        rw [if_neg (show ¬ ((Value.ref T == Value.none) = true) by simp)]
        have fin : wpAny (model X.prog X.w) X.A (setFlight (.ref a) X.env.frame) (fun _ y => wpAny (model X.prog X.w) X.A (throw (.ref a) : Sem Flow) (SP X pins D) X.xe y) X.xe { z with heap := g1 } := by
          rw [hfr]
          exact HandSPX.setFlight_upZ fl1 fun g4 hh4 up4 => wpAny_throw (tk _ _ ⟨a, B, sI, pins, σ1, H1, k, d, rfl, J1, nb, (up.trans up1).trans up4, .inr (.inr (by rw [hst]; exact hh4)), na, os, ag, w⟩)
        first | exact wpAny_bind (wpAny_pure (wpAny_bind fin)) | exact wpAny_bind fin
      | @bare x c t s0 su p p' hs2 l2 hc hu r ih =>
        rintro ⟨b, hb1, hyes, hno⟩
        refine wpAny_handleBy_cons (codeAny_handlers_test ?_) (by intro q; cases q)
        refine test hc ((PySem.W.exm_one (M := model X.prog X.w) J2.kIn LT hb1).here ?_)
        cases b with
        | false => exact ih (hno rfl)
        | true =>
          refine codeAny_handlers_suite (HandSPX.lands_againZ fl1 fun g4 fl4 up4 => ?_)
          obtain ⟨oe4, v4, he4, hz4, hd4⟩ := fl4.there
          have J4 : Inv X pins σ1 H1 { z with heap := g4 } := J1.landed nb fl4.1 ((up.trans up1).trans up4) os ag
          have U4 := J4.suite he4 hd4 na n1 n2
          refine wpAny_mono ((hu a oe4 k d (X.pn ++ pins) hz4 ⟨_, hd4⟩).run [] _ _ H1 _ U4 (hyes rfl a na)) (fun f y hsp => ?_) (fun _ _ q => False.elim q)
          cases f with
          | ret u => obtain ⟨v6, σ6, H6, S6, r6, q6⟩ := hsp; exact ⟨_, _, _, S6.unsuite okk, r6, q6⟩
          | _ => obtain ⟨σ6, H6, S6, q6⟩ := hsp; exact ⟨_, _, S6.unsuite okk, q6⟩
      | @name x n c i t s0 su p p' hs2 l2 hc hi hk hu r ih =>
        rintro ⟨b, hb1, hyes, hno⟩
        refine wpAny_handleBy_cons (codeAny_handlers_test ?_) (by intro q; cases q)
        refine test hc ((PySem.W.exm_one (M := model X.prog X.w) J2.kIn LT hb1).here ?_)
        cases b with
        | false => exact ih (hno rfl)
        | true =>
          refine codeAny_handlers_suite_as (HandSPX.lands_againZ fl1 fun g4 fl4 up4 => ?_)
          obtain ⟨oe4, v4, he4, hz4, hd4⟩ := fl4.there
          have J4 : Inv X pins σ1 H1 { z with heap := g4 } := J1.landed nb fl4.1 ((up.trans up1).trans up4) os ag
          have U4 := J4.suite he4 hd4 na n1 n2
          refine store_ok (X := X.suite a ((a, oe4) :: (X.pn ++ pins))) (v := .ref a) U4 hN hi (.inl hk) rfl (fun y5 U5 => ?_) (.inr hk)
          refine wpAny_mono ((hu a oe4 k d (X.pn ++ pins) hz4 ⟨_, hd4⟩).run [] y5 _ H1 _ U5 (hyes rfl a na)) (fun f y hsp => ?_) (fun _ _ q => False.elim q)
          have fin : ∀ {σ6 : L2.St} {H6 : Hp} {Q : Shared → Prop}, Inv (X.suite a ((a, oe4) :: (X.pn ++ pins))) [] σ6 H6 y → (∀ y7, Inv X pins (σ6.set i none) H6 y7 → Q y7) →
              wpAny (model X.prog X.w) X.A (do bindName X.env n .none; unbindBehindTheSuite X.env n p') (fun _ y7 => Q y7) X.xe y := fun {σ6 H6 Q} S6 hq => gone_ok (S6.unsuite okk) hN hi hk hq
          cases f with
          | ret u => obtain ⟨v6, σ6, H6, S6, r6, q6⟩ := hsp; exact fin S6 fun y7 J7 => ⟨_, _, _, J7, r6, q6⟩
          | _ => obtain ⟨σ6, H6, S6, q6⟩ := hsp; exact fin S6 fun y7 J7 => ⟨_, _, J7, q6⟩
    exact go hh w
  · have okk := I.ok
    cases f with
    | next => obtain ⟨σ1, H1, J1, q⟩ := hsp; exact wpAny_execs_nil ⟨σ1, H1, J1.ofTry okk, q⟩
    | ret u => obtain ⟨v, σ1, H1, J1, r, q⟩ := hsp; exact ⟨v, σ1, H1, J1.ofTry okk, r, q⟩
    | _ => obtain ⟨σ1, H1, J1, q⟩ := hsp; exact ⟨σ1, H1, J1.ofTry okk, q⟩
end
/-! ### clauses that set a name -/
structure Hd where
  tb : List (Str × Bool)
  i : Option Nat
  j : Nat
  m : M D
def offD (o : Option Nat) (ρ : Sl) : Sl := match o with
  | none => ρ
  | some i => ρ.set i none
def onD (o : Option Nat) (d : D) (ρ : Sl) : Sl := match o with
  | none => ρ
  | some i => ρ.set i (some d)
noncomputable def hdl : List Hd → Exc → MS
  | [], x, ρ, S => .exc x ρ S
  | h :: hs, x, ρ, S => open Classical in match h.tb.lookup x.cls with
    | some true => (match h.m (onD h.i (.exv x.cls x.fs) ρ) S with
      | .ok d S2 => if xf d = true ∧ S2 = S ∧ h.i ≠ some h.j then .nx (offD h.i (ρ.set h.j (some d))) S else .stk
      | _ => .stk)
    | some false => hdl hs x ρ S
    | none => .stk
noncomputable def sTryM (hs : List Hd) (mb : MS) : MS := fun ρ S => match mb ρ S with
  | .exc x ρ1 S1 => hdl hs x ρ1 S1
  | o => o
section
variable {X : Cx} {cl : Str → Option Addr} {E : WX} {body : List Stmt} {pos : Pos} {mb : MS}
def TryC (K : PySem.W.Frag) (cl : Str → Option Addr) (c : Value) (tb : List (Str × Bool)) : Prop := ∀ s b, tb.lookup s = some b → ∀ C, cl s = some C → PySem.W.exmOne K (.ref C) c = some b
inductive HdsM (X : Cx) (cl : Str → Option Addr) : List ExceptHandler → List (Value × Hd) → Prop
  | nil : HdsM X cl [] []
  | bare {x : Str} {c : Value} {tb : List (Str × Bool)} {j : Nat} {m : M D} {t : Str} {tp ap p p' : Pos} {e : Expr} {hs : List ExceptHandler} {l : List (Value × Hd)} (hc : Names X x c) (ht : TryC X.K cl c tb)
      (hu : ∀ (a : Addr) (oe : Obj) (C : Addr) (d : Option Addr) (pn : List (Addr × Obj)), Zc (.ref C) d oe → (∃ v, oe.data = .fields v) → PSs (X.suite a ((a, oe) :: pn)) [.Assign [.Name t tp] e ap] (Ts X.K (clX cl a C d) (fun _ _ _ _ => False) (sSet j m))) (r : HdsM X cl hs l) :
      HdsM X cl (.ExceptHandler (some (.Name x p)) none [.Assign [.Name t tp] e ap] p' :: hs) ((c, ⟨tb, none, j, m⟩) :: l)
  | name {x n : Str} {c : Value} {tb : List (Str × Bool)} {i j : Nat} {m : M D} {t : Str} {tp ap p p' : Pos} {e : Expr} {hs : List ExceptHandler} {l : List (Value × Hd)} (hc : Names X x c) (ht : TryC X.K cl c tb) (hi : X.N[i]? = some n) (hk : X.env.kindOf n = some .local)
      (hu : ∀ (a : Addr) (oe : Obj) (C : Addr) (d : Option Addr) (pn : List (Addr × Obj)), Zc (.ref C) d oe → (∃ v, oe.data = .fields v) → PSs (X.suite a ((a, oe) :: pn)) [.Assign [.Name t tp] e ap] (Ts X.K (clX cl a C d) (fun _ _ _ _ => False) (sSet j m))) (r : HdsM X cl hs l) :
      HdsM X cl (.ExceptHandler (some (.Name x p)) (some n) [.Assign [.Name t tp] e ap] p' :: hs) ((c, ⟨tb, some i, j, m⟩) :: l)
def sutOf (K : PySem.W.Frag) (cl : Str → Option Addr) (h : Hd) : Sut := tsX fun a C d => Ts K (clX cl a C d) (fun _ _ _ _ => False) (sSet h.j h.m)
def mixOf (K : PySem.W.Frag) (cl : Str → Option Addr) (l : List (Value × Hd)) : List (Value × Option Nat × Sut) := l.map fun h => (h.1, h.2.i, sutOf K cl h.2)
theorem HdsM.mix {hs : List ExceptHandler} {l : List (Value × Hd)} (h : HdsM X cl hs l) : Mix X hs (mixOf X.K cl l) := by
  induction h with
  | nil => exact .nil
  | bare hc ht hu r ih => exact .bare hc (tsX_of hu) ih
  | name hc ht hi hk hu r ih => exact .name hc hi hk (tsX_of hu) ih
theorem HdsM.tab {hs : List ExceptHandler} {l : List (Value × Hd)} (h : HdsM X cl hs l) : ∀ q ∈ l, TryC X.K cl q.1 q.2.tb := by
  induction h with
  | nil => exact fun _ h => nomatch h
  | bare hc ht hu r ih =>
    intro q hq
    rcases List.mem_cons.mp hq with rfl | hq
    · exact ht
    · exact ih q hq
  | name hc ht hi hk hu r ih =>
    intro q hq
    rcases List.mem_cons.mp hq with rfl | hq
    · exact ht
    · exact ih q hq
theorem set_get {α : Type} {l : List (Option α)} {i k : Nat} {o : Option α} {z : α} (h : (l.set i o)[k]? = some (some z)) : (i = k ∧ o = some z ∧ i < l.length) ∨ (i ≠ k ∧ l[k]? = some (some z)) := by
  by_cases e : i = k
  · subst e
    by_cases hl : i < l.length
    · rw [List.getElem?_set_self hl] at h
      exact .inl ⟨rfl, Option.some.inj h, hl⟩
    · rw [List.getElem?_eq_none (by simpa using hl)] at h
      cases h
  · rw [List.getElem?_set_ne e] at h
    exact .inr ⟨e, h⟩
/-- one clause that takes it -/
theorem hd_takes {K : PySem.W.Frag} {W : Wd} {H : Hp} {S : Store} {σ : L2.St} {ρ : Sl} {A : Ends} {h : Hd} {y : Exc} {a C : Addr} {dd : Option Addr} (q : Rsv cl) (r : R K cl W H S) (en : Envs K cl W σ ρ) (xr : XRep K cl W (.ref C) dd y)
    (p : PostS K cl W (open Classical in match h.m (onD h.i (.exv y.cls y.fs) ρ) S with
      | .ok d S2 => if xf d = true ∧ S2 = S ∧ h.i ≠ some h.j then .nx (offD h.i (ρ.set h.j (some d))) S else .stk
      | _ => .stk) A E) : sutOf K cl h a (.ref C) dd (offN h.i A) (onN h.i a σ) H := by
  have rX := r.toX (a := a) (C := C) (d := dd) q
  have eX := en.toX (a := a) (C := C) (d := dd) q
  have xX : Rep K (clX cl a C dd) W (.ref a) (.exv y.cls y.fs) := xr.exv q
  show Ts K (clX cl a C dd) (fun _ _ _ _ => False) (sSet h.j h.m) (offN h.i A) (onN h.i a σ) H
  have eo : Envs K (clX cl a C dd) W (onN h.i a σ) (onD h.i (.exv y.cls y.fs) ρ) := by
    cases h.i with
    | none => exact eX.1
    | some i => exact eX.1.set i xX
  refine ⟨W, onD h.i (.exv y.cls y.fs) ρ, S, rX.1, eo, ?_⟩
  unfold sSet
  cases em : h.m (onD h.i (.exv y.cls y.fs) ρ) S with
  | stk => rw [em] at p; exact p.elim
  | exc z S2 => rw [em] at p; exact p.elim
  | ok d S2 =>
    rw [em] at p
    dsimp only at p
    split at p
    · rename_i hg
      obtain ⟨hx, rfl, hij⟩ := hg
      intro W2 H2 σ2 l2 r2 e2
      cases eh : h.i with
      | none =>
        rw [eh] at p e2
        refine p W2 H2 _ l2 (r2.ofX rX.2) ⟨e2.len, fun k z hz => ?_⟩
        obtain ⟨v, hv, rv⟩ := e2.at' k z hz
        refine ⟨v, hv, rv.ofX ?_⟩
        rcases set_get hz with ⟨_, e, _⟩ | ⟨_, e⟩
        · rw [← Option.some.inj e]; exact hx
        · exact eX.2 k z e
      | some i =>
        rw [eh] at p e2 hij
        have hne : i ≠ h.j := fun e => hij (by rw [e])
        refine p W2 H2 _ l2 (r2.ofX rX.2) ⟨by simpa [offD, onD] using e2.len, fun k z hz => ?_⟩
        rcases set_get hz with ⟨_, e, _⟩ | ⟨hk, e⟩
        · cases e
        · have hz2 : ((ρ.set i (some (.exv y.cls y.fs))).set h.j (some d))[k]? = some (some z) := by
            rcases set_get e with ⟨rfl, e', hl⟩ | ⟨hj, e'⟩
            · rw [List.getElem?_set_self (by simpa using hl), e']
            · rw [List.getElem?_set_ne hj, List.getElem?_set_ne hk]
              exact e'
          obtain ⟨v, hv, rv⟩ := e2.at' k z hz2
          refine ⟨v, by rw [List.getElem?_set_ne hk]; exact hv, rv.ofX ?_⟩
          rcases set_get e with ⟨_, e', _⟩ | ⟨_, e'⟩
          · rw [← Option.some.inj e']; exact hx
          · exact eX.2 k z e'
    · exact p.elim
theorem hdl_ok {W : Wd} {H : Hp} {S : Store} {σ : L2.St} {ρ : Sl} {A : Ends} {y : Exc} {C : Addr} {dd : Option Addr} (q : Rsv cl) (r : R X.K cl W H S) (en : Envs X.K cl W σ ρ) (xr : XRep X.K cl W (.ref C) dd y) (hC : cl y.cls = some C) :
    ∀ {l : List (Value × Hd)}, (∀ q ∈ l, TryC X.K cl q.1 q.2.tb) → PostS X.K cl W (hdl (l.map (·.2)) y ρ S) A E → wMix X.K E A (mixOf X.K cl l) (.ref C) dd σ H
  | [], _, p => p W H σ (.ref C) dd (.rf W) r en xr
  | (c, h) :: l, ht, p => by
    rw [List.map_cons] at p
    unfold hdl at p
    cases el : h.tb.lookup y.cls with
    | none => rw [el] at p; exact p.elim
    | some b =>
      rw [el] at p
      refine ⟨b, ht (c, h) (by simp) _ _ el C hC, fun hb a ha => ?_, fun hb => ?_⟩
      · subst hb
        exact hd_takes q r en xr p
      · subst hb
        exact hdl_ok q r en xr hC (fun z hz => ht z (by simp [hz])) p
theorem s_tryM {h0 : ExceptHandler} {hds : List ExceptHandler} {l : List (Value × Hd)} (q : Rsv cl) (hs : X.stack = X.env :: X.outer) (hf : X.env.frame = some X.env.locals) (hN : X.N.Nodup) (tk : Takes X E)
    (hb : ∀ (W : WX) (pn : List (Addr × Obj)) (xe : Value → Shared → Prop), Takes (X.tr pn xe) W → PassesOwn (model X.prog X.w) X.A X.env xe → PSs (X.tr pn xe) body (Ts X.K cl W mb)) (hh : HdsM X cl (h0 :: hds) l) :
    PS X (.Try body (h0 :: hds) [] [] pos) (Ts X.K cl E (sTryM (l.map (·.2)) mb)) :=
  ps_imp (ps_try_mix hs hf hN tk hb hh.mix) fun A σ H ⟨W, ρ, S, hr, he, p⟩ => ⟨W, ρ, S, hr, he, by
    unfold sTryM at p
    cases eb : mb ρ S with
    | exc y ρ1 S1 =>
      rw [eb] at p
      intro W1 H1 σ1 cls dd l1 r1 e1 xr
      obtain ⟨C, h1, rfl, h3⟩ := id xr
      exact hdl_ok q r1 e1 xr h1 hh.tab (PostS.up l1 p)
    | _ => rw [eb] at p; exact p⟩
end
end G
namespace G
open PySem L2
/-! ### isinstance of a handled error, with fields or without -/
def isX (tb : List (Str × Bool)) (d : D) (S : Store) : Res D := match d with
  | .exv c _ => (match tb.lookup c with
    | some b => .ok (.bl b) S
    | none => .stk)
  | _ => .stk
def rIsF (K : PySem.W.Frag) (C a dd : Addr) : List V → Hp → VK → Prop := fun xs H Q => ∃ (c : V) (cv : Value) (b : Bool) (fs : List (Str × V)), xs = [.ref a, c] ∧ (∀ u, RelV c u → u = cv) ∧ PySem.W.kitOne K (.ref C) cv = some b ∧ H dd = some (.xd fs) ∧ Q (.bl b) H
theorem call_isF {X : Cx} {a C dd : Addr} {oe : Obj} {pn : List (Addr × Obj)} (T : ExcC X.K C) (hz : Zc (.ref C) (some dd) oe) (hf : ∃ v, oe.data = .fields v) : CallR (X.suite a ((a, oe) :: pn)) (.builtin "isinstance") (rIsF X.K C a dd) := by
  intro pins s σ H xs us Q I r h
  obtain ⟨c, cv, b, fs, rfl, hcv, e, hd, q⟩ := h
  cases r with
  | cons rx rr =>
    cases rr with
    | cons rt rr =>
      cases rr
      cases rx
      obtain rfl := hcv _ rt
      obtain ⟨ha, _⟩ := I.pin (a, oe) (List.mem_append.mpr (.inl List.mem_cons_self))
      obtain ⟨v, hv⟩ := hf
      obtain ⟨mA, hns, hr⟩ := (show ObjOk X.prog X.w H s.heap dd (.xd fs) from I.hok dd _ hd)
      obtain ⟨od, ho, hl⟩ := lookIn_ns hns
      have J : PySem.W.InstAt s.heap a oe C (some od) := ⟨ha, hz.1, by unfold PySem.W.notCls; rw [hv] <;> rfl, by rw [hz.2]; exact ho⟩
      have hc : (PySem.W.clsIn X.K C).isSome = true := by
        obtain ⟨cd, h1, _⟩ := PySem.W.any_some T.hd
        rw [h1]
        rfl
      exact PySem.W.kia_one (PySem.W.kitx_exc hc T.hg T.hk T.hs T.ha T.hn T.ht T.hm) I.kIn J e (fun z => nomatch z) fun tk => ⟨.bl b, H, I.kept (t' := tk) fun _ _ z => z, rfl, q⟩
section
variable {X : Cx} {cl : Str → Option Addr} {E : WX} {a C0 : Addr} {oe : Obj} {d : Option Addr} {pn : List (Addr × Obj)} {n x2 : Str} {tb : List (Str × Bool)} {p p1 p2 pos : Pos}
theorem t_isXN (i : Nat) (ht : XIsN X.K X.mg cl x2 tb) (hz : Zc (.ref C0) d oe) (hf : ∃ vs, oe.data = .fields vs) (hm : X.mg "isinstance" = none) (hN : X.N[i]? = some n := by rfl) (hv : Vis X.env.scope n := by first | exact Or.inl rfl | exact Or.inr (Or.inl rfl) | exact Or.inr (Or.inr rfl))
    (hd : (n == ("__debug__" : Str)) = false := by decide) (hcd : (n == ("__classdict__" : Str)) = false := by decide) (hg : Gl X "isinstance" := by rfl) (hg2 : Gl X x2 := by rfl) (hd2 : (x2 == ("__debug__" : Str)) = false := by decide)
    (hs : starEach [.Name x2 p2] X.env = (false, eval (.Name x2 p2) X.env) :: starEach [] X.env := by rfl)
    (he : starEach [.Name n p1, .Name x2 p2] X.env = (false, eval (.Name n p1) X.env) :: starEach [.Name x2 p2] X.env := by rfl) (hpl : (backTo pos (starEach [.Name x2 p2] X.env)).any (·.1) = false := by rfl) :
    PE (X.suite a ((a, oe) :: pn)) (.Call (.Name "isinstance" p) [.Name n p1, .Name x2 p2] [] pos) (T X.K (clX cl a C0 d) E (mUn (isX tb) (mVar i))) := by
  obtain ⟨C2, hm2, ht⟩ := ht
  refine ⟨fun pins s σ H Q I ⟨W, ρ, S, hr, hen, q⟩ => ?_⟩
  unfold mUn mVar at q
  split at q
  · rename_i x e
    obtain ⟨v, h1, h2⟩ := hen.at' i x e
    dsimp only [Res.bind] at q
    unfold isX at q
    split at q
    · rename_i c fs
      split at q
      · rename_i b el
        obtain ⟨n1, n2⟩ := ht c b el
        have args := pa_cons (pe_var (X := X.suite a ((a, oe) :: pn)) (pos := p1) hN hv hd hcd) (pa_cons (pe_glob (X := X.suite a ((a, oe) :: pn)) (pos := p2) (v := .ref C2) hg2 hm2 rfl hd2) pa_nil hs) he
        cases h2 with
        | exv1 g1 g2 g3 g4 g5 g7 g6 =>
          rw [clX_a] at g1
          rw [clX_c] at g2
          rw [clX_d] at g3
          cases g1
          cases g2
          subst g3
          obtain ⟨T1, T2⟩ := n2 _ (clX_to n1 g4)
          refine (pe_callB (X := X.suite a ((a, oe) :: pn)) (call_isF T1 hz hf) hg hm bt_isinstance args (by decide) (by decide) he hpl).run pins s σ H Q I ?_
          exact ⟨_, h1, .ref C2, .ref C2, b, _, rfl, fun u r => r, T2, hr.sub _ _ g5, q.now hr (.bl b)⟩
        | exv0 g1 g2 g3 g4 =>
          rw [clX_a] at g1
          rw [clX_c] at g2
          rw [clX_d] at g3
          cases g1
          cases g2
          subst g3
          obtain ⟨T1, T2⟩ := n2 _ (clX_to n1 g4)
          refine (pe_callB (X := X.suite a ((a, oe) :: pn)) (call_isE T1 hz hf) hg hm bt_isinstance args (by decide) (by decide) he hpl).run pins s σ H Q I ?_
          exact ⟨_, h1, .ref C2, .ref C2, b, rfl, fun u r => r, T2, q.now hr (.bl b)⟩
      · exact q.elim
    · exact q.elim
  · exact q.elim
end
/-! ### clauses by name -/
theorem hm_nil {X : Cx} {cl : Str → Option Addr} : ∃ cs, HdsM X cl [] cs ∧ cs.map (·.2) = [] := ⟨[], .nil, rfl⟩
section
variable {X : Cx} {cl : Str → Option Addr} {E : WX} {x n : Str} {tb : List (Str × Bool)} {i j : Nat} {m : M D} {t : Str} {tp ap p p' pos : Pos} {e : Expr} {hs : List ExceptHandler} {l : List Hd} {body : List Stmt} {h0 : ExceptHandler} {mb : MS}
theorem hm_bare (ht : TryT X.K X.mg cl x tb) (hu : ∀ (a : Addr) (oe : Obj) (C : Addr) (d : Option Addr) (pn : List (Addr × Obj)), Zc (.ref C) d oe → (∃ v, oe.data = .fields v) → PSs (X.suite a ((a, oe) :: pn)) [.Assign [.Name t tp] e ap] (Ts X.K (clX cl a C d) (fun _ _ _ _ => False) (sSet j m)))
    (r : ∃ cs, HdsM X cl hs cs ∧ cs.map (·.2) = l) (hg : Gl X x := by rfl) (hdb : (x == ("__debug__" : Str)) = false := by decide) : ∃ cs, HdsM X cl (.ExceptHandler (some (.Name x p)) none [.Assign [.Name t tp] e ap] p' :: hs) cs ∧ cs.map (·.2) = ⟨tb, none, j, m⟩ :: l := by
  obtain ⟨C, h1, h2⟩ := ht
  obtain ⟨cs, r1, r2⟩ := r
  exact ⟨(.ref C, ⟨tb, none, j, m⟩) :: cs, .bare ⟨hg, hdb, .inl h1⟩ h2 hu r1, by rw [List.map_cons, r2]⟩
theorem hm_name (i : Nat) (ht : TryT X.K X.mg cl x tb) (hu : ∀ (a : Addr) (oe : Obj) (C : Addr) (d : Option Addr) (pn : List (Addr × Obj)), Zc (.ref C) d oe → (∃ v, oe.data = .fields v) → PSs (X.suite a ((a, oe) :: pn)) [.Assign [.Name t tp] e ap] (Ts X.K (clX cl a C d) (fun _ _ _ _ => False) (sSet j m)))
    (r : ∃ cs, HdsM X cl hs cs ∧ cs.map (·.2) = l) (hi : X.N[i]? = some n := by rfl) (hk : X.env.kindOf n = some .local := by rfl) (hg : Gl X x := by rfl) (hdb : (x == ("__debug__" : Str)) = false := by decide) :
    ∃ cs, HdsM X cl (.ExceptHandler (some (.Name x p)) (some n) [.Assign [.Name t tp] e ap] p' :: hs) cs ∧ cs.map (·.2) = ⟨tb, some i, j, m⟩ :: l := by
  obtain ⟨C, h1, h2⟩ := ht
  obtain ⟨cs, r1, r2⟩ := r
  exact ⟨(.ref C, ⟨tb, some i, j, m⟩) :: cs, .name ⟨hg, hdb, .inl h1⟩ h2 hi hk hu r1, by rw [List.map_cons, r2]⟩
theorem s_tryMN (q : Rsv cl) (hN : X.N.Nodup) (tk : Takes X E) (hb : ∀ (W : WX) (pn : List (Addr × Obj)) (xe : Value → Shared → Prop), Takes (X.tr pn xe) W → PassesOwn (model X.prog X.w) X.A X.env xe → PSs (X.tr pn xe) body (Ts X.K cl W mb))
    (hh : ∃ cs, HdsM X cl (h0 :: hs) cs ∧ cs.map (·.2) = l) (hst : X.stack = X.env :: X.outer := by rfl) (hf : X.env.frame = some X.env.locals := by rfl) : PS X (.Try body (h0 :: hs) [] [] pos) (Ts X.K cl E (sTryM l mb)) := by
  obtain ⟨cs, r1, rfl⟩ := hh
  exact s_tryM q hst hf hN tk hb r1
end
/-! ### running -/
section
variable {ρ : Sl} {S : Store} {d : D} {c : Str} {fs : List (Str × D)} {tb : List (Str × Bool)} {x : Exc} {h : Hd} {hs : List Hd} {o : Option Nat} {i j : Nat} {m : M D}
@[simp] theorem v_isX : isX tb (.exv c fs) S = rIsE (tb.lookup c) S := by
  unfold isX rIsE
  rfl
noncomputable def kTM3 (o : Option Nat) (j : Nat) (ρ : Sl) (S : Store) (r : Res D) : Out := open Classical in match r with
  | .ok d S2 => if xf d = true ∧ S2 = S ∧ o ≠ some j then .nx (offD o (ρ.set j (some d))) S else .stk
  | _ => .stk
@[simp] theorem x_TM3 {S2 : Store} : kTM3 o j ρ S (.ok d S2) = open Classical in if xf d = true ∧ S2 = S ∧ o ≠ some j then .nx (offD o (ρ.set j (some d))) S else .stk := nrfl rfl
noncomputable def kTM2 (h : Hd) (hs : List Hd) (x : Exc) (ρ : Sl) (S : Store) (b : Option Bool) : Out := match b with
  | some true => kTM3 h.i h.j ρ S (h.m (onD h.i (.exv x.cls x.fs) ρ) S)
  | some false => hdl hs x ρ S
  | none => .stk
@[simp] theorem x_TM2 : kTM2 h hs x ρ S (some true) = kTM3 h.i h.j ρ S (h.m (onD h.i (.exv x.cls x.fs) ρ) S) := nrfl rfl
@[simp] theorem x_TM2f : kTM2 h hs x ρ S (some false) = hdl hs x ρ S := nrfl rfl
@[simp] theorem x_hdl0 : hdl [] x ρ S = .exc x ρ S := nrfl rfl
@[simp] theorem x_hdl : hdl (h :: hs) x ρ S = kTM2 h hs x ρ S (h.tb.lookup x.cls) := by
  rw [hdl]
  unfold kTM2
  cases h.tb.lookup x.cls with
  | none => rfl
  | some b => cases b <;> rfl
noncomputable def kTM (hs : List Hd) (o : Out) : Out := match o with
  | .exc x ρ S => hdl hs x ρ S
  | o => o
@[simp] theorem x_TM {mb : MS} : sTryM hs mb ρ S = kTM hs (mb ρ S) := nrfl rfl
@[simp] theorem x_TMe : kTM hs (.exc x ρ S) = hdl hs x ρ S := nrfl rfl
@[simp] theorem x_TMn : kTM hs (.nx ρ S) = .nx ρ S := nrfl rfl
@[simp] theorem x_TMr : kTM hs (.rt d S) = .rt d S := nrfl rfl
@[simp] theorem x_TMb : kTM hs (.bk ρ S) = .bk ρ S := nrfl rfl
@[simp] theorem x_TMc : kTM hs (.ct ρ S) = .ct ρ S := nrfl rfl
@[simp] theorem offD_n : offD none ρ = ρ := nrfl rfl
@[simp] theorem offD_s : offD (some i) ρ = ρ.set i none := nrfl rfl
@[simp] theorem onD_n : onD none d ρ = ρ := nrfl rfl
@[simp] theorem onD_s : onD (some i) d ρ = ρ.set i (some d) := nrfl rfl
end
/-! an answer or an error -/
inductive OkX {α : Type} : Res α → (α → Store → Prop) → (Exc → Store → Prop) → Prop
  | ok {a : α} {S : Store} {P : α → Store → Prop} {Q : Exc → Store → Prop} : P a S → OkX (.ok a S) P Q
  | exc {x : Exc} {S : Store} {P : α → Store → Prop} {Q : Exc → Store → Prop} : Q x S → OkX (.exc x S) P Q
theorem OkX.ex {α : Type} {r : Res α} {P : α → Store → Prop} {Q : Exc → Store → Prop} (h : OkX r P Q) : (∃ a S, r = .ok a S ∧ P a S) ∨ ∃ x S, r = .exc x S ∧ Q x S := by
  cases h with
  | ok h => exact .inl ⟨_, _, rfl, h⟩
  | exc h => exact .inr ⟨_, _, rfl, h⟩
theorem OkX.g {α : Type} {r x : Res α} {P : α → Store → Prop} {Q : Exc → Store → Prop} (hx : r = x) (h : OkX r P Q) : (∃ a S, x = .ok a S ∧ P a S) ∨ ∃ y S, x = .exc y S ∧ Q y S := by
  rw [← hx]
  exact h.ex
@[simp] theorem okx_ok {α : Type} {a : α} {S : Store} {P : α → Store → Prop} {Q : Exc → Store → Prop} : OkX (.ok a S) P Q = P a S := propext ⟨fun h => by cases h with | ok h => exact h, .ok⟩
@[simp] theorem okx_exc {α : Type} {x : Exc} {S : Store} {P : α → Store → Prop} {Q : Exc → Store → Prop} : OkX (.exc x S) P Q = Q x S := propext ⟨fun h => by cases h with | exc h => exact h, .exc⟩
end G
namespace G
open PySem L2
/-! ### {k: v, ..} -/
def evP : List (M D × M D) → Sl → Store → Res (List (Key × D))
  | [], _, S => .ok [] S
  | (a, b) :: r, ρ, S => (a ρ S).nox.bind fun x S1 => (b ρ S1).nox.bind fun y S2 => match keyO x with
    | some k => (evP r ρ S2).bind fun l S3 => .ok ((k, y) :: l) S3
    | none => .stk
def mrgD (l : List (Key × D)) : List (Key × D) := l.foldl (fun acc kv => putKD acc kv.1 kv.2) []
theorem RepK.mrg {K : PySem.W.Frag} {cl : Str → Option Addr} {W : Wd} : ∀ {vs : List (Key × V)} {ds : List (Key × D)} {a : List (Key × V)} {b : List (Key × D)}, RepK K cl W vs ds → RepK K cl W a b → RepK K cl W (mergeK a vs) (ds.foldl (fun acc kv => putKD acc kv.1 kv.2) b)
  | _, _, _, _, .nil, h => h
  | _, _, _, b, .cons (k := k) (v := v) (d := d) (vs := vs) (ds := ds) hv t, h => by
    show RepK K cl W (mergeK (putK _ k v) vs) (ds.foldl (fun acc kv => putKD acc kv.1 kv.2) (putKD b k d))
    exact RepK.mrg t (h.put k hv)
section
variable {K : PySem.W.Frag} {cl : Str → Option Addr} {W : Wd} {H : Hp} {S : Store} {σ : L2.St} {ρ : Sl} {p : Addr}
theorem hid_out {W1 : Wd} {o : HO} (h : W1.P = upd W.P p o) : (W1.out W.P).hid p o = W1 := by
  obtain ⟨g, P, i, n⟩ := W1
  dsimp only at h
  subst h
  rfl
theorem le_out {W1 : Wd} {o : HO} (l : Le (W.hid p o) W1) : Le W (W1.out W.P) := ⟨l.g, l.i, l.n, rfl⟩
theorem pairs_rd : ∀ (ms : List (M D × M D)) {W : Wd} {H : Hp} {S : Store} {Q : List (V × V) → Hp → Prop}, R K cl (W.hid p (.dK [])) H S → Envs K cl W σ ρ →
    (match evP ms ρ S with
      | .ok l S' => ∀ W2 H2 vs, Le W W2 → R K cl (W2.hid p (.dK [])) H2 S' → RepK K cl W2 vs l → Q (vs.map fun kv => (kV kv.1, kv.2)) H2
      | _ => False) → tPairs (ms.map fun m => (T K cl F0 m.1, T K cl F0 m.2)) σ H Q
  | [], W, H, S, Q, r, en, q => q W H [] (.rf W) r .nil
  | (a, b) :: ms, W, H, S, Q, r, en, q => by
    unfold evP at q
    show T K cl F0 a σ H _
    refine ⟨W.hid p (.dK []), ρ, S, r, en.ups Ls.hid, ?_⟩
    cases ea : a ρ S with
    | exc x S1 => rw [ea] at q; exact q.elim
    | stk => rw [ea] at q; exact q.elim
    | ok x S1 =>
      rw [ea] at q
      intro W1 H1 v l1 r1 rv
      show T K cl F0 b σ H1 _
      have en1 : Envs K cl W1 σ ρ := (en.ups Ls.hid).up l1
      refine ⟨W1, ρ, S1, r1, en1, ?_⟩
      dsimp only [Res.nox, Res.bind] at q
      cases eb : b ρ S1 with
      | exc y S2 => rw [eb] at q; exact q.elim
      | stk => rw [eb] at q; exact q.elim
      | ok y S2 =>
        rw [eb] at q
        dsimp only at q
        intro W2 H2 u l2 r2 ru
        cases ek : keyO x with
        | none => rw [ek] at q; exact q.elim
        | some k =>
          rw [ek] at q
          dsimp only at q
          have lw := l1.tr l2
          have eW := hid_out (W := W) (p := p) (o := .dK []) (W1 := W2) lw.p
          have rv' := key_rep (rv.up l2) ek
          subst rv'
          rw [← eW] at r2
          refine pairs_rd ms (W := W2.out W.P) r2 ((en.up (le_out lw))) ?_
          cases ee : evP ms ρ S2 with
          | exc y S3 => rw [ee] at q; exact q.elim
          | stk => rw [ee] at q; exact q.elim
          | ok l S3 =>
            rw [ee] at q
            intro W3 H3 vs l3 r3 t3
            have ru' : Rep K cl W3 u y := (ru.ups (Ls.out (P := W.P))).up l3
            exact q W3 H3 ((k, u) :: vs) ((le_out lw).tr l3) r3 (.cons ru' t3)
end
def mDisp (ms : List (M D × M D)) (mk : List (Key × D) → Store → Res D) : M D := fun ρ S => (evP ms ρ S).bind fun l S1 => if l.length ≤ 15 then mk (mrgD l) S1 else .stk
def dfz (l : List (Key × D)) (S : Store) : Res D := .ok (.dct l) S
def dlv (l : List (Key × D)) (S : Store) : Res D := .ok (.ref S.length) (S ++ [.dct l])
section
variable {X : Cx} {cl : Str → Option Addr} {E : WX} {keys : List (Option Expr)} {values : List Expr} {pos : Pos} {ms : List (M D × M D)}
theorem disp_rd {K : PySem.W.Frag} {mk : List (Key × D) → Store → Res D} {σ : L2.St} {H : Hp} {Q Q' : VK} (h : T K cl E (mDisp ms mk) σ H Q)
    (hk : ∀ (W : Wd) (H : Hp) (S : Store) (a : Addr) (vs : List (Key × V)) (ds : List (Key × D)) (E : XK), R K cl W H S → H a = some (.dK vs) → W.G a = none → (∀ (i : Nat) (m : MO), S[i]? = some m → m ≠ .dead → W.ι i ≠ a) → W.P a = none → RepK K cl W vs ds → Post K cl (Rep K cl) W (mk ds S) Q E → Q' (.ref a) H) :
    tDisp (ms.map fun m => (T K cl F0 m.1, T K cl F0 m.2)) σ H Q' := by
  obtain ⟨W, ρ, S, hr, he, q⟩ := h
  intro p hp
  have np : W.P p = none := by
    cases e : W.P p with
    | none => rfl
    | some u => rw [(hr.priv p u e).1] at hp; cases hp
  refine pairs_rd ms (hr.hide hp) he ?_
  unfold mDisp at q
  cases ee : evP ms ρ S with
  | stk => rw [ee] at q; exact q.elim
  | exc y S3 => exact absurd ee (evP_no ms)
  | ok l S1 =>
    rw [ee] at q
    intro W2 H2 vs l2 r2 t2
    dsimp only [Res.bind] at q
    split at q
    · rename_i h15
      have np2 : W2.P p = none := by rw [l2.p]; exact np
      obtain ⟨_, h1, _, _⟩ := r2.unhide np2
      refine ⟨h1, vs, rfl, by rw [t2.len]; exact h15, ?_⟩
      obtain ⟨r3, h3, h4, h5⟩ := (r2.turn (o' := .dK (mergeK [] vs))).unhide np2
      exact hk W2 _ S1 p _ _ _ r3 h3 h4 h5 np2 (RepK.mrg t2 .nil) (Post.up l2 q)
    · exact q.elim
where
  evP_no {ρ : Sl} {y : Exc} {S3 : Store} : ∀ (ms : List (M D × M D)) {S : Store}, evP ms ρ S ≠ .exc y S3
    | [], S => fun h => by cases h
    | (a, b) :: ms, S => fun h => by
      unfold evP at h
      cases ea : a ρ S with
      | exc x S1 => rw [ea] at h; cases h
      | stk => rw [ea] at h; cases h
      | ok x S1 =>
        rw [ea] at h
        dsimp only [Res.nox, Res.bind] at h
        cases eb : b ρ S1 with
        | exc x S1 => rw [eb] at h; cases h
        | stk => rw [eb] at h; cases h
        | ok y S2 =>
          rw [eb] at h
          dsimp only at h
          cases ek : keyO x with
          | none => rw [ek] at h; cases h
          | some k =>
            rw [ek] at h
            dsimp only at h
            cases ee : evP ms ρ S2 with
            | stk => rw [ee] at h; cases h
            | exc z S4 => rw [ee] at h; cases h; exact evP_no ms ee
            | ok l S4 => rw [ee] at h; cases h
theorem t_dispF (h : PPs X pos keys values (ms.map fun m => (T X.K cl F0 m.1, T X.K cl F0 m.2))) (hall : keys.all (·.isSome) = true := by rfl) (hl : keys.length = values.length := by rfl) (h0 : keys ≠ [] := by exact fun h => nomatch h) (h15 : keys.length ≤ 15 := by decide) :
    PE X (.Dict keys values pos) (T X.K cl E (mDisp ms dfz)) :=
  pe_imp (pe_frzD (pe_disp h hall hl h0 h15)) fun σ H Q q => disp_rd q fun W H S a vs ds E' r ha hg nl np t p => ⟨a, .dK vs, rfl, ha, True.intro, fun od => by
    obtain ⟨r1, r2⟩ := lockAt r ha hg nl np (od := od)
    exact p _ _ _ r2 r1 (.dct upd_same (t.up r2))⟩
where
  lockAt {K : PySem.W.Frag} {W : Wd} {H : Hp} {S : Store} {a : Addr} {vs : List (Key × V)} {od : Obj} (r : R K cl W H S) (ha : H a = some (.dK vs)) (hg : W.G a = none) (nl : ∀ (i : Nat) (m : MO), S[i]? = some m → m ≠ .dead → W.ι i ≠ a) (np : W.P a = none) :
      R K cl (W.fz a (.frz od (.dK vs))) (upd H a (.frz od (.dK vs))) S ∧ Le W (W.fz a (.frz od (.dK vs))) := by
    have l := Le.fz (o := .frz od (.dK vs)) hg
    have r0 : R K cl W (upd H a (.frz od (.dK vs))) S := by
      refine ⟨r.n, fun b o hb => ?_, fun i m hm nd => ?_, r.inj, fun b o hb => ?_⟩
      · rw [upd_ne (ne_of_none hb hg)]
        exact r.sub b o hb
      · obtain ⟨g1, g2⟩ := r.live i m hm nd
        exact ⟨g1, g2.at (upd_ne (nl i m hm nd))⟩
      · obtain ⟨g1, g2, g3⟩ := r.priv b o hb
        exact ⟨by rw [upd_ne (ne_of_none hb np)]; exact g1, g2, g3⟩
    exact ⟨r0.fzAt upd_same hg nl np, l⟩
theorem t_dispL (h : PPs X pos keys values (ms.map fun m => (T X.K cl F0 m.1, T X.K cl F0 m.2))) (hall : keys.all (·.isSome) = true := by rfl) (hl : keys.length = values.length := by rfl) (h0 : keys ≠ [] := by exact fun h => nomatch h) (h15 : keys.length ≤ 15 := by decide) :
    PE X (.Dict keys values pos) (T X.K cl E (mDisp ms dlv)) :=
  pe_imp (pe_disp h hall hl h0 h15) fun σ H Q q => disp_rd q fun W H S a vs ds E' r ha hg nl np t p => p (W.lv a) H _ (Le.lv W a) (r.lvAt ha hg nl np ⟨vs, ha, t⟩) (rep_lv r)
theorem dp_nil : PPs X pos [] [] (([] : List (M D × M D)).map fun m => (T X.K cl F0 m.1, T X.K cl F0 m.2)) := pps_nil
theorem dp_cons {k v : Expr} {ks : List (Option Expr)} {vs : List Expr} {a b : M D} (hk : PE X k (T X.K cl F0 a)) (hv : PE X v (T X.K cl F0 b)) (h : PPs X pos ks vs (ms.map fun m => (T X.K cl F0 m.1, T X.K cl F0 m.2))) :
    PPs X pos (some k :: ks) (v :: vs) (((a, b) :: ms).map fun m => (T X.K cl F0 m.1, T X.K cl F0 m.2)) := pps_cons hk hv h
end
/-! running -/
section
variable {ρ : Sl} {S : Store} {a b : M D} {ms : List (M D × M D)} {x y : D} {k : Key} {l : List (Key × D)} {mk : List (Key × D) → Store → Res D}
def kE4 (k : Key) (y : D) (l : List (Key × D)) (S : Store) : Res (List (Key × D)) := .ok ((k, y) :: l) S
@[simp] theorem e_kE4 : kE4 k y l S = .ok ((k, y) :: l) S := nrfl rfl
def kE3 (ρ : Sl) (ms : List (M D × M D)) (y : D) (S : Store) (o : Option Key) : Res (List (Key × D)) := match o with
  | some k => (evP ms ρ S).bind (kE4 k y)
  | none => .stk
@[simp] theorem e_kE3 : kE3 ρ ms y S (some k) = (evP ms ρ S).bind (kE4 k y) := nrfl rfl
def kE2 (ρ : Sl) (ms : List (M D × M D)) (x y : D) (S : Store) : Res (List (Key × D)) := kE3 ρ ms y S (keyO x)
@[simp] theorem e_kE2 : kE2 ρ ms x y S = kE3 ρ ms y S (keyO x) := nrfl rfl
def kE1 (ρ : Sl) (b : M D) (ms : List (M D × M D)) (x : D) (S : Store) : Res (List (Key × D)) := (b ρ S).nox.bind (kE2 ρ ms x)
@[simp] theorem e_kE1 : kE1 ρ b ms x S = (b ρ S).nox.bind (kE2 ρ ms x) := nrfl rfl
@[simp] theorem e_evP0 : evP [] ρ S = .ok [] S := nrfl rfl
@[simp] theorem e_evP : evP ((a, b) :: ms) ρ S = (a ρ S).nox.bind (kE1 ρ b ms) := by
  rw [evP]
  congr 1
def kE0 (mk : List (Key × D) → Store → Res D) (l : List (Key × D)) (S : Store) : Res D := if l.length ≤ 15 then mk (mrgD l) S else .stk
@[simp] theorem e_disp : mDisp ms mk ρ S = (evP ms ρ S).bind (kE0 mk) := nrfl rfl
@[simp] theorem e_kE0 : kE0 mk l S = if l.length ≤ 15 then mk (mrgD l) S else .stk := nrfl rfl
@[simp] theorem e_dfz : dfz l S = .ok (.dct l) S := nrfl rfl
@[simp] theorem e_dlv : dlv l S = .ok (.ref S.length) (S ++ [.dct l]) := nrfl rfl
end
end G
namespace G
open PySem L2
/-! ### list(d.keys()) -/
section
variable {X : Cx} {cl : Str → Option Addr} {E : WX} {e : Expr} {m : M D} {apos cpos p pos : Pos}
theorem pe_keysV {td : TE} (he : PE X e td) (hb : attributeBase e "keys" X.env (eval e X.env) = eval e X.env := by rfl) (hl : (apos.endLine == cpos.line) = true := by rfl) :
    PE X (.Call (.Attribute e "keys" apos) [] [] cpos) (fun σ H Q => td σ H fun x H1 => ∃ a kvs, x = .ref a ∧ Rd H1 a (.dK kvs) ∧ ∀ v, H1 v = none → Q (.ref v) (upd H1 v (viewO "dict_keys" v a))) := by
  refine ⟨fun pins s σ H Q I h => ?_⟩
  refine wpAny_Call_method (T := "dict") (id := "dict.keys") hb rfl hl F.plainAttrs_dict F.slot_dict_keys F.type_dict_keys (thn (he.run pins s σ H _ I h) fun u s1 ⟨x, H1, I1, rx, a, kvs, ex, ha, q⟩ => ?_)
  subst ex
  obtain rfl : u = Value.ref a := rx
  obtain ⟨ty, nd, lw⟩ := isD_at I1 (.inl ⟨kvs, ha⟩)
  obtain ⟨zz, _, vs, kv, dd⟩ := dk_rd I1.hok ha
  refine ⟨ty, nd, ?_⟩
  show wpAny _ _ (callWith cpos (.builtin "dict.keys") [.ref a] [] []) _ X.xe s1
  refine method_meetsIn F.slot_dict_keys F.entry_dict_keys rfl (PySem.evalArgs_none ⟨rfl, ty, F.args_dict_keys_1 _, _, PySem.W.kdl_meets_keys (mixKind X.prog X.w) a lw, ⟨vs, dd⟩, ?_⟩)
  have I2 := I1.laid (a := s1.heap.objs.size) (o := viewO "dict_keys" s1.heap.objs.size a) (h' := s1.heap.push (DSub.viewOb "dict_keys" a)) (t' := s1.toks) (fun _ _ q => Heap.get?_push_of_some _ q) (Nat.le_refl _) (viewO_ok (Heap.get?_push_size _ rfl))
  exact ⟨.ref s1.heap.objs.size, _, I2, rfl, q _ (I1.hok.fresh (Nat.le_refl _))⟩
def rListV : List V → Hp → VK → Prop := fun xs H Q => ∃ v a kvs, xs = [.ref v] ∧ H v = some (viewO "dict_keys" v a) ∧ Rd H a (.dK kvs) ∧ ∀ q, H q = none → Q (.ref q) (upd H q (.lst (kvs.map fun kv => kV kv.1)))
theorem cr_listV (hc : X.calm = true) : CallR X (.type "list") rListV := by
  intro pins s σ H xs us Q I rr ⟨v, a, kvs, ex, hv, ha, q⟩
  subst ex
  obtain ⟨u, eu, ru⟩ := vals1 rr
  subst eu
  obtain rfl : u = Value.ref v := ru
  obtain ⟨zz, lw, vs, kv, dd⟩ := dk_rd I.hok ha
  obtain ⟨ep, atd⟩ := dd.dictAt
  have len : kvs.length = vs.length := Paired.length kv
  have gv : s.heap.get? v = some (DSub.viewOb "dict_keys" a) := (show ObjOk X.prog X.w H s.heap v (viewO "dict_keys" v a) from I.hok v _ hv).1
  refine PySem.W.kdl_call (PySem.W.kdl_keys (knd := mixKind X.prog X.w) (r := v) (d := a) (kvs := vs) (ep := ep)) (I.ok.hd hc) ⟨⟨_, gv, rfl, rfl⟩, atd⟩ (len ▸ zz) fun h1 t1 acc c1 kp new its => ?_
  have okk : ObjOk X.prog X.w (upd H s.heap.objs.size (.lst (kvs.map fun kv => kV kv.1))) h1 s.heap.objs.size (.lst (kvs.map fun kv => kV kv.1)) := by
    refine ⟨by rw [List.length_map]; exact zz, acc.toList, c1, vals_of_at ?_ fun j x w g1 g2 => ?_, by rw [Array.toArray_toList]; exact new⟩
    · rw [List.length_map, len, ← its.1]
      simp
    · obtain ⟨k, y, hk, is⟩ := its.2 j w (by rw [← Array.getElem?_toList]; exact g2)
      have f1 : (kvs.map (·.1))[j]? = some k := by rw [KV.keys kv, List.getElem?_map, hk]; rfl
      have f2 : (kvs.map fun kv => kV kv.1)[j]? = some (kV k) := by
        rw [show (kvs.map fun kv => kV kv.1) = (kvs.map (·.1)).map kV from (by rw [List.map_map]; rfl), List.getElem?_map, f1]
        rfl
      rw [f2] at g1
      cases g1
      exact keyIs_rel is
  exact ⟨.ref s.heap.objs.size, _, I.laid kp (Nat.le_refl _) okk, rfl, q _ (I.hok.fresh (Nat.le_refl _))⟩
def keysL (d : D) (S : Store) : Res D := match dcOf S d with
  | some kvs => .ok (.lst (kvs.map fun kv => keyD kv.1)) S
  | none => .stk
theorem t_keysL (hm : X.mg "list" = none) (he : PE X e (T X.K cl E m)) (hc : X.calm = true := by rfl) (hg : Gl X "list" := by rfl) (hb : attributeBase e "keys" X.env (eval e X.env) = eval e X.env := by rfl) (hl : (apos.endLine == cpos.line) = true := by rfl)
    (hs : starEach [.Call (.Attribute e "keys" apos) [] [] cpos] X.env = (false, eval (.Call (.Attribute e "keys" apos) [] [] cpos) X.env) :: starEach [] X.env := by rfl) :
    PE X (.Call (.Name "list" p) [.Call (.Attribute e "keys" apos) [] [] cpos] [] pos) (T X.K cl E (mUn keysL m)) :=
  pe_imp (pe_callTy (cr_listV hc) hg hm bt_list (pa_cons (pe_keysV he hb hl) pa_nil hs) (by decide) (by decide) hs) fun σ H Q ⟨W, ρ, S, hr, en, q⟩ => step hr en q fun W1 H1 v d S1 l1 r1 e1 rv p1 => by
    unfold keysL at p1
    split at p1
    · rename_i kvs ek
      obtain ⟨a, vs, rfl, ha, t⟩ := dc_of r1 rv ek
      refine ⟨a, vs, rfl, ha, fun v hv => ⟨v, a, vs, rfl, upd_same, ?_, fun q' hq => ?_⟩⟩
      · have na : a ≠ v := fun z => by
          subst z
          rcases ha with h | ⟨o, h⟩ <;> rw [hv] at h <;> cases h
        rcases ha with h | ⟨o, h⟩
        · exact .inl (by rw [upd_ne na]; exact h)
        · exact .inr ⟨o, by rw [upd_ne na]; exact h⟩
      · have r2 := r1.junk (o := viewO "dict_keys" v a) hv
        exact newL r2 (reps_keys t) p1 q' hq
    · exact p1.elim
/-! ### len, dicts too -/
def lenA (as : List D) (S : Store) : Res D := match as with
  | [x] => (match dcOf S x with
    | some kvs => .ok (.int kvs.length) S
    | none => lenD [x] S)
  | _ => .stk
theorem cr_lenA : CallR X (.builtin "len") (fun xs H Q => (∃ x n, xs = [x] ∧ LenV X.K x H n ∧ Q (.int n) H) ∨ ∃ a kvs, xs = [.ref a] ∧ Rd H a (.dK kvs) ∧ Q (.int kvs.length) H) := by
  refine cr_or call_len fun pins s σ H xs us Q I rr ⟨a, kvs, ex, ha, q⟩ => ?_
  subst ex
  obtain ⟨u, eu, ru⟩ := vals1 rr
  subst eu
  obtain rfl : u = Value.ref a := ru
  exact d_len I ha fun t s' I' => ⟨.int kvs.length, H, I', ⟨t, rfl⟩, q⟩
theorem lenA_s {K : PySem.W.Frag} : FnS K cl (fun xs H Q => (∃ x n, xs = [x] ∧ LenV K x H n ∧ Q (.int n) H) ∨ ∃ a kvs, xs = [.ref a] ∧ Rd H a (.dK kvs) ∧ Q (.int kvs.length) H) lenA := by
  intro W H S x a Q E r rx p
  unfold lenA at p
  split at p
  · rename_i d
    split at p
    · rename_i kvs ek
      cases rx with | cons rx rn =>
      cases rn
      obtain ⟨a, vs, rfl, ha, t⟩ := dc_of r rx ek
      refine .inr ⟨a, vs, rfl, ha, ?_⟩
      rw [t.len]
      exact p.now r (.int _)
    · exact .inl (len_s W H S x _ Q E r rx p)
  · exact p.elim
end
/-! ### running -/
section
variable {S : Store} {n : Nat} {x y z v : D} {ds : List D} {ns : List Int} {a : Str} {i : Int} {kvs : List (Key × D)} {k : Key} {b : Bool}
def rDc (o : Option MO) : Option (List (Key × D)) := match o with
  | some (.dct kvs) => some kvs
  | some (.ldc kvs) => some kvs
  | _ => none
@[simp] theorem rDc_d : rDc (some (.dct kvs)) = some kvs := nrfl rfl
@[simp] theorem rDc_l : rDc (some (.lst ds)) = none := nrfl rfl
@[simp] theorem rDc_n : rDc none = none := nrfl rfl
@[simp] theorem dc_refS : dcOf S (.ref n) = rDc (sg S n) := by
  unfold dcOf rDc sg
  rfl
@[simp] theorem dc_tup : dcOf S (.tup ds) = none := nrfl rfl
@[simp] theorem dc_lst : dcOf S (.lst ds) = none := nrfl rfl
@[simp] theorem dc_scr : dcOf S (.scr ns) = none := nrfl rfl
@[simp] theorem dc_str : dcOf S (.str a) = none := nrfl rfl
@[simp] theorem dc_int : dcOf S (.int i) = none := nrfl rfl
@[simp] theorem dc_bl : dcOf S (.bl b) = none := nrfl rfl
@[simp] theorem dc_non : dcOf S .non = none := nrfl rfl
def rIxA (o : Option (List (Key × D))) (x y : D) (S : Store) : Res D := match o with
  | some kvs => (match keyO y with
    | some k => ofO (valK kvs k) S
    | none => .stk)
  | none => ixD x y S
@[simp] theorem v_ixA : ixA x y S = rIxA (dcOf S x) x y S := by
  unfold ixA rIxA
  rfl
@[simp] theorem rIxA_none : rIxA none x y S = ixD x y S := nrfl rfl
@[simp] theorem rIxA_int : rIxA (some kvs) x (.int i) S = ofO (valK kvs (.inl i)) S := nrfl rfl
@[simp] theorem rIxA_str : rIxA (some kvs) x (.str a) S = ofO (valK kvs (.inr a)) S := nrfl rfl
def rLenA (o : Option (List (Key × D))) (x : D) (S : Store) : Res D := match o with
  | some kvs => .ok (.int kvs.length) S
  | none => lenD [x] S
@[simp] theorem v_lenA : lenA [x] S = rLenA (dcOf S x) x S := by
  unfold lenA rLenA
  rfl
@[simp] theorem rLenA_none : rLenA none x S = lenD [x] S := nrfl rfl
@[simp] theorem rLenA_some : rLenA (some kvs) x S = .ok (.int kvs.length) S := nrfl rfl
def rKeysL (o : Option (List (Key × D))) (S : Store) : Res D := match o with
  | some kvs => .ok (.lst (kvs.map fun kv => keyD kv.1)) S
  | none => .stk
@[simp] theorem v_keysL : keysL x S = rKeysL (dcOf S x) S := by
  unfold keysL rKeysL
  rfl
@[simp] theorem rKeysL_some : rKeysL (some kvs) S = .ok (.lst (kvs.map fun kv => keyD kv.1)) S := nrfl rfl
def rInA2 (o : Option (List (Key × D))) (x y : D) (S : Store) : Res D := match o with
  | some kvs => (match keyO x with
    | some k => .ok (.bl (valK kvs k).isSome) S
    | none => .stk)
  | none => inD x y S
@[simp] theorem v_inA : inA x y S = rInA2 (dcOf S y) x y S := by
  unfold inA rInA2 inDK
  cases e : dcOf S y with
  | none => rfl
  | some kvs =>
    dsimp only
    cases keyO x <;> rfl
@[simp] theorem rInA2_none : rInA2 none x y S = inD x y S := nrfl rfl
theorem rInA2_some (h : keyO x = some k) : rInA2 (some kvs) x y S = .ok (.bl (valK kvs k).isSome) S := by
  unfold rInA2
  rw [h]
theorem rIxA_key (h : keyO y = some k) : rIxA (some kvs) x y S = ofO (valK kvs k) S := by
  unfold rIxA
  rw [h]
@[simp] theorem key_keyD : keyO (keyD k) = some k := by cases k <;> rfl
end
end G
namespace G
open PySem L2
/-! ### pop, extend, remove, insert -/
section
variable {K : PySem.W.Frag} {cl : Str → Option Addr} {W : Wd}
theorem Reps.dropLast : ∀ {v : List V} {d : List D}, Reps K cl W v d → Reps K cl W v.dropLast d.dropLast
  | _, _, .nil => .nil
  | _, _, .cons h .nil => .nil
  | _, _, .cons h (.cons h2 t) => .cons h (Reps.dropLast (.cons h2 t))
def popD (x : D) (ys : List D) (S : Store) : Res D := match x, ys with
  | .ref n, [] => (match S[n]? with
    | some (.lst xs) => (match xs[xs.length - 1]? with
      | some y => .ok y (S.set n (.lst xs.dropLast))
      | none => .stk)
    | _ => .stk)
  | _, _ => .stk
theorem pop_s : G.MtS K cl rPop popD := by
  intro W H S x a y b Q E r rx ry p
  unfold popD at p
  split at p
  · rename_i n
    cases rx with | ref hn =>
    cases ry
    split at p
    · rename_i xs e1
      obtain ⟨_, vs, h1, h2⟩ := r.live n _ e1 (by intro z; cases z)
      split at p
      · rename_i y ey
        obtain ⟨v, hv, rv⟩ := h2.at ey
        exact ⟨_, vs, v, rfl, rfl, h1, by rw [h2.len]; exact hv, p W _ _ (.rf W) (r.put e1 (by intro z; cases z) ⟨_, upd_same, h2.dropLast⟩) rv⟩
      · exact p.elim
    · exact p.elim
  · exact p.elim
def extD (x : D) (ys : List D) (S : Store) : Res D := match x, ys with
  | .ref n, [y] => (match S[n]?, lsOf S y with
    | some (.lst xs), some zs => if xs.length + zs.length ≤ sizeLine then .ok .non (S.set n (.lst (xs ++ zs))) else .stk
    | _, _ => .stk)
  | _, _ => .stk
theorem ext_s : G.MtS K cl rExtend extD := by
  intro W H S x a y b Q E r rx ry p
  unfold extD at p
  split at p
  · rename_i n d
    cases rx with | ref hn =>
    cases ry with | cons ry rn =>
    cases rn
    split at p
    · rename_i xs zs e1 e2
      obtain ⟨_, vs, h1, h2⟩ := r.live n _ e1 (by intro z; cases z)
      obtain ⟨l, us, rfl, h3, h4⟩ := ls_of r ry e2
      split at p
      · rename_i hz
        exact ⟨_, l, vs, us, rfl, rfl, h1, h3, by rw [h2.len, h4.len]; exact hz, p W _ _ (.rf W) (r.put e1 (by intro z; cases z) ⟨_, upd_same, h2.app h4⟩) .non⟩
      · exact p.elim
    · exact p.elim
  · exact p.elim
def remD (x : D) (ys : List D) (S : Store) : Res D := match x, ys with
  | .ref n, [.int k] => (match S[n]? with
    | some (.lst xs) => (match intsO xs with
      | some ns => if k ∈ ns then .ok .non (S.set n (.lst ((ns.erase k).map D.int))) else .stk
      | none => .stk)
    | _ => .stk)
  | _, _ => .stk
theorem rem_s : G.MtS K cl rRemI remD := by
  intro W H S x a y b Q E r rx ry p
  unfold remD at p
  split at p
  · rename_i n k
    cases rx with | ref hn =>
    cases ry with | cons ry rn =>
    cases rn
    cases ry
    split at p
    · rename_i xs e1
      obtain ⟨_, vs, h1, h2⟩ := r.live n _ e1 (by intro z; cases z)
      split at p
      · rename_i ns en
        have ev := ints_of h2 en
        subst ev
        split at p
        · rename_i hk
          obtain ⟨j, j1, j2, j3, j4⟩ := first_at hk
          exact ⟨_, ns, k, j, rfl, rfl, h1, j2, j3, by rw [j4]; exact p W _ _ (.rf W) (r.put e1 (by intro z; cases z) ⟨_, upd_same, reps_ints _⟩) .non⟩
        · exact p.elim
      · exact p.elim
    · exact p.elim
  · exact p.elim
def insD (x : D) (ys : List D) (S : Store) : Res D := match x, ys with
  | .ref n, [.int i, y] => (match S[n]? with
    | some (.lst xs) => if xs.length < sizeLine ∧ 0 ≤ i ∧ smR i = true then .ok .non (S.set n (.lst (xs.take i.toNat ++ [y] ++ xs.drop i.toNat))) else .stk
    | _ => .stk)
  | _, _ => .stk
theorem ins_s : G.MtS K cl (fun x vs H Q => ∃ (l : Addr) (xs : List V) (i : Int) (y : V), x = .ref l ∧ vs = [.int i, y] ∧ H l = some (.lst xs) ∧ xs.length < sizeLine ∧ 0 ≤ i ∧ i < 2 ^ 63 ∧ Q .non (upd H l (.lst (xs.take i.toNat ++ [y] ++ xs.drop i.toNat)))) insD := by
  intro W H S x a y b Q E r rx ry p
  unfold insD at p
  split at p
  · rename_i n i d
    cases rx with | ref hn =>
    cases ry with | cons ry rn =>
    cases ry
    cases rn with | cons rd rn =>
    cases rn
    split at p
    · rename_i xs e1
      obtain ⟨_, vs, h1, h2⟩ := r.live n _ e1 (by intro z; cases z)
      split at p
      · rename_i hz
        exact ⟨_, vs, i, _, rfl, rfl, h1, by rw [h2.len]; exact hz.1, hz.2.1, by have := (smR_of hz.2.2).2; omega, p W _ _ (.rf W) (r.put e1 (by intro z; cases z) ⟨_, upd_same, ((h2.take _).app (.cons rd .nil)).app (h2.drop _)⟩) .non⟩
      · exact p.elim
    · exact p.elim
  · exact p.elim
end
/-! running -/
section
variable {S : Store} {n : Nat} {x y : D} {ds es : List D} {i : Int} {ns : List Int}
def rPopO (o : Option MO) (n : Nat) (S : Store) : Res D := match o with
  | some (.lst xs) => (match xs[xs.length - 1]? with
    | some y => .ok y (sp S n (.lst xs.dropLast))
    | none => .stk)
  | _ => .stk
@[simp] theorem pop_ref : popD (.ref n) [] S = rPopO (sg S n) n S := by
  unfold popD rPopO sg sp
  rfl
theorem rPop_some (h : ds[ds.length - 1]? = some y) : rPopO (some (.lst ds)) n S = .ok y (sp S n (.lst ds.dropLast)) := by
  unfold rPopO
  simp only [h]
def rExtO (o : Option MO) (p : Option (List D)) (n : Nat) (S : Store) : Res D := match o, p with
  | some (.lst xs), some zs => if xs.length + zs.length ≤ sizeLine then .ok .non (sp S n (.lst (xs ++ zs))) else .stk
  | _, _ => .stk
@[simp] theorem ext_ref : extD (.ref n) [y] S = rExtO (sg S n) (lsOf S y) n S := by
  unfold extD rExtO sg sp
  rfl
@[simp] theorem rExt_some : rExtO (some (.lst ds)) (some es) n S = if ds.length + es.length ≤ sizeLine then .ok .non (sp S n (.lst (ds ++ es))) else .stk := nrfl rfl
def rRemO (o : Option MO) (n : Nat) (k : Int) (S : Store) : Res D := match o with
  | some (.lst xs) => (match intsO xs with
    | some ns => if k ∈ ns then .ok .non (sp S n (.lst ((ns.erase k).map D.int))) else .stk
    | none => .stk)
  | _ => .stk
@[simp] theorem rem_ref : remD (.ref n) [.int i] S = rRemO (sg S n) n i S := by
  unfold remD rRemO sg sp
  rfl
theorem rRem_some (h : i ∈ ns) : rRemO (some (.lst (ns.map D.int))) n i S = .ok .non (sp S n (.lst ((ns.erase i).map D.int))) := by
  have e : ∀ l : List Int, intsO (l.map D.int) = some l := fun l => by
    induction l with
    | nil => rfl
    | cons a l ih =>
      show (intsO (l.map D.int)).map _ = _
      rw [ih]
      rfl
  unfold rRemO
  simp only [e, if_pos h]
def rInsO (o : Option MO) (n : Nat) (i : Int) (y : D) (S : Store) : Res D := match o with
  | some (.lst xs) => if xs.length < sizeLine ∧ 0 ≤ i ∧ smR i = true then .ok .non (sp S n (.lst (xs.take i.toNat ++ [y] ++ xs.drop i.toNat))) else .stk
  | _ => .stk
@[simp] theorem ins_ref : insD (.ref n) [.int i, y] S = rInsO (sg S n) n i y S := by
  unfold insD rInsO sg sp
  rfl
@[simp] theorem rIns_some : rInsO (some (.lst ds)) n i y S = if ds.length < sizeLine ∧ 0 ≤ i ∧ smR i = true then .ok .non (sp S n (.lst (ds.take i.toNat ++ [y] ++ ds.drop i.toNat))) else .stk := nrfl rfl
end
end G
namespace G
open PySem L2
/-! ### x == [], x != [] -/
def rEqL0 (K : PySem.W.Frag) : R2 := fun x y H Q => ∃ a b xs, x = .ref a ∧ y = .ref b ∧ SqL K H a xs ∧ SqL K H b [] ∧ Q (.bl xs.isEmpty) H
def rNeL0 (K : PySem.W.Frag) : R2 := fun x y H Q => ∃ a b xs, x = .ref a ∧ y = .ref b ∧ SqL K H a xs ∧ SqL K H b [] ∧ Q (.bl (!xs.isEmpty)) H
section
variable {X : Cx} {cl : Str → Option Addr} {E : WX}
theorem op_eqL0 {k : Nat} (hr : Room k X.A) : OpR X (compareOp .Eq) (rEqL0 X.K) := by
  intro pins s σ H x y v u Q I rx ry ⟨a, b, xs, ex, ey, ha, hb, q⟩
  subst ex
  subst ey
  obtain rfl : v = Value.ref a := rx
  obtain rfl : u = Value.ref b := ry
  obtain ⟨us, r1, h1, _⟩ := inv_K (k := false) I ha
  obtain ⟨ws, r2, h2, _⟩ := inv_K (k := false) I hb
  cases r2
  have hu : X.A.units < cLine := by have := hr.un; omega
  cases xs with
  | nil =>
    cases r1
    exact SeqAt.RcAt.lists (e := fun _ => true) h1 h2 rfl hu (fun j h1 => absurd h1 (by simp)) X.prog X.w _ _ ⟨.bl _, H, I, rfl, q⟩
  | cons x xs =>
    cases r1
    exact SeqAt.RcAt.lists_lengths h1 h2 (by simp) hu X.prog X.w _ _ ⟨.bl _, H, I, rfl, q⟩
theorem op_neL0 {k : Nat} (hr : Room k X.A) : OpR X (compareOp .NotEq) (rNeL0 X.K) := by
  intro pins s σ H x y v u Q I rx ry ⟨a, b, xs, ex, ey, ha, hb, q⟩
  subst ex
  subst ey
  obtain rfl : v = Value.ref a := rx
  obtain rfl : u = Value.ref b := ry
  obtain ⟨us, r1, h1, _⟩ := inv_K (k := false) I ha
  obtain ⟨ws, r2, h2, _⟩ := inv_K (k := false) I hb
  cases r2
  have hu : X.A.units < cLine := by have := hr.un; omega
  cases xs with
  | nil =>
    cases r1
    exact SeqAt.RcNeAt.lists (e := fun _ => true) h1 h2 rfl hu (fun j h1 => absurd h1 (by simp)) X.prog X.w _ _ ⟨.bl _, H, I, rfl, q⟩
  | cons x xs =>
    cases r1
    exact SeqAt.RcNeAt.lists_lengths h1 h2 (by simp) hu X.prog X.w _ _ ⟨.bl _, H, I, rfl, q⟩
def eqL0 (x y : D) (S : Store) : Res D := match lsOf S x, lsOf S y with
  | some xs, some [] => .ok (.bl xs.isEmpty) S
  | _, _ => .stk
def neL0 (x y : D) (S : Store) : Res D := match lsOf S x, lsOf S y with
  | some xs, some [] => .ok (.bl (!xs.isEmpty)) S
  | _, _ => .stk
theorem eqL0_s {K : PySem.W.Frag} : OpS K cl (rEqL0 K) eqL0 := by
  intro W H S x y a b Q E r rx ry p
  unfold eqL0 at p
  split at p
  · rename_i xs e1 e2
    obtain ⟨l, vs, rfl, h, t⟩ := ls_of r rx e1
    obtain ⟨l', vs', rfl, h', t'⟩ := ls_of r ry e2
    cases t'
    refine ⟨l, l', vs, rfl, rfl, SqL.of h, SqL.of h', ?_⟩
    rw [show vs.isEmpty = xs.isEmpty by cases t <;> rfl]
    exact p.now r (.bl _)
  · exact p.elim
theorem neL0_s {K : PySem.W.Frag} : OpS K cl (rNeL0 K) neL0 := by
  intro W H S x y a b Q E r rx ry p
  unfold neL0 at p
  split at p
  · rename_i xs e1 e2
    obtain ⟨l, vs, rfl, h, t⟩ := ls_of r rx e1
    obtain ⟨l', vs', rfl, h', t'⟩ := ls_of r ry e2
    cases t'
    refine ⟨l, l', vs, rfl, rfl, SqL.of h, SqL.of h', ?_⟩
    rw [show vs.isEmpty = xs.isEmpty by cases t <;> rfl]
    exact p.now r (.bl _)
  · exact p.elim
/-! ### d.get(k) -/
def getA1 (x y : D) (S : Store) : Res D := match dcOf S x, keyO y with
  | some kvs, some k => .ok ((valK kvs k).getD .non) S
  | _, _ => .stk
def mGet1 (o a : M D) : M D := fun ρ S => (o ρ S).bind fun x S1 => match dcOf S1 x with
  | some _ => (a ρ S1).bind fun y S2 => getA1 x y S2
  | none => .stk
theorem t_get1 {o e : Expr} {m m1 : M D} {apos cpos : Pos} {k : Nat} (rm : Room k X.A) (ho : PE X o (T X.K cl E m)) (he : PE X e (T X.K cl E m1)) (h1 : attributeBase o "get" X.env (eval o X.env) = eval o X.env := by rfl)
    (h2 : ((backTo cpos (starEach [e] X.env)).all (fun x => !x.1) && (backToKw cpos (keywordEach [] X.env)).all (fun x => x.1.isSome) && decide (([e] : List Expr).length + ([] : List Keyword).length + (if ([] : List Keyword).isEmpty then 0 else 1) < 30)) = true := by rfl)
    (h3 : (apos.endLine == cpos.line) = true := by rfl) (h4 : backTo cpos (starEach [e] X.env) = [(false, eval e X.env)] := by rfl) :
    PE X (.Call (.Attribute o "get" apos) [e] [] cpos) (T X.K cl E (mGet1 m m1)) :=
  pe_imp (pe_dget1 (by have := rm.un; omega) ho he ⟨h1, h2, h3, h4⟩) fun σ H Q ⟨W, ρ, S, hr, en, q⟩ => step hr en q fun W1 H1 x dx S1 l1 r1 e1 rx p1 => by
    split at p1
    · rename_i kvs ek
      obtain ⟨a, vs, rfl, ha, t⟩ := dc_of r1 rx ek
      refine ⟨a, rfl, .inl ⟨vs, ha⟩, step r1 e1 p1 fun W2 H2 y dy S2 l2 r2 e2 ry p2 => ?_⟩
      unfold getA1 at p2
      split at p2
      · rename_i kvs2 kk ek2 ey
        obtain ⟨a2, vs2, ea, ha2, t2⟩ := dc_of r2 (rx.up l2) ek2
        cases ea
        obtain rfl := key_rep ry ey
        refine ⟨valV vs2 kk, .inl ⟨vs2, kk, ha2, rfl, rfl⟩, ?_⟩
        rcases t2.val kk with ⟨v, d, q1, q2, q3⟩ | ⟨q1, q2⟩
        · rw [q1]
          rw [q2] at p2
          exact p2.now r2 q3
        · rw [q1]
          rw [q2] at p2
          exact p2.now r2 .non
      · exact p2.elim
    · exact p1.elim
end
/-! running -/
section
variable {ρ : Sl} {S : Store} {x y : D} {ds : List D} {kvs : List (Key × D)} {k : Key} {b : MS} {c : M Bool}
def rE0 (o p : Option (List D)) (S : Store) : Res D := match o, p with
  | some xs, some [] => .ok (.bl xs.isEmpty) S
  | _, _ => .stk
def rN0 (o p : Option (List D)) (S : Store) : Res D := match o, p with
  | some xs, some [] => .ok (.bl (!xs.isEmpty)) S
  | _, _ => .stk
@[simp] theorem v_eqL0 : eqL0 x y S = rE0 (lsOf S x) (lsOf S y) S := by
  unfold eqL0 rE0
  rfl
@[simp] theorem v_neL0 : neL0 x y S = rN0 (lsOf S x) (lsOf S y) S := by
  unfold neL0 rN0
  rfl
@[simp] theorem rE0_some : rE0 (some ds) (some []) S = .ok (.bl ds.isEmpty) S := nrfl rfl
@[simp] theorem rN0_some : rN0 (some ds) (some []) S = .ok (.bl (!ds.isEmpty)) S := nrfl rfl
@[simp] theorem ls_lst : lsOf S (.lst ds) = some ds := nrfl rfl
def kG1b (x : D) (y : D) (S : Store) : Res D := getA1 x y S
def kG1a (ρ : Sl) (a : M D) (x : D) (S : Store) (o : Option (List (Key × D))) : Res D := match o with
  | some _ => (a ρ S).bind (kG1b x)
  | none => .stk
def kG1' (ρ : Sl) (a : M D) (x : D) (S : Store) : Res D := kG1a ρ a x S (dcOf S x)
@[simp] theorem e_get1 {o a : M D} : mGet1 o a ρ S = (o ρ S).bind (kG1' ρ a) := by
  unfold mGet1
  congr 1
@[simp] theorem e_get1a {a : M D} : kG1' ρ a x S = kG1a ρ a x S (dcOf S x) := nrfl rfl
@[simp] theorem e_get1b {a : M D} : kG1a ρ a x S (some kvs) = (a ρ S).bind (kG1b x) := nrfl rfl
def rG1 (o : Option (List (Key × D))) (p : Option Key) (S : Store) : Res D := match o, p with
  | some kvs, some k => .ok ((valK kvs k).getD .non) S
  | _, _ => .stk
@[simp] theorem e_get1c : kG1b x y S = rG1 (dcOf S x) (keyO y) S := by
  unfold kG1b getA1 rG1
  rfl
@[simp] theorem rG1_some : rG1 (some kvs) (some k) S = .ok ((valK kvs k).getD .non) S := nrfl rfl
/-- not in -/
def rNotInA2 (o : Option (List (Key × D))) (x y : D) (S : Store) : Res D := match o with
  | some kvs => (match keyO x with
    | some k => .ok (.bl (!(valK kvs k).isSome)) S
    | none => .stk)
  | none => notInD x y S
@[simp] theorem v_notInA : notInA x y S = rNotInA2 (dcOf S y) x y S := by
  unfold notInA rNotInA2 inDK
  cases e : dcOf S y with
  | none => rfl
  | some kvs =>
    dsimp only
    cases keyO x <;> rfl
@[simp] theorem rNotInA2_none : rNotInA2 none x y S = notInD x y S := nrfl rfl
@[simp] theorem rNotInA2_int {i : Int} : rNotInA2 (some kvs) (.int i) y S = .ok (.bl (!(valK kvs (.inl i)).isSome)) S := nrfl rfl
/-- a while loop with a measure -/
theorem whI (I : Nat → Sl → Store → Prop) (h : ∀ m ρ S, I m ρ S → ∃ k, c ρ S = .ok k S ∧ (k = true → Stp (fun ρ' S' => ∃ m', m' < m ∧ I m' ρ' S') (fun _ => False) (b ρ S))) :
    ∀ (n m : Nat) (ρ : Sl) (S : Store), m < n → I m ρ S → OkN (whileF c b n ρ S) fun ρ' S' => (∃ m', I m' ρ' S') ∧ c ρ' S' = .ok false S' := by
  intro n
  induction n with
  | zero => intro m ρ S hm; omega
  | succ n ih =>
    intro m ρ S hm hI
    obtain ⟨k, hc, hk⟩ := h m ρ S hI
    rw [x_wh, hc]
    cases k with
    | false =>
      simp
      exact ⟨⟨m, hI⟩, hc⟩
    | true =>
      have hb := (hk rfl).out
      simp
      cases e : b ρ S with
      | nx ρ2 S2 =>
        rw [e] at hb
        obtain ⟨m', h1, h2⟩ := hb
        rw [fB_nx]
        exact ih m' ρ2 S2 (by omega) h2
      | ct ρ2 S2 =>
        rw [e] at hb
        obtain ⟨m', h1, h2⟩ := hb
        rw [fB_ct]
        exact ih m' ρ2 S2 (by omega) h2
      | bk ρ2 S2 => rw [e] at hb; exact hb.elim
      | rt d S2 => rw [e] at hb; exact hb.elim
      | exc x ρ2 S2 => rw [e] at hb; exact hb.elim
      | stk => rw [e] at hb; exact hb.elim
end
end G
namespace G
open PySem L2
/-! ### pop at a place -/
section
variable {K : PySem.W.Frag} {cl : Str → Option Addr} {W : Wd}
theorem Reps.eraseIdx : ∀ {v : List V} {d : List D} (k : Nat), Reps K cl W v d → Reps K cl W (v.eraseIdx k) (d.eraseIdx k)
  | _, _, _, .nil => .nil
  | _, _, 0, .cons h t => t
  | _, _, k + 1, .cons h t => .cons h (Reps.eraseIdx k t)
def popAtD (x : D) (ys : List D) (S : Store) : Res D := match x, ys with
  | .ref n, [.int i] => (match S[n]? with
    | some (.lst xs) => (match xs[i.toNat]? with
      | some y => if 0 ≤ i ∧ smR i = true then .ok y (S.set n (.lst (xs.eraseIdx i.toNat))) else .stk
      | none => .stk)
    | _ => .stk)
  | _, _ => .stk
theorem popAt_s : G.MtS K cl rPopAt popAtD := by
  intro W H S x a y b Q E r rx ry p
  unfold popAtD at p
  split at p
  · rename_i n i
    cases rx with | ref hn =>
    cases ry with | cons ry rn =>
    cases ry
    cases rn
    split at p
    · rename_i xs e1
      obtain ⟨_, vs, h1, h2⟩ := r.live n _ e1 (by intro z; cases z)
      split at p
      · rename_i y ey
        split at p
        · rename_i hz
          obtain ⟨v, hv, rv⟩ := h2.at ey
          have li := (List.getElem?_eq_some_iff.mp hv).1
          have sm := (smR_of hz.2).2
          refine ⟨_, vs, i, i.toNat, v, rfl, rfl, h1, by have := hz.1; omega, by omega, ?_, hv, p W _ _ (.rf W) (r.put e1 (by intro z; cases z) ⟨_, upd_same, h2.eraseIdx _⟩) rv⟩
          unfold seqIndex?
          have h0 : ¬ i < 0 := by have := hz.1; omega
          have h3 : i < (vs.length : Int) := by have := hz.1; omega
          simp [h0, hz.1, h3]
        · exact p.elim
      · exact p.elim
    · exact p.elim
  · exact p.elim
end
section
variable {S : Store} {n : Nat} {x y : D} {ds es : List D} {i : Int} {ns : List Int}
def rPopA2 (o : Option D) (xs : List D) (i : Int) (n : Nat) (S : Store) : Res D := match o with
  | some y => if 0 ≤ i ∧ smR i = true then .ok y (sp S n (.lst (xs.eraseIdx i.toNat))) else .stk
  | none => .stk
def rPopA (o : Option MO) (i : Int) (n : Nat) (S : Store) : Res D := match o with
  | some (.lst xs) => rPopA2 xs[i.toNat]? xs i n S
  | _ => .stk
@[simp] theorem popAt_ref : popAtD (.ref n) [.int i] S = rPopA (sg S n) i n S := by
  unfold popAtD rPopA rPopA2 sg sp
  rfl
theorem rPopA_some {k : Nat} (h : ds[k]? = some y) (hk : smR (k : Int) = true) : rPopA (some (.lst ds)) (k : Int) n S = .ok y (sp S n (.lst (ds.eraseIdx k))) := by
  unfold rPopA rPopA2
  simp [h, hk]
end
end G
namespace G
open PySem L2
/-! ### d.copy(), the copy live -/
section
variable {X : Cx} {cl : Str → Option Addr} {E : WX} {o : Expr} {m : M D} {apos cpos : Pos}
def copyLv (d : D) (S : Store) : Res D := match dcOf S d with
  | some kvs => .ok (.ref S.length) (S ++ [.dct kvs])
  | none => .stk
theorem t_copyL (he : PE X o (T X.K cl E m)) (hb : attributeBase o "copy" X.env (eval o X.env) = eval o X.env := by rfl) (hl : (apos.endLine == cpos.line) = true := by rfl) :
    PE X (.Call (.Attribute o "copy" apos) [] [] cpos) (T X.K cl E (mUn copyLv m)) :=
  pe_imp (pe_copyK he hb hl) fun σ H Q ⟨W, ρ, S, hr, en, q⟩ => step hr en q fun W1 H1 v d S1 l1 r1 e1 rv p1 => by
    unfold copyLv at p1
    split at p1
    · rename_i kvs ek
      obtain ⟨a, vs, rfl, ha, t⟩ := dc_of r1 rv ek
      exact ⟨a, vs, rfl, ha, fun q hq => p1 (W1.lv q) _ _ (Le.lv W1 q) (r1.new hq ⟨vs, upd_same, t⟩) (rep_lv r1)⟩
    · exact p1.elim
end
section
variable {S : Store} {x : D} {kvs : List (Key × D)}
theorem copyL_ok (h : dcOf S x = some kvs) : copyLv x S = .ok (.ref S.length) (S ++ [.dct kvs]) := by
  unfold copyLv
  rw [h]
end
/-! ### a live list or dict is frozen -/
section
variable {K : PySem.W.Frag} {cl : Str → Option Addr} {W : Wd} {H : Hp} {S : Store}
theorem R.kilF {i : Nat} {m : MO} {o : HO} (r : R K cl W H S) (h : S[i]? = some m) (nd : m ≠ .dead) : R K cl (W.fz (W.ι i) o) (upd H (W.ι i) o) (S.set i .dead) ∧ Le W (W.fz (W.ι i) o) := by
  obtain ⟨h1, h2⟩ := r.live i m h nd
  have hq : W.P (W.ι i) = none := by
    cases e : W.P (W.ι i) with
    | none => rfl
    | some u => exact absurd rfl ((r.priv _ u e).2.2 i m h nd)
  have r1 : R K cl W (upd H (W.ι i) o) (S.set i .dead) := r.put h nd trivial
  refine ⟨r1.fzAt upd_same h1 (fun j mo e n' q => ?_) hq, Le.fz h1⟩
  by_cases hj : i = j
  · subst hj
    rw [List.getElem?_set_self (List.getElem?_eq_some_iff.mp h).1] at e
    cases e
    exact n' rfl
  · rw [List.getElem?_set_ne hj] at e
    exact hj (r.inj i j m mo h e nd n' q.symm)
end
def frzR (d : D) (S : Store) : Res D := match d with
  | .ref n => (match S[n]? with
    | some (.dct kvs) => .ok (.dct kvs) (S.set n .dead)
    | _ => .stk)
  | _ => .stk
section
variable {X : Cx} {cl : Str → Option Addr} {E : WX} {o : Expr} {m : M D} {apos cpos : Pos}
theorem t_frzR (he : PE X o (T X.K cl E m)) : PE X o (T X.K cl E (mUn frzR m)) :=
  pe_imp (pe_frzD he) fun σ H Q ⟨W, ρ, S, hr, en, q⟩ => step hr en q fun W1 H1 v d S1 l1 r1 e1 rv p1 => by
    unfold frzR at p1
    split at p1
    · rename_i n
      split at p1
      · rename_i kvs ek
        cases rv with | ref hn =>
        obtain ⟨g0, vs, ha, t⟩ := r1.live n _ ek (by intro z; cases z)
        refine ⟨_, .dK vs, rfl, ha, True.intro, fun od => ?_⟩
        obtain ⟨r2, l2⟩ := r1.kilF (o := .frz od (.dK vs)) ek (by intro z; cases z)
        exact p1 _ _ _ l2 r2 (.dct upd_same (t.up l2))
      · exact p1.elim
    · exact p1.elim
end
section
variable {S : Store} {n : Nat} {kvs : List (Key × D)}
theorem frzR_ok (h : sg S n = some (.dct kvs)) : frzR (.ref n) S = .ok (.dct kvs) (sp S n .dead) := by
  unfold frzR
  dsimp only
  rw [show S[n]? = some (.dct kvs) from h]
  rfl
end
end G
namespace G
open PySem L2
def top (i : Nat) : Stmt := PySem.Challenge.pw_sparedwork_k23_whole_versions_behind_cra.main.body.getD i (.Pass ⟨0, 0, 0, 0⟩)
def c_LEAST_BLOCKS : D := .int 8
def c_META : D := .str "meta"
def c_METAS : D := .int 2
def c_MOST_BLOCKS : D := .int 400
structure Gb (K : PySem.W.Frag) (cl : Str → Option Addr) (mg : Str → Option Value) : Prop where
  b_all : mg "all" = none
  b_bool : mg "bool" = none
  b_dict : mg "dict" = none
  b_int : mg "int" = none
  b_isinstance : mg "isinstance" = none
  b_len : mg "len" = none
  b_list : mg "list" = none
  b_range : mg "range" = none
  b_sorted : mg "sorted" = none
  b_str : mg "str" = none
  b_tuple : mg "tuple" = none
  g_LEAST_BLOCKS : GlobIs K cl mg "LEAST_BLOCKS" c_LEAST_BLOCKS
  g_META : GlobIs K cl mg "META" c_META
  g_METAS : GlobIs K cl mg "METAS" c_METAS
  g_MOST_BLOCKS : GlobIs K cl mg "MOST_BLOCKS" c_MOST_BLOCKS
  a_Disk_durable : AttrOk K cl "durable" ["Disk"]
  a_Disk_present : AttrOk K cl "present" ["Disk"]
  a_Disk_waiting : AttrOk K cl "waiting" ["Disk"]
  a_Draft_given : AttrOk K cl "given" ["Draft"]
  a_Draft_is_closed : AttrOk K cl "is_closed" ["Draft"]
  a_Draft_vault : AttrOk K cl "vault" ["Draft"]
  a_Snapshot_is_closed : AttrOk K cl "is_closed" ["Snapshot"]
  a_Snapshot_number : AttrOk K cl "number" ["Snapshot"]
  a_Snapshot_place : AttrOk K cl "place" ["Snapshot"]
  a_Snapshot_top : AttrOk K cl "top" ["Snapshot"]
  a_Vault_holders : AttrOk K cl "holders" ["Vault"]
  a_Vault_is_busy : AttrOk K cl "is_busy" ["Vault"]
  a_Vault_number : AttrOk K cl "number" ["Vault"]
  a_Vault_place : AttrOk K cl "place" ["Vault"]
  a_Vault_top : AttrOk K cl "top" ["Vault"]
  xa_count : XAttr K cl "count" ["BadCount", "NoSpace"]
  e_Busy : Err0 K mg cl "Busy"
  e_Closed : Err0 K mg cl "Closed"
  e_NoMeta : Err0 K mg cl "NoMeta"
  t_NoSpace : TryT K mg cl "NoSpace" [("WorkError", false), ("BadCount", false), ("BadBlock", false), ("BadPage", false), ("BadKept", false), ("NoMeta", false), ("Busy", false), ("Closed", false), ("NoSpace", true)]
  rs : Rsv cl
section
variable {P : Program} {w : World} {K : PySem.W.Frag} {mg : Str → Option Value} {base : Heap} {cl : Str → Option Addr}
abbrev s_BadCount_init : Stmt := (inClass (top 3) 0)
theorem sc_BadCount_init : FnScope ["self", "count"] ["self", "count"] (defScope s_BadCount_init) :=
  ⟨rfl, rfl, rfl, by decide +kernel, rfl, by decide +kernel, by decide +kernel⟩
theorem ok_BadCount_init {f : Addr} {fd : FuncData} (F : Fun K "__init__" "BadCount.__init__" s_BadCount_init f fd) : FnOk P w K mg base (L2.CX P w) 1 f fd ["self", "count"] (spErr K ["self", "count"] 2 [("count", 1)]) :=
  err_fn F sc_BadCount_init rfl (by decide) (by decide) fun cdv A outer s H E => (er_cons 1 er_nil)
theorem mk_BadCount_init {f : Addr} {fd : FuncData} (F : Fun K "__init__" "BadCount.__init__" s_BadCount_init f fd) {C : Addr} (hcl : cl "BadCount" = some C) (hg : mg "BadCount" = some (.ref C)) (hx : OexC K C) (hi : PySem.W.findIn K (.ref C) "__init__" = some (some (.ref f))) (ht : PySem.W.typeIn K (.ref f) = some (.type "function")) (hf1 : PySem.W.findIn K (.ref C) "count" = some none) : ErrF P w K mg base cl "BadCount" 1 2 ["self", "count"] [("count", 1)] :=
  ⟨C, f, fd, ["self", "count"], hcl, hg, hx, hi, ht, ok_BadCount_init F, (F.binds (ps := ["self", "count"]) fun _ _ _ _ _ _ us hl => match us, hl with | [_, _], _ => rfl), (by intro q hq; simp only [List.mem_cons, List.not_mem_nil, or_false] at hq; rcases hq with rfl <;> assumption)⟩
abbrev s_is_integer : Stmt := (top 12)
theorem sc_is_integer : FnScope ["thing"] ["thing"] (defScope s_is_integer) :=
  ⟨rfl, rfl, rfl, by decide +kernel, rfl, by decide +kernel, by decide +kernel⟩
noncomputable def sem_is_integer : MS :=
  (sRet (mAndV (mUn (isiD k_int) (mVar 0)) (mNotV (mUn (isiD k_bool) (mVar 0)))))
noncomputable def fn_is_integer : List D → Store → Res D := runB 1 sem_is_integer
theorem ok_is_integer {f : Addr} {fd : FuncData} (F : Fun K "is_integer" "is_integer" s_is_integer f fd) (T : Gb K cl mg) :
    FnOk P w K mg base (L2.CX P w) 1 f fd ["thing"] (spOf K cl 1 fn_is_integer) :=
  fn_sem F sc_is_integer rfl fun cdv A outer s H E hr =>
  (s_one (s_ret (t_and (t_isi is_int T.b_isinstance T.b_int bt_int (t_var 0)) (t_one (t_not (t_isi is_bool T.b_isinstance T.b_bool bt_bool (t_var 0)))))))
theorem mk_is_integer {f : Addr} {fd : FuncData} (F : Fun K "is_integer" "is_integer" s_is_integer f fd) (hm : mg "is_integer" = some (.ref f)) (T : Gb K cl mg) : Fn P w K mg base cl "is_integer" 1 1 fn_is_integer :=
  ⟨f, fd, ["thing"], ok_is_integer F T, hm, F.kp, (F.binds (ps := ["thing"]) fun _ _ _ _ _ _ us hl => match us, hl with | [_], _ => rfl)⟩
abbrev s_Disk_init : Stmt := (inClass (top 17) 0)
theorem sc_Disk_init : FnScope ["self", "count"] ["self", "count"] (defScope s_Disk_init) :=
  ⟨rfl, rfl, rfl, by decide +kernel, rfl, by decide +kernel, by decide +kernel⟩
noncomputable def sem_Disk_init : MS :=
  (sSeq (sIf (mOr (mNot (mTru (mFn (ar 1 fn_is_integer) (mCons (mVar 1) mNil)))) (mNot (mTest (mChain leD leD (mC c_LEAST_BLOCKS) (mVar 1) (mC c_MOST_BLOCKS)))))
  (sRaise "BadCount" 2 2 [("count", 1)] (mCons (mVar 1) mNil))
  sPass)
  (sSeq (sSetF ["Disk"] "durable" (mVar 0) (mOp mulD (mFn lstD (mCons (mC .non) mNil)) (mVar 1)))
  (sSeq (sSetF ["Disk"] "present" (mVar 0) (mOp mulLv (mFn lstD (mCons (mC .non) mNil)) (mVar 1)))
  (sSetF ["Disk"] "waiting" (mVar 0) (mFn lstL mNil)))))
noncomputable def fn_Disk_init : List D → Store → Res D := runB 2 sem_Disk_init
theorem ok_Disk_init {f : Addr} {fd : FuncData} (F : Fun K "__init__" "Disk.__init__" s_Disk_init f fd) (T : Gb K cl mg) (G_BadCount_init : ErrF P w K mg base cl "BadCount" 1 2 ["self", "count"] [("count", 1)]) (G_is_integer : Fn P w K mg base cl "is_integer" 1 1 fn_is_integer) :
    FnOk P w K mg base (L2.CX P w) 3 f fd ["self", "count"] (spOf K cl 2 fn_Disk_init) :=
  fn_sem F sc_Disk_init rfl fun cdv A outer s H E hr =>
  (s_cons (s_if (PW.pt (tw_or (tt_not (tt_tru (t_callF G_is_integer (hr.mono (by decide)) (takes_of rfl rfl rfl rfl) (ta_cons (t_var 1) ta_nil)))) (tw_or1 (tt_not (tt_chain op_leA le_s op_leA le_s (t_glob' T.g_LEAST_BLOCKS) (t_var 1) (t_glob' T.g_MOST_BLOCKS))))))
  (s_one (s_raiseF (N := ["self", "count"]) G_BadCount_init (hr.mono (by decide)) (takes_of rfl rfl rfl rfl) (ta_cons (t_var 1) ta_nil) (by decide) (by decide)))
  s_nil)
  (s_cons (s_fld T.a_Disk_durable (t_var 0) (t_op op_mulA mul_s (t_lst (ta_cons t_non ta_nil)) (t_var 1)))
  (s_cons (s_fld T.a_Disk_present (t_var 0) (t_op op_mulA mulLv_s (t_lst (ta_cons t_non ta_nil)) (t_var 1)))
  (s_one (s_fld T.a_Disk_waiting (t_var 0) (t_lstL ta_nil))))))
theorem mk_Disk_init {f : Addr} {fd : FuncData} (F : Fun K "__init__" "Disk.__init__" s_Disk_init f fd) {C : Addr} (hcl : cl "Disk" = some C) (hg : mg "Disk" = some (.ref C)) (hM : Mk K C f) (T : Gb K cl mg) (G_BadCount_init : ErrF P w K mg base cl "BadCount" 1 2 ["self", "count"] [("count", 1)]) (G_is_integer : Fn P w K mg base cl "is_integer" 1 1 fn_is_integer) : Mkr P w K mg base cl "Disk" 3 2 fn_Disk_init :=
  ⟨C, f, fd, ["self", "count"], hcl, hg, hM, ok_Disk_init F T G_BadCount_init G_is_integer, (F.binds (ps := ["self", "count"]) fun _ _ _ _ _ _ us hl => match us, hl with | [_, _], _ => rfl)⟩
abbrev s_BadKept_init : Stmt := (inClass (top 6) 0)
theorem sc_BadKept_init : FnScope ["self", "block"] ["self", "block"] (defScope s_BadKept_init) :=
  ⟨rfl, rfl, rfl, by decide +kernel, rfl, by decide +kernel, by decide +kernel⟩
theorem ok_BadKept_init {f : Addr} {fd : FuncData} (F : Fun K "__init__" "BadKept.__init__" s_BadKept_init f fd) : FnOk P w K mg base (L2.CX P w) 1 f fd ["self", "block"] (spErr K ["self", "block"] 2 [("block", 1)]) :=
  err_fn F sc_BadKept_init rfl (by decide) (by decide) fun cdv A outer s H E => (er_cons 1 er_nil)
theorem mk_BadKept_init {f : Addr} {fd : FuncData} (F : Fun K "__init__" "BadKept.__init__" s_BadKept_init f fd) {C : Addr} (hcl : cl "BadKept" = some C) (hg : mg "BadKept" = some (.ref C)) (hx : OexC K C) (hi : PySem.W.findIn K (.ref C) "__init__" = some (some (.ref f))) (ht : PySem.W.typeIn K (.ref f) = some (.type "function")) (hf1 : PySem.W.findIn K (.ref C) "block" = some none) : ErrF P w K mg base cl "BadKept" 1 2 ["self", "block"] [("block", 1)] :=
  ⟨C, f, fd, ["self", "block"], hcl, hg, hx, hi, ht, ok_BadKept_init F, (F.binds (ps := ["self", "block"]) fun _ _ _ _ _ _ us hl => match us, hl with | [_, _], _ => rfl), (by intro q hq; simp only [List.mem_cons, List.not_mem_nil, or_false] at hq; rcases hq with rfl <;> assumption)⟩
abbrev s_Disk_is_block : Stmt := (inClass (top 17) 1)
theorem sc_Disk_is_block : FnScope ["self", "block"] ["self", "block"] (defScope s_Disk_is_block) :=
  ⟨rfl, rfl, rfl, by decide +kernel, rfl, by decide +kernel, by decide +kernel⟩
noncomputable def sem_Disk_is_block : MS :=
  (sRet (mAndV (mFn (ar 1 fn_is_integer) (mCons (mVar 1) mNil)) (mChain leD ltD (mC (.int 0)) (mVar 1) (mFn lenD (mCons (mUn (fldD ["Disk"] "present") (mVar 0)) mNil)))))
noncomputable def fn_Disk_is_block : List D → Store → Res D := runB 2 sem_Disk_is_block
theorem ok_Disk_is_block {f : Addr} {fd : FuncData} (F : Fun K "is_block" "Disk.is_block" s_Disk_is_block f fd) (T : Gb K cl mg) (G_is_integer : Fn P w K mg base cl "is_integer" 1 1 fn_is_integer) :
    FnOk P w K mg base (L2.CX P w) 2 f fd ["self", "block"] (spOf K cl 2 fn_Disk_is_block) :=
  fn_sem F sc_Disk_is_block rfl fun cdv A outer s H E hr =>
  (s_one (s_ret (t_and (t_callF G_is_integer (hr.mono (by decide)) (takes_of rfl rfl rfl rfl) (ta_cons (t_var 1) ta_nil)) (t_one (t_chain op_leA le_s op_ltA lt_s t_int (t_var 1) (t_callB (call_len) len_s T.b_len bt_len (ta_cons (t_fld T.a_Disk_present (t_var 0)) ta_nil)))))))
theorem mk_Disk_is_block {f : Addr} {fd : FuncData} (F : Fun K "is_block" "Disk.is_block" s_Disk_is_block f fd) {C : Addr} (hcl : cl "Disk" = some C) (hc : Cls K C) (hm : Meth K C "is_block" f) (T : Gb K cl mg) (G_is_integer : Fn P w K mg base cl "is_integer" 1 1 fn_is_integer) : MFn P w K mg base cl "Disk" "is_block" 2 2 fn_Disk_is_block :=
  ⟨C, f, fd, ["self", "block"], hcl, hc, hm, ok_Disk_is_block F T G_is_integer, (F.binds (ps := ["self", "block"]) fun _ _ _ _ _ _ us hl => match us, hl with | [_, _], _ => rfl)⟩
abbrev s_Disk_check_kept : Stmt := (inClass (top 17) 8)
theorem sc_Disk_check_kept : FnScope ["self", "kept", "block", "many", "other", "_"] ["self", "kept"] (defScope s_Disk_check_kept) :=
  ⟨rfl, rfl, rfl, by decide +kernel, rfl, by decide +kernel, by decide +kernel⟩
noncomputable def sem_Disk_check_kept : MS :=
  (sSeq (sIf (mNot (mTru (mUn (isiD k_dict) (mVar 1))))
  (sRaise "BadKept" 2 2 [("block", 1)] (mCons (mC .non) mNil))
  sPass)
  (sSeq (sFor (mItK (mVar 1)) (ptN 2)
  (sIf (mNot (mTru (mMeth [("Disk", fn_Disk_is_block)] "is_block" 2 (mVar 0) (mCons (mVar 2) mNil))))
  (sRaise "BadKept" 2 2 [("block", 1)] (mCons (mVar 2) mNil))
  sPass))
  (sFor (mIt (mFn sortedD (mCons (mFn listK (mCons (mVar 1) mNil)) mNil))) (ptN 2)
  (sSeq (sSet 3 (mFn lenD (mCons (mComp (mIt (mUn (fldD ["Disk"] "waiting") (mVar 0))) (ptT (psC (ptN 4) (psC (ptN 5) psN))) (mTest (mOp eqD (mVar 4) (mVar 2))) (mC (.int 1)) [4, 5] frzD) mNil)))
  (sIf (mOr (mNot (mTru (mFn (ar 1 fn_is_integer) (mCons (mOp ixA (mVar 1) (mVar 2)) mNil)))) (mNot (mTest (mChain leD leD (mC (.int 0)) (mOp ixA (mVar 1) (mVar 2)) (mVar 3)))))
  (sRaise "BadKept" 2 2 [("block", 1)] (mCons (mVar 2) mNil))
  sPass)))))
noncomputable def fn_Disk_check_kept : List D → Store → Res D := runB 6 sem_Disk_check_kept
theorem ok_Disk_check_kept {f : Addr} {fd : FuncData} (F : Fun K "check_kept" "Disk.check_kept" s_Disk_check_kept f fd) (T : Gb K cl mg) (G_BadKept_init : ErrF P w K mg base cl "BadKept" 1 2 ["self", "block"] [("block", 1)]) (G_Disk_is_block : MFn P w K mg base cl "Disk" "is_block" 2 2 fn_Disk_is_block) (G_is_integer : Fn P w K mg base cl "is_integer" 1 1 fn_is_integer) :
    FnOk P w K mg base (L2.CX P w) 3 f fd ["self", "kept"] (spOf K cl 2 fn_Disk_check_kept) :=
  fn_sem F sc_Disk_check_kept rfl fun cdv A outer s H E hr =>
  (s_cons (s_if (tt_not (tt_tru (t_isi is_dict T.b_isinstance T.b_dict bt_dict (t_var 1))))
  (s_one (s_raiseF (N := ["self", "block"]) G_BadKept_init (hr.mono (by decide)) (takes_of rfl rfl rfl rfl) (ta_cons t_non ta_nil) (by decide) (by decide)))
  s_nil)
  (s_cons (s_for (passes_of rfl) rfl (i_dict (t_var 1)) (g_name 2 sc_Disk_check_kept.nd)
  (s_one (s_if (tt_not (tt_tru (t_meth (mt_cons G_Disk_is_block mt_nil) mt_ex (hr.mono (by decide)) (takes_of rfl rfl rfl rfl) (t_var 0) (ta_cons (t_var 2) ta_nil))))
  (s_one (s_raiseF (N := ["self", "block"]) G_BadKept_init (hr.mono (by decide)) (takes_of rfl rfl rfl rfl) (ta_cons (t_var 2) ta_nil) (by decide) (by decide)))
  s_nil)))
  (s_one (s_for (passes_of rfl) rfl (i_seq (t_callB (cr_sortedI) sorted_s T.b_sorted bt_sorted (ta_cons (t_callTy (cr_listF rfl) listK_s T.b_list bt_list (ta_cons (t_var 1) ta_nil)) ta_nil))) (g_name 2 sc_Disk_check_kept.nd)
  (s_cons (s_set 3 sc_Disk_check_kept.nd (t_callB (call_len) len_s T.b_len bt_len (ta_cons (t_lc [("other", 4), ("_", 5)] frz_s rfl sc_Disk_check_kept.nd (i_seq (t_fld T.a_Disk_waiting (t_var 0))) (blkOk_by (N := ["self", "kept", "block", "many", "other", "_"]) (sc := defScope s_Disk_check_kept) (by decide +kernel)) (fun _ _ _ _ _ => (g_tup rfl (gs_cons (g_name 4 sc_Disk_check_kept.nd) (gs_cons (g_name 5 sc_Disk_check_kept.nd) gs_nil)) (ps_lenS (ps_lenS ps_len0)))) (fun _ _ _ _ _ => (tts_one (tt_cmp (op_eqA hr) eq_s (t_var 4) (t_var 2)))) (fun _ _ _ _ _ => t_int)) ta_nil)))
  (s_one (s_if (PW.pt (tw_or (tt_not (tt_tru (t_callF G_is_integer (hr.mono (by decide)) (takes_of rfl rfl rfl rfl) (ta_cons (t_ixA hr (t_var 1) (t_var 2)) ta_nil)))) (tw_or1 (tt_not (tt_chain op_leA le_s op_leA le_s t_int (t_ixA hr (t_var 1) (t_var 2)) (t_var 3))))))
  (s_one (s_raiseF (N := ["self", "block"]) G_BadKept_init (hr.mono (by decide)) (takes_of rfl rfl rfl rfl) (ta_cons (t_var 2) ta_nil) (by decide) (by decide)))
  s_nil)))))))
theorem mk_Disk_check_kept {f : Addr} {fd : FuncData} (F : Fun K "check_kept" "Disk.check_kept" s_Disk_check_kept f fd) {C : Addr} (hcl : cl "Disk" = some C) (hc : Cls K C) (hm : Meth K C "check_kept" f) (T : Gb K cl mg) (G_BadKept_init : ErrF P w K mg base cl "BadKept" 1 2 ["self", "block"] [("block", 1)]) (G_Disk_is_block : MFn P w K mg base cl "Disk" "is_block" 2 2 fn_Disk_is_block) (G_is_integer : Fn P w K mg base cl "is_integer" 1 1 fn_is_integer) : MFn P w K mg base cl "Disk" "check_kept" 3 2 fn_Disk_check_kept :=
  ⟨C, f, fd, ["self", "kept"], hcl, hc, hm, ok_Disk_check_kept F T G_BadKept_init G_Disk_is_block G_is_integer, (F.binds (ps := ["self", "kept"]) fun _ _ _ _ _ _ us hl => match us, hl with | [_, _], _ => rfl)⟩
abbrev s_Disk_crashed : Stmt := (inClass (top 17) 9)
theorem sc_Disk_crashed : FnScope ["self", "kept", "found", "blocks", "block", "pages", "other", "page"] ["self", "kept"] (defScope s_Disk_crashed) :=
  ⟨rfl, rfl, rfl, by decide +kernel, rfl, by decide +kernel, by decide +kernel⟩
noncomputable def sem_Disk_crashed : MS :=
  (sSeq (sExpr (mMeth [("Disk", fn_Disk_check_kept)] "check_kept" 2 (mVar 0) (mCons (mVar 1) mNil)))
  (sSeq (sSet 2 (mMake "Disk" 2 fn_Disk_init (mCons (mFn lenD (mCons (mUn (fldD ["Disk"] "present") (mVar 0)) mNil)) mNil)))
  (sSeq (sSet 3 (mFn listL (mCons (mUn (fldD ["Disk"] "durable") (mVar 0)) mNil)))
  (sSeq (sFor (mItK (mVar 1)) (ptN 4)
  (sSeq (sSet 5 (mComp (mIt (mUn (fldD ["Disk"] "waiting") (mVar 0))) (ptT (psC (ptN 6) (psC (ptN 7) psN))) (mTest (mOp eqD (mVar 6) (mVar 4))) (mVar 7) [6, 7] frzD))
  (sIf (mTest (mOp gtD (mOp ixA (mVar 1) (mVar 4)) (mC (.int 0))))
  (sPut (mVar 3) (mVar 4) (mOp ixD (mVar 5) (mOp subD (mOp ixA (mVar 1) (mVar 4)) (mC (.int 1)))))
  sPass)))
  (sSeq (sSetF ["Disk"] "durable" (mVar 2) (mVar 3))
  (sSeq (sSetF ["Disk"] "present" (mVar 2) (mFn listL (mCons (mVar 3) mNil)))
  (sRet (mVar 2))))))))
noncomputable def fn_Disk_crashed : List D → Store → Res D := runB 8 sem_Disk_crashed
theorem ok_Disk_crashed {f : Addr} {fd : FuncData} (F : Fun K "crashed" "Disk.crashed" s_Disk_crashed f fd) (T : Gb K cl mg) (G_Disk_init : Mkr P w K mg base cl "Disk" 3 2 fn_Disk_init) (G_Disk_check_kept : MFn P w K mg base cl "Disk" "check_kept" 3 2 fn_Disk_check_kept) :
    FnOk P w K mg base (L2.CX P w) 5 f fd ["self", "kept"] (spOf K cl 2 fn_Disk_crashed) :=
  fn_sem F sc_Disk_crashed rfl fun cdv A outer s H E hr =>
  (s_cons (s_expr (t_meth (mt_cons G_Disk_check_kept mt_nil) mt_ex (hr.mono (by decide)) (takes_of rfl rfl rfl rfl) (t_var 0) (ta_cons (t_var 1) ta_nil)))
  (s_cons (s_set 2 sc_Disk_crashed.nd (t_make G_Disk_init (hr.mono (by decide)) (takes_of rfl rfl rfl rfl) (ta_cons (t_callB (call_len) len_s T.b_len bt_len (ta_cons (t_fld T.a_Disk_present (t_var 0)) ta_nil)) ta_nil)))
  (s_cons (s_set 3 sc_Disk_crashed.nd (t_callTy (call_list_of) listL_s T.b_list bt_list (ta_cons (t_fld T.a_Disk_durable (t_var 0)) ta_nil)))
  (s_cons (s_for (passes_of rfl) rfl (i_dict (t_var 1)) (g_name 4 sc_Disk_crashed.nd)
  (s_cons (s_setLc 5 [("other", 6), ("page", 7)] frz_s rfl sc_Disk_crashed.nd (i_seq (t_fld T.a_Disk_waiting (t_var 0))) (blkOk_by (N := ["self", "kept", "found", "blocks", "block", "pages", "other", "page"]) (sc := defScope s_Disk_crashed) (by decide +kernel)) (fun _ _ _ _ _ => (g_tup rfl (gs_cons (g_name 6 sc_Disk_crashed.nd) (gs_cons (g_name 7 sc_Disk_crashed.nd) gs_nil)) (ps_lenS (ps_lenS ps_len0)))) (fun _ _ _ _ _ => (tts_one (tt_cmp (op_eqA hr) eq_s (t_var 6) (t_var 4)))) (fun _ _ _ _ _ => (t_var 7)) (sw_true rfl rfl rfl (by decide +kernel)))
  (s_one (s_if (tt_cmp op_gt gt_s (t_ixA hr (t_var 1) (t_var 4)) t_int)
  (s_one (s_put (t_var 3) (t_var 4) (t_ix ix_seq ix_s (t_var 5) (t_op op_sub sub_s (t_ixA hr (t_var 1) (t_var 4)) t_int))))
  s_nil))))
  (s_cons (s_fld T.a_Disk_durable (t_var 2) (t_var 3))
  (s_cons (s_fld T.a_Disk_present (t_var 2) (t_callTy (call_list_of) listL_s T.b_list bt_list (ta_cons (t_var 3) ta_nil)))
  (s_one (s_ret (t_var 2)))))))))
theorem mk_Disk_crashed {f : Addr} {fd : FuncData} (F : Fun K "crashed" "Disk.crashed" s_Disk_crashed f fd) {C : Addr} (hcl : cl "Disk" = some C) (hc : Cls K C) (hm : Meth K C "crashed" f) (T : Gb K cl mg) (G_Disk_init : Mkr P w K mg base cl "Disk" 3 2 fn_Disk_init) (G_Disk_check_kept : MFn P w K mg base cl "Disk" "check_kept" 3 2 fn_Disk_check_kept) : MFn P w K mg base cl "Disk" "crashed" 5 2 fn_Disk_crashed :=
  ⟨C, f, fd, ["self", "kept"], hcl, hc, hm, ok_Disk_crashed F T G_Disk_init G_Disk_check_kept, (F.binds (ps := ["self", "kept"]) fun _ _ _ _ _ _ us hl => match us, hl with | [_, _], _ => rfl)⟩
abbrev s_Draft_check_open : Stmt := (inClass (top 27) 1)
theorem sc_Draft_check_open : FnScope ["self"] ["self"] (defScope s_Draft_check_open) :=
  ⟨rfl, rfl, rfl, by decide +kernel, rfl, by decide +kernel, by decide +kernel⟩
noncomputable def sem_Draft_check_open : MS :=
  (sIf (mTru (mUn (fldD ["Draft"] "is_closed") (mVar 0)))
  (sRaise0 "Closed")
  sPass)
noncomputable def fn_Draft_check_open : List D → Store → Res D := runB 1 sem_Draft_check_open
theorem ok_Draft_check_open {f : Addr} {fd : FuncData} (F : Fun K "check_open" "Draft.check_open" s_Draft_check_open f fd) (T : Gb K cl mg) :
    FnOk P w K mg base (L2.CX P w) 1 f fd ["self"] (spOf K cl 1 fn_Draft_check_open) :=
  fn_sem F sc_Draft_check_open rfl fun cdv A outer s H E hr =>
  (s_one (s_if (tt_tru (t_fld T.a_Draft_is_closed (t_var 0)))
  (s_one (s_raise0 T.e_Closed (takes_of rfl rfl rfl rfl)))
  s_nil))
theorem mk_Draft_check_open {f : Addr} {fd : FuncData} (F : Fun K "check_open" "Draft.check_open" s_Draft_check_open f fd) {C : Addr} (hcl : cl "Draft" = some C) (hc : Cls K C) (hm : Meth K C "check_open" f) (T : Gb K cl mg) : MFn P w K mg base cl "Draft" "check_open" 1 1 fn_Draft_check_open :=
  ⟨C, f, fd, ["self"], hcl, hc, hm, ok_Draft_check_open F T, (F.binds (ps := ["self"]) fun _ _ _ _ _ _ us hl => match us, hl with | [_], _ => rfl)⟩
abbrev s_Vault_let_go : Stmt := (inClass (top 25) 7)
theorem sc_Vault_let_go : FnScope ["self"] ["self"] (defScope s_Vault_let_go) :=
  ⟨rfl, rfl, rfl, by decide +kernel, rfl, by decide +kernel, by decide +kernel⟩
noncomputable def sem_Vault_let_go : MS :=
  (sSetF ["Vault"] "is_busy" (mVar 0) (mC (.bl false)))
noncomputable def fn_Vault_let_go : List D → Store → Res D := runB 1 sem_Vault_let_go
theorem ok_Vault_let_go {f : Addr} {fd : FuncData} (F : Fun K "let_go" "Vault.let_go" s_Vault_let_go f fd) (T : Gb K cl mg) :
    FnOk P w K mg base (L2.CX P w) 1 f fd ["self"] (spOf K cl 1 fn_Vault_let_go) :=
  fn_sem F sc_Vault_let_go rfl fun cdv A outer s H E hr =>
  (s_one (s_fld T.a_Vault_is_busy (t_var 0) t_bl))
theorem mk_Vault_let_go {f : Addr} {fd : FuncData} (F : Fun K "let_go" "Vault.let_go" s_Vault_let_go f fd) {C : Addr} (hcl : cl "Vault" = some C) (hc : Cls K C) (hm : Meth K C "let_go" f) (T : Gb K cl mg) : MFn P w K mg base cl "Vault" "let_go" 1 1 fn_Vault_let_go :=
  ⟨C, f, fd, ["self"], hcl, hc, hm, ok_Vault_let_go F T, (F.binds (ps := ["self"]) fun _ _ _ _ _ _ us hl => match us, hl with | [_], _ => rfl)⟩
abbrev s_Draft_cancel : Stmt := (inClass (top 27) 6)
theorem sc_Draft_cancel : FnScope ["self"] ["self"] (defScope s_Draft_cancel) :=
  ⟨rfl, rfl, rfl, by decide +kernel, rfl, by decide +kernel, by decide +kernel⟩
noncomputable def sem_Draft_cancel : MS :=
  (sSeq (sExpr (mMeth [("Draft", fn_Draft_check_open)] "check_open" 1 (mVar 0) mNil))
  (sSeq (sSetF ["Draft"] "is_closed" (mVar 0) (mC (.bl true)))
  (sExpr (mMeth [("Vault", fn_Vault_let_go)] "let_go" 1 (mUn (fldD ["Draft"] "vault") (mVar 0)) mNil))))
noncomputable def fn_Draft_cancel : List D → Store → Res D := runB 1 sem_Draft_cancel
theorem ok_Draft_cancel {f : Addr} {fd : FuncData} (F : Fun K "cancel" "Draft.cancel" s_Draft_cancel f fd) (T : Gb K cl mg) (G_Draft_check_open : MFn P w K mg base cl "Draft" "check_open" 1 1 fn_Draft_check_open) (G_Vault_let_go : MFn P w K mg base cl "Vault" "let_go" 1 1 fn_Vault_let_go) :
    FnOk P w K mg base (L2.CX P w) 2 f fd ["self"] (spOf K cl 1 fn_Draft_cancel) :=
  fn_sem F sc_Draft_cancel rfl fun cdv A outer s H E hr =>
  (s_cons (s_expr (t_meth0 (mt_cons G_Draft_check_open mt_nil) mt_ex (hr.mono (by decide)) (takes_of rfl rfl rfl rfl) (t_var 0)))
  (s_cons (s_fld T.a_Draft_is_closed (t_var 0) t_bl)
  (s_one (s_expr (t_meth0 (mt_cons G_Vault_let_go mt_nil) mt_ex (hr.mono (by decide)) (takes_of rfl rfl rfl rfl) (t_fld T.a_Draft_vault (t_var 0)))))))
theorem mk_Draft_cancel {f : Addr} {fd : FuncData} (F : Fun K "cancel" "Draft.cancel" s_Draft_cancel f fd) {C : Addr} (hcl : cl "Draft" = some C) (hc : Cls K C) (hm : Meth K C "cancel" f) (T : Gb K cl mg) (G_Draft_check_open : MFn P w K mg base cl "Draft" "check_open" 1 1 fn_Draft_check_open) (G_Vault_let_go : MFn P w K mg base cl "Vault" "let_go" 1 1 fn_Vault_let_go) : MFn P w K mg base cl "Draft" "cancel" 2 1 fn_Draft_cancel :=
  ⟨C, f, fd, ["self"], hcl, hc, hm, ok_Draft_cancel F T G_Draft_check_open G_Vault_let_go, (F.binds (ps := ["self"]) fun _ _ _ _ _ _ us hl => match us, hl with | [_], _ => rfl)⟩
abbrev s_BadBlock_init : Stmt := (inClass (top 4) 0)
theorem sc_BadBlock_init : FnScope ["self", "block"] ["self", "block"] (defScope s_BadBlock_init) :=
  ⟨rfl, rfl, rfl, by decide +kernel, rfl, by decide +kernel, by decide +kernel⟩
theorem ok_BadBlock_init {f : Addr} {fd : FuncData} (F : Fun K "__init__" "BadBlock.__init__" s_BadBlock_init f fd) : FnOk P w K mg base (L2.CX P w) 1 f fd ["self", "block"] (spErr K ["self", "block"] 2 [("block", 1)]) :=
  err_fn F sc_BadBlock_init rfl (by decide) (by decide) fun cdv A outer s H E => (er_cons 1 er_nil)
theorem mk_BadBlock_init {f : Addr} {fd : FuncData} (F : Fun K "__init__" "BadBlock.__init__" s_BadBlock_init f fd) {C : Addr} (hcl : cl "BadBlock" = some C) (hg : mg "BadBlock" = some (.ref C)) (hx : OexC K C) (hi : PySem.W.findIn K (.ref C) "__init__" = some (some (.ref f))) (ht : PySem.W.typeIn K (.ref f) = some (.type "function")) (hf1 : PySem.W.findIn K (.ref C) "block" = some none) : ErrF P w K mg base cl "BadBlock" 1 2 ["self", "block"] [("block", 1)] :=
  ⟨C, f, fd, ["self", "block"], hcl, hg, hx, hi, ht, ok_BadBlock_init F, (F.binds (ps := ["self", "block"]) fun _ _ _ _ _ _ us hl => match us, hl with | [_, _], _ => rfl), (by intro q hq; simp only [List.mem_cons, List.not_mem_nil, or_false] at hq; rcases hq with rfl <;> assumption)⟩
abbrev s_Disk_flush : Stmt := (inClass (top 17) 6)
theorem sc_Disk_flush : FnScope ["self"] ["self"] (defScope s_Disk_flush) :=
  ⟨rfl, rfl, rfl, by decide +kernel, rfl, by decide +kernel, by decide +kernel⟩
noncomputable def sem_Disk_flush : MS :=
  (sSeq (sSetF ["Disk"] "durable" (mVar 0) (mFn listD (mCons (mUn (fldD ["Disk"] "present") (mVar 0)) mNil)))
  (sSetF ["Disk"] "waiting" (mVar 0) (mFn lstL mNil)))
noncomputable def fn_Disk_flush : List D → Store → Res D := runB 1 sem_Disk_flush
theorem ok_Disk_flush {f : Addr} {fd : FuncData} (F : Fun K "flush" "Disk.flush" s_Disk_flush f fd) (T : Gb K cl mg) :
    FnOk P w K mg base (L2.CX P w) 1 f fd ["self"] (spOf K cl 1 fn_Disk_flush) :=
  fn_sem F sc_Disk_flush rfl fun cdv A outer s H E hr =>
  (s_cons (s_fld T.a_Disk_durable (t_var 0) (t_callTy (call_list_of) list_s T.b_list bt_list (ta_cons (t_fld T.a_Disk_present (t_var 0)) ta_nil)))
  (s_one (s_fld T.a_Disk_waiting (t_var 0) (t_lstL ta_nil))))
theorem mk_Disk_flush {f : Addr} {fd : FuncData} (F : Fun K "flush" "Disk.flush" s_Disk_flush f fd) {C : Addr} (hcl : cl "Disk" = some C) (hc : Cls K C) (hm : Meth K C "flush" f) (T : Gb K cl mg) : MFn P w K mg base cl "Disk" "flush" 1 1 fn_Disk_flush :=
  ⟨C, f, fd, ["self"], hcl, hc, hm, ok_Disk_flush F T, (F.binds (ps := ["self"]) fun _ _ _ _ _ _ us hl => match us, hl with | [_], _ => rfl)⟩
abbrev s_BadPage_init : Stmt := (inClass (top 5) 0)
theorem sc_BadPage_init : FnScope ["self", "block"] ["self", "block"] (defScope s_BadPage_init) :=
  ⟨rfl, rfl, rfl, by decide +kernel, rfl, by decide +kernel, by decide +kernel⟩
theorem ok_BadPage_init {f : Addr} {fd : FuncData} (F : Fun K "__init__" "BadPage.__init__" s_BadPage_init f fd) : FnOk P w K mg base (L2.CX P w) 1 f fd ["self", "block"] (spErr K ["self", "block"] 2 [("block", 1)]) :=
  err_fn F sc_BadPage_init rfl (by decide) (by decide) fun cdv A outer s H E => (er_cons 1 er_nil)
theorem mk_BadPage_init {f : Addr} {fd : FuncData} (F : Fun K "__init__" "BadPage.__init__" s_BadPage_init f fd) {C : Addr} (hcl : cl "BadPage" = some C) (hg : mg "BadPage" = some (.ref C)) (hx : OexC K C) (hi : PySem.W.findIn K (.ref C) "__init__" = some (some (.ref f))) (ht : PySem.W.typeIn K (.ref f) = some (.type "function")) (hf1 : PySem.W.findIn K (.ref C) "block" = some none) : ErrF P w K mg base cl "BadPage" 1 2 ["self", "block"] [("block", 1)] :=
  ⟨C, f, fd, ["self", "block"], hcl, hg, hx, hi, ht, ok_BadPage_init F, (F.binds (ps := ["self", "block"]) fun _ _ _ _ _ _ us hl => match us, hl with | [_, _], _ => rfl), (by intro q hq; simp only [List.mem_cons, List.not_mem_nil, or_false] at hq; rcases hq with rfl <;> assumption)⟩
abbrev s_Disk_check_block : Stmt := (inClass (top 17) 2)
theorem sc_Disk_check_block : FnScope ["self", "block"] ["self", "block"] (defScope s_Disk_check_block) :=
  ⟨rfl, rfl, rfl, by decide +kernel, rfl, by decide +kernel, by decide +kernel⟩
noncomputable def sem_Disk_check_block : MS :=
  (sIf (mNot (mTru (mMeth [("Disk", fn_Disk_is_block)] "is_block" 2 (mVar 0) (mCons (mVar 1) mNil))))
  (sRaise "BadBlock" 2 2 [("block", 1)] (mCons (mVar 1) mNil))
  sPass)
noncomputable def fn_Disk_check_block : List D → Store → Res D := runB 2 sem_Disk_check_block
theorem ok_Disk_check_block {f : Addr} {fd : FuncData} (F : Fun K "check_block" "Disk.check_block" s_Disk_check_block f fd) (T : Gb K cl mg) (G_BadBlock_init : ErrF P w K mg base cl "BadBlock" 1 2 ["self", "block"] [("block", 1)]) (G_Disk_is_block : MFn P w K mg base cl "Disk" "is_block" 2 2 fn_Disk_is_block) :
    FnOk P w K mg base (L2.CX P w) 3 f fd ["self", "block"] (spOf K cl 2 fn_Disk_check_block) :=
  fn_sem F sc_Disk_check_block rfl fun cdv A outer s H E hr =>
  (s_one (s_if (tt_not (tt_tru (t_meth (mt_cons G_Disk_is_block mt_nil) mt_ex (hr.mono (by decide)) (takes_of rfl rfl rfl rfl) (t_var 0) (ta_cons (t_var 1) ta_nil))))
  (s_one (s_raiseF (N := ["self", "block"]) G_BadBlock_init (hr.mono (by decide)) (takes_of rfl rfl rfl rfl) (ta_cons (t_var 1) ta_nil) (by decide) (by decide)))
  s_nil))
theorem mk_Disk_check_block {f : Addr} {fd : FuncData} (F : Fun K "check_block" "Disk.check_block" s_Disk_check_block f fd) {C : Addr} (hcl : cl "Disk" = some C) (hc : Cls K C) (hm : Meth K C "check_block" f) (T : Gb K cl mg) (G_BadBlock_init : ErrF P w K mg base cl "BadBlock" 1 2 ["self", "block"] [("block", 1)]) (G_Disk_is_block : MFn P w K mg base cl "Disk" "is_block" 2 2 fn_Disk_is_block) : MFn P w K mg base cl "Disk" "check_block" 3 2 fn_Disk_check_block :=
  ⟨C, f, fd, ["self", "block"], hcl, hc, hm, ok_Disk_check_block F T G_BadBlock_init G_Disk_is_block, (F.binds (ps := ["self", "block"]) fun _ _ _ _ _ _ us hl => match us, hl with | [_, _], _ => rfl)⟩
abbrev s_is_page : Stmt := (top 16)
theorem sc_is_page : FnScope ["value", "word", "links", "link"] ["value"] (defScope s_is_page) :=
  ⟨rfl, rfl, rfl, by decide +kernel, rfl, by decide +kernel, by decide +kernel⟩
noncomputable def sem_is_page : MS :=
  (sSeq (sIf (mOr (mNot (mTru (mUn (isiD k_tuple) (mVar 0)))) (mTest (mOp ltD (mFn lenD (mCons (mVar 0) mNil)) (mC (.int 2)))))
  (sRet (mC (.bl false)))
  sPass)
  (sSeq (sPar 1 2 (mCons (mOp ixD (mVar 0) (mC (.int 0))) (mCons (mOp ixD (mVar 0) (mC (.int 1))) mNil)))
  (sRet (mAndV (mUn (isiD k_str) (mVar 1)) (mAndV (mUn (isiD k_tuple) (mVar 2)) (mFn allD (mCons (mComp (mIt (mVar 2)) (ptN 3) mYes (mFn (ar 1 fn_is_integer) (mCons (mVar 3) mNil)) [3] frzD) mNil)))))))
noncomputable def fn_is_page : List D → Store → Res D := runB 4 sem_is_page
theorem ok_is_page {f : Addr} {fd : FuncData} (F : Fun K "is_page" "is_page" s_is_page f fd) (T : Gb K cl mg) (G_is_integer : Fn P w K mg base cl "is_integer" 1 1 fn_is_integer) :
    FnOk P w K mg base (L2.CX P w) 2 f fd ["value"] (spOf K cl 1 fn_is_page) :=
  fn_sem F sc_is_page rfl fun cdv A outer s H E hr =>
  (s_cons (s_if (PW.pt (tw_or (tt_not (tt_tru (t_isi is_tuple T.b_isinstance T.b_tuple bt_tuple (t_var 0)))) (tw_or1 (tt_cmp op_ltA lt_s (t_callB (call_len) len_s T.b_len bt_len (ta_cons (t_var 0) ta_nil)) t_int))))
  (s_one (s_ret t_bl))
  s_nil)
  (s_cons (s_par 1 2 sc_is_page.nd (ta_cons (t_ix ix_seq ix_s (t_var 0) t_int) (ta_cons (t_ix ix_seq ix_s (t_var 0) t_int) ta_nil)))
  (s_one (s_ret (t_and (t_isi is_str T.b_isinstance T.b_str bt_str (t_var 1)) (t_and (t_isi is_tuple T.b_isinstance T.b_tuple bt_tuple (t_var 2)) (t_one (t_callB (cr_all rfl) all_s T.b_all bt_all (ta_cons (t_lc [("link", 3)] frz_s rfl sc_is_page.nd (i_seq (t_var 2)) (blkOk_by (N := ["value", "word", "links", "link"]) (sc := defScope s_is_page) (by decide +kernel)) (fun _ _ _ _ _ => (g_name 3 sc_is_page.nd)) (fun _ _ _ _ _ => tts_nil) (fun _ _ _ _ _ => (t_callF G_is_integer (hr.mono (by decide)) takes0 (ta_cons (t_var 3) ta_nil)))) ta_nil)))))))))
theorem mk_is_page {f : Addr} {fd : FuncData} (F : Fun K "is_page" "is_page" s_is_page f fd) (hm : mg "is_page" = some (.ref f)) (T : Gb K cl mg) (G_is_integer : Fn P w K mg base cl "is_integer" 1 1 fn_is_integer) : Fn P w K mg base cl "is_page" 2 1 fn_is_page :=
  ⟨f, fd, ["value"], ok_is_page F T G_is_integer, hm, F.kp, (F.binds (ps := ["value"]) fun _ _ _ _ _ _ us hl => match us, hl with | [_], _ => rfl)⟩
abbrev s_Disk_write : Stmt := (inClass (top 17) 5)
theorem sc_Disk_write : FnScope ["self", "block", "page"] ["self", "block", "page"] (defScope s_Disk_write) :=
  ⟨rfl, rfl, rfl, by decide +kernel, rfl, by decide +kernel, by decide +kernel⟩
noncomputable def sem_Disk_write : MS :=
  (sSeq (sExpr (mMeth [("Disk", fn_Disk_check_block)] "check_block" 2 (mVar 0) (mCons (mVar 1) mNil)))
  (sSeq (sIf (mAnd (mTest (mOp notND (mVar 2) (mC .non))) (mNot (mTru (mFn (ar 1 fn_is_page) (mCons (mVar 2) mNil)))))
  (sRaise "BadPage" 2 2 [("block", 1)] (mCons (mVar 1) mNil))
  sPass)
  (sSeq (sPut (mUn (fldD ["Disk"] "present") (mVar 0)) (mVar 1) (mVar 2))
  (sExpr (mMt "list" appD (mUn (fldD ["Disk"] "waiting") (mVar 0)) (mCons (mFn tupD (mCons (mVar 1) (mCons (mVar 2) mNil))) mNil))))))
noncomputable def fn_Disk_write : List D → Store → Res D := runB 3 sem_Disk_write
theorem ok_Disk_write {f : Addr} {fd : FuncData} (F : Fun K "write" "Disk.write" s_Disk_write f fd) (T : Gb K cl mg) (G_BadPage_init : ErrF P w K mg base cl "BadPage" 1 2 ["self", "block"] [("block", 1)]) (G_Disk_check_block : MFn P w K mg base cl "Disk" "check_block" 3 2 fn_Disk_check_block) (G_is_page : Fn P w K mg base cl "is_page" 2 1 fn_is_page) :
    FnOk P w K mg base (L2.CX P w) 4 f fd ["self", "block", "page"] (spOf K cl 3 fn_Disk_write) :=
  fn_sem F sc_Disk_write rfl fun cdv A outer s H E hr =>
  (s_cons (s_expr (t_meth (mt_cons G_Disk_check_block mt_nil) mt_ex (hr.mono (by decide)) (takes_of rfl rfl rfl rfl) (t_var 0) (ta_cons (t_var 1) ta_nil)))
  (s_cons (s_if (PW.pt (tw_and (tt_cmp op_notA notN_s (t_var 2) t_non) (tw_and1 (tt_not (tt_tru (t_callF G_is_page (hr.mono (by decide)) (takes_of rfl rfl rfl rfl) (ta_cons (t_var 2) ta_nil)))))))
  (s_one (s_raiseF (N := ["self", "block"]) G_BadPage_init (hr.mono (by decide)) (takes_of rfl rfl rfl rfl) (ta_cons (t_var 1) ta_nil) (by decide) (by decide)))
  s_nil)
  (s_cons (s_put (t_fld T.a_Disk_present (t_var 0)) (t_var 1) (t_var 2))
  (s_one (s_expr (t_bm PySem.F.plainAttrs_list PySem.F.slot_list_append PySem.F.type_list_append mt_append app_s (t_fld T.a_Disk_waiting (t_var 0)) (ta_cons (t_tup (ta_cons (t_var 1) (ta_cons (t_var 2) ta_nil))) ta_nil)))))))
theorem mk_Disk_write {f : Addr} {fd : FuncData} (F : Fun K "write" "Disk.write" s_Disk_write f fd) {C : Addr} (hcl : cl "Disk" = some C) (hc : Cls K C) (hm : Meth K C "write" f) (T : Gb K cl mg) (G_BadPage_init : ErrF P w K mg base cl "BadPage" 1 2 ["self", "block"] [("block", 1)]) (G_Disk_check_block : MFn P w K mg base cl "Disk" "check_block" 3 2 fn_Disk_check_block) (G_is_page : Fn P w K mg base cl "is_page" 2 1 fn_is_page) : MFn P w K mg base cl "Disk" "write" 4 3 fn_Disk_write :=
  ⟨C, f, fd, ["self", "block", "page"], hcl, hc, hm, ok_Disk_write F T G_BadPage_init G_Disk_check_block G_is_page, (F.binds (ps := ["self", "block", "page"]) fun _ _ _ _ _ _ us hl => match us, hl with | [_, _, _], _ => rfl)⟩
abbrev s_Vault_go_on : Stmt := (inClass (top 25) 8)
theorem sc_Vault_go_on : FnScope ["self", "root", "disk", "following"] ["self", "root"] (defScope s_Vault_go_on) :=
  ⟨rfl, rfl, rfl, by decide +kernel, rfl, by decide +kernel, by decide +kernel⟩
noncomputable def sem_Vault_go_on : MS :=
  (sSeq (sSet 2 (mUn (fldD ["Vault"] "place") (mVar 0)))
  (sSeq (sSet 3 (mOp addD (mUn (fldD ["Vault"] "number") (mVar 0)) (mC (.int 1))))
  (sSeq (sExpr (mMeth [("Disk", fn_Disk_flush)] "flush" 1 (mVar 2) mNil))
  (sSeq (sExpr (mMeth [("Disk", fn_Disk_write)] "write" 3 (mVar 2) (mCons (mOp modD (mVar 3) (mC c_METAS)) (mCons (mFn tupD (mCons (mC c_META) (mCons (mIte (mTest (mOp isND (mVar 1) (mC .non))) (mFn tupD mNil) (mFn tupD (mCons (mVar 1) mNil))) (mCons (mVar 3) mNil)))) mNil))))
  (sSeq (sExpr (mMeth [("Disk", fn_Disk_flush)] "flush" 1 (mVar 2) mNil))
  (sSeq (sSetF ["Vault"] "number" (mVar 0) (mVar 3))
  (sSeq (sSetF ["Vault"] "top" (mVar 0) (mVar 1))
  (sSeq (sSetF ["Vault"] "is_busy" (mVar 0) (mC (.bl false)))
  (sRet (mVar 3))))))))))
noncomputable def fn_Vault_go_on : List D → Store → Res D := runB 4 sem_Vault_go_on
theorem ok_Vault_go_on {f : Addr} {fd : FuncData} (F : Fun K "go_on" "Vault.go_on" s_Vault_go_on f fd) (T : Gb K cl mg) (G_Disk_flush : MFn P w K mg base cl "Disk" "flush" 1 1 fn_Disk_flush) (G_Disk_write : MFn P w K mg base cl "Disk" "write" 4 3 fn_Disk_write) :
    FnOk P w K mg base (L2.CX P w) 5 f fd ["self", "root"] (spOf K cl 2 fn_Vault_go_on) :=
  fn_sem F sc_Vault_go_on rfl fun cdv A outer s H E hr =>
  (s_cons (s_set 2 sc_Vault_go_on.nd (t_fld T.a_Vault_place (t_var 0)))
  (s_cons (s_set 3 sc_Vault_go_on.nd (t_op op_addA add_s (t_fld T.a_Vault_number (t_var 0)) t_int))
  (s_cons (s_expr (t_meth0 (mt_cons G_Disk_flush mt_nil) mt_ex (hr.mono (by decide)) (takes_of rfl rfl rfl rfl) (t_var 2)))
  (s_cons (s_expr (t_meth (mt_cons G_Disk_write mt_nil) mt_ex (hr.mono (by decide)) (takes_of rfl rfl rfl rfl) (t_var 2) (ta_cons (t_op op_mod mod_s (t_var 3) (t_glob' T.g_METAS)) (ta_cons (t_tup (ta_cons (t_glob' T.g_META) (ta_cons (t_ite (tt_cmp op_isA isN_s (t_var 1) t_non) (t_tup ta_nil) (t_tup (ta_cons (t_var 1) ta_nil))) (ta_cons (t_var 3) ta_nil)))) ta_nil))))
  (s_cons (s_expr (t_meth0 (mt_cons G_Disk_flush mt_nil) mt_ex (hr.mono (by decide)) (takes_of rfl rfl rfl rfl) (t_var 2)))
  (s_cons (s_fld T.a_Vault_number (t_var 0) (t_var 3))
  (s_cons (s_fld T.a_Vault_top (t_var 0) (t_var 1))
  (s_cons (s_fld T.a_Vault_is_busy (t_var 0) t_bl)
  (s_one (s_ret (t_var 3)))))))))))
theorem mk_Vault_go_on {f : Addr} {fd : FuncData} (F : Fun K "go_on" "Vault.go_on" s_Vault_go_on f fd) {C : Addr} (hcl : cl "Vault" = some C) (hc : Cls K C) (hm : Meth K C "go_on" f) (T : Gb K cl mg) (G_Disk_flush : MFn P w K mg base cl "Disk" "flush" 1 1 fn_Disk_flush) (G_Disk_write : MFn P w K mg base cl "Disk" "write" 4 3 fn_Disk_write) : MFn P w K mg base cl "Vault" "go_on" 5 2 fn_Vault_go_on :=
  ⟨C, f, fd, ["self", "root"], hcl, hc, hm, ok_Vault_go_on F T G_Disk_flush G_Disk_write, (F.binds (ps := ["self", "root"]) fun _ _ _ _ _ _ us hl => match us, hl with | [_, _], _ => rfl)⟩
abbrev s_Disk_size : Stmt := (inClass (top 17) 3)
theorem sc_Disk_size : FnScope ["self"] ["self"] (defScope s_Disk_size) :=
  ⟨rfl, rfl, rfl, by decide +kernel, rfl, by decide +kernel, by decide +kernel⟩
noncomputable def sem_Disk_size : MS :=
  (sRet (mFn lenD (mCons (mUn (fldD ["Disk"] "present") (mVar 0)) mNil)))
noncomputable def fn_Disk_size : List D → Store → Res D := runB 1 sem_Disk_size
theorem ok_Disk_size {f : Addr} {fd : FuncData} (F : Fun K "size" "Disk.size" s_Disk_size f fd) (T : Gb K cl mg) :
    FnOk P w K mg base (L2.CX P w) 1 f fd ["self"] (spOf K cl 1 fn_Disk_size) :=
  fn_sem F sc_Disk_size rfl fun cdv A outer s H E hr =>
  (s_one (s_ret (t_callB (call_len) len_s T.b_len bt_len (ta_cons (t_fld T.a_Disk_present (t_var 0)) ta_nil))))
theorem mk_Disk_size {f : Addr} {fd : FuncData} (F : Fun K "size" "Disk.size" s_Disk_size f fd) {C : Addr} (hcl : cl "Disk" = some C) (hc : Cls K C) (hm : Meth K C "size" f) (T : Gb K cl mg) : MFn P w K mg base cl "Disk" "size" 1 1 fn_Disk_size :=
  ⟨C, f, fd, ["self"], hcl, hc, hm, ok_Disk_size F T, (F.binds (ps := ["self"]) fun _ _ _ _ _ _ us hl => match us, hl with | [_], _ => rfl)⟩
abbrev s_is_root : Stmt := (top 22)
theorem sc_is_root : FnScope ["disk", "block"] ["disk", "block"] (defScope s_is_root) :=
  ⟨rfl, rfl, rfl, by decide +kernel, rfl, by decide +kernel, by decide +kernel⟩
noncomputable def sem_is_root : MS :=
  (sRet (mAndV (mFn (ar 1 fn_is_integer) (mCons (mVar 1) mNil)) (mChain leD ltD (mC c_METAS) (mVar 1) (mMeth [("Disk", fn_Disk_size)] "size" 1 (mVar 0) mNil))))
noncomputable def fn_is_root : List D → Store → Res D := runB 2 sem_is_root
theorem ok_is_root {f : Addr} {fd : FuncData} (F : Fun K "is_root" "is_root" s_is_root f fd) (T : Gb K cl mg) (G_Disk_size : MFn P w K mg base cl "Disk" "size" 1 1 fn_Disk_size) (G_is_integer : Fn P w K mg base cl "is_integer" 1 1 fn_is_integer) :
    FnOk P w K mg base (L2.CX P w) 2 f fd ["disk", "block"] (spOf K cl 2 fn_is_root) :=
  fn_sem F sc_is_root rfl fun cdv A outer s H E hr =>
  (s_one (s_ret (t_and (t_callF G_is_integer (hr.mono (by decide)) (takes_of rfl rfl rfl rfl) (ta_cons (t_var 1) ta_nil)) (t_one (t_chain op_leA le_s op_ltA lt_s (t_glob' T.g_METAS) (t_var 1) (t_meth0 (mt_cons G_Disk_size mt_nil) mt_ex (hr.mono (by decide)) (takes_of rfl rfl rfl rfl) (t_var 0)))))))
theorem mk_is_root {f : Addr} {fd : FuncData} (F : Fun K "is_root" "is_root" s_is_root f fd) (hm : mg "is_root" = some (.ref f)) (T : Gb K cl mg) (G_Disk_size : MFn P w K mg base cl "Disk" "size" 1 1 fn_Disk_size) (G_is_integer : Fn P w K mg base cl "is_integer" 1 1 fn_is_integer) : Fn P w K mg base cl "is_root" 2 2 fn_is_root :=
  ⟨f, fd, ["disk", "block"], ok_is_root F T G_Disk_size G_is_integer, hm, F.kp, (F.binds (ps := ["disk", "block"]) fun _ _ _ _ _ _ us hl => match us, hl with | [_, _], _ => rfl)⟩
abbrev s_Draft_commit : Stmt := (inClass (top 27) 5)
theorem sc_Draft_commit : FnScope ["self", "root"] ["self", "root"] (defScope s_Draft_commit) :=
  ⟨rfl, rfl, rfl, by decide +kernel, rfl, by decide +kernel, by decide +kernel⟩
noncomputable def sem_Draft_commit : MS :=
  (sSeq (sExpr (mMeth [("Draft", fn_Draft_check_open)] "check_open" 1 (mVar 0) mNil))
  (sSeq (sIf (mAnd (mTest (mOp notND (mVar 1) (mC .non))) (mNot (mTru (mFn (ar 2 fn_is_root) (mCons (mUn (fldD ["Vault"] "place") (mUn (fldD ["Draft"] "vault") (mVar 0))) (mCons (mVar 1) mNil))))))
  (sRaise "BadBlock" 2 2 [("block", 1)] (mCons (mVar 1) mNil))
  sPass)
  (sSeq (sSetF ["Draft"] "is_closed" (mVar 0) (mC (.bl true)))
  (sRet (mMeth [("Vault", fn_Vault_go_on)] "go_on" 2 (mUn (fldD ["Draft"] "vault") (mVar 0)) (mCons (mVar 1) mNil))))))
noncomputable def fn_Draft_commit : List D → Store → Res D := runB 2 sem_Draft_commit
theorem ok_Draft_commit {f : Addr} {fd : FuncData} (F : Fun K "commit" "Draft.commit" s_Draft_commit f fd) (T : Gb K cl mg) (G_BadBlock_init : ErrF P w K mg base cl "BadBlock" 1 2 ["self", "block"] [("block", 1)]) (G_Draft_check_open : MFn P w K mg base cl "Draft" "check_open" 1 1 fn_Draft_check_open) (G_Vault_go_on : MFn P w K mg base cl "Vault" "go_on" 5 2 fn_Vault_go_on) (G_is_root : Fn P w K mg base cl "is_root" 2 2 fn_is_root) :
    FnOk P w K mg base (L2.CX P w) 6 f fd ["self", "root"] (spOf K cl 2 fn_Draft_commit) :=
  fn_sem F sc_Draft_commit rfl fun cdv A outer s H E hr =>
  (s_cons (s_expr (t_meth0 (mt_cons G_Draft_check_open mt_nil) mt_ex (hr.mono (by decide)) (takes_of rfl rfl rfl rfl) (t_var 0)))
  (s_cons (s_if (PW.pt (tw_and (tt_cmp op_notA notN_s (t_var 1) t_non) (tw_and1 (tt_not (tt_tru (t_callF G_is_root (hr.mono (by decide)) (takes_of rfl rfl rfl rfl) (ta_cons (t_fld T.a_Vault_place (t_fld T.a_Draft_vault (t_var 0))) (ta_cons (t_var 1) ta_nil))))))))
  (s_one (s_raiseF (N := ["self", "block"]) G_BadBlock_init (hr.mono (by decide)) (takes_of rfl rfl rfl rfl) (ta_cons (t_var 1) ta_nil) (by decide) (by decide)))
  s_nil)
  (s_cons (s_fld T.a_Draft_is_closed (t_var 0) t_bl)
  (s_one (s_ret (t_meth (mt_cons G_Vault_go_on mt_nil) mt_ex (hr.mono (by decide)) (takes_of rfl rfl rfl rfl) (t_fld T.a_Draft_vault (t_var 0)) (ta_cons (t_var 1) ta_nil)))))))
theorem mk_Draft_commit {f : Addr} {fd : FuncData} (F : Fun K "commit" "Draft.commit" s_Draft_commit f fd) {C : Addr} (hcl : cl "Draft" = some C) (hc : Cls K C) (hm : Meth K C "commit" f) (T : Gb K cl mg) (G_BadBlock_init : ErrF P w K mg base cl "BadBlock" 1 2 ["self", "block"] [("block", 1)]) (G_Draft_check_open : MFn P w K mg base cl "Draft" "check_open" 1 1 fn_Draft_check_open) (G_Vault_go_on : MFn P w K mg base cl "Vault" "go_on" 5 2 fn_Vault_go_on) (G_is_root : Fn P w K mg base cl "is_root" 2 2 fn_is_root) : MFn P w K mg base cl "Draft" "commit" 6 2 fn_Draft_commit :=
  ⟨C, f, fd, ["self", "root"], hcl, hc, hm, ok_Draft_commit F T G_BadBlock_init G_Draft_check_open G_Vault_go_on G_is_root, (F.binds (ps := ["self", "root"]) fun _ _ _ _ _ _ us hl => match us, hl with | [_, _], _ => rfl)⟩
abbrev s_Disk_read : Stmt := (inClass (top 17) 4)
theorem sc_Disk_read : FnScope ["self", "block"] ["self", "block"] (defScope s_Disk_read) :=
  ⟨rfl, rfl, rfl, by decide +kernel, rfl, by decide +kernel, by decide +kernel⟩
noncomputable def sem_Disk_read : MS :=
  (sSeq (sExpr (mMeth [("Disk", fn_Disk_check_block)] "check_block" 2 (mVar 0) (mCons (mVar 1) mNil)))
  (sRet (mOp ixD (mUn (fldD ["Disk"] "present") (mVar 0)) (mVar 1))))
noncomputable def fn_Disk_read : List D → Store → Res D := runB 2 sem_Disk_read
theorem ok_Disk_read {f : Addr} {fd : FuncData} (F : Fun K "read" "Disk.read" s_Disk_read f fd) (T : Gb K cl mg) (G_Disk_check_block : MFn P w K mg base cl "Disk" "check_block" 3 2 fn_Disk_check_block) :
    FnOk P w K mg base (L2.CX P w) 4 f fd ["self", "block"] (spOf K cl 2 fn_Disk_read) :=
  fn_sem F sc_Disk_read rfl fun cdv A outer s H E hr =>
  (s_cons (s_expr (t_meth (mt_cons G_Disk_check_block mt_nil) mt_ex (hr.mono (by decide)) (takes_of rfl rfl rfl rfl) (t_var 0) (ta_cons (t_var 1) ta_nil)))
  (s_one (s_ret (t_ix ix_seq ix_s (t_fld T.a_Disk_present (t_var 0)) (t_var 1)))))
theorem mk_Disk_read {f : Addr} {fd : FuncData} (F : Fun K "read" "Disk.read" s_Disk_read f fd) {C : Addr} (hcl : cl "Disk" = some C) (hc : Cls K C) (hm : Meth K C "read" f) (T : Gb K cl mg) (G_Disk_check_block : MFn P w K mg base cl "Disk" "check_block" 3 2 fn_Disk_check_block) : MFn P w K mg base cl "Disk" "read" 4 2 fn_Disk_read :=
  ⟨C, f, fd, ["self", "block"], hcl, hc, hm, ok_Disk_read F T G_Disk_check_block, (F.binds (ps := ["self", "block"]) fun _ _ _ _ _ _ us hl => match us, hl with | [_, _], _ => rfl)⟩
abbrev s_version_at : Stmt := (top 23)
theorem sc_version_at : FnScope ["disk", "block", "page", "number"] ["disk", "block"] (defScope s_version_at) :=
  ⟨rfl, rfl, rfl, by decide +kernel, rfl, by decide +kernel, by decide +kernel⟩
noncomputable def sem_version_at : MS :=
  (sSeq (sSet 2 (mMeth [("Disk", fn_Disk_read)] "read" 2 (mVar 0) (mCons (mVar 1) mNil)))
  (sSeq (sIf (mOr (mTest (mOp isND (mVar 2) (mC .non))) (mOr (mTest (mOp neD (mFn lenD (mCons (mVar 2) mNil)) (mC (.int 3)))) (mOr (mTest (mOp neD (mOp ixD (mVar 2) (mC (.int 0))) (mC c_META))) (mTest (mOp gtD (mFn lenD (mCons (mOp ixD (mVar 2) (mC (.int 1))) mNil)) (mC (.int 1)))))))
  (sRet (mC .non))
  sPass)
  (sSeq (sSet 3 (mOp ixD (mVar 2) (mC (.int 2))))
  (sSeq (sIf (mOr (mNot (mTru (mFn (ar 1 fn_is_integer) (mCons (mVar 3) mNil)))) (mOr (mTest (mOp ltD (mVar 3) (mC (.int 0)))) (mTest (mOp neD (mOp modD (mVar 3) (mC c_METAS)) (mVar 1)))))
  (sRet (mC .non))
  sPass)
  (sSeq (sIf (mTest (mOp eqD (mFn lenD (mCons (mOp ixD (mVar 2) (mC (.int 1))) mNil)) (mC (.int 0))))
  (sRet (mFn tupD (mCons (mVar 3) (mCons (mC .non) mNil))))
  sPass)
  (sRet (mIte (mTru (mFn (ar 2 fn_is_root) (mCons (mVar 0) (mCons (mOp ixD (mOp ixD (mVar 2) (mC (.int 1))) (mC (.int 0))) mNil)))) (mFn tupD (mCons (mVar 3) (mCons (mOp ixD (mOp ixD (mVar 2) (mC (.int 1))) (mC (.int 0))) mNil))) (mC .non))))))))
noncomputable def fn_version_at : List D → Store → Res D := runB 4 sem_version_at
theorem ok_version_at {f : Addr} {fd : FuncData} (F : Fun K "version_at" "version_at" s_version_at f fd) (T : Gb K cl mg) (G_Disk_read : MFn P w K mg base cl "Disk" "read" 4 2 fn_Disk_read) (G_is_integer : Fn P w K mg base cl "is_integer" 1 1 fn_is_integer) (G_is_root : Fn P w K mg base cl "is_root" 2 2 fn_is_root) :
    FnOk P w K mg base (L2.CX P w) 5 f fd ["disk", "block"] (spOf K cl 2 fn_version_at) :=
  fn_sem F sc_version_at rfl fun cdv A outer s H E hr =>
  (s_cons (s_set 2 sc_version_at.nd (t_meth (mt_cons G_Disk_read mt_nil) mt_ex (hr.mono (by decide)) (takes_of rfl rfl rfl rfl) (t_var 0) (ta_cons (t_var 1) ta_nil)))
  (s_cons (s_if (PW.pt (tw_or (tt_cmp op_isA isN_s (t_var 2) t_non) (tw_or (tt_cmp (op_neA hr) ne_s (t_callB (call_len) len_s T.b_len bt_len (ta_cons (t_var 2) ta_nil)) t_int) (tw_or (tt_cmp (op_neA hr) ne_s (t_ix ix_seq ix_s (t_var 2) t_int) (t_glob' T.g_META)) (tw_or1 (tt_cmp op_gt gt_s (t_callB (call_len) len_s T.b_len bt_len (ta_cons (t_ix ix_seq ix_s (t_var 2) t_int) ta_nil)) t_int))))))
  (s_one (s_ret t_non))
  s_nil)
  (s_cons (s_set 3 sc_version_at.nd (t_ix ix_seq ix_s (t_var 2) t_int))
  (s_cons (s_if (PW.pt (tw_or (tt_not (tt_tru (t_callF G_is_integer (hr.mono (by decide)) (takes_of rfl rfl rfl rfl) (ta_cons (t_var 3) ta_nil)))) (tw_or (tt_cmp op_ltA lt_s (t_var 3) t_int) (tw_or1 (tt_cmp (op_neA hr) ne_s (t_op op_mod mod_s (t_var 3) (t_glob' T.g_METAS)) (t_var 1))))))
  (s_one (s_ret t_non))
  s_nil)
  (s_cons (s_if (tt_cmp (op_eqA hr) eq_s (t_callB (call_len) len_s T.b_len bt_len (ta_cons (t_ix ix_seq ix_s (t_var 2) t_int) ta_nil)) t_int)
  (s_one (s_ret (t_tup (ta_cons (t_var 3) (ta_cons t_non ta_nil)))))
  s_nil)
  (s_one (s_ret (t_ite (tt_tru (t_callF G_is_root (hr.mono (by decide)) (takes_of rfl rfl rfl rfl) (ta_cons (t_var 0) (ta_cons (t_ix ix_seq ix_s (t_ix ix_seq ix_s (t_var 2) t_int) t_int) ta_nil)))) (t_tup (ta_cons (t_var 3) (ta_cons (t_ix ix_seq ix_s (t_ix ix_seq ix_s (t_var 2) t_int) t_int) ta_nil))) t_non))))))))
theorem mk_version_at {f : Addr} {fd : FuncData} (F : Fun K "version_at" "version_at" s_version_at f fd) (hm : mg "version_at" = some (.ref f)) (T : Gb K cl mg) (G_Disk_read : MFn P w K mg base cl "Disk" "read" 4 2 fn_Disk_read) (G_is_integer : Fn P w K mg base cl "is_integer" 1 1 fn_is_integer) (G_is_root : Fn P w K mg base cl "is_root" 2 2 fn_is_root) : Fn P w K mg base cl "version_at" 5 2 fn_version_at :=
  ⟨f, fd, ["disk", "block"], ok_version_at F T G_Disk_read G_is_integer G_is_root, hm, F.kp, (F.binds (ps := ["disk", "block"]) fun _ _ _ _ _ _ us hl => match us, hl with | [_, _], _ => rfl)⟩
abbrev s_Vault_init : Stmt := (inClass (top 25) 0)
theorem sc_Vault_init : FnScope ["self", "disk", "found", "known", "best", "meta", "block"] ["self", "disk"] (defScope s_Vault_init) :=
  ⟨rfl, rfl, rfl, by decide +kernel, rfl, by decide +kernel, by decide +kernel⟩
noncomputable def sem_Vault_init : MS :=
  (sSeq (sSet 2 (mComp (mRng rng1 (mCons (mC c_METAS) mNil)) (ptN 6) mYes (mFn (ar 2 fn_version_at) (mCons (mVar 1) (mCons (mVar 6) mNil))) [6] frzD))
  (sSeq (sSet 3 (mComp (mIt (mVar 2)) (ptN 5) (mTest (mOp notND (mVar 5) (mC .non))) (mVar 5) [5] frzD))
  (sSeq (sIf (mTest (mOp eqL0 (mVar 3) (mFn lstD mNil)))
  (sRaise0 "NoMeta")
  sPass)
  (sSeq (sSet 4 (mOp ixD (mVar 3) (mC (.int 0))))
  (sSeq (sFor (mIt (mVar 3)) (ptN 5)
  (sIf (mTest (mOp gtD (mOp ixD (mVar 5) (mC (.int 0))) (mOp ixD (mVar 4) (mC (.int 0)))))
  (sSet 4 (mVar 5))
  sPass))
  (sSeq (sSetF ["Vault"] "place" (mVar 0) (mVar 1))
  (sSeq (sSetF2 ["Vault"] "number" "top" (mVar 0) (mVar 4))
  (sSeq (sSetF ["Vault"] "holders" (mVar 0) (mFn lstL mNil))
  (sSetF ["Vault"] "is_busy" (mVar 0) (mC (.bl false)))))))))))
noncomputable def fn_Vault_init : List D → Store → Res D := runB 7 sem_Vault_init
theorem ok_Vault_init {f : Addr} {fd : FuncData} (F : Fun K "__init__" "Vault.__init__" s_Vault_init f fd) (T : Gb K cl mg) (G_version_at : Fn P w K mg base cl "version_at" 5 2 fn_version_at) :
    FnOk P w K mg base (L2.CX P w) 6 f fd ["self", "disk"] (spOf K cl 2 fn_Vault_init) :=
  fn_sem F sc_Vault_init rfl fun cdv A outer s H E hr =>
  (s_cons (s_setLc 2 [("block", 6)] frz_s rfl sc_Vault_init.nd (i_range1 T.b_range (ta_cons (t_glob' T.g_METAS) ta_nil)) (blkOk_by (N := ["self", "disk", "found", "known", "best", "meta", "block"]) (sc := defScope s_Vault_init) (by decide +kernel)) (fun _ _ _ _ _ => (g_name 6 sc_Vault_init.nd)) (fun _ _ _ _ _ => tts_nil) (fun _ _ _ _ _ => (t_callF G_version_at (hr.mono (by decide)) takes0 (ta_cons (t_var 1) (ta_cons (t_var 6) ta_nil)))) (sw_true rfl rfl rfl (by decide +kernel)))
  (s_cons (s_setLc 3 [("meta", 5)] frz_s rfl sc_Vault_init.nd (i_seq (t_var 2)) (blkOk_by (N := ["self", "disk", "found", "known", "best", "meta", "block"]) (sc := defScope s_Vault_init) (by decide +kernel)) (fun _ _ _ _ _ => (g_name 5 sc_Vault_init.nd)) (fun _ _ _ _ _ => (tts_one (tt_cmp op_notA notN_s (t_var 5) t_non))) (fun _ _ _ _ _ => (t_var 5)) (sw_true rfl rfl rfl (by decide +kernel)))
  (s_cons (s_if (tt_cmp (op_eqL0 hr) eqL0_s (t_var 3) (t_lst ta_nil))
  (s_one (s_raise0 T.e_NoMeta (takes_of rfl rfl rfl rfl)))
  s_nil)
  (s_cons (s_set 4 sc_Vault_init.nd (t_ix ix_seq ix_s (t_var 3) t_int))
  (s_cons (s_for (passes_of rfl) rfl (i_seq (t_var 3)) (g_name 5 sc_Vault_init.nd)
  (s_one (s_if (tt_cmp op_gt gt_s (t_ix ix_seq ix_s (t_var 5) t_int) (t_ix ix_seq ix_s (t_var 4) t_int))
  (s_one (s_set 4 sc_Vault_init.nd (t_var 5)))
  s_nil)))
  (s_cons (s_fld T.a_Vault_place (t_var 0) (t_var 1))
  (s_cons (s_fld2 T.a_Vault_number T.a_Vault_top (t_var 0) (t_var 0) (t_var 4))
  (s_cons (s_fld T.a_Vault_holders (t_var 0) (t_lstL ta_nil))
  (s_one (s_fld T.a_Vault_is_busy (t_var 0) t_bl))))))))))
theorem mk_Vault_init {f : Addr} {fd : FuncData} (F : Fun K "__init__" "Vault.__init__" s_Vault_init f fd) {C : Addr} (hcl : cl "Vault" = some C) (hg : mg "Vault" = some (.ref C)) (hM : Mk K C f) (T : Gb K cl mg) (G_version_at : Fn P w K mg base cl "version_at" 5 2 fn_version_at) : Mkr P w K mg base cl "Vault" 6 2 fn_Vault_init :=
  ⟨C, f, fd, ["self", "disk"], hcl, hg, hM, ok_Vault_init F T G_version_at, (F.binds (ps := ["self", "disk"]) fun _ _ _ _ _ _ us hl => match us, hl with | [_, _], _ => rfl)⟩
abbrev s_Draft_init : Stmt := (inClass (top 27) 0)
theorem sc_Draft_init : FnScope ["self", "vault"] ["self", "vault"] (defScope s_Draft_init) :=
  ⟨rfl, rfl, rfl, by decide +kernel, rfl, by decide +kernel, by decide +kernel⟩
noncomputable def sem_Draft_init : MS :=
  (sSeq (sSetF ["Draft"] "vault" (mVar 0) (mVar 1))
  (sSeq (sSetF ["Draft"] "given" (mVar 0) (mFn lstL mNil))
  (sSetF ["Draft"] "is_closed" (mVar 0) (mC (.bl false)))))
noncomputable def fn_Draft_init : List D → Store → Res D := runB 2 sem_Draft_init
theorem ok_Draft_init {f : Addr} {fd : FuncData} (F : Fun K "__init__" "Draft.__init__" s_Draft_init f fd) (T : Gb K cl mg) :
    FnOk P w K mg base (L2.CX P w) 1 f fd ["self", "vault"] (spOf K cl 2 fn_Draft_init) :=
  fn_sem F sc_Draft_init rfl fun cdv A outer s H E hr =>
  (s_cons (s_fld T.a_Draft_vault (t_var 0) (t_var 1))
  (s_cons (s_fld T.a_Draft_given (t_var 0) (t_lstL ta_nil))
  (s_one (s_fld T.a_Draft_is_closed (t_var 0) t_bl))))
theorem mk_Draft_init {f : Addr} {fd : FuncData} (F : Fun K "__init__" "Draft.__init__" s_Draft_init f fd) {C : Addr} (hcl : cl "Draft" = some C) (hg : mg "Draft" = some (.ref C)) (hM : Mk K C f) (T : Gb K cl mg) : Mkr P w K mg base cl "Draft" 1 2 fn_Draft_init :=
  ⟨C, f, fd, ["self", "vault"], hcl, hg, hM, ok_Draft_init F T, (F.binds (ps := ["self", "vault"]) fun _ _ _ _ _ _ us hl => match us, hl with | [_, _], _ => rfl)⟩
abbrev s_Vault_begin : Stmt := (inClass (top 25) 6)
theorem sc_Vault_begin : FnScope ["self"] ["self"] (defScope s_Vault_begin) :=
  ⟨rfl, rfl, rfl, by decide +kernel, rfl, by decide +kernel, by decide +kernel⟩
noncomputable def sem_Vault_begin : MS :=
  (sSeq (sIf (mTru (mUn (fldD ["Vault"] "is_busy") (mVar 0)))
  (sRaise0 "Busy")
  sPass)
  (sSeq (sSetF ["Vault"] "is_busy" (mVar 0) (mC (.bl true)))
  (sRet (mMake "Draft" 2 fn_Draft_init (mCons (mVar 0) mNil)))))
noncomputable def fn_Vault_begin : List D → Store → Res D := runB 1 sem_Vault_begin
theorem ok_Vault_begin {f : Addr} {fd : FuncData} (F : Fun K "begin" "Vault.begin" s_Vault_begin f fd) (T : Gb K cl mg) (G_Draft_init : Mkr P w K mg base cl "Draft" 1 2 fn_Draft_init) :
    FnOk P w K mg base (L2.CX P w) 3 f fd ["self"] (spOf K cl 1 fn_Vault_begin) :=
  fn_sem F sc_Vault_begin rfl fun cdv A outer s H E hr =>
  (s_cons (s_if (tt_tru (t_fld T.a_Vault_is_busy (t_var 0)))
  (s_one (s_raise0 T.e_Busy (takes_of rfl rfl rfl rfl)))
  s_nil)
  (s_cons (s_fld T.a_Vault_is_busy (t_var 0) t_bl)
  (s_one (s_ret (t_make G_Draft_init (hr.mono (by decide)) (takes_of rfl rfl rfl rfl) (ta_cons (t_var 0) ta_nil))))))
theorem mk_Vault_begin {f : Addr} {fd : FuncData} (F : Fun K "begin" "Vault.begin" s_Vault_begin f fd) {C : Addr} (hcl : cl "Vault" = some C) (hc : Cls K C) (hm : Meth K C "begin" f) (T : Gb K cl mg) (G_Draft_init : Mkr P w K mg base cl "Draft" 1 2 fn_Draft_init) : MFn P w K mg base cl "Vault" "begin" 3 1 fn_Vault_begin :=
  ⟨C, f, fd, ["self"], hcl, hc, hm, ok_Vault_begin F T G_Draft_init, (F.binds (ps := ["self"]) fun _ _ _ _ _ _ us hl => match us, hl with | [_], _ => rfl)⟩
abbrev s_Snapshot_init : Stmt := (inClass (top 26) 0)
theorem sc_Snapshot_init : FnScope ["self", "disk", "number", "top"] ["self", "disk", "number", "top"] (defScope s_Snapshot_init) :=
  ⟨rfl, rfl, rfl, by decide +kernel, rfl, by decide +kernel, by decide +kernel⟩
noncomputable def sem_Snapshot_init : MS :=
  (sSeq (sSetF ["Snapshot"] "place" (mVar 0) (mVar 1))
  (sSeq (sSetF ["Snapshot"] "number" (mVar 0) (mVar 2))
  (sSeq (sSetF ["Snapshot"] "top" (mVar 0) (mVar 3))
  (sSetF ["Snapshot"] "is_closed" (mVar 0) (mC (.bl false))))))
noncomputable def fn_Snapshot_init : List D → Store → Res D := runB 4 sem_Snapshot_init
theorem ok_Snapshot_init {f : Addr} {fd : FuncData} (F : Fun K "__init__" "Snapshot.__init__" s_Snapshot_init f fd) (T : Gb K cl mg) :
    FnOk P w K mg base (L2.CX P w) 1 f fd ["self", "disk", "number", "top"] (spOf K cl 4 fn_Snapshot_init) :=
  fn_sem F sc_Snapshot_init rfl fun cdv A outer s H E hr =>
  (s_cons (s_fld T.a_Snapshot_place (t_var 0) (t_var 1))
  (s_cons (s_fld T.a_Snapshot_number (t_var 0) (t_var 2))
  (s_cons (s_fld T.a_Snapshot_top (t_var 0) (t_var 3))
  (s_one (s_fld T.a_Snapshot_is_closed (t_var 0) t_bl)))))
theorem mk_Snapshot_init {f : Addr} {fd : FuncData} (F : Fun K "__init__" "Snapshot.__init__" s_Snapshot_init f fd) {C : Addr} (hcl : cl "Snapshot" = some C) (hg : mg "Snapshot" = some (.ref C)) (hM : Mk K C f) (T : Gb K cl mg) : Mkr P w K mg base cl "Snapshot" 1 4 fn_Snapshot_init :=
  ⟨C, f, fd, ["self", "disk", "number", "top"], hcl, hg, hM, ok_Snapshot_init F T, (F.binds (ps := ["self", "disk", "number", "top"]) fun _ _ _ _ _ _ us hl => match us, hl with | [_, _, _, _], _ => rfl)⟩
abbrev s_Vault_hold : Stmt := (inClass (top 25) 4)
theorem sc_Vault_hold : FnScope ["self", "snapshot"] ["self"] (defScope s_Vault_hold) :=
  ⟨rfl, rfl, rfl, by decide +kernel, rfl, by decide +kernel, by decide +kernel⟩
noncomputable def sem_Vault_hold : MS :=
  (sSeq (sSet 1 (mMake "Snapshot" 4 fn_Snapshot_init (mCons (mUn (fldD ["Vault"] "place") (mVar 0)) (mCons (mUn (fldD ["Vault"] "number") (mVar 0)) (mCons (mUn (fldD ["Vault"] "top") (mVar 0)) mNil)))))
  (sSeq (sExpr (mMt "list" appD (mUn (fldD ["Vault"] "holders") (mVar 0)) (mCons (mVar 1) mNil)))
  (sRet (mVar 1))))
noncomputable def fn_Vault_hold : List D → Store → Res D := runB 2 sem_Vault_hold
theorem ok_Vault_hold {f : Addr} {fd : FuncData} (F : Fun K "hold" "Vault.hold" s_Vault_hold f fd) (T : Gb K cl mg) (G_Snapshot_init : Mkr P w K mg base cl "Snapshot" 1 4 fn_Snapshot_init) :
    FnOk P w K mg base (L2.CX P w) 3 f fd ["self"] (spOf K cl 1 fn_Vault_hold) :=
  fn_sem F sc_Vault_hold rfl fun cdv A outer s H E hr =>
  (s_cons (s_set 1 sc_Vault_hold.nd (t_make G_Snapshot_init (hr.mono (by decide)) (takes_of rfl rfl rfl rfl) (ta_cons (t_fld T.a_Vault_place (t_var 0)) (ta_cons (t_fld T.a_Vault_number (t_var 0)) (ta_cons (t_fld T.a_Vault_top (t_var 0)) ta_nil)))))
  (s_cons (s_expr (t_bm PySem.F.plainAttrs_list PySem.F.slot_list_append PySem.F.type_list_append mt_append app_s (t_fld T.a_Vault_holders (t_var 0)) (ta_cons (t_var 1) ta_nil)))
  (s_one (s_ret (t_var 1)))))
theorem mk_Vault_hold {f : Addr} {fd : FuncData} (F : Fun K "hold" "Vault.hold" s_Vault_hold f fd) {C : Addr} (hcl : cl "Vault" = some C) (hc : Cls K C) (hm : Meth K C "hold" f) (T : Gb K cl mg) (G_Snapshot_init : Mkr P w K mg base cl "Snapshot" 1 4 fn_Snapshot_init) : MFn P w K mg base cl "Vault" "hold" 3 1 fn_Vault_hold :=
  ⟨C, f, fd, ["self"], hcl, hc, hm, ok_Vault_hold F T G_Snapshot_init, (F.binds (ps := ["self"]) fun _ _ _ _ _ _ us hl => match us, hl with | [_], _ => rfl)⟩
abbrev s_Disk_twin : Stmt := (inClass (top 17) 10)
theorem sc_Disk_twin : FnScope ["self", "found"] ["self"] (defScope s_Disk_twin) :=
  ⟨rfl, rfl, rfl, by decide +kernel, rfl, by decide +kernel, by decide +kernel⟩
noncomputable def sem_Disk_twin : MS :=
  (sSeq (sSet 1 (mMake "Disk" 2 fn_Disk_init (mCons (mFn lenD (mCons (mUn (fldD ["Disk"] "present") (mVar 0)) mNil)) mNil)))
  (sSeq (sSetF ["Disk"] "durable" (mVar 1) (mFn listD (mCons (mUn (fldD ["Disk"] "durable") (mVar 0)) mNil)))
  (sSeq (sSetF ["Disk"] "present" (mVar 1) (mFn listL (mCons (mUn (fldD ["Disk"] "present") (mVar 0)) mNil)))
  (sSeq (sSetF ["Disk"] "waiting" (mVar 1) (mFn listL (mCons (mUn (fldD ["Disk"] "waiting") (mVar 0)) mNil)))
  (sRet (mVar 1))))))
noncomputable def fn_Disk_twin : List D → Store → Res D := runB 2 sem_Disk_twin
theorem ok_Disk_twin {f : Addr} {fd : FuncData} (F : Fun K "twin" "Disk.twin" s_Disk_twin f fd) (T : Gb K cl mg) (G_Disk_init : Mkr P w K mg base cl "Disk" 3 2 fn_Disk_init) :
    FnOk P w K mg base (L2.CX P w) 5 f fd ["self"] (spOf K cl 1 fn_Disk_twin) :=
  fn_sem F sc_Disk_twin rfl fun cdv A outer s H E hr =>
  (s_cons (s_set 1 sc_Disk_twin.nd (t_make G_Disk_init (hr.mono (by decide)) (takes_of rfl rfl rfl rfl) (ta_cons (t_callB (call_len) len_s T.b_len bt_len (ta_cons (t_fld T.a_Disk_present (t_var 0)) ta_nil)) ta_nil)))
  (s_cons (s_fld T.a_Disk_durable (t_var 1) (t_callTy (call_list_of) list_s T.b_list bt_list (ta_cons (t_fld T.a_Disk_durable (t_var 0)) ta_nil)))
  (s_cons (s_fld T.a_Disk_present (t_var 1) (t_callTy (call_list_of) listL_s T.b_list bt_list (ta_cons (t_fld T.a_Disk_present (t_var 0)) ta_nil)))
  (s_cons (s_fld T.a_Disk_waiting (t_var 1) (t_callTy (call_list_of) listL_s T.b_list bt_list (ta_cons (t_fld T.a_Disk_waiting (t_var 0)) ta_nil)))
  (s_one (s_ret (t_var 1)))))))
theorem mk_Disk_twin {f : Addr} {fd : FuncData} (F : Fun K "twin" "Disk.twin" s_Disk_twin f fd) {C : Addr} (hcl : cl "Disk" = some C) (hc : Cls K C) (hm : Meth K C "twin" f) (T : Gb K cl mg) (G_Disk_init : Mkr P w K mg base cl "Disk" 3 2 fn_Disk_init) : MFn P w K mg base cl "Disk" "twin" 5 1 fn_Disk_twin :=
  ⟨C, f, fd, ["self"], hcl, hc, hm, ok_Disk_twin F T G_Disk_init, (F.binds (ps := ["self"]) fun _ _ _ _ _ _ us hl => match us, hl with | [_], _ => rfl)⟩
abbrev s_Vault_read : Stmt := (inClass (top 25) 3)
theorem sc_Vault_read : FnScope ["self", "block"] ["self", "block"] (defScope s_Vault_read) :=
  ⟨rfl, rfl, rfl, by decide +kernel, rfl, by decide +kernel, by decide +kernel⟩
noncomputable def sem_Vault_read : MS :=
  (sRet (mMeth [("Disk", fn_Disk_read)] "read" 2 (mUn (fldD ["Vault"] "place") (mVar 0)) (mCons (mVar 1) mNil)))
noncomputable def fn_Vault_read : List D → Store → Res D := runB 2 sem_Vault_read
theorem ok_Vault_read {f : Addr} {fd : FuncData} (F : Fun K "read" "Vault.read" s_Vault_read f fd) (T : Gb K cl mg) (G_Disk_read : MFn P w K mg base cl "Disk" "read" 4 2 fn_Disk_read) :
    FnOk P w K mg base (L2.CX P w) 5 f fd ["self", "block"] (spOf K cl 2 fn_Vault_read) :=
  fn_sem F sc_Vault_read rfl fun cdv A outer s H E hr =>
  (s_one (s_ret (t_meth (mt_cons G_Disk_read mt_nil) mt_ex (hr.mono (by decide)) (takes_of rfl rfl rfl rfl) (t_fld T.a_Vault_place (t_var 0)) (ta_cons (t_var 1) ta_nil))))
theorem mk_Vault_read {f : Addr} {fd : FuncData} (F : Fun K "read" "Vault.read" s_Vault_read f fd) {C : Addr} (hcl : cl "Vault" = some C) (hc : Cls K C) (hm : Meth K C "read" f) (T : Gb K cl mg) (G_Disk_read : MFn P w K mg base cl "Disk" "read" 4 2 fn_Disk_read) : MFn P w K mg base cl "Vault" "read" 5 2 fn_Vault_read :=
  ⟨C, f, fd, ["self", "block"], hcl, hc, hm, ok_Vault_read F T G_Disk_read, (F.binds (ps := ["self", "block"]) fun _ _ _ _ _ _ us hl => match us, hl with | [_, _], _ => rfl)⟩
abbrev s_Vault_root : Stmt := (inClass (top 25) 2)
theorem sc_Vault_root : FnScope ["self"] ["self"] (defScope s_Vault_root) :=
  ⟨rfl, rfl, rfl, by decide +kernel, rfl, by decide +kernel, by decide +kernel⟩
noncomputable def sem_Vault_root : MS :=
  (sRet (mUn (fldD ["Vault"] "top") (mVar 0)))
noncomputable def fn_Vault_root : List D → Store → Res D := runB 1 sem_Vault_root
theorem ok_Vault_root {f : Addr} {fd : FuncData} (F : Fun K "root" "Vault.root" s_Vault_root f fd) (T : Gb K cl mg) :
    FnOk P w K mg base (L2.CX P w) 1 f fd ["self"] (spOf K cl 1 fn_Vault_root) :=
  fn_sem F sc_Vault_root rfl fun cdv A outer s H E hr =>
  (s_one (s_ret (t_fld T.a_Vault_top (t_var 0))))
theorem mk_Vault_root {f : Addr} {fd : FuncData} (F : Fun K "root" "Vault.root" s_Vault_root f fd) {C : Addr} (hcl : cl "Vault" = some C) (hc : Cls K C) (hm : Meth K C "root" f) (T : Gb K cl mg) : MFn P w K mg base cl "Vault" "root" 1 1 fn_Vault_root :=
  ⟨C, f, fd, ["self"], hcl, hc, hm, ok_Vault_root F T, (F.binds (ps := ["self"]) fun _ _ _ _ _ _ us hl => match us, hl with | [_], _ => rfl)⟩
abbrev s_Vault_version : Stmt := (inClass (top 25) 1)
theorem sc_Vault_version : FnScope ["self"] ["self"] (defScope s_Vault_version) :=
  ⟨rfl, rfl, rfl, by decide +kernel, rfl, by decide +kernel, by decide +kernel⟩
noncomputable def sem_Vault_version : MS :=
  (sRet (mUn (fldD ["Vault"] "number") (mVar 0)))
noncomputable def fn_Vault_version : List D → Store → Res D := runB 1 sem_Vault_version
theorem ok_Vault_version {f : Addr} {fd : FuncData} (F : Fun K "version" "Vault.version" s_Vault_version f fd) (T : Gb K cl mg) :
    FnOk P w K mg base (L2.CX P w) 1 f fd ["self"] (spOf K cl 1 fn_Vault_version) :=
  fn_sem F sc_Vault_version rfl fun cdv A outer s H E hr =>
  (s_one (s_ret (t_fld T.a_Vault_number (t_var 0))))
theorem mk_Vault_version {f : Addr} {fd : FuncData} (F : Fun K "version" "Vault.version" s_Vault_version f fd) {C : Addr} (hcl : cl "Vault" = some C) (hc : Cls K C) (hm : Meth K C "version" f) (T : Gb K cl mg) : MFn P w K mg base cl "Vault" "version" 1 1 fn_Vault_version :=
  ⟨C, f, fd, ["self"], hcl, hc, hm, ok_Vault_version F T, (F.binds (ps := ["self"]) fun _ _ _ _ _ _ us hl => match us, hl with | [_], _ => rfl)⟩
abbrev s_law_like : Stmt := (top 30)
theorem sc_law_like : FnScope ["_law_told", "_law_due_here", "_law_k", "_law_key"] ["_law_told", "_law_due_here"] (defScope s_law_like) :=
  ⟨rfl, rfl, rfl, by decide +kernel, rfl, by decide +kernel, by decide +kernel⟩
noncomputable def sem_law_like (rec : List D → Store → Res D) : MS :=
  (sSeq (sIf (mTest (mOp isND (mVar 1) (mC .non)))
  (sRet (mOp isND (mVar 0) (mC .non)))
  sPass)
  (sSeq (sIf (mTru (mUn (isiD k_bool) (mVar 1)))
  (sRet (mAndV (mUn (isiD k_bool) (mVar 0)) (mOp eqD (mVar 0) (mVar 1))))
  sPass)
  (sSeq (sIf (mTru (mUn (isiD k_int) (mVar 1)))
  (sRet (mAndV (mUn (isiD k_int) (mVar 0)) (mAndV (mNotV (mUn (isiD k_bool) (mVar 0))) (mOp eqD (mVar 0) (mVar 1)))))
  sPass)
  (sSeq (sIf (mTru (mUn (isiD k_str) (mVar 1)))
  (sRet (mAndV (mUn (isiD k_str) (mVar 0)) (mOp eqD (mVar 0) (mVar 1))))
  sPass)
  (sSeq (sIf (mTru (mUn (isiD k_dict) (mVar 1)))
  (sSeq (sIf (mOr (mNot (mTru (mUn (isiD k_dict) (mVar 0)))) (mTest (mOp neD (mFn lenA (mCons (mVar 0) mNil)) (mFn lenA (mCons (mVar 1) mNil)))))
  (sRet (mC (.bl false)))
  sPass)
  (sRet (mFn allD (mCons (mComp (mIt (mUn keysL (mVar 1))) (ptN 3) mYes (mAndV (mOp inA (mVar 3) (mVar 0)) (mFn (ar 2 rec) (mCons (mOp ixA (mVar 0) (mVar 3)) (mCons (mOp ixA (mVar 1) (mVar 3)) mNil)))) [3] frzD) mNil))))
  sPass)
  (sSeq (sIf (mAnd (mTru (mUn (isiD k_tuple) (mVar 1))) (mNot (mTru (mUn (isiD k_tuple) (mVar 0)))))
  (sRet (mC (.bl false)))
  sPass)
  (sSeq (sIf (mOr (mAnd (mTru (mUn (isiD k_list) (mVar 1))) (mNot (mTru (mUn (isiD k_list) (mVar 0))))) (mTest (mOp neD (mFn lenA (mCons (mVar 0) mNil)) (mFn lenA (mCons (mVar 1) mNil)))))
  (sRet (mC (.bl false)))
  sPass)
  (sRet (mFn allD (mCons (mComp (mRng rng1 (mCons (mFn lenA (mCons (mVar 1) mNil)) mNil)) (ptN 2) mYes (mFn (ar 2 rec) (mCons (mOp ixA (mVar 0) (mVar 2)) (mCons (mOp ixA (mVar 1) (mVar 2)) mNil))) [2] frzD) mNil))))))))))
noncomputable def fn_law_like : Nat → List D → Store → Res D
  | 0 => fun _ _ => .stk
  | j + 1 => runB 4 (sem_law_like (fn_law_like j))
theorem ok_law_like {k : Nat} {rec : List D → Store → Res D} {f : Addr} {fd : FuncData} (hk : 0 ≤ k) (F : Fun K "_law_like" "_law_like" s_law_like f fd) (T : Gb K cl mg) (G_law_like : Fn P w K mg base cl "_law_like" k 2 rec) :
    FnOk P w K mg base (L2.CX P w) (k + 1) f fd ["_law_told", "_law_due_here"] (spOf K cl 2 ((runB 4 (sem_law_like rec)))) :=
  fn_sem F sc_law_like rfl fun cdv A outer s H E hr =>
  (s_cons (s_if (tt_cmp op_isA isN_s (t_var 1) t_non)
  (s_one (s_ret (t_cmp op_isA isN_s (t_var 0) t_non)))
  s_nil)
  (s_cons (s_if (tt_tru (t_isi is_bool T.b_isinstance T.b_bool bt_bool (t_var 1)))
  (s_one (s_ret (t_and (t_isi is_bool T.b_isinstance T.b_bool bt_bool (t_var 0)) (t_one (t_cmp (op_eqA hr) eq_s (t_var 0) (t_var 1))))))
  s_nil)
  (s_cons (s_if (tt_tru (t_isi is_int T.b_isinstance T.b_int bt_int (t_var 1)))
  (s_one (s_ret (t_and (t_isi is_int T.b_isinstance T.b_int bt_int (t_var 0)) (t_and (t_not (t_isi is_bool T.b_isinstance T.b_bool bt_bool (t_var 0))) (t_one (t_cmp (op_eqA hr) eq_s (t_var 0) (t_var 1)))))))
  s_nil)
  (s_cons (s_if (tt_tru (t_isi is_str T.b_isinstance T.b_str bt_str (t_var 1)))
  (s_one (s_ret (t_and (t_isi is_str T.b_isinstance T.b_str bt_str (t_var 0)) (t_one (t_cmp (op_eqA hr) eq_s (t_var 0) (t_var 1))))))
  s_nil)
  (s_cons (s_if (tt_tru (t_isi is_dict T.b_isinstance T.b_dict bt_dict (t_var 1)))
  (s_cons (s_if (PW.pt (tw_or (tt_not (tt_tru (t_isi is_dict T.b_isinstance T.b_dict bt_dict (t_var 0)))) (tw_or1 (tt_cmp (op_neA hr) ne_s (t_callB cr_lenA lenA_s T.b_len bt_len (ta_cons (t_var 0) ta_nil)) (t_callB cr_lenA lenA_s T.b_len bt_len (ta_cons (t_var 1) ta_nil))))))
  (s_one (s_ret t_bl))
  s_nil)
  (s_one (s_ret (t_callB (cr_all rfl) all_s T.b_all bt_all (ta_cons (t_lc [("_law_key", 3)] frz_s rfl sc_law_like.nd (i_seq (t_keysL T.b_list (t_var 1))) (blkOk_by (N := ["_law_told", "_law_due_here", "_law_k", "_law_key"]) (sc := defScope s_law_like) (by decide +kernel)) (fun _ _ _ _ _ => (g_name 3 sc_law_like.nd)) (fun _ _ _ _ _ => tts_nil) (fun _ _ _ _ _ => (t_and (t_cmp (op_inD2 hr) inA_s (t_var 3) (t_var 0)) (t_one (t_callF G_law_like (hr.mono (by omega)) takes0 (ta_cons (t_ixA hr (t_var 0) (t_var 3)) (ta_cons (t_ixA hr (t_var 1) (t_var 3)) ta_nil))))))) ta_nil)))))
  s_nil)
  (s_cons (s_if (PW.pt (tw_and (tt_tru (t_isi is_tuple T.b_isinstance T.b_tuple bt_tuple (t_var 1))) (tw_and1 (tt_not (tt_tru (t_isi is_tuple T.b_isinstance T.b_tuple bt_tuple (t_var 0)))))))
  (s_one (s_ret t_bl))
  s_nil)
  (s_cons (s_if (PW.pt (tw_or (PW.pt (tw_and (tt_tru (t_isi is_list T.b_isinstance T.b_list bt_list (t_var 1))) (tw_and1 (tt_not (tt_tru (t_isi is_list T.b_isinstance T.b_list bt_list (t_var 0))))))) (tw_or1 (tt_cmp (op_neA hr) ne_s (t_callB cr_lenA lenA_s T.b_len bt_len (ta_cons (t_var 0) ta_nil)) (t_callB cr_lenA lenA_s T.b_len bt_len (ta_cons (t_var 1) ta_nil))))))
  (s_one (s_ret t_bl))
  s_nil)
  (s_one (s_ret (t_callB (cr_all rfl) all_s T.b_all bt_all (ta_cons (t_lc [("_law_k", 2)] frz_s rfl sc_law_like.nd (i_range1 T.b_range (ta_cons (t_callB cr_lenA lenA_s T.b_len bt_len (ta_cons (t_var 1) ta_nil)) ta_nil)) (blkOk_by (N := ["_law_told", "_law_due_here", "_law_k", "_law_key"]) (sc := defScope s_law_like) (by decide +kernel)) (fun _ _ _ _ _ => (g_name 2 sc_law_like.nd)) (fun _ _ _ _ _ => tts_nil) (fun _ _ _ _ _ => (t_callF G_law_like (hr.mono (by omega)) takes0 (ta_cons (t_ixA hr (t_var 0) (t_var 2)) (ta_cons (t_ixA hr (t_var 1) (t_var 2)) ta_nil))))) ta_nil)))))))))))
theorem mk_law_like {f : Addr} {fd : FuncData} (F : Fun K "_law_like" "_law_like" s_law_like f fd) (hm : mg "_law_like" = some (.ref f)) (T : Gb K cl mg) : ∀ j : Nat, Fn P w K mg base cl "_law_like" (0 + j) 2 (fn_law_like j)
  | 0 => ⟨f, fd, ["_law_told", "_law_due_here"], fn_stk.mono (by omega), hm, F.kp, (F.binds (ps := ["_law_told", "_law_due_here"]) fun _ _ _ _ _ _ us hl => match us, hl with | [_, _], _ => rfl)⟩
  | j + 1 => ⟨f, fd, ["_law_told", "_law_due_here"], ok_law_like (by omega) F T (mk_law_like F hm T j), hm, F.kp, (F.binds (ps := ["_law_told", "_law_due_here"]) fun _ _ _ _ _ _ us hl => match us, hl with | [_, _], _ => rfl)⟩
abbrev s_law_is_version : Stmt := (top 34)
theorem sc_law_is_version : FnScope ["_law_disk", "_law_due_here", "_law_vault", "_law_block"] ["_law_disk", "_law_due_here"] (defScope s_law_is_version) :=
  ⟨rfl, rfl, rfl, by decide +kernel, rfl, by decide +kernel, by decide +kernel⟩
noncomputable def sem_law_is_version : MS :=
  (sSeq (sSet 2 (mMake "Vault" 2 fn_Vault_init (mCons (mVar 0) mNil)))
  (sSeq (sIf (mNot (mTru (mFn (ar 2 (fn_law_like 20)) (mCons (mFn lstD (mCons (mMeth [("Vault", fn_Vault_version)] "version" 1 (mVar 2) mNil) (mCons (mMeth [("Vault", fn_Vault_root)] "root" 1 (mVar 2) mNil) mNil))) (mCons (mFn lstD (mCons (mOp ixD (mVar 1) (mC (.int 0))) (mCons (mOp ixD (mVar 1) (mC (.int 1))) mNil))) mNil)))))
  (sRet (mC (.bl false)))
  sPass)
  (sRet (mFn allD (mCons (mComp (mIt (mUn keysL (mOp ixD (mVar 1) (mC (.int 2))))) (ptN 3) mYes (mFn (ar 2 (fn_law_like 20)) (mCons (mMeth [("Vault", fn_Vault_read)] "read" 2 (mVar 2) (mCons (mVar 3) mNil)) (mCons (mOp ixA (mOp ixD (mVar 1) (mC (.int 2))) (mVar 3)) mNil))) [3] frzD) mNil)))))
noncomputable def fn_law_is_version : List D → Store → Res D := runB 4 sem_law_is_version
theorem ok_law_is_version {f : Addr} {fd : FuncData} (F : Fun K "_law_is_version" "_law_is_version" s_law_is_version f fd) (T : Gb K cl mg) (G_Vault_init : Mkr P w K mg base cl "Vault" 6 2 fn_Vault_init) (G_Vault_read : MFn P w K mg base cl "Vault" "read" 5 2 fn_Vault_read) (G_Vault_root : MFn P w K mg base cl "Vault" "root" 1 1 fn_Vault_root) (G_Vault_version : MFn P w K mg base cl "Vault" "version" 1 1 fn_Vault_version) (G_law_like : Fn P w K mg base cl "_law_like" 20 2 (fn_law_like 20)) :
    FnOk P w K mg base (L2.CX P w) 21 f fd ["_law_disk", "_law_due_here"] (spOf K cl 2 fn_law_is_version) :=
  fn_sem F sc_law_is_version rfl fun cdv A outer s H E hr =>
  (s_cons (s_set 2 sc_law_is_version.nd (t_make G_Vault_init (hr.mono (by decide)) (takes_of rfl rfl rfl rfl) (ta_cons (t_var 0) ta_nil)))
  (s_cons (s_if (tt_not (tt_tru (t_callF G_law_like (hr.mono (by decide)) (takes_of rfl rfl rfl rfl) (ta_cons (t_lst (ta_cons (t_meth0 (mt_cons G_Vault_version mt_nil) mt_ex (hr.mono (by decide)) (takes_of rfl rfl rfl rfl) (t_var 2)) (ta_cons (t_meth0 (mt_cons G_Vault_root mt_nil) mt_ex (hr.mono (by decide)) (takes_of rfl rfl rfl rfl) (t_var 2)) ta_nil))) (ta_cons (t_lst (ta_cons (t_ix ix_seq ix_s (t_var 1) t_int) (ta_cons (t_ix ix_seq ix_s (t_var 1) t_int) ta_nil))) ta_nil)))))
  (s_one (s_ret t_bl))
  s_nil)
  (s_one (s_ret (t_callB (cr_all rfl) all_s T.b_all bt_all (ta_cons (t_lc [("_law_block", 3)] frz_s rfl sc_law_is_version.nd (i_seq (t_keysL T.b_list (t_ix ix_seq ix_s (t_var 1) t_int))) (blkOk_by (N := ["_law_disk", "_law_due_here", "_law_vault", "_law_block"]) (sc := defScope s_law_is_version) (by decide +kernel)) (fun _ _ _ _ _ => (g_name 3 sc_law_is_version.nd)) (fun _ _ _ _ _ => tts_nil) (fun _ _ _ _ _ => (t_callF G_law_like (hr.mono (by decide)) takes0 (ta_cons (t_meth (mt_cons G_Vault_read mt_nil) mt_ex (hr.mono (by decide)) takes0 (t_var 2) (ta_cons (t_var 3) ta_nil)) (ta_cons (t_ixA hr (t_ix ix_seq ix_s (t_var 1) t_int) (t_var 3)) ta_nil))))) ta_nil))))))
theorem mk_law_is_version {f : Addr} {fd : FuncData} (F : Fun K "_law_is_version" "_law_is_version" s_law_is_version f fd) (hm : mg "_law_is_version" = some (.ref f)) (T : Gb K cl mg) (G_Vault_init : Mkr P w K mg base cl "Vault" 6 2 fn_Vault_init) (G_Vault_read : MFn P w K mg base cl "Vault" "read" 5 2 fn_Vault_read) (G_Vault_root : MFn P w K mg base cl "Vault" "root" 1 1 fn_Vault_root) (G_Vault_version : MFn P w K mg base cl "Vault" "version" 1 1 fn_Vault_version) (G_law_like : Fn P w K mg base cl "_law_like" 20 2 (fn_law_like 20)) : Fn P w K mg base cl "_law_is_version" 21 2 fn_law_is_version :=
  ⟨f, fd, ["_law_disk", "_law_due_here"], ok_law_is_version F T G_Vault_init G_Vault_read G_Vault_root G_Vault_version G_law_like, hm, F.kp, (F.binds (ps := ["_law_disk", "_law_due_here"]) fun _ _ _ _ _ _ us hl => match us, hl with | [_, _], _ => rfl)⟩
abbrev s_law_commit_right : Stmt := (top 36)
theorem sc_law_commit_right : FnScope ["_law_disk", "_law_root", "_law_now", "_law_after", "_law_twin", "_law_links", "_law_place"] ["_law_disk", "_law_root", "_law_now", "_law_after"] (defScope s_law_commit_right) :=
  ⟨rfl, rfl, rfl, by decide +kernel, rfl, by decide +kernel, by decide +kernel⟩
noncomputable def sem_law_commit_right : MS :=
  (sSeq (sSet 4 (mMeth [("Disk", fn_Disk_twin)] "twin" 1 (mVar 0) mNil))
  (sSeq (sExpr (mMeth [("Disk", fn_Disk_flush)] "flush" 1 (mVar 4) mNil))
  (sSeq (sIf (mNot (mTru (mFn (ar 2 fn_law_is_version) (mCons (mMeth [("Disk", fn_Disk_crashed)] "crashed" 2 (mVar 4) (mCons (mC (.dct [])) mNil)) (mCons (mVar 2) mNil)))))
  (sRet (mC (.bl false)))
  sPass)
  (sSeq (sSet 5 (mFn tupD mNil))
  (sSeq (sIf (mTest (mOp notND (mVar 1) (mC .non)))
  (sSet 5 (mFn tupD (mCons (mVar 1) mNil)))
  sPass)
  (sSeq (sSet 6 (mOp modD (mFn intD (mCons (mOp ixD (mVar 3) (mC (.int 0))) mNil)) (mC (.int 2))))
  (sSeq (sExpr (mMeth [("Disk", fn_Disk_write)] "write" 3 (mVar 4) (mCons (mVar 6) (mCons (mFn tupD (mCons (mC (.str "meta")) (mCons (mVar 5) (mCons (mOp ixD (mVar 3) (mC (.int 0))) mNil)))) mNil))))
  (sSeq (sIf (mOr (mNot (mTru (mFn (ar 2 fn_law_is_version) (mCons (mMeth [("Disk", fn_Disk_crashed)] "crashed" 2 (mVar 4) (mCons (mC (.dct [])) mNil)) (mCons (mVar 2) mNil))))) (mNot (mTru (mFn (ar 2 fn_law_is_version) (mCons (mMeth [("Disk", fn_Disk_crashed)] "crashed" 2 (mVar 4) (mCons (mDisp [((mVar 6), (mC (.int 0)))] dfz) mNil)) (mCons (mVar 2) mNil))))))
  (sRet (mC (.bl false)))
  sPass)
  (sSeq (sIf (mNot (mTru (mFn (ar 2 fn_law_is_version) (mCons (mMeth [("Disk", fn_Disk_crashed)] "crashed" 2 (mVar 4) (mCons (mDisp [((mVar 6), (mC (.int 1)))] dfz) mNil)) (mCons (mVar 3) mNil)))))
  (sRet (mC (.bl false)))
  sPass)
  (sSeq (sExpr (mMeth [("Disk", fn_Disk_flush)] "flush" 1 (mVar 4) mNil))
  (sRet (mFn (ar 2 fn_law_is_version) (mCons (mMeth [("Disk", fn_Disk_crashed)] "crashed" 2 (mVar 4) (mCons (mC (.dct [])) mNil)) (mCons (mVar 3) mNil))))))))))))))
noncomputable def fn_law_commit_right : List D → Store → Res D := runB 7 sem_law_commit_right
theorem ok_law_commit_right {f : Addr} {fd : FuncData} (F : Fun K "_law_commit_right" "_law_commit_right" s_law_commit_right f fd) (T : Gb K cl mg) (G_Disk_crashed : MFn P w K mg base cl "Disk" "crashed" 5 2 fn_Disk_crashed) (G_Disk_flush : MFn P w K mg base cl "Disk" "flush" 1 1 fn_Disk_flush) (G_Disk_twin : MFn P w K mg base cl "Disk" "twin" 5 1 fn_Disk_twin) (G_Disk_write : MFn P w K mg base cl "Disk" "write" 4 3 fn_Disk_write) (G_law_is_version : Fn P w K mg base cl "_law_is_version" 21 2 fn_law_is_version) :
    FnOk P w K mg base (L2.CX P w) 22 f fd ["_law_disk", "_law_root", "_law_now", "_law_after"] (spOf K cl 4 fn_law_commit_right) :=
  fn_sem F sc_law_commit_right rfl fun cdv A outer s H E hr =>
  (s_cons (s_set 4 sc_law_commit_right.nd (t_meth0 (mt_cons G_Disk_twin mt_nil) mt_ex (hr.mono (by decide)) (takes_of rfl rfl rfl rfl) (t_var 0)))
  (s_cons (s_expr (t_meth0 (mt_cons G_Disk_flush mt_nil) mt_ex (hr.mono (by decide)) (takes_of rfl rfl rfl rfl) (t_var 4)))
  (s_cons (s_if (tt_not (tt_tru (t_callF G_law_is_version (hr.mono (by decide)) (takes_of rfl rfl rfl rfl) (ta_cons (t_meth (mt_cons G_Disk_crashed mt_nil) mt_ex (hr.mono (by decide)) (takes_of rfl rfl rfl rfl) (t_var 4) (ta_cons t_dict0 ta_nil)) (ta_cons (t_var 2) ta_nil)))))
  (s_one (s_ret t_bl))
  s_nil)
  (s_cons (s_set 5 sc_law_commit_right.nd (t_tup ta_nil))
  (s_cons (s_if (tt_cmp op_notA notN_s (t_var 1) t_non)
  (s_one (s_set 5 sc_law_commit_right.nd (t_tup (ta_cons (t_var 1) ta_nil))))
  s_nil)
  (s_cons (s_set 6 sc_law_commit_right.nd (t_op op_mod mod_s (t_callTy (call_int1) int_s T.b_int bt_int (ta_cons (t_ix ix_seq ix_s (t_var 3) t_int) ta_nil)) t_int))
  (s_cons (s_expr (t_meth (mt_cons G_Disk_write mt_nil) mt_ex (hr.mono (by decide)) (takes_of rfl rfl rfl rfl) (t_var 4) (ta_cons (t_var 6) (ta_cons (t_tup (ta_cons t_str (ta_cons (t_var 5) (ta_cons (t_ix ix_seq ix_s (t_var 3) t_int) ta_nil)))) ta_nil))))
  (s_cons (s_if (PW.pt (tw_or (tt_not (tt_tru (t_callF G_law_is_version (hr.mono (by decide)) (takes_of rfl rfl rfl rfl) (ta_cons (t_meth (mt_cons G_Disk_crashed mt_nil) mt_ex (hr.mono (by decide)) (takes_of rfl rfl rfl rfl) (t_var 4) (ta_cons t_dict0 ta_nil)) (ta_cons (t_var 2) ta_nil))))) (tw_or1 (tt_not (tt_tru (t_callF G_law_is_version (hr.mono (by decide)) (takes_of rfl rfl rfl rfl) (ta_cons (t_meth (mt_cons G_Disk_crashed mt_nil) mt_ex (hr.mono (by decide)) (takes_of rfl rfl rfl rfl) (t_var 4) (ta_cons (t_dispF (dp_cons (t_var 6) t_int dp_nil)) ta_nil)) (ta_cons (t_var 2) ta_nil))))))))
  (s_one (s_ret t_bl))
  s_nil)
  (s_cons (s_if (tt_not (tt_tru (t_callF G_law_is_version (hr.mono (by decide)) (takes_of rfl rfl rfl rfl) (ta_cons (t_meth (mt_cons G_Disk_crashed mt_nil) mt_ex (hr.mono (by decide)) (takes_of rfl rfl rfl rfl) (t_var 4) (ta_cons (t_dispF (dp_cons (t_var 6) t_int dp_nil)) ta_nil)) (ta_cons (t_var 3) ta_nil)))))
  (s_one (s_ret t_bl))
  s_nil)
  (s_cons (s_expr (t_meth0 (mt_cons G_Disk_flush mt_nil) mt_ex (hr.mono (by decide)) (takes_of rfl rfl rfl rfl) (t_var 4)))
  (s_one (s_ret (t_callF G_law_is_version (hr.mono (by decide)) (takes_of rfl rfl rfl rfl) (ta_cons (t_meth (mt_cons G_Disk_crashed mt_nil) mt_ex (hr.mono (by decide)) (takes_of rfl rfl rfl rfl) (t_var 4) (ta_cons t_dict0 ta_nil)) (ta_cons (t_var 3) ta_nil)))))))))))))))
theorem mk_law_commit_right {f : Addr} {fd : FuncData} (F : Fun K "_law_commit_right" "_law_commit_right" s_law_commit_right f fd) (hm : mg "_law_commit_right" = some (.ref f)) (T : Gb K cl mg) (G_Disk_crashed : MFn P w K mg base cl "Disk" "crashed" 5 2 fn_Disk_crashed) (G_Disk_flush : MFn P w K mg base cl "Disk" "flush" 1 1 fn_Disk_flush) (G_Disk_twin : MFn P w K mg base cl "Disk" "twin" 5 1 fn_Disk_twin) (G_Disk_write : MFn P w K mg base cl "Disk" "write" 4 3 fn_Disk_write) (G_law_is_version : Fn P w K mg base cl "_law_is_version" 21 2 fn_law_is_version) : Fn P w K mg base cl "_law_commit_right" 22 4 fn_law_commit_right :=
  ⟨f, fd, ["_law_disk", "_law_root", "_law_now", "_law_after"], ok_law_commit_right F T G_Disk_crashed G_Disk_flush G_Disk_twin G_Disk_write G_law_is_version, hm, F.kp, (F.binds (ps := ["_law_disk", "_law_root", "_law_now", "_law_after"]) fun _ _ _ _ _ _ us hl => match us, hl with | [_, _, _, _], _ => rfl)⟩
abbrev s_law_used : Stmt := (top 32)
theorem sc_law_used : FnScope ["_law_pages", "_law_roots", "_law_count", "_law_found", "_law_root", "_law_k", "_law_page", "_law_link"] ["_law_pages", "_law_roots", "_law_count"] (defScope s_law_used) :=
  ⟨rfl, rfl, rfl, by decide +kernel, rfl, by decide +kernel, by decide +kernel⟩
noncomputable def sem_law_used : MS :=
  (sSeq (sSet 3 (mFn lstL mNil))
  (sSeq (sFor (mIt (mVar 1)) (ptN 4)
  (sIf (mAnd (mTest (mOp notND (mVar 4) (mC .non))) (mTest (mOp notInD (mVar 4) (mVar 3))))
  (sExpr (mMt "list" appD (mVar 3) (mCons (mVar 4) mNil)))
  sPass))
  (sSeq (sFor (mRng rng1 (mCons (mVar 2) mNil)) (ptN 5)
  (sIf (mAnd (mTest (mOp ltD (mVar 5) (mFn lenD (mCons (mVar 3) mNil)))) (mTest (mOp notND (mGet1 (mVar 0) (mOp ixD (mVar 3) (mVar 5))) (mC .non))))
  (sSeq (sSet 6 (mOp ixA (mVar 0) (mOp ixD (mVar 3) (mVar 5))))
  (sFor (mIt (mOp ixD (mVar 6) (mC (.int 1)))) (ptN 7)
  (sIf (mAnd (mTest (mChain leD ltD (mC (.int 2)) (mVar 7) (mVar 2))) (mTest (mOp notInD (mVar 7) (mVar 3))))
  (sExpr (mMt "list" appD (mVar 3) (mCons (mVar 7) mNil)))
  sPass)))
  sPass))
  (sRet (mFn sortedD (mCons (mVar 3) mNil))))))
noncomputable def fn_law_used : List D → Store → Res D := runB 8 sem_law_used
theorem ok_law_used {f : Addr} {fd : FuncData} (F : Fun K "_law_used" "_law_used" s_law_used f fd) (T : Gb K cl mg) :
    FnOk P w K mg base (L2.CX P w) 1 f fd ["_law_pages", "_law_roots", "_law_count"] (spOf K cl 3 fn_law_used) :=
  fn_sem F sc_law_used rfl fun cdv A outer s H E hr =>
  (s_cons (s_set 3 sc_law_used.nd (t_lstL ta_nil))
  (s_cons (s_for (passes_of rfl) rfl (i_seq (t_var 1)) (g_name 4 sc_law_used.nd)
  (s_one (s_if (PW.pt (tw_and (tt_cmp op_notA notN_s (t_var 4) t_non) (tw_and1 (tt_cmp op_notInA notIn_s (t_var 4) (t_var 3)))))
  (s_one (s_expr (t_bm PySem.F.plainAttrs_list PySem.F.slot_list_append PySem.F.type_list_append mt_append app_s (t_var 3) (ta_cons (t_var 4) ta_nil))))
  s_nil)))
  (s_cons (s_for (passes_of rfl) rfl (i_range1 T.b_range (ta_cons (t_var 2) ta_nil)) (g_name 5 sc_law_used.nd)
  (s_one (s_if (PW.pt (tw_and (tt_cmp op_ltA lt_s (t_var 5) (t_callB (call_len) len_s T.b_len bt_len (ta_cons (t_var 3) ta_nil))) (tw_and1 (tt_cmp op_notA notN_s (t_get1 hr (t_var 0) (t_ix ix_seq ix_s (t_var 3) (t_var 5))) t_non))))
  (s_cons (s_set 6 sc_law_used.nd (t_ixA hr (t_var 0) (t_ix ix_seq ix_s (t_var 3) (t_var 5))))
  (s_one (s_for (passes_of rfl) rfl (i_seq (t_ix ix_seq ix_s (t_var 6) t_int)) (g_name 7 sc_law_used.nd)
  (s_one (s_if (PW.pt (tw_and (tt_chain op_leA le_s op_ltA lt_s t_int (t_var 7) (t_var 2)) (tw_and1 (tt_cmp op_notInA notIn_s (t_var 7) (t_var 3)))))
  (s_one (s_expr (t_bm PySem.F.plainAttrs_list PySem.F.slot_list_append PySem.F.type_list_append mt_append app_s (t_var 3) (ta_cons (t_var 7) ta_nil))))
  s_nil)))))
  s_nil)))
  (s_one (s_ret (t_callB (cr_sortedI) sorted_s T.b_sorted bt_sorted (ta_cons (t_var 3) ta_nil)))))))
theorem mk_law_used {f : Addr} {fd : FuncData} (F : Fun K "_law_used" "_law_used" s_law_used f fd) (hm : mg "_law_used" = some (.ref f)) (T : Gb K cl mg) : Fn P w K mg base cl "_law_used" 1 3 fn_law_used :=
  ⟨f, fd, ["_law_pages", "_law_roots", "_law_count"], ok_law_used F T, hm, F.kp, (F.binds (ps := ["_law_pages", "_law_roots", "_law_count"]) fun _ _ _ _ _ _ us hl => match us, hl with | [_, _, _], _ => rfl)⟩
abbrev s_law_due : Stmt := (top 35)
theorem sc_law_due : FnScope ["_law_version", "_law_root", "_law_pages", "_law_count", "_law_kept_here", "_law_block"] ["_law_version", "_law_root", "_law_pages", "_law_count"] (defScope s_law_due) :=
  ⟨rfl, rfl, rfl, by decide +kernel, rfl, by decide +kernel, by decide +kernel⟩
noncomputable def sem_law_due : MS :=
  (sSeq (sSet 4 mDctL)
  (sSeq (sFor (mIt (mFn (ar 3 fn_law_used) (mCons (mVar 2) (mCons (mFn lstD (mCons (mVar 1) mNil)) (mCons (mVar 3) mNil))))) (ptN 5)
  (sPutA (mVar 4) (mVar 5) (mGet1 (mVar 2) (mVar 5))))
  (sRet (mFn tupD (mCons (mVar 0) (mCons (mVar 1) (mCons (mUn frzR (mVar 4)) mNil)))))))
noncomputable def fn_law_due : List D → Store → Res D := runB 6 sem_law_due
theorem ok_law_due {f : Addr} {fd : FuncData} (F : Fun K "_law_due" "_law_due" s_law_due f fd) (T : Gb K cl mg) (G_law_used : Fn P w K mg base cl "_law_used" 1 3 fn_law_used) :
    FnOk P w K mg base (L2.CX P w) 2 f fd ["_law_version", "_law_root", "_law_pages", "_law_count"] (spOf K cl 4 fn_law_due) :=
  fn_sem F sc_law_due rfl fun cdv A outer s H E hr =>
  (s_cons (s_set 4 sc_law_due.nd t_dictL)
  (s_cons (s_for (passes_of rfl) rfl (i_seq (t_callF G_law_used (hr.mono (by decide)) (takes_of rfl rfl rfl rfl) (ta_cons (t_var 2) (ta_cons (t_lst (ta_cons (t_var 1) ta_nil)) (ta_cons (t_var 3) ta_nil))))) (g_name 5 sc_law_due.nd)
  (s_one (s_putA hr (t_var 4) (t_var 5) (t_get1 hr (t_var 2) (t_var 5)))))
  (s_one (s_ret (t_tup (ta_cons (t_var 0) (ta_cons (t_var 1) (ta_cons (t_frzR (t_var 4)) ta_nil))))))))
theorem mk_law_due {f : Addr} {fd : FuncData} (F : Fun K "_law_due" "_law_due" s_law_due f fd) (hm : mg "_law_due" = some (.ref f)) (T : Gb K cl mg) (G_law_used : Fn P w K mg base cl "_law_used" 1 3 fn_law_used) : Fn P w K mg base cl "_law_due" 2 4 fn_law_due :=
  ⟨f, fd, ["_law_version", "_law_root", "_law_pages", "_law_count"], ok_law_due F T G_law_used, hm, F.kp, (F.binds (ps := ["_law_version", "_law_root", "_law_pages", "_law_count"]) fun _ _ _ _ _ _ us hl => match us, hl with | [_, _, _, _], _ => rfl)⟩
abbrev s_Disk_pending : Stmt := (inClass (top 17) 7)
theorem sc_Disk_pending : FnScope ["self"] ["self"] (defScope s_Disk_pending) :=
  ⟨rfl, rfl, rfl, by decide +kernel, rfl, by decide +kernel, by decide +kernel⟩
noncomputable def sem_Disk_pending : MS :=
  (sRet (mFn listD (mCons (mUn (fldD ["Disk"] "waiting") (mVar 0)) mNil)))
noncomputable def fn_Disk_pending : List D → Store → Res D := runB 1 sem_Disk_pending
theorem ok_Disk_pending {f : Addr} {fd : FuncData} (F : Fun K "pending" "Disk.pending" s_Disk_pending f fd) (T : Gb K cl mg) :
    FnOk P w K mg base (L2.CX P w) 1 f fd ["self"] (spOf K cl 1 fn_Disk_pending) :=
  fn_sem F sc_Disk_pending rfl fun cdv A outer s H E hr =>
  (s_one (s_ret (t_callTy (call_list_of) list_s T.b_list bt_list (ta_cons (t_fld T.a_Disk_waiting (t_var 0)) ta_nil))))
theorem mk_Disk_pending {f : Addr} {fd : FuncData} (F : Fun K "pending" "Disk.pending" s_Disk_pending f fd) {C : Addr} (hcl : cl "Disk" = some C) (hc : Cls K C) (hm : Meth K C "pending" f) (T : Gb K cl mg) : MFn P w K mg base cl "Disk" "pending" 1 1 fn_Disk_pending :=
  ⟨C, f, fd, ["self"], hcl, hc, hm, ok_Disk_pending F T, (F.binds (ps := ["self"]) fun _ _ _ _ _ _ us hl => match us, hl with | [_], _ => rfl)⟩
abbrev s_law_take : Stmt := (top 29)
theorem sc_law_take : FnScope ["_law_script", "_law_pool", "_law_many", "_law_seed", "_law_cell", "_law_digit"] ["_law_script", "_law_pool", "_law_many"] (defScope s_law_take) :=
  ⟨rfl, rfl, rfl, by decide +kernel, rfl, by decide +kernel, by decide +kernel⟩
noncomputable def sem_law_take : MS :=
  (sSeq (sPut (mVar 1) (mC (.int 2)) (mOp addD (mOp ixD (mVar 1) (mC (.int 2))) (mC (.int 1))))
  (sSeq (sIf (mAnd (mTest (mOp eqD (mOp ixD (mVar 1) (mC (.int 1))) (mC (.int 0)))) (mTest (mOp ltD (mOp ixD (mVar 1) (mC (.int 0))) (mFn lenD (mCons (mVar 0) mNil)))))
  (sSeq (sSet 4 (mOp ixD (mVar 0) (mOp ixD (mVar 1) (mC (.int 0)))))
  (sSeq (sPut (mVar 1) (mC (.int 0)) (mOp addD (mOp ixD (mVar 1) (mC (.int 0))) (mC (.int 1))))
  (sSeq (sIf (mTest (mOp ltD (mVar 4) (mC (.int 0))))
  (sSet 4 (mUn negD (mVar 4)))
  sPass)
  (sIf (mTest (mOp geD (mVar 4) (mOp powD (mC (.int 10)) (mC (.int 18)))))
  (sPut (mVar 1) (mC (.int 1)) (mVar 4))
  (sPut (mVar 1) (mC (.int 3)) (mOp modD (mFn intD (mCons (mOp addD (mOp addD (mOp mulD (mOp ixD (mVar 1) (mC (.int 3))) (mC (.int 31))) (mVar 4)) (mC (.int 17))) mNil)) (mC (.int 1000000007))))))))
  sPass)
  (sSeq (sIf (mTest (mOp gtD (mOp ixD (mVar 1) (mC (.int 1))) (mC (.int 0))))
  (sSeq (sSet 5 (mOp modD (mFn intD (mCons (mOp ixD (mVar 1) (mC (.int 1))) mNil)) (mVar 2)))
  (sSeq (sPut (mVar 1) (mC (.int 1)) (mOp fdivD (mOp ixD (mVar 1) (mC (.int 1))) (mVar 2)))
  (sRet (mVar 5))))
  sPass)
  (sSeq (sSet 3 (mOp modD (mOp mulD (mFn intD (mCons (mOp addD (mOp addD (mOp ixD (mVar 1) (mC (.int 3))) (mOp mulD (mC (.int 7919)) (mOp ixD (mVar 1) (mC (.int 2))))) (mC (.int 1))) mNil)) (mC (.int 48271))) (mC (.int 2147483647))))
  (sSeq (sSet 3 (mOp modD (mFn intD (mCons (mOp mulD (mVar 3) (mOp addD (mOp fdivD (mVar 3) (mC (.int 1009))) (mC (.int 69621)))) mNil)) (mC (.int 2147483629))))
  (sSeq (sSet 3 (mOp modD (mFn intD (mCons (mOp mulD (mVar 3) (mOp addD (mOp fdivD (mVar 3) (mC (.int 2003))) (mC (.int 40692)))) mNil)) (mC (.int 2147483399))))
  (sRet (mOp modD (mFn intD (mCons (mOp fdivD (mVar 3) (mC (.int 16))) mNil)) (mVar 2)))))))))
noncomputable def fn_law_take : List D → Store → Res D := runB 6 sem_law_take
theorem ok_law_take {f : Addr} {fd : FuncData} (F : Fun K "_law_take" "_law_take" s_law_take f fd) (T : Gb K cl mg) :
    FnOk P w K mg base (L2.CX P w) 1 f fd ["_law_script", "_law_pool", "_law_many"] (spOf K cl 3 fn_law_take) :=
  fn_sem F sc_law_take rfl fun cdv A outer s H E hr =>
  (s_cons (s_put (t_var 1) t_int (t_op op_addA add_s (t_ix ix_seq ix_s (t_var 1) t_int) t_int))
  (s_cons (s_if (PW.pt (tw_and (tt_cmp (op_eqA hr) eq_s (t_ix ix_seq ix_s (t_var 1) t_int) t_int) (tw_and1 (tt_cmp op_ltA lt_s (t_ix ix_seq ix_s (t_var 1) t_int) (t_callB (call_len) len_s T.b_len bt_len (ta_cons (t_var 0) ta_nil))))))
  (s_cons (s_set 4 sc_law_take.nd (t_ix ix_seq ix_s (t_var 0) (t_ix ix_seq ix_s (t_var 1) t_int)))
  (s_cons (s_put (t_var 1) t_int (t_op op_addA add_s (t_ix ix_seq ix_s (t_var 1) t_int) t_int))
  (s_cons (s_if (tt_cmp op_ltA lt_s (t_var 4) t_int)
  (s_one (s_set 4 sc_law_take.nd (t_un un_neg neg_s (t_var 4))))
  s_nil)
  (s_one (s_if (tt_cmp op_ge ge_s (t_var 4) (t_op op_pow pow_s t_int t_int))
  (s_one (s_put (t_var 1) t_int (t_var 4)))
  (s_one (s_put (t_var 1) t_int (t_op op_mod mod_s (t_callTy (call_int1) int_s T.b_int bt_int (ta_cons (t_op op_addA add_s (t_op op_addA add_s (t_op op_mulA mul_s (t_ix ix_seq ix_s (t_var 1) t_int) t_int) (t_var 4)) t_int) ta_nil)) t_int))))))))
  s_nil)
  (s_cons (s_if (tt_cmp op_gt gt_s (t_ix ix_seq ix_s (t_var 1) t_int) t_int)
  (s_cons (s_set 5 sc_law_take.nd (t_op op_mod mod_s (t_callTy (call_int1) int_s T.b_int bt_int (ta_cons (t_ix ix_seq ix_s (t_var 1) t_int) ta_nil)) (t_var 2)))
  (s_cons (s_put (t_var 1) t_int (t_op op_fdivW fdiv_s (t_ix ix_seq ix_s (t_var 1) t_int) (t_var 2)))
  (s_one (s_ret (t_var 5)))))
  s_nil)
  (s_cons (s_set 3 sc_law_take.nd (t_op op_mod mod_s (t_op op_mulA mul_s (t_callTy (call_int1) int_s T.b_int bt_int (ta_cons (t_op op_addA add_s (t_op op_addA add_s (t_ix ix_seq ix_s (t_var 1) t_int) (t_op op_mulA mul_s t_int (t_ix ix_seq ix_s (t_var 1) t_int))) t_int) ta_nil)) t_int) t_int))
  (s_cons (s_set 3 sc_law_take.nd (t_op op_mod mod_s (t_callTy (call_int1) int_s T.b_int bt_int (ta_cons (t_op op_mulA mul_s (t_var 3) (t_op op_addA add_s (t_op op_fdivW fdiv_s (t_var 3) t_int) t_int)) ta_nil)) t_int))
  (s_cons (s_set 3 sc_law_take.nd (t_op op_mod mod_s (t_callTy (call_int1) int_s T.b_int bt_int (ta_cons (t_op op_mulA mul_s (t_var 3) (t_op op_addA add_s (t_op op_fdivW fdiv_s (t_var 3) t_int) t_int)) ta_nil)) t_int))
  (s_one (s_ret (t_op op_mod mod_s (t_callTy (call_int1) int_s T.b_int bt_int (ta_cons (t_op op_fdivW fdiv_s (t_var 3) t_int) ta_nil)) (t_var 2))))))))))
theorem mk_law_take {f : Addr} {fd : FuncData} (F : Fun K "_law_take" "_law_take" s_law_take f fd) (hm : mg "_law_take" = some (.ref f)) (T : Gb K cl mg) : Fn P w K mg base cl "_law_take" 1 3 fn_law_take :=
  ⟨f, fd, ["_law_script", "_law_pool", "_law_many"], ok_law_take F T, hm, F.kp, (F.binds (ps := ["_law_script", "_law_pool", "_law_many"]) fun _ _ _ _ _ _ us hl => match us, hl with | [_, _, _], _ => rfl)⟩
abbrev s_law_kept : Stmt := (top 33)
theorem sc_law_kept : FnScope ["_law_script", "_law_pool", "_law_disk", "_law_many", "_law_block", "_law_page", "_law_kept_here"] ["_law_script", "_law_pool", "_law_disk"] (defScope s_law_kept) :=
  ⟨rfl, rfl, rfl, by decide +kernel, rfl, by decide +kernel, by decide +kernel⟩
noncomputable def sem_law_kept : MS :=
  (sSeq (sSet 3 mDctL)
  (sSeq (sFor (mIt (mMeth [("Disk", fn_Disk_pending)] "pending" 1 (mVar 2) mNil)) (ptT (psC (ptN 4) (psC (ptN 5) psN)))
  (sPutA (mVar 3) (mVar 4) (mOp addD (mGet2 (mVar 3) (mVar 4) (mC (.int 0))) (mC (.int 1)))))
  (sSeq (sSet 6 mDctL)
  (sSeq (sFor (mIt (mFn sortedD (mCons (mUn keysL (mVar 3)) mNil))) (ptN 4)
  (sIf (mTest (mOp gtD (mFn (ar 3 fn_law_take) (mCons (mVar 0) (mCons (mVar 1) (mCons (mC (.int 4)) mNil)))) (mC (.int 0))))
  (sPutA (mVar 6) (mVar 4) (mFn (ar 3 fn_law_take) (mCons (mVar 0) (mCons (mVar 1) (mCons (mOp addD (mOp ixA (mVar 3) (mVar 4)) (mC (.int 1))) mNil)))))
  sPass))
  (sRet (mUn frzR (mVar 6)))))))
noncomputable def fn_law_kept : List D → Store → Res D := runB 7 sem_law_kept
theorem ok_law_kept {f : Addr} {fd : FuncData} (F : Fun K "_law_kept" "_law_kept" s_law_kept f fd) (T : Gb K cl mg) (G_Disk_pending : MFn P w K mg base cl "Disk" "pending" 1 1 fn_Disk_pending) (G_law_take : Fn P w K mg base cl "_law_take" 1 3 fn_law_take) :
    FnOk P w K mg base (L2.CX P w) 2 f fd ["_law_script", "_law_pool", "_law_disk"] (spOf K cl 3 fn_law_kept) :=
  fn_sem F sc_law_kept rfl fun cdv A outer s H E hr =>
  (s_cons (s_set 3 sc_law_kept.nd t_dictL)
  (s_cons (s_for (passes_of rfl) rfl (i_seq (t_meth0 (mt_cons G_Disk_pending mt_nil) mt_ex (hr.mono (by decide)) (takes_of rfl rfl rfl rfl) (t_var 2))) (g_tup rfl (gs_cons (g_name 4 sc_law_kept.nd) (gs_cons (g_name 5 sc_law_kept.nd) gs_nil)) (ps_lenS (ps_lenS ps_len0)))
  (s_one (s_putA hr (t_var 3) (t_var 4) (t_op op_addA add_s (t_get2 hr (t_var 3) (t_var 4) t_int) t_int))))
  (s_cons (s_set 6 sc_law_kept.nd t_dictL)
  (s_cons (s_for (passes_of rfl) rfl (i_seq (t_callB (cr_sortedI) sorted_s T.b_sorted bt_sorted (ta_cons (t_keysL T.b_list (t_var 3)) ta_nil))) (g_name 4 sc_law_kept.nd)
  (s_one (s_if (tt_cmp op_gt gt_s (t_callF G_law_take (hr.mono (by decide)) (takes_of rfl rfl rfl rfl) (ta_cons (t_var 0) (ta_cons (t_var 1) (ta_cons t_int ta_nil)))) t_int)
  (s_one (s_putA hr (t_var 6) (t_var 4) (t_callF G_law_take (hr.mono (by decide)) (takes_of rfl rfl rfl rfl) (ta_cons (t_var 0) (ta_cons (t_var 1) (ta_cons (t_op op_addA add_s (t_ixA hr (t_var 3) (t_var 4)) t_int) ta_nil))))))
  s_nil)))
  (s_one (s_ret (t_frzR (t_var 6))))))))
theorem mk_law_kept {f : Addr} {fd : FuncData} (F : Fun K "_law_kept" "_law_kept" s_law_kept f fd) (hm : mg "_law_kept" = some (.ref f)) (T : Gb K cl mg) (G_Disk_pending : MFn P w K mg base cl "Disk" "pending" 1 1 fn_Disk_pending) (G_law_take : Fn P w K mg base cl "_law_take" 1 3 fn_law_take) : Fn P w K mg base cl "_law_kept" 2 3 fn_law_kept :=
  ⟨f, fd, ["_law_script", "_law_pool", "_law_disk"], ok_law_kept F T G_Disk_pending G_law_take, hm, F.kp, (F.binds (ps := ["_law_script", "_law_pool", "_law_disk"]) fun _ _ _ _ _ _ us hl => match us, hl with | [_, _, _], _ => rfl)⟩
abbrev s_NoSpace_init : Stmt := (inClass (top 10) 0)
theorem sc_NoSpace_init : FnScope ["self", "count"] ["self", "count"] (defScope s_NoSpace_init) :=
  ⟨rfl, rfl, rfl, by decide +kernel, rfl, by decide +kernel, by decide +kernel⟩
theorem ok_NoSpace_init {f : Addr} {fd : FuncData} (F : Fun K "__init__" "NoSpace.__init__" s_NoSpace_init f fd) : FnOk P w K mg base (L2.CX P w) 1 f fd ["self", "count"] (spErr K ["self", "count"] 2 [("count", 1)]) :=
  err_fn F sc_NoSpace_init rfl (by decide) (by decide) fun cdv A outer s H E => (er_cons 1 er_nil)
theorem mk_NoSpace_init {f : Addr} {fd : FuncData} (F : Fun K "__init__" "NoSpace.__init__" s_NoSpace_init f fd) {C : Addr} (hcl : cl "NoSpace" = some C) (hg : mg "NoSpace" = some (.ref C)) (hx : OexC K C) (hi : PySem.W.findIn K (.ref C) "__init__" = some (some (.ref f))) (ht : PySem.W.typeIn K (.ref f) = some (.type "function")) (hf1 : PySem.W.findIn K (.ref C) "count" = some none) : ErrF P w K mg base cl "NoSpace" 1 2 ["self", "count"] [("count", 1)] :=
  ⟨C, f, fd, ["self", "count"], hcl, hg, hx, hi, ht, ok_NoSpace_init F, (F.binds (ps := ["self", "count"]) fun _ _ _ _ _ _ us hl => match us, hl with | [_, _], _ => rfl), (by intro q hq; simp only [List.mem_cons, List.not_mem_nil, or_false] at hq; rcases hq with rfl <;> assumption)⟩
abbrev s_used_blocks : Stmt := (top 24)
theorem sc_used_blocks : FnScope ["disk", "roots", "found", "waiting", "block", "page", "root", "link"] ["disk", "roots"] (defScope s_used_blocks) :=
  ⟨rfl, rfl, rfl, by decide +kernel, rfl, by decide +kernel, by decide +kernel⟩
noncomputable def sem_used_blocks : MS :=
  (sSeq (sSet 2 mDctL)
  (sSeq (sSet 3 (mComp (mIt (mVar 1)) (ptN 6) (mTest (mOp notND (mVar 6) (mC .non))) (mVar 6) [6] lvD))
  (sSeq (whileF (mTru (mVar 3))
  (sSeq (sSet 4 (mMt "list" popD (mVar 3) mNil))
  (sIf (mTest (mOp notInA (mVar 4) (mVar 2)))
  (sSeq (sPutA (mVar 2) (mVar 4) (mC (.bl true)))
  (sSeq (sSet 5 (mMeth [("Disk", fn_Disk_read)] "read" 2 (mVar 0) (mCons (mVar 4) mNil)))
  (sIf (mTest (mOp notND (mVar 5) (mC .non)))
  (sExpr (mMt "list" extD (mVar 3) (mCons (mComp (mIt (mOp ixD (mVar 5) (mC (.int 1)))) (ptN 7) (mTru (mFn (ar 2 fn_is_root) (mCons (mVar 0) (mCons (mVar 7) mNil)))) (mVar 7) [7] frzD) mNil)))
  sPass)))
  sPass)) wFuel)
  (sRet (mVar 2)))))
noncomputable def fn_used_blocks : List D → Store → Res D := runB 8 sem_used_blocks
theorem ok_used_blocks {f : Addr} {fd : FuncData} (F : Fun K "used_blocks" "used_blocks" s_used_blocks f fd) (T : Gb K cl mg) (G_Disk_read : MFn P w K mg base cl "Disk" "read" 4 2 fn_Disk_read) (G_is_root : Fn P w K mg base cl "is_root" 2 2 fn_is_root) :
    FnOk P w K mg base (L2.CX P w) 5 f fd ["disk", "roots"] (spOf K cl 2 fn_used_blocks) :=
  fn_sem F sc_used_blocks rfl fun cdv A outer s H E hr =>
  (s_cons (s_set 2 sc_used_blocks.nd t_dictL)
  (s_cons (s_setLc 3 [("root", 6)] lv_s rfl sc_used_blocks.nd (i_seq (t_var 1)) (blkOk_by (N := ["disk", "roots", "found", "waiting", "block", "page", "root", "link"]) (sc := defScope s_used_blocks) (by decide +kernel)) (fun _ _ _ _ _ => (g_name 6 sc_used_blocks.nd)) (fun _ _ _ _ _ => (tts_one (tt_cmp op_notA notN_s (t_var 6) t_non))) (fun _ _ _ _ _ => (t_var 6)) (sw_true rfl rfl rfl (by decide +kernel)))
  (s_cons (s_while wFuel (passes_of rfl) (tt_tru (t_var 3))
  (s_cons (s_set 4 sc_used_blocks.nd (t_bm0 PySem.F.plainAttrs_list PySem.F.slot_list_pop PySem.F.type_list_pop mt_pop pop_s (t_var 3)))
  (s_one (s_if (tt_cmp (op_notInD2 hr) notInA_s (t_var 4) (t_var 2))
  (s_cons (s_putA hr (t_var 2) (t_var 4) t_bl)
  (s_cons (s_set 5 sc_used_blocks.nd (t_meth (mt_cons G_Disk_read mt_nil) mt_ex (hr.mono (by decide)) (takes_of rfl rfl rfl rfl) (t_var 0) (ta_cons (t_var 4) ta_nil)))
  (s_one (s_if (tt_cmp op_notA notN_s (t_var 5) t_non)
  (s_one (s_expr (t_bm PySem.F.plainAttrs_list PySem.F.slot_list_extend PySem.F.type_list_extend mt_extend ext_s (t_var 3) (ta_cons (t_lc [("link", 7)] frz_s rfl sc_used_blocks.nd (i_seq (t_ix ix_seq ix_s (t_var 5) t_int)) (blkOk_by (N := ["disk", "roots", "found", "waiting", "block", "page", "root", "link"]) (sc := defScope s_used_blocks) (by decide +kernel)) (fun _ _ _ _ _ => (g_name 7 sc_used_blocks.nd)) (fun _ _ _ _ _ => (tts_one (tt_tru (t_callF G_is_root (hr.mono (by decide)) takes0 (ta_cons (t_var 0) (ta_cons (t_var 7) ta_nil)))))) (fun _ _ _ _ _ => (t_var 7))) ta_nil))))
  s_nil))))
  s_nil))))
  (s_one (s_ret (t_var 2))))))
theorem mk_used_blocks {f : Addr} {fd : FuncData} (F : Fun K "used_blocks" "used_blocks" s_used_blocks f fd) (hm : mg "used_blocks" = some (.ref f)) (T : Gb K cl mg) (G_Disk_read : MFn P w K mg base cl "Disk" "read" 4 2 fn_Disk_read) (G_is_root : Fn P w K mg base cl "is_root" 2 2 fn_is_root) : Fn P w K mg base cl "used_blocks" 5 2 fn_used_blocks :=
  ⟨f, fd, ["disk", "roots"], ok_used_blocks F T G_Disk_read G_is_root, hm, F.kp, (F.binds (ps := ["disk", "roots"]) fun _ _ _ _ _ _ us hl => match us, hl with | [_, _], _ => rfl)⟩
abbrev s_Vault_free : Stmt := (inClass (top 25) 5)
theorem sc_Vault_free : FnScope ["self", "used", "snapshot", "block"] ["self"] (defScope s_Vault_free) :=
  ⟨rfl, rfl, rfl, by decide +kernel, rfl, by decide +kernel, by decide +kernel⟩
noncomputable def sem_Vault_free : MS :=
  (sSeq (sSetF ["Vault"] "holders" (mVar 0) (mComp (mIt (mUn (fldD ["Vault"] "holders") (mVar 0))) (ptN 2) (mNot (mTru (mUn (fldD ["Snapshot"] "is_closed") (mVar 2)))) (mVar 2) [2] lvD))
  (sSeq (sSet 1 (mFn (ar 2 fn_used_blocks) (mCons (mUn (fldD ["Vault"] "place") (mVar 0)) (mCons (mOp addD (mFn lstD (mCons (mUn (fldD ["Vault"] "top") (mVar 0)) mNil)) (mComp (mIt (mUn (fldD ["Vault"] "holders") (mVar 0))) (ptN 2) mYes (mUn (fldD ["Snapshot"] "top") (mVar 2)) [2] frzD)) mNil))))
  (sRet (mComp (mRng rng2 (mCons (mC c_METAS) (mCons (mMeth [("Disk", fn_Disk_size)] "size" 1 (mUn (fldD ["Vault"] "place") (mVar 0)) mNil) mNil))) (ptN 3) (mTest (mOp notInA (mVar 3) (mVar 1))) (mVar 3) [3] frzD))))
noncomputable def fn_Vault_free : List D → Store → Res D := runB 4 sem_Vault_free
theorem ok_Vault_free {f : Addr} {fd : FuncData} (F : Fun K "free" "Vault.free" s_Vault_free f fd) (T : Gb K cl mg) (G_Disk_size : MFn P w K mg base cl "Disk" "size" 1 1 fn_Disk_size) (G_used_blocks : Fn P w K mg base cl "used_blocks" 5 2 fn_used_blocks) :
    FnOk P w K mg base (L2.CX P w) 6 f fd ["self"] (spOf K cl 1 fn_Vault_free) :=
  fn_sem F sc_Vault_free rfl fun cdv A outer s H E hr =>
  (s_cons (s_fld T.a_Vault_holders (t_var 0) (t_lc [("snapshot", 2)] lv_s rfl sc_Vault_free.nd (i_seq (t_fld T.a_Vault_holders (t_var 0))) (blkOk_by (N := ["self", "used", "snapshot", "block"]) (sc := defScope s_Vault_free) (by decide +kernel)) (fun _ _ _ _ _ => (g_name 2 sc_Vault_free.nd)) (fun _ _ _ _ _ => (tts_one (tt_not (tt_tru (t_fld T.a_Snapshot_is_closed (t_var 2)))))) (fun _ _ _ _ _ => (t_var 2))))
  (s_cons (s_set 1 sc_Vault_free.nd (t_callF G_used_blocks (hr.mono (by decide)) (takes_of rfl rfl rfl rfl) (ta_cons (t_fld T.a_Vault_place (t_var 0)) (ta_cons (t_op op_addA add_s (t_lst (ta_cons (t_fld T.a_Vault_top (t_var 0)) ta_nil)) (t_lc [("snapshot", 2)] frz_s rfl sc_Vault_free.nd (i_seq (t_fld T.a_Vault_holders (t_var 0))) (blkOk_by (N := ["self", "used", "snapshot", "block"]) (sc := defScope s_Vault_free) (by decide +kernel)) (fun _ _ _ _ _ => (g_name 2 sc_Vault_free.nd)) (fun _ _ _ _ _ => tts_nil) (fun _ _ _ _ _ => (t_fld T.a_Snapshot_top (t_var 2))))) ta_nil))))
  (s_one (s_ret (t_lc [("block", 3)] frz_s rfl sc_Vault_free.nd (i_range2 T.b_range (ta_cons (t_glob' T.g_METAS) (ta_cons (t_meth0 (mt_cons G_Disk_size mt_nil) mt_ex (hr.mono (by decide)) (takes_of rfl rfl rfl rfl) (t_fld T.a_Vault_place (t_var 0))) ta_nil))) (blkOk_by (N := ["self", "used", "snapshot", "block"]) (sc := defScope s_Vault_free) (by decide +kernel)) (fun _ _ _ _ _ => (g_name 3 sc_Vault_free.nd)) (fun _ _ _ _ _ => (tts_one (tt_cmp (op_notInD2 hr) notInA_s (t_var 3) (t_var 1)))) (fun _ _ _ _ _ => (t_var 3)))))))
theorem mk_Vault_free {f : Addr} {fd : FuncData} (F : Fun K "free" "Vault.free" s_Vault_free f fd) {C : Addr} (hcl : cl "Vault" = some C) (hc : Cls K C) (hm : Meth K C "free" f) (T : Gb K cl mg) (G_Disk_size : MFn P w K mg base cl "Disk" "size" 1 1 fn_Disk_size) (G_used_blocks : Fn P w K mg base cl "used_blocks" 5 2 fn_used_blocks) : MFn P w K mg base cl "Vault" "free" 6 1 fn_Vault_free :=
  ⟨C, f, fd, ["self"], hcl, hc, hm, ok_Vault_free F T G_Disk_size G_used_blocks, (F.binds (ps := ["self"]) fun _ _ _ _ _ _ us hl => match us, hl with | [_], _ => rfl)⟩
abbrev s_Draft_add : Stmt := (inClass (top 27) 2)
theorem sc_Draft_add : FnScope ["self", "page", "disk", "block"] ["self", "page"] (defScope s_Draft_add) :=
  ⟨rfl, rfl, rfl, by decide +kernel, rfl, by decide +kernel, by decide +kernel⟩
noncomputable def sem_Draft_add : MS :=
  (sSeq (sExpr (mMeth [("Draft", fn_Draft_check_open)] "check_open" 1 (mVar 0) mNil))
  (sSeq (sIf (mNot (mTru (mFn (ar 1 fn_is_page) (mCons (mVar 1) mNil))))
  (sRaise "BadPage" 2 2 [("block", 1)] (mCons (mC .non) mNil))
  sPass)
  (sSeq (sSet 2 (mUn (fldD ["Vault"] "place") (mUn (fldD ["Draft"] "vault") (mVar 0))))
  (sSeq (sFor (mIt (mMeth [("Vault", fn_Vault_free)] "free" 1 (mUn (fldD ["Draft"] "vault") (mVar 0)) mNil)) (ptN 3)
  (sIf (mTest (mOp notInD (mVar 3) (mUn (fldD ["Draft"] "given") (mVar 0))))
  (sSeq (sExpr (mMeth [("Disk", fn_Disk_write)] "write" 3 (mVar 2) (mCons (mVar 3) (mCons (mVar 1) mNil))))
  (sSeq (sExpr (mMt "list" appD (mUn (fldD ["Draft"] "given") (mVar 0)) (mCons (mVar 3) mNil)))
  (sRet (mVar 3))))
  sPass))
  (sRaise "NoSpace" 2 2 [("count", 1)] (mCons (mMeth [("Disk", fn_Disk_size)] "size" 1 (mVar 2) mNil) mNil))))))
noncomputable def fn_Draft_add : List D → Store → Res D := runB 4 sem_Draft_add
theorem ok_Draft_add {f : Addr} {fd : FuncData} (F : Fun K "add" "Draft.add" s_Draft_add f fd) (T : Gb K cl mg) (G_BadPage_init : ErrF P w K mg base cl "BadPage" 1 2 ["self", "block"] [("block", 1)]) (G_Disk_size : MFn P w K mg base cl "Disk" "size" 1 1 fn_Disk_size) (G_Disk_write : MFn P w K mg base cl "Disk" "write" 4 3 fn_Disk_write) (G_Draft_check_open : MFn P w K mg base cl "Draft" "check_open" 1 1 fn_Draft_check_open) (G_NoSpace_init : ErrF P w K mg base cl "NoSpace" 1 2 ["self", "count"] [("count", 1)]) (G_Vault_free : MFn P w K mg base cl "Vault" "free" 6 1 fn_Vault_free) (G_is_page : Fn P w K mg base cl "is_page" 2 1 fn_is_page) :
    FnOk P w K mg base (L2.CX P w) 7 f fd ["self", "page"] (spOf K cl 2 fn_Draft_add) :=
  fn_sem F sc_Draft_add rfl fun cdv A outer s H E hr =>
  (s_cons (s_expr (t_meth0 (mt_cons G_Draft_check_open mt_nil) mt_ex (hr.mono (by decide)) (takes_of rfl rfl rfl rfl) (t_var 0)))
  (s_cons (s_if (tt_not (tt_tru (t_callF G_is_page (hr.mono (by decide)) (takes_of rfl rfl rfl rfl) (ta_cons (t_var 1) ta_nil))))
  (s_one (s_raiseF (N := ["self", "block"]) G_BadPage_init (hr.mono (by decide)) (takes_of rfl rfl rfl rfl) (ta_cons t_non ta_nil) (by decide) (by decide)))
  s_nil)
  (s_cons (s_set 2 sc_Draft_add.nd (t_fld T.a_Vault_place (t_fld T.a_Draft_vault (t_var 0))))
  (s_cons (s_for (passes_of rfl) rfl (i_seq (t_meth0 (mt_cons G_Vault_free mt_nil) mt_ex (hr.mono (by decide)) (takes_of rfl rfl rfl rfl) (t_fld T.a_Draft_vault (t_var 0)))) (g_name 3 sc_Draft_add.nd)
  (s_one (s_if (tt_cmp op_notInA notIn_s (t_var 3) (t_fld T.a_Draft_given (t_var 0)))
  (s_cons (s_expr (t_meth (mt_cons G_Disk_write mt_nil) mt_ex (hr.mono (by decide)) (takes_of rfl rfl rfl rfl) (t_var 2) (ta_cons (t_var 3) (ta_cons (t_var 1) ta_nil))))
  (s_cons (s_expr (t_bm PySem.F.plainAttrs_list PySem.F.slot_list_append PySem.F.type_list_append mt_append app_s (t_fld T.a_Draft_given (t_var 0)) (ta_cons (t_var 3) ta_nil)))
  (s_one (s_ret (t_var 3)))))
  s_nil)))
  (s_one (s_raiseF (N := ["self", "count"]) G_NoSpace_init (hr.mono (by decide)) (takes_of rfl rfl rfl rfl) (ta_cons (t_meth0 (mt_cons G_Disk_size mt_nil) mt_ex (hr.mono (by decide)) (takes_of rfl rfl rfl rfl) (t_var 2)) ta_nil) (by decide) (by decide)))))))
theorem mk_Draft_add {f : Addr} {fd : FuncData} (F : Fun K "add" "Draft.add" s_Draft_add f fd) {C : Addr} (hcl : cl "Draft" = some C) (hc : Cls K C) (hm : Meth K C "add" f) (T : Gb K cl mg) (G_BadPage_init : ErrF P w K mg base cl "BadPage" 1 2 ["self", "block"] [("block", 1)]) (G_Disk_size : MFn P w K mg base cl "Disk" "size" 1 1 fn_Disk_size) (G_Disk_write : MFn P w K mg base cl "Disk" "write" 4 3 fn_Disk_write) (G_Draft_check_open : MFn P w K mg base cl "Draft" "check_open" 1 1 fn_Draft_check_open) (G_NoSpace_init : ErrF P w K mg base cl "NoSpace" 1 2 ["self", "count"] [("count", 1)]) (G_Vault_free : MFn P w K mg base cl "Vault" "free" 6 1 fn_Vault_free) (G_is_page : Fn P w K mg base cl "is_page" 2 1 fn_is_page) : MFn P w K mg base cl "Draft" "add" 7 2 fn_Draft_add :=
  ⟨C, f, fd, ["self", "page"], hcl, hc, hm, ok_Draft_add F T G_BadPage_init G_Disk_size G_Disk_write G_Draft_check_open G_NoSpace_init G_Vault_free G_is_page, (F.binds (ps := ["self", "page"]) fun _ _ _ _ _ _ us hl => match us, hl with | [_, _], _ => rfl)⟩
abbrev s_law_added : Stmt := (top 31)
theorem sc_law_added : FnScope ["_law_draft", "_law_page", "_law_told", "e"] ["_law_draft", "_law_page"] (defScope s_law_added) :=
  ⟨rfl, rfl, rfl, by decide +kernel, rfl, by decide +kernel, by decide +kernel⟩
noncomputable def sem_law_added : MS :=
  (sSeq (sSet 2 (mC .non))
  (sSeq (sTryM [⟨[("WorkError", false), ("BadCount", false), ("BadBlock", false), ("BadPage", false), ("BadKept", false), ("NoMeta", false), ("Busy", false), ("Closed", false), ("NoSpace", true)], some 3, 2, (mFn tupD (mCons (mC (.str "space")) (mCons (mUn (xfD ["BadCount", "NoSpace"] "count") (mVar 3)) mNil)))⟩]
  (sSet 2 (mFn tupD (mCons (mC (.str "block")) (mCons (mMeth [("Draft", fn_Draft_add)] "add" 2 (mVar 0) (mCons (mVar 1) mNil)) mNil)))))
  (sRet (mVar 2))))
noncomputable def fn_law_added : List D → Store → Res D := runB 4 sem_law_added
theorem ok_law_added {f : Addr} {fd : FuncData} (F : Fun K "_law_added" "_law_added" s_law_added f fd) (T : Gb K cl mg) (G_Draft_add : MFn P w K mg base cl "Draft" "add" 7 2 fn_Draft_add) :
    FnOk P w K mg base (L2.CX P w) 8 f fd ["_law_draft", "_law_page"] (spOf K cl 2 fn_law_added) :=
  fn_sem F sc_law_added rfl fun cdv A outer s H E hr =>
  (s_cons (s_set 2 sc_law_added.nd t_non)
  (s_cons (s_tryMN T.rs sc_law_added.nd (takes_of rfl rfl rfl rfl) (fun W pn xe tk po => (s_one (s_set 2 sc_law_added.nd (t_tup (ta_cons t_str (ta_cons (t_meth (mt_cons G_Draft_add mt_nil) mt_ex (hr.mono (by decide)) tk (t_var 0) (ta_cons (t_var 1) ta_nil)) ta_nil))))))
  (hm_name 3 T.t_NoSpace (fun a oe C d pn hz hf => (s_one (s_set 2 sc_law_added.nd (t_tup (ta_cons t_str (ta_cons (t_xf 3 T.xa_count hz hf) ta_nil)))))) hm_nil))
  (s_one (s_ret (t_var 2)))))
theorem mk_law_added {f : Addr} {fd : FuncData} (F : Fun K "_law_added" "_law_added" s_law_added f fd) (hm : mg "_law_added" = some (.ref f)) (T : Gb K cl mg) (G_Draft_add : MFn P w K mg base cl "Draft" "add" 7 2 fn_Draft_add) : Fn P w K mg base cl "_law_added" 8 2 fn_law_added :=
  ⟨f, fd, ["_law_draft", "_law_page"], ok_law_added F T G_Draft_add, hm, F.kp, (F.binds (ps := ["_law_draft", "_law_page"]) fun _ _ _ _ _ _ us hl => match us, hl with | [_, _], _ => rfl)⟩
abbrev s_law_page_added : Stmt := (top 37)
theorem sc_law_page_added : FnScope ["_law_script", "_law_pool", "_law_draft", "_law_pages", "_law_known", "_law_mine", "_law_links", "_law_k", "_law_page", "_law_told"] ["_law_script", "_law_pool", "_law_draft", "_law_pages", "_law_known", "_law_mine"] (defScope s_law_page_added) :=
  ⟨rfl, rfl, rfl, by decide +kernel, rfl, by decide +kernel, by decide +kernel⟩
noncomputable def sem_law_page_added : MS :=
  (sSeq (sSet 6 (mFn lstL mNil))
  (sSeq (sFor (mRng rng1 (mCons (mFn (ar 3 fn_law_take) (mCons (mVar 0) (mCons (mVar 1) (mCons (mC (.int 3)) mNil)))) mNil)) (ptN 7)
  (sIf (mTest (mOp neL0 (mOp addD (mVar 4) (mVar 5)) (mFn lstD mNil)))
  (sExpr (mMt "list" appD (mVar 6) (mCons (mOp ixD (mOp addD (mVar 4) (mVar 5)) (mFn (ar 3 fn_law_take) (mCons (mVar 0) (mCons (mVar 1) (mCons (mFn lenD (mCons (mOp addD (mVar 4) (mVar 5)) mNil)) mNil))))) mNil)))
  sPass))
  (sSeq (sSet 8 (mFn tupD (mCons (mC (.str "page")) (mCons (mFn tupleD (mCons (mVar 6) mNil)) (mCons (mFn (ar 3 fn_law_take) (mCons (mVar 0) (mCons (mVar 1) (mCons (mOp powD (mC (.int 10)) (mC (.int 6))) mNil)))) mNil)))))
  (sSeq (sSet 9 (mFn (ar 2 fn_law_added) (mCons (mVar 2) (mCons (mVar 8) mNil))))
  (sIf (mTest (mOp eqD (mOp ixD (mVar 9) (mC (.int 0))) (mC (.str "block"))))
  (sSeq (sPutA (mVar 3) (mOp ixD (mVar 9) (mC (.int 1))) (mVar 8))
  (sExpr (mMt "list" appD (mVar 5) (mCons (mOp ixD (mVar 9) (mC (.int 1))) mNil))))
  sPass)))))
noncomputable def fn_law_page_added : List D → Store → Res D := runB 10 sem_law_page_added
theorem ok_law_page_added {f : Addr} {fd : FuncData} (F : Fun K "_law_page_added" "_law_page_added" s_law_page_added f fd) (T : Gb K cl mg) (G_law_added : Fn P w K mg base cl "_law_added" 8 2 fn_law_added) (G_law_take : Fn P w K mg base cl "_law_take" 1 3 fn_law_take) :
    FnOk P w K mg base (L2.CX P w) 9 f fd ["_law_script", "_law_pool", "_law_draft", "_law_pages", "_law_known", "_law_mine"] (spOf K cl 6 fn_law_page_added) :=
  fn_sem F sc_law_page_added rfl fun cdv A outer s H E hr =>
  (s_cons (s_set 6 sc_law_page_added.nd (t_lstL ta_nil))
  (s_cons (s_for (passes_of rfl) rfl (i_range1 T.b_range (ta_cons (t_callF G_law_take (hr.mono (by decide)) (takes_of rfl rfl rfl rfl) (ta_cons (t_var 0) (ta_cons (t_var 1) (ta_cons t_int ta_nil)))) ta_nil)) (g_name 7 sc_law_page_added.nd)
  (s_one (s_if (tt_cmp (op_neL0 hr) neL0_s (t_op op_addA add_s (t_var 4) (t_var 5)) (t_lst ta_nil))
  (s_one (s_expr (t_bm PySem.F.plainAttrs_list PySem.F.slot_list_append PySem.F.type_list_append mt_append app_s (t_var 6) (ta_cons (t_ix ix_seq ix_s (t_op op_addA add_s (t_var 4) (t_var 5)) (t_callF G_law_take (hr.mono (by decide)) (takes_of rfl rfl rfl rfl) (ta_cons (t_var 0) (ta_cons (t_var 1) (ta_cons (t_callB (call_len) len_s T.b_len bt_len (ta_cons (t_op op_addA add_s (t_var 4) (t_var 5)) ta_nil)) ta_nil))))) ta_nil))))
  s_nil)))
  (s_cons (s_set 8 sc_law_page_added.nd (t_tup (ta_cons t_str (ta_cons (t_callTy (call_tuple_of) tuple_s T.b_tuple bt_tuple (ta_cons (t_var 6) ta_nil)) (ta_cons (t_callF G_law_take (hr.mono (by decide)) (takes_of rfl rfl rfl rfl) (ta_cons (t_var 0) (ta_cons (t_var 1) (ta_cons (t_op op_pow pow_s t_int t_int) ta_nil)))) ta_nil)))))
  (s_cons (s_set 9 sc_law_page_added.nd (t_callF G_law_added (hr.mono (by decide)) (takes_of rfl rfl rfl rfl) (ta_cons (t_var 2) (ta_cons (t_var 8) ta_nil))))
  (s_one (s_if (tt_cmp (op_eqA hr) eq_s (t_ix ix_seq ix_s (t_var 9) t_int) t_str)
  (s_cons (s_putA hr (t_var 3) (t_ix ix_seq ix_s (t_var 9) t_int) (t_var 8))
  (s_one (s_expr (t_bm PySem.F.plainAttrs_list PySem.F.slot_list_append PySem.F.type_list_append mt_append app_s (t_var 5) (ta_cons (t_ix ix_seq ix_s (t_var 9) t_int) ta_nil)))))
  s_nil))))))
theorem mk_law_page_added {f : Addr} {fd : FuncData} (F : Fun K "_law_page_added" "_law_page_added" s_law_page_added f fd) (hm : mg "_law_page_added" = some (.ref f)) (T : Gb K cl mg) (G_law_added : Fn P w K mg base cl "_law_added" 8 2 fn_law_added) (G_law_take : Fn P w K mg base cl "_law_take" 1 3 fn_law_take) : Fn P w K mg base cl "_law_page_added" 9 6 fn_law_page_added :=
  ⟨f, fd, ["_law_script", "_law_pool", "_law_draft", "_law_pages", "_law_known", "_law_mine"], ok_law_page_added F T G_law_added G_law_take, hm, F.kp, (F.binds (ps := ["_law_script", "_law_pool", "_law_draft", "_law_pages", "_law_known", "_law_mine"]) fun _ _ _ _ _ _ us hl => match us, hl with | [_, _, _, _, _, _], _ => rfl)⟩
abbrev s_format_disk : Stmt := (top 21)
theorem sc_format_disk : FnScope ["disk", "block"] ["disk"] (defScope s_format_disk) :=
  ⟨rfl, rfl, rfl, by decide +kernel, rfl, by decide +kernel, by decide +kernel⟩
noncomputable def sem_format_disk : MS :=
  (sSeq (sFor (mRng rng1 (mCons (mMeth [("Disk", fn_Disk_size)] "size" 1 (mVar 0) mNil) mNil)) (ptN 1)
  (sExpr (mMeth [("Disk", fn_Disk_write)] "write" 3 (mVar 0) (mCons (mVar 1) (mCons (mC .non) mNil)))))
  (sSeq (sExpr (mMeth [("Disk", fn_Disk_write)] "write" 3 (mVar 0) (mCons (mC (.int 0)) (mCons (mFn tupD (mCons (mC c_META) (mCons (mFn tupD mNil) (mCons (mC (.int 0)) mNil)))) mNil))))
  (sExpr (mMeth [("Disk", fn_Disk_flush)] "flush" 1 (mVar 0) mNil))))
noncomputable def fn_format_disk : List D → Store → Res D := runB 2 sem_format_disk
theorem ok_format_disk {f : Addr} {fd : FuncData} (F : Fun K "format_disk" "format_disk" s_format_disk f fd) (T : Gb K cl mg) (G_Disk_flush : MFn P w K mg base cl "Disk" "flush" 1 1 fn_Disk_flush) (G_Disk_size : MFn P w K mg base cl "Disk" "size" 1 1 fn_Disk_size) (G_Disk_write : MFn P w K mg base cl "Disk" "write" 4 3 fn_Disk_write) :
    FnOk P w K mg base (L2.CX P w) 5 f fd ["disk"] (spOf K cl 1 fn_format_disk) :=
  fn_sem F sc_format_disk rfl fun cdv A outer s H E hr =>
  (s_cons (s_for (passes_of rfl) rfl (i_range1 T.b_range (ta_cons (t_meth0 (mt_cons G_Disk_size mt_nil) mt_ex (hr.mono (by decide)) (takes_of rfl rfl rfl rfl) (t_var 0)) ta_nil)) (g_name 1 sc_format_disk.nd)
  (s_one (s_expr (t_meth (mt_cons G_Disk_write mt_nil) mt_ex (hr.mono (by decide)) (takes_of rfl rfl rfl rfl) (t_var 0) (ta_cons (t_var 1) (ta_cons t_non ta_nil))))))
  (s_cons (s_expr (t_meth (mt_cons G_Disk_write mt_nil) mt_ex (hr.mono (by decide)) (takes_of rfl rfl rfl rfl) (t_var 0) (ta_cons t_int (ta_cons (t_tup (ta_cons (t_glob' T.g_META) (ta_cons (t_tup ta_nil) (ta_cons t_int ta_nil)))) ta_nil))))
  (s_one (s_expr (t_meth0 (mt_cons G_Disk_flush mt_nil) mt_ex (hr.mono (by decide)) (takes_of rfl rfl rfl rfl) (t_var 0))))))
theorem mk_format_disk {f : Addr} {fd : FuncData} (F : Fun K "format_disk" "format_disk" s_format_disk f fd) (hm : mg "format_disk" = some (.ref f)) (T : Gb K cl mg) (G_Disk_flush : MFn P w K mg base cl "Disk" "flush" 1 1 fn_Disk_flush) (G_Disk_size : MFn P w K mg base cl "Disk" "size" 1 1 fn_Disk_size) (G_Disk_write : MFn P w K mg base cl "Disk" "write" 4 3 fn_Disk_write) : Fn P w K mg base cl "format_disk" 5 1 fn_format_disk :=
  ⟨f, fd, ["disk"], ok_format_disk F T G_Disk_flush G_Disk_size G_Disk_write, hm, F.kp, (F.binds (ps := ["disk"]) fun _ _ _ _ _ _ us hl => match us, hl with | [_], _ => rfl)⟩
abbrev s_law : Stmt := (top 38)
theorem sc_law : FnScope ["_law_script", "_law_pool", "_law_count", "_law_disk", "_law_vault", "_law_now", "_law_pages", "_law_draft", "_law_mine", "_law_holds", "_law_k", "_law_kind", "_law_found", "_law_choice", "_law_root", "_law_after"] ["_law_script"] (defScope s_law) :=
  ⟨rfl, rfl, rfl, by decide +kernel, rfl, by decide +kernel, by decide +kernel⟩
noncomputable def sem_law : MS :=
  (sSeq (sSet 1 (mFn lstL (mCons (mC (.int 0)) (mCons (mC (.int 0)) (mCons (mC (.int 0)) (mCons (mC (.int 0)) mNil))))))
  (sSeq (sSet 2 (mOp addD (mC (.int 8)) (mFn (ar 3 fn_law_take) (mCons (mVar 0) (mCons (mVar 1) (mCons (mC (.int 13)) mNil))))))
  (sSeq (sSet 3 (mMake "Disk" 2 fn_Disk_init (mCons (mVar 2) mNil)))
  (sSeq (sExpr (mFn (ar 1 fn_format_disk) (mCons (mVar 3) mNil)))
  (sSeq (sSet 4 (mMake "Vault" 2 fn_Vault_init (mCons (mVar 3) mNil)))
  (sSeq (sSet 5 (mFn tupD (mCons (mC (.int 0)) (mCons (mC .non) (mCons (mC (.dct [])) mNil)))))
  (sSeq (sSet 6 mDctL)
  (sSeq (sSet 7 (mC .non))
  (sSeq (sSet 8 (mFn lstL mNil))
  (sSeq (sSet 9 (mFn lstL mNil))
  (sSeq (sFor (mRng rng1 (mCons (mOp addD (mC (.int 4)) (mFn (ar 3 fn_law_take) (mCons (mVar 0) (mCons (mVar 1) (mCons (mC (.int 17)) mNil))))) mNil)) (ptN 10)
  (sSeq (sSet 11 (mFn (ar 3 fn_law_take) (mCons (mVar 0) (mCons (mVar 1) (mCons (mC (.int 9)) mNil)))))
  (sSeq (sIf (mTest (mOp isND (mVar 7) (mC .non)))
  (sSeq (sSet 7 (mMeth [("Vault", fn_Vault_begin)] "begin" 1 (mVar 4) mNil))
  (sSet 8 (mFn lstL mNil)))
  (sIf (mTest (mOp ltD (mVar 11) (mC (.int 5))))
  (sExpr (mFn (ar 6 fn_law_page_added) (mCons (mVar 0) (mCons (mVar 1) (mCons (mVar 7) (mCons (mVar 6) (mCons (mUn keysL (mOp ixD (mVar 5) (mC (.int 2)))) (mCons (mVar 8) mNil))))))))
  (sIf (mTest (mOp eqD (mVar 11) (mC (.int 5))))
  (sSeq (sExpr (mMeth [("Draft", fn_Draft_cancel)] "cancel" 1 (mVar 7) mNil))
  (sSet 7 (mC .non)))
  (sIf (mAnd (mTest (mOp eqD (mVar 11) (mC (.int 6)))) (mTest (mOp ltD (mFn lenD (mCons (mVar 9) mNil)) (mC (.int 3)))))
  (sExpr (mMt "list" appD (mVar 9) (mCons (mMeth [("Vault", fn_Vault_hold)] "hold" 1 (mVar 4) mNil) mNil)))
  (sSeq (sSet 13 (mOp addD (mOp addD (mFn lstD (mCons (mC .non) mNil)) (mOp mulD (mVar 8) (mC (.int 2)))) (mUn keysL (mOp ixD (mVar 5) (mC (.int 2))))))
  (sSeq (sSet 14 (mOp ixD (mVar 13) (mFn (ar 3 fn_law_take) (mCons (mVar 0) (mCons (mVar 1) (mCons (mFn lenD (mCons (mVar 13) mNil)) mNil))))))
  (sSeq (sSet 15 (mFn (ar 4 fn_law_due) (mCons (mOp addD (mOp ixD (mVar 5) (mC (.int 0))) (mC (.int 1))) (mCons (mVar 14) (mCons (mVar 6) (mCons (mVar 2) mNil))))))
  (sSeq (sIf (mOr (mNot (mTru (mFn (ar 4 fn_law_commit_right) (mCons (mVar 3) (mCons (mVar 14) (mCons (mVar 5) (mCons (mVar 15) mNil))))))) (mTest (mOp neD (mMeth [("Draft", fn_Draft_commit)] "commit" 2 (mVar 7) (mCons (mVar 14) mNil)) (mOp ixD (mVar 15) (mC (.int 0))))))
  (sRet (mC (.bl false)))
  sPass)
  (sSeq (sSet 5 (mVar 15))
  (sSet 7 (mC .non)))))))))))
  (sSeq (sSet 12 (mMeth [("Disk", fn_Disk_crashed)] "crashed" 2 (mVar 3) (mCons (mFn (ar 3 fn_law_kept) (mCons (mVar 0) (mCons (mVar 1) (mCons (mVar 3) mNil)))) mNil)))
  (sSeq (sIf (mNot (mTru (mFn (ar 2 fn_law_is_version) (mCons (mVar 12) (mCons (mVar 5) mNil)))))
  (sRet (mC (.bl false)))
  sPass)
  (sIf (mTest (mOp eqD (mFn (ar 3 fn_law_take) (mCons (mVar 0) (mCons (mVar 1) (mCons (mC (.int 6)) mNil)))) (mC (.int 0))))
  (sSeq (sSet 3 (mVar 12))
  (sSeq (sSet 4 (mMake "Vault" 2 fn_Vault_init (mCons (mVar 3) mNil)))
  (sSeq (sSet 7 (mC .non))
  (sSeq (sSet 9 (mFn lstL mNil))
  (sSet 6 (mUn copyLv (mOp ixD (mVar 5) (mC (.int 2)))))))))
  sPass))))))
  (sRet (mFn (ar 2 fn_law_is_version) (mCons (mMeth [("Disk", fn_Disk_crashed)] "crashed" 2 (mVar 3) (mCons (mC (.dct [])) mNil)) (mCons (mVar 5) mNil)))))))))))))))
noncomputable def fn_law : List D → Store → Res D := runB 16 sem_law
theorem ok_law {f : Addr} {fd : FuncData} (F : Fun K "law" "law" s_law f fd) (T : Gb K cl mg) (G_Disk_init : Mkr P w K mg base cl "Disk" 3 2 fn_Disk_init) (G_Disk_crashed : MFn P w K mg base cl "Disk" "crashed" 5 2 fn_Disk_crashed) (G_Draft_cancel : MFn P w K mg base cl "Draft" "cancel" 2 1 fn_Draft_cancel) (G_Draft_commit : MFn P w K mg base cl "Draft" "commit" 6 2 fn_Draft_commit) (G_Vault_init : Mkr P w K mg base cl "Vault" 6 2 fn_Vault_init) (G_Vault_begin : MFn P w K mg base cl "Vault" "begin" 3 1 fn_Vault_begin) (G_Vault_hold : MFn P w K mg base cl "Vault" "hold" 3 1 fn_Vault_hold) (G_law_commit_right : Fn P w K mg base cl "_law_commit_right" 22 4 fn_law_commit_right) (G_law_due : Fn P w K mg base cl "_law_due" 2 4 fn_law_due) (G_law_is_version : Fn P w K mg base cl "_law_is_version" 21 2 fn_law_is_version) (G_law_kept : Fn P w K mg base cl "_law_kept" 2 3 fn_law_kept) (G_law_page_added : Fn P w K mg base cl "_law_page_added" 9 6 fn_law_page_added) (G_law_take : Fn P w K mg base cl "_law_take" 1 3 fn_law_take) (G_format_disk : Fn P w K mg base cl "format_disk" 5 1 fn_format_disk) :
    FnOk P w K mg base (L2.CX P w) 23 f fd ["_law_script"] (spOf K cl 1 fn_law) :=
  fn_sem F sc_law rfl fun cdv A outer s H E hr =>
  (s_cons (s_set 1 sc_law.nd (t_lstL (ta_cons t_int (ta_cons t_int (ta_cons t_int (ta_cons t_int ta_nil))))))
  (s_cons (s_set 2 sc_law.nd (t_op op_addA add_s t_int (t_callF G_law_take (hr.mono (by decide)) (takes_of rfl rfl rfl rfl) (ta_cons (t_var 0) (ta_cons (t_var 1) (ta_cons t_int ta_nil))))))
  (s_cons (s_set 3 sc_law.nd (t_make G_Disk_init (hr.mono (by decide)) (takes_of rfl rfl rfl rfl) (ta_cons (t_var 2) ta_nil)))
  (s_cons (s_expr (t_callF G_format_disk (hr.mono (by decide)) (takes_of rfl rfl rfl rfl) (ta_cons (t_var 3) ta_nil)))
  (s_cons (s_set 4 sc_law.nd (t_make G_Vault_init (hr.mono (by decide)) (takes_of rfl rfl rfl rfl) (ta_cons (t_var 3) ta_nil)))
  (s_cons (s_set 5 sc_law.nd (t_tup (ta_cons t_int (ta_cons t_non (ta_cons t_dict0 ta_nil)))))
  (s_cons (s_set 6 sc_law.nd t_dictL)
  (s_cons (s_set 7 sc_law.nd t_non)
  (s_cons (s_set 8 sc_law.nd (t_lstL ta_nil))
  (s_cons (s_set 9 sc_law.nd (t_lstL ta_nil))
  (s_cons (s_for (passes_of rfl) rfl (i_range1 T.b_range (ta_cons (t_op op_addA add_s t_int (t_callF G_law_take (hr.mono (by decide)) (takes_of rfl rfl rfl rfl) (ta_cons (t_var 0) (ta_cons (t_var 1) (ta_cons t_int ta_nil))))) ta_nil)) (g_name 10 sc_law.nd)
  (s_cons (s_set 11 sc_law.nd (t_callF G_law_take (hr.mono (by decide)) (takes_of rfl rfl rfl rfl) (ta_cons (t_var 0) (ta_cons (t_var 1) (ta_cons t_int ta_nil)))))
  (s_cons (s_if (tt_cmp op_isA isN_s (t_var 7) t_non)
  (s_cons (s_set 7 sc_law.nd (t_meth0 (mt_cons G_Vault_begin mt_nil) mt_ex (hr.mono (by decide)) (takes_of rfl rfl rfl rfl) (t_var 4)))
  (s_one (s_set 8 sc_law.nd (t_lstL ta_nil))))
  (s_one (s_if (tt_cmp op_ltA lt_s (t_var 11) t_int)
  (s_one (s_expr (t_callF G_law_page_added (hr.mono (by decide)) (takes_of rfl rfl rfl rfl) (ta_cons (t_var 0) (ta_cons (t_var 1) (ta_cons (t_var 7) (ta_cons (t_var 6) (ta_cons (t_keysL T.b_list (t_ix ix_seq ix_s (t_var 5) t_int)) (ta_cons (t_var 8) ta_nil)))))))))
  (s_one (s_if (tt_cmp (op_eqA hr) eq_s (t_var 11) t_int)
  (s_cons (s_expr (t_meth0 (mt_cons G_Draft_cancel mt_nil) mt_ex (hr.mono (by decide)) (takes_of rfl rfl rfl rfl) (t_var 7)))
  (s_one (s_set 7 sc_law.nd t_non)))
  (s_one (s_if (PW.pt (tw_and (tt_cmp (op_eqA hr) eq_s (t_var 11) t_int) (tw_and1 (tt_cmp op_ltA lt_s (t_callB (call_len) len_s T.b_len bt_len (ta_cons (t_var 9) ta_nil)) t_int))))
  (s_one (s_expr (t_bm PySem.F.plainAttrs_list PySem.F.slot_list_append PySem.F.type_list_append mt_append app_s (t_var 9) (ta_cons (t_meth0 (mt_cons G_Vault_hold mt_nil) mt_ex (hr.mono (by decide)) (takes_of rfl rfl rfl rfl) (t_var 4)) ta_nil))))
  (s_cons (s_set 13 sc_law.nd (t_op op_addA add_s (t_op op_addA add_s (t_lst (ta_cons t_non ta_nil)) (t_op op_mulA mul_s (t_var 8) t_int)) (t_keysL T.b_list (t_ix ix_seq ix_s (t_var 5) t_int))))
  (s_cons (s_set 14 sc_law.nd (t_ix ix_seq ix_s (t_var 13) (t_callF G_law_take (hr.mono (by decide)) (takes_of rfl rfl rfl rfl) (ta_cons (t_var 0) (ta_cons (t_var 1) (ta_cons (t_callB (call_len) len_s T.b_len bt_len (ta_cons (t_var 13) ta_nil)) ta_nil))))))
  (s_cons (s_set 15 sc_law.nd (t_callF G_law_due (hr.mono (by decide)) (takes_of rfl rfl rfl rfl) (ta_cons (t_op op_addA add_s (t_ix ix_seq ix_s (t_var 5) t_int) t_int) (ta_cons (t_var 14) (ta_cons (t_var 6) (ta_cons (t_var 2) ta_nil))))))
  (s_cons (s_if (PW.pt (tw_or (tt_not (tt_tru (t_callF G_law_commit_right (hr.mono (by decide)) (takes_of rfl rfl rfl rfl) (ta_cons (t_var 3) (ta_cons (t_var 14) (ta_cons (t_var 5) (ta_cons (t_var 15) ta_nil))))))) (tw_or1 (tt_cmp (op_neA hr) ne_s (t_meth (mt_cons G_Draft_commit mt_nil) mt_ex (hr.mono (by decide)) (takes_of rfl rfl rfl rfl) (t_var 7) (ta_cons (t_var 14) ta_nil)) (t_ix ix_seq ix_s (t_var 15) t_int)))))
  (s_one (s_ret t_bl))
  s_nil)
  (s_cons (s_set 5 sc_law.nd (t_var 15))
  (s_one (s_set 7 sc_law.nd t_non))))))))))))))
  (s_cons (s_set 12 sc_law.nd (t_meth (mt_cons G_Disk_crashed mt_nil) mt_ex (hr.mono (by decide)) (takes_of rfl rfl rfl rfl) (t_var 3) (ta_cons (t_callF G_law_kept (hr.mono (by decide)) (takes_of rfl rfl rfl rfl) (ta_cons (t_var 0) (ta_cons (t_var 1) (ta_cons (t_var 3) ta_nil)))) ta_nil)))
  (s_cons (s_if (tt_not (tt_tru (t_callF G_law_is_version (hr.mono (by decide)) (takes_of rfl rfl rfl rfl) (ta_cons (t_var 12) (ta_cons (t_var 5) ta_nil)))))
  (s_one (s_ret t_bl))
  s_nil)
  (s_one (s_if (tt_cmp (op_eqA hr) eq_s (t_callF G_law_take (hr.mono (by decide)) (takes_of rfl rfl rfl rfl) (ta_cons (t_var 0) (ta_cons (t_var 1) (ta_cons t_int ta_nil)))) t_int)
  (s_cons (s_set 3 sc_law.nd (t_var 12))
  (s_cons (s_set 4 sc_law.nd (t_make G_Vault_init (hr.mono (by decide)) (takes_of rfl rfl rfl rfl) (ta_cons (t_var 3) ta_nil)))
  (s_cons (s_set 7 sc_law.nd t_non)
  (s_cons (s_set 9 sc_law.nd (t_lstL ta_nil))
  (s_one (s_set 6 sc_law.nd (t_copyL (t_ix ix_seq ix_s (t_var 5) t_int))))))))
  s_nil)))))))
  (s_one (s_ret (t_callF G_law_is_version (hr.mono (by decide)) (takes_of rfl rfl rfl rfl) (ta_cons (t_meth (mt_cons G_Disk_crashed mt_nil) mt_ex (hr.mono (by decide)) (takes_of rfl rfl rfl rfl) (t_var 3) (ta_cons t_dict0 ta_nil)) (ta_cons (t_var 5) ta_nil))))))))))))))))
theorem mk_law {f : Addr} {fd : FuncData} (F : Fun K "law" "law" s_law f fd) (hm : mg "law" = some (.ref f)) (T : Gb K cl mg) (G_Disk_init : Mkr P w K mg base cl "Disk" 3 2 fn_Disk_init) (G_Disk_crashed : MFn P w K mg base cl "Disk" "crashed" 5 2 fn_Disk_crashed) (G_Draft_cancel : MFn P w K mg base cl "Draft" "cancel" 2 1 fn_Draft_cancel) (G_Draft_commit : MFn P w K mg base cl "Draft" "commit" 6 2 fn_Draft_commit) (G_Vault_init : Mkr P w K mg base cl "Vault" 6 2 fn_Vault_init) (G_Vault_begin : MFn P w K mg base cl "Vault" "begin" 3 1 fn_Vault_begin) (G_Vault_hold : MFn P w K mg base cl "Vault" "hold" 3 1 fn_Vault_hold) (G_law_commit_right : Fn P w K mg base cl "_law_commit_right" 22 4 fn_law_commit_right) (G_law_due : Fn P w K mg base cl "_law_due" 2 4 fn_law_due) (G_law_is_version : Fn P w K mg base cl "_law_is_version" 21 2 fn_law_is_version) (G_law_kept : Fn P w K mg base cl "_law_kept" 2 3 fn_law_kept) (G_law_page_added : Fn P w K mg base cl "_law_page_added" 9 6 fn_law_page_added) (G_law_take : Fn P w K mg base cl "_law_take" 1 3 fn_law_take) (G_format_disk : Fn P w K mg base cl "format_disk" 5 1 fn_format_disk) : Fn P w K mg base cl "law" 23 1 fn_law :=
  ⟨f, fd, ["_law_script"], ok_law F T G_Disk_init G_Disk_crashed G_Draft_cancel G_Draft_commit G_Vault_init G_Vault_begin G_Vault_hold G_law_commit_right G_law_due G_law_is_version G_law_kept G_law_page_added G_law_take G_format_disk, hm, F.kp, (F.binds (ps := ["_law_script"]) fun _ _ _ _ _ _ us hl => match us, hl with | [_], _ => rfl)⟩
end
end G
namespace G
open PySem L2
def Pool (m : MO) : Prop := ∃ p0 p1 p2 p3 : Int, m = .lst [.int p0, .int p1, .int p2, .int p3] ∧ 0 ≤ p0 ∧ 0 ≤ p1
theorem atI_in {ns : List Int} {p : Int} (h0 : 0 ≤ p) (h1 : p < ns.length) : atI ns p = some (ns.getD p.toNat 0) := by
  unfold atI ixN
  rw [if_pos h0, if_pos h1]
  show ns[p.toNat]? = _
  have : p.toNat < ns.length := by omega
  rw [List.getD_eq_getElem?_getD, List.getElem?_eq_getElem this]
  rfl
theorem take_ok (ns : List Int) (n : Nat) (S : Store) (m : MO) (many : Int) (hS : sg S n = some m) (hp : Pool m) (h0 : 0 < many) (h9 : many.natAbs.log2 < 9000) :
    ∃ r m', fn_law_take [.scr ns, .ref n, .int many] S = .ok (.int r) (sp S n m') ∧ 0 ≤ r ∧ r < many ∧ Pool m' := by
  obtain ⟨p0, p1, p2, p3, rfl, g0, g1⟩ := hp
  have hn : n < S.length := sg_lt hS
  have mp : ∀ x : Int, 0 ≤ x % many ∧ x % many < many := fun x => ⟨Int.emod_nonneg _ (by omega), Int.emod_lt_of_pos _ h0⟩
  have a0 : ∀ a b c d : D, atI [a, b, c, d] 0 = some a := fun _ _ _ _ => rfl
  have a1 : ∀ a b c d : D, atI [a, b, c, d] 1 = some b := fun _ _ _ _ => rfl
  have a2 : ∀ a b c d : D, atI [a, b, c, d] 2 = some c := fun _ _ _ _ => rfl
  have a3 : ∀ a b c d : D, atI [a, b, c, d] 3 = some d := fun _ _ _ _ => rfl
  have b0 : ixN 4 0 = some 0 := rfl
  have b1 : ixN 4 1 = some 1 := rfl
  have b2 : ixN 4 2 = some 2 := rfl
  have b3 : ixN 4 3 = some 3 := rfl
  have l1 : (31 : Int) = 31 ∧ sm64 31 = true := ⟨rfl, by decide⟩
  have l2 : sm64 7919 = true := by decide
  have l3 : sm64 48271 = true := by decide
  have l4 : (Int.natAbs 10) < 18446744073709551616 := by decide
  have d1 : Nat.log2 1009 < 9000 := by decide +kernel
  have d2 : Nat.log2 2003 < 9000 := by decide +kernel
  have d3 : Nat.log2 16 < 9000 := by decide +kernel
  have s1 : ∀ x : Int, sm64 (x % 2147483647) = true := fun x => sm_mod _ (by decide) (by decide)
  have s2 : ∀ x : Int, sm64 (x % 2147483629) = true := fun x => sm_mod _ (by decide) (by decide)
  have dv : ∀ x : Int, 0 ≤ x → 0 ≤ x / many := fun x hx => Int.ediv_nonneg hx (by omega)
  unfold fn_law_take
  rw [run_eq]
  simp only [sem_law_take, startD]
  by_cases c1 : p1 = 0
  · subst c1
    by_cases c2 : p0 < ns.length
    · by_cases c3 : ns.getD p0.toNat 0 < 0
      · by_cases c4 : 1000000000000000000 ≤ -ns.getD p0.toNat 0
        · have c5 : 0 < -ns.getD p0.toNat 0 := by omega
          simp [hS, hn, rP, a0, a1, a2, a3, b0, b1, b2, b3, l1, l2, l3, l4, atI_in g0 c2, c2, c3, c4, c5, h0, h9, -List.getD_eq_getElem?_getD]
          exact ⟨_, _, ⟨rfl, rfl⟩, (mp _).1, (mp _).2, _, _, _, _, rfl, by omega, dv _ (by omega)⟩
        · simp [hS, hn, rP, a0, a1, a2, a3, b0, b1, b2, b3, l1, l2, l3, l4, atI_in g0 c2, c2, c3, c4, h0, h9, s1, s2, d1, d2, d3, -List.getD_eq_getElem?_getD]
          exact ⟨_, _, ⟨rfl, rfl⟩, (mp _).1, (mp _).2, _, _, _, _, rfl, by omega, by omega⟩
      · by_cases c4 : 1000000000000000000 ≤ ns.getD p0.toNat 0
        · have c5 : 0 < ns.getD p0.toNat 0 := by omega
          simp [hS, hn, rP, a0, a1, a2, a3, b0, b1, b2, b3, l1, l2, l3, l4, atI_in g0 c2, c2, c3, c4, c5, h0, h9, -List.getD_eq_getElem?_getD]
          exact ⟨_, _, ⟨rfl, rfl⟩, (mp _).1, (mp _).2, _, _, _, _, rfl, by omega, dv _ (by omega)⟩
        · simp [hS, hn, rP, a0, a1, a2, a3, b0, b1, b2, b3, l1, l2, l3, l4, atI_in g0 c2, c2, c3, c4, h0, h9, s1, s2, d1, d2, d3, -List.getD_eq_getElem?_getD]
          exact ⟨_, _, ⟨rfl, rfl⟩, (mp _).1, (mp _).2, _, _, _, _, rfl, by omega, by omega⟩
    · simp [hS, hn, rP, a0, a1, a2, a3, b0, b1, b2, b3, l1, l2, l3, l4, c2, h0, h9, s1, s2, d1, d2, d3, -List.getD_eq_getElem?_getD]
      exact ⟨_, _, ⟨rfl, rfl⟩, (mp _).1, (mp _).2, _, _, _, _, rfl, by omega, by omega⟩
  · have c5 : 0 < p1 := by omega
    simp [hS, hn, rP, a0, a1, a2, a3, b0, b1, b2, b3, l1, l2, l3, l4, c1, c5, h0, h9, -List.getD_eq_getElem?_getD]
    exact ⟨_, _, ⟨rfl, rfl⟩, (mp _).1, (mp _).2, _, _, _, _, rfl, by omega, dv _ (by omega)⟩
end G
namespace G
open PySem L2

/-- told and due are alike (live lists by what they hold) -/
inductive Sm (S : Store) : Nat → D → D → Prop
  | non {n : Nat} : Sm S n .non .non
  | bl {n : Nat} (b : Bool) : Sm S n (.bl b) (.bl b)
  | int {n : Nat} (i : Int) : Sm S n (.int i) (.int i)
  | str {n : Nat} (x : Str) : Sm S n (.str x) (.str x)
  | tup {n : Nat} {xs ys : List D} : xs.length = ys.length → xs.length ≤ 1000000 → (∀ (i : Nat) (x y : D), xs[i]? = some x → ys[i]? = some y → Sm S n x y) → Sm S (n + 1) (.tup xs) (.tup ys)
  | lst {n : Nat} {x y : D} {xs ys : List D} : lsOf S x = some xs → lsOf S y = some ys → xs.length = ys.length → xs.length ≤ 1000000 → (∀ (i : Nat) (x y : D), xs[i]? = some x → ys[i]? = some y → Sm S n x y) → Sm S (n + 1) x y
  | dct {n : Nat} {x y : D} {ks ls : List (Key × D)} (f g : Key → D) : dcOf S x = some ks → dcOf S y = some ls → kd S x = some .dct → kd S y = some .dct → ks.length = ls.length → ls.length ≤ 1000000 → (∀ kv ∈ ls, valK ks kv.1 = some (f kv.1) ∧ valK ls kv.1 = some (g kv.1)) → (∀ kv ∈ ls, Sm S n (f kv.1) (g kv.1)) → Sm S (n + 1) x y
theorem kd_nb {S : Store} {y : D} {k : Kd} (h : kd S y = some k) (hk : k ≠ .non) : isNb y = false := by
  cases y with
  | non => cases h; exact absurd rfl hk
  | _ => rfl
theorem ls_kd {S : Store} {x : D} {xs : List D} (h : lsOf S x = some xs) : kd S x = some .lst ∧ lenO S x = some xs.length ∧ isNb x = false ∧ (∀ i, ixO S x (.int i) = atI xs i) ∧ dcOf S x = none := by
  cases x with
  | lst ys => cases h; exact ⟨rfl, rfl, rfl, fun _ => rfl, rfl⟩
  | ref n =>
    rw [ls_refS] at h
    cases e : sg S n with
    | none => rw [e] at h; cases h
    | some mo =>
      rw [e] at h
      cases mo with
      | lst ys => cases h; simp [e]
      | _ => cases h
  | _ => cases h
theorem like_run {S : Store} {n : Nat} {x y : D} {xs ys : List D} (rec : List D → Store → Res D) (hl : xs.length = ys.length) (hz : xs.length ≤ 1000000) (ix : ∀ i, ixO S x (.int i) = atI xs i) (iy : ∀ i, ixO S y (.int i) = atI ys i) (dx : dcOf S x = none) (dy : dcOf S y = none)
    (h : ∀ (i : Nat) (a b : D), xs[i]? = some a → ys[i]? = some b → rec [a, b] S = .ok (.bl true) S) :
    compL ⟨(List.range ys.length).map fun i => D.int (i : Nat), none⟩ (ptN 2) mYes (mFn (ar 2 rec) (mCons (mOp ixA (mVar 0) (mVar 2)) (mCons (mOp ixA (mVar 1) (mVar 2)) mNil))) [some x, some y, none, none]
      ((List.range ys.length).map fun i => D.int (i : Nat)) 0 S = .ok ((List.range ys.length).map fun _ => D.bl true) S := by
  refine comp_map (fun i : Nat => D.int (i : Nat)) (fun _ => D.bl true) (List.range ys.length) 0 (fun i hi => ?_) ?_
  · have hi : i < ys.length := List.mem_range.mp hi
    have h1 : xs[i]? = some xs[i] := List.getElem?_eq_getElem (by omega)
    have h2 : ys[i]? = some ys[i] := List.getElem?_eq_getElem hi
    refine ⟨_, rfl, ?_⟩
    simp [dx, dy, ix, iy, atI_nat h1, atI_nat h2, h i _ _ h1 h2]
  · simp only [List.length_range]
    exact Nat.le_trans (by omega) (show 1000000 ≤ sizeLine by decide)
theorem like_ok {S : Store} : ∀ (n : Nat) {x y : D}, Sm S n x y → ∀ j, n < j → fn_law_like j [x, y] S = .ok (.bl true) S := by
  intro n
  induction n with
  | zero =>
    intro x y h j hj
    obtain ⟨j, rfl⟩ : ∃ i, j = i + 1 := ⟨j - 1, by omega⟩
    rw [fn_law_like, run_eq]
    simp only [sem_law_like, startD]
    cases h with
    | non => simp
    | bl b => simp [k_bool]
    | int i => simp [k_bool, k_int]
    | str z => simp [k_bool, k_int, k_str]
  | succ n ih =>
    intro x y h j hj
    obtain ⟨j, rfl⟩ : ∃ i, j = i + 1 := ⟨j - 1, by omega⟩
    rw [fn_law_like, run_eq]
    simp only [sem_law_like, startD]
    cases h with
    | non => simp
    | bl b => simp [k_bool]
    | int i => simp [k_bool, k_int]
    | str z => simp [k_bool, k_int, k_str]
    | @tup _ xs ys hl hz h =>
      have q := like_run (S := S) (n := n) (x := .tup xs) (y := .tup ys) (fn_law_like j) hl hz (fun _ => rfl) (fun _ => rfl) rfl rfl fun i a b h1 h2 => ih (h i a b h1 h2) j (by omega)
      have rr : smR (ys.length : Int) = true := smR_nat (by omega)
      simp [k_bool, k_int, k_str, k_dict, k_tuple, k_list, hl, rr, wipeD, q, all_bl]
    | @lst _ _ _ xs ys h1 h2 hl hz h =>
      obtain ⟨a1, a2, a3, a4, a5⟩ := ls_kd h1
      obtain ⟨b1, b2, b3, b4, b5⟩ := ls_kd h2
      have q := like_run (S := S) (n := n) (x := x) (y := y) (fn_law_like j) hl hz a4 b4 a5 b5 fun i a b h1 h2 => ih (h i a b h1 h2) j (by omega)
      have rr : smR (ys.length : Int) = true := smR_nat (by omega)
      simp [a1, a2, a5, b1, b2, b3, b5, k_bool, k_int, k_str, k_dict, k_tuple, k_list, hl, rr, wipeD, q, all_bl]
    | @dct _ _ _ ks ls f g h1 h2 k1 k2 hl hz hv h =>
      have nb := kd_nb k2 (by intro z; cases z)
      simp [nb, h1, h2, k1, k2, k_bool, k_int, k_str, k_dict, hl, wipeD]
      generalize hx : compL _ _ _ _ _ _ _ _ = w
      obtain ⟨zs, S2, rfl, rfl, rfl⟩ := Ok.g hx (compM (fun kv : Key × D => keyD kv.1) (fun _ => D.bl true) grd_none (fun kv hkv => ⟨_, rfl, by
        obtain ⟨v1, v2⟩ := hv kv hkv
        have r1 := ih (h kv hkv) j (by omega)
        simp [h1, h2, rInA2_some key_keyD, rIxA_key key_keyD, v1, v2, r1]⟩) (Nat.le_trans (by omega) (show 1000000 ≤ sizeLine by decide)))
      simp [all_bl]
end G
namespace G
open PySem L2
def kI : Kd → Bool
  | .int => true
  | _ => false
theorem isint_ok {S : Store} {d : D} {k : Kd} (h : kd S d = some k) : fn_is_integer [d] S = .ok (.bl (kI k)) S := by
  unfold fn_is_integer
  rw [run_eq]
  simp only [sem_is_integer, startD]
  cases k <;> simp [h, k_int, k_bool, kI]
@[simp] theorem isint_int {S : Store} {i : Int} : fn_is_integer [.int i] S = .ok (.bl true) S := isint_ok (k := .int) rfl
/-- a disk's object -/
abbrev dskM (dv : D) (p w : Nat) : MO := .ins "Disk" [("durable", dv), ("present", .ref p), ("waiting", .ref w)]
structure DiskAt (S : Store) (k p w : Nat) (dv : D) (pres wait : List D) : Prop where
  ob : sg S k = some (dskM dv p w)
  pr : sg S p = some (.lst pres)
  wt : sg S w = some (.lst wait)
  kp : k ≠ p
  kw : k ≠ w
  pw : p ≠ w
section
variable {S : Store} {k p w : Nat} {dv : D} {pres wait : List D}
theorem DiskAt.ext {S' : Store} (h : DiskAt S k p w dv pres wait) (e : Ext S S') : DiskAt S' k p w dv pres wait := ⟨e.get h.ob, e.get h.pr, e.get h.wt, h.kp, h.kw, h.pw⟩
theorem DiskAt.off {n : Nat} {m : MO} (h : DiskAt S k p w dv pres wait) (h1 : n ≠ k) (h2 : n ≠ p) (h3 : n ≠ w) : DiskAt (sp S n m) k p w dv pres wait :=
  ⟨by rw [sg_ne h1]; exact h.ob, by rw [sg_ne h2]; exact h.pr, by rw [sg_ne h3]; exact h.wt, h.kp, h.kw, h.pw⟩
theorem size_ok (h : DiskAt S k p w dv pres wait) : fn_Disk_size [.ref k] S = .ok (.int pres.length) S := by
  unfold fn_Disk_size
  rw [run_eq]
  simp only [sem_Disk_size, startD]
  simp [h.ob, h.pr]
theorem pending_ok (h : DiskAt S k p w dv pres wait) : fn_Disk_pending [.ref k] S = .ok (.lst wait) S := by
  unfold fn_Disk_pending
  rw [run_eq]
  simp only [sem_Disk_pending, startD]
  simp [h.ob, h.wt]
theorem isblock_int (h : DiskAt S k p w dv pres wait) (i : Int) : fn_Disk_is_block [.ref k, .int i] S = .ok (.bl (decide (0 ≤ i) && decide (i < pres.length))) S := by
  unfold fn_Disk_is_block
  rw [run_eq]
  simp only [sem_Disk_is_block, startD]
  by_cases c : 0 ≤ i <;> simp [h.ob, h.pr, c]
theorem isblock_no {d : D} {q : Kd} (h : DiskAt S k p w dv pres wait) (hd : kd S d = some q) (hq : kI q = false) : fn_Disk_is_block [.ref k, d] S = .ok (.bl false) S := by
  unfold fn_Disk_is_block
  rw [run_eq]
  simp only [sem_Disk_is_block, startD]
  simp [isint_ok hd, hq]
theorem check_ok (h : DiskAt S k p w dv pres wait) {i : Int} (h0 : 0 ≤ i) (h1 : i < pres.length) : fn_Disk_check_block [.ref k, .int i] S = .ok .non S := by
  unfold fn_Disk_check_block
  rw [run_eq]
  simp only [sem_Disk_check_block, startD]
  simp [h.ob, isblock_int h, h0, h1]
theorem check_no (h : DiskAt S k p w dv pres wait) {d : D} (e : fn_Disk_is_block [.ref k, d] S = .ok (.bl false) S) : fn_Disk_check_block [.ref k, d] S = .exc ⟨"BadBlock", [("block", d)]⟩ S := by
  unfold fn_Disk_check_block
  rw [run_eq]
  simp only [sem_Disk_check_block, startD]
  simp [h.ob, e, startD]
theorem read_ok (h : DiskAt S k p w dv pres wait) {i : Nat} {x : D} (hx : pres[i]? = some x) : fn_Disk_read [.ref k, .int i] S = .ok x S := by
  have hi := (List.getElem?_eq_some_iff.mp hx).1
  unfold fn_Disk_read
  rw [run_eq]
  simp only [sem_Disk_read, startD]
  simp [h.ob, h.pr, check_ok h (i := i) (by omega) (by omega), atI_nat hx]
theorem reads_ok {all : List D} {ρ : Sl} {a b : Nat} (h : DiskAt S k p w dv pres wait) (ha : ρ[a]? = some (some (.ref k))) (hab : b ≠ a) (hb : b < ρ.length) (hn : pres.length ≤ 100000) :
    compL ⟨all, none⟩ (ptN b) mYes (mMeth [("Disk", fn_Disk_read)] "read" 2 (mVar a) (mCons (mVar b) mNil)) ρ ((List.range pres.length).map fun i => D.int (i : Nat)) 0 S = .ok pres S := by
  have c := comp_map (all := all) (p := ptN b) (e := mMeth [("Disk", fn_Disk_read)] "read" 2 (mVar a) (mCons (mVar b) mNil)) (ρ := ρ) (S := S) (fun i : Nat => D.int (i : Nat)) (fun i : Nat => pres.getD i .non) (List.range pres.length) 0 (fun i hi => by
    have hi : i < pres.length := List.mem_range.mp hi
    refine ⟨_, rfl, ?_⟩
    have e1 : (ρ.set b (some (.int (i : Nat))))[a]? = some (some (.ref k)) := by rw [List.getElem?_set_ne hab]; exact ha
    have e2 : (ρ.set b (some (.int (i : Nat))))[b]? = some (some (.int (i : Nat))) := List.getElem?_set_self hb
    simp [e1, e2, h.ob, read_ok h (getD_at hi), -List.getD_eq_getElem?_getD]) (sz (by simp; omega))
  rw [range_getD] at c
  exact c
theorem read_no (h : DiskAt S k p w dv pres wait) {d : D} (e : fn_Disk_is_block [.ref k, d] S = .ok (.bl false) S) : fn_Disk_read [.ref k, d] S = .exc ⟨"BadBlock", [("block", d)]⟩ S := by
  unfold fn_Disk_read
  rw [run_eq]
  simp only [sem_Disk_read, startD]
  simp [h.ob, check_no h e]
end
/-- pages -/
def PgT (d : D) : Prop := ∃ (t : Str) (ls : List Int) (rest : List D), d = .tup (.str t :: .tup (ls.map D.int) :: rest) ∧ ls.length ≤ 1000
theorem page_true {S : Store} {d : D} (h : PgT d) : fn_is_page [d] S = .ok (.bl true) S := by
  obtain ⟨t, ls, rest, rfl, hl⟩ := h
  have c := comp_map (all := ls.map D.int) (p := ptN 3) (e := mFn (ar 1 fn_is_integer) (mCons (mVar 3) mNil)) (ρ := [some (.tup (.str t :: .tup (ls.map D.int) :: rest)), some (.str t), some (.tup (ls.map D.int)), none]) (S := S) D.int (fun _ => D.bl true) ls 0 (fun i _ => ⟨_, rfl, by simp⟩) (sz (by omega))
  have a0 : ∀ (a b : D) (r : List D), atI (a :: b :: r) 0 = some a := fun a b r => atI_nat (j := 0) rfl
  have a1 : ∀ (a b : D) (r : List D), atI (a :: b :: r) 1 = some b := fun a b r => atI_nat (j := 1) rfl
  unfold fn_is_page
  rw [run_eq]
  simp only [sem_is_page, startD]
  have lt : ¬ ((rest.length : Int) + 1 + 1 < 2) := by omega
  simp [k_tuple, k_str, lt, a0, a1, wipeD, c, all_bl]
section
variable {S : Store} {k p w : Nat} {dv : D} {pres wait : List D}
theorem write_ok (h : DiskAt S k p w dv pres wait) {i : Nat} {d : D} (hi : i < pres.length) (hd : d = .non ∨ PgT d) (hw : wait.length < 100000) :
    fn_Disk_write [.ref k, .int i, d] S = .ok .non (sp (sp S p (.lst (pres.set i d))) w (.lst (wait ++ [.tup [.int i, d]]))) := by
  have ii : ixN pres.length i = some i := by
    unfold ixN
    rw [if_pos (by omega), if_pos (by omega)]
    simp
  have hw' : wait.length < sizeLine := szl hw
  have hnn : sg (sp S p (.lst (pres.set i d))) k = some (dskM dv p w) := by rw [sg_ne (Ne.symm h.kp)]; exact h.ob
  have hww : sg (sp S p (.lst (pres.set i d))) w = some (.lst wait) := by rw [sg_ne h.pw]; exact h.wt
  unfold fn_Disk_write
  rw [run_eq]
  simp only [sem_Disk_write, startD]
  rcases hd with rfl | hd
  · simp [h.ob, h.pr, check_ok h (i := i) (by omega) (by omega), rP_some ii, hnn, hww, hw']
  · have hn : isNb d = false := by obtain ⟨t, ls, rest, rfl, _⟩ := hd; rfl
    simp [h.ob, h.pr, check_ok h (i := i) (by omega) (by omega), rP_some ii, hnn, hww, hw', hn, page_true hd]
theorem DiskAt.wrote (h : DiskAt S k p w dv pres wait) (i : Nat) (d : D) (x : D) : DiskAt (sp (sp S p (.lst (pres.set i d))) w (.lst (wait ++ [x]))) k p w dv (pres.set i d) (wait ++ [x]) := by
  refine ⟨?_, ?_, ?_, h.kp, h.kw, h.pw⟩
  · rw [sg_ne (Ne.symm h.kw), sg_ne (Ne.symm h.kp)]
    exact h.ob
  · rw [sg_ne (Ne.symm h.pw), sg_sp (sg_lt h.pr)]
  · rw [sg_sp (by rw [sp_len]; exact sg_lt h.wt)]
theorem flush_ok (h : DiskAt S k p w dv pres wait) : fn_Disk_flush [.ref k] S = .ok .non (sp S k (dskM (.lst pres) p S.length) ++ [.lst []]) ∧ DiskAt (sp S k (dskM (.lst pres) p S.length) ++ [.lst []]) k p S.length (.lst pres) pres [] := by
  have lk := sg_lt h.ob
  have lp := sg_lt h.pr
  refine ⟨?_, ?_, ?_, ?_, h.kp, by omega, by omega⟩
  · unfold fn_Disk_flush
    rw [run_eq]
    simp only [sem_Disk_flush, startD]
    have e1 : sg (sp S k (dskM (.lst pres) p w)) k = some (dskM (.lst pres) p w) := sg_sp lk
    have e2 : sg (sp S k (dskM (.lst pres) p w) ++ [.lst []]) k = some (dskM (.lst pres) p w) := by rw [sg_old (by rw [sp_len]; exact lk), e1]
    have e3 : ∀ m, sp (sp S k (dskM (.lst pres) p w) ++ [.lst []]) k m = sp S k m ++ [.lst []] := fun m => by rw [sp_old (by rw [sp_len]; exact lk), sp_sp]
    simp [h.ob, h.pr, e2, e3]
  · rw [sg_old (by rw [sp_len]; exact lk), sg_sp lk]
  · rw [sg_old (by rw [sp_len]; exact lp), sg_ne h.kp]
    exact h.pr
  · have : S.length = (sp S k (dskM (.lst pres) p S.length)).length := by rw [sp_len]
    conv => lhs; arg 2; rw [this]
    exact sg_new
theorem disk_new {S : Store} {n : Int} (h0 : 8 ≤ n) (h1 : n ≤ 400) : fn_Disk_init [.ref S.length, .int n] (S ++ [.ins "Disk" []]) = .ok .non (S ++ [dskM (.lst (List.replicate n.toNat .non)) (S.length + 1) (S.length + 2)] ++ [.lst (List.replicate n.toNat .non)] ++ [.lst []]) := by
  have rr : smR n = true := smR_int (by omega) (by omega)
  have z : n.toNat ≤ sizeLine := sz (by omega)
  have g0 : 0 ≤ n := by omega
  have fl : ∀ m : Nat, (List.replicate m [D.non]).flatten = List.replicate m D.non := fun m => by
    induction m with
    | zero => rfl
    | succ m ih => rw [List.replicate_succ, List.flatten_cons, ih, List.replicate_succ]; rfl
  unfold fn_Disk_init
  rw [run_eq]
  simp only [sem_Disk_init, startD]
  simp [c_LEAST_BLOCKS, c_MOST_BLOCKS, h0, h1, rr, z, g0, fl]
  done
end
end G
namespace G
open PySem L2
/-! ### pages that a law draws -/
/-- plain data of at most n levels -/
inductive Dat : Nat → D → Prop
  | non {n : Nat} : Dat n .non
  | bl {n : Nat} (b : Bool) : Dat n (.bl b)
  | int {n : Nat} (i : Int) : Dat n (.int i)
  | str {n : Nat} (x : Str) : Dat n (.str x)
  | tup {n : Nat} {xs : List D} : xs.length ≤ 1000000 → (∀ x ∈ xs, Dat n x) → Dat (n + 1) (.tup xs)
theorem Dat.sm {S : Store} : ∀ {n : Nat} {d : D}, Dat n d → Sm S n d d
  | _, _, .non => .non
  | _, _, .bl b => .bl b
  | _, _, .int i => .int i
  | _, _, .str x => .str x
  | _, _, .tup hl h => .tup rfl hl fun i x y h1 h2 => by
    rw [h1] at h2
    cases h2
    exact Dat.sm (h x (List.mem_of_getElem? h1))
theorem Dat.up {m : Nat} : ∀ {n : Nat} {d : D}, Dat n d → n ≤ m → Dat m d := by
  induction m with
  | zero =>
    intro n d h hm
    obtain rfl : n = 0 := by omega
    exact h
  | succ m ih =>
    intro n d h hm
    cases h with
    | non => exact .non
    | bl b => exact .bl b
    | int i => exact .int i
    | str x => exact .str x
    | tup hl h => exact .tup hl fun x hx => ih (h x hx) (by omega)
/-- a page: what is_page takes, with plain data -/
def Pg (d : D) : Prop := PgT d ∧ Dat 4 d
theorem Pg.mk {t : Str} {ls : List Int} {rest : List D} (hl : ls.length ≤ 1000) (hr : rest.length ≤ 1000) (h : ∀ x ∈ rest, Dat 3 x) : Pg (.tup (.str t :: .tup (ls.map D.int) :: rest)) := by
  refine ⟨⟨t, ls, rest, rfl, hl⟩, .tup (by simp; omega) fun x hx => ?_⟩
  rcases List.mem_cons.mp hx with rfl | hx
  · exact .str _
  · rcases List.mem_cons.mp hx with rfl | hx
    · exact .tup (by simp; omega) fun y hy => by
        obtain ⟨i, _, rfl⟩ := List.mem_map.mp hy
        exact .int i
    · exact h x hx
theorem log_small : ∀ n : Nat, n ≤ 1000 → n.log2 < 9000 := by decide +kernel
abbrev PoolAt (S : Store) : Prop := ∃ m, sg S 0 = some m ∧ Pool m
/-- a draw: a number below many; only the pool changes -/
structure Drawn (z : Int) (S : Store) (d : D) (S' : Store) : Prop where
  ex : ∃ r : Nat, d = .int r ∧ (r : Int) < z
  pool : PoolAt S'
  fr : Fr [0] S S'
  len : S'.length = S.length
theorem draw {ns : List Int} {S : Store} {z : Int} (hp : PoolAt S) (h0 : 0 < z := by decide) (h1 : z ≤ 1000 := by decide) : Ok (fn_law_take [.scr ns, .ref 0, .int z] S) (Drawn z S) := by
  obtain ⟨m, hS, hp⟩ := hp
  obtain ⟨many, rfl⟩ := Int.eq_ofNat_of_zero_le (Int.le_of_lt h0)
  obtain ⟨r, m', e, g1, l1, p1⟩ := take_ok ns 0 S m (many : Int) hS hp h0 (log_small many (by omega))
  obtain ⟨r, rfl⟩ := Int.eq_ofNat_of_zero_le g1
  exact Ok.of e ⟨⟨r, rfl, l1⟩, ⟨m', sg_sp (sg_lt hS), p1⟩, Fr.put (by simp), sp_len⟩
theorem atI_mem {α : Type} {xs : List α} {r : Nat} (h : r < xs.length) : ∃ x, atI xs (r : Int) = some x ∧ x ∈ xs := ⟨xs[r], atI_nat (List.getElem?_eq_getElem h), List.getElem_mem h⟩
theorem str_at {S : Store} {t : Str} {r : Nat} (h : r < t.length) (hs : t.length ≤ 100000) : ∃ c, ixO S (.str t) (.int r) = some (.str ⟨#[c]⟩) := by
  obtain ⟨c, a1, a2⟩ := atI_mem (xs := cs t) h
  refine ⟨c, ?_⟩
  unfold ixO
  dsimp only
  rw [if_pos (sz hs)]
  show (atI (cs t) (r : Int)).map _ = _
  rw [a1]
  rfl
theorem join_ok {S : Store} {ys : List D} {bs : List Str} (h : stsO ys = some bs) (hl : (bs.map fun b : Str => b.length).sum ≤ 100000) : joinD (.str "") [.lst ys] S = .ok (.str (Txt.join "" bs)) S := by
  unfold joinD
  simp [h]
  rw [show (Str.ofString "").length = 0 from rfl]
  omega
theorem ones_sum' (l : List Nat) : ((l.map fun c => (⟨#[c]⟩ : Str)).map fun b : Str => b.length).sum = l.length := by
  rw [List.map_map]
  exact ones_sum l
theorem ints_ex : ∀ {zs : List D}, (∀ d ∈ zs, ∃ i : Int, d = .int i) → ∃ ls : List Int, zs = ls.map D.int
  | [], _ => ⟨[], rfl⟩
  | z :: zs, h => by
    obtain ⟨i, rfl⟩ := h z (by simp)
    obtain ⟨ls, rfl⟩ := ints_ex (zs := zs) fun d hd => h d (by simp [hd])
    exact ⟨i :: ls, rfl⟩
end G
namespace G
open PySem L2
/-! ### plain data, as a test -/
mutual
def dtB : Nat → D → Bool
  | _, .non => true
  | _, .bl _ => true
  | _, .int _ => true
  | _, .str _ => true
  | n + 1, .tup xs => Nat.ble xs.length 1000 && dtL n xs
  | n + 1, .lst xs => Nat.ble xs.length 1000 && dtL n xs
  | n + 1, .dct xs => Nat.ble xs.length 1000 && dtK n xs
  | _, _ => false
def dtL : Nat → List D → Bool
  | _, [] => true
  | n, d :: ds => dtB n d && dtL n ds
def dtK : Nat → List (Key × D) → Bool
  | _, [] => true
  | n, (_, d) :: ds => dtB n d && dtK n ds
end
theorem dtL_mem {n : Nat} : ∀ {xs : List D}, dtL n xs = true → ∀ x ∈ xs, dtB n x = true
  | [], _, x, hx => nomatch hx
  | d :: ds, h, x, hx => by
    unfold dtL at h
    obtain ⟨h1, h2⟩ := Bool.and_eq_true_iff.mp h
    rcases List.mem_cons.mp hx with rfl | hx
    · exact h1
    · exact dtL_mem h2 x hx
theorem dtK_mem {n : Nat} : ∀ {xs : List (Key × D)}, dtK n xs = true → ∀ x ∈ xs, dtB n x.2 = true
  | [], _, x, hx => nomatch hx
  | (_, d) :: ds, h, x, hx => by
    unfold dtK at h
    obtain ⟨h1, h2⟩ := Bool.and_eq_true_iff.mp h
    rcases List.mem_cons.mp hx with rfl | hx
    · exact h1
    · exact dtK_mem h2 x hx
theorem dtB_sm {S : Store} : ∀ {n : Nat} {d : D}, dtB n d = true → Sm S n d d := by
  intro n
  induction n with
  | zero =>
    intro d h
    cases d with
    | non => exact .non
    | bl b => exact .bl b
    | int i => exact .int i
    | str x => exact .str x
    | _ => cases h
  | succ n ih =>
    intro d h
    cases d with
    | non => exact .non
    | bl b => exact .bl b
    | int i => exact .int i
    | str x => exact .str x
    | tup xs =>
      unfold dtB at h
      obtain ⟨h1, h2⟩ := Bool.and_eq_true_iff.mp h
      have h1 := Nat.le_of_ble_eq_true h1
      exact .tup rfl (by omega) fun i a b e1 e2 => by
        rw [e1] at e2
        cases e2
        exact ih (dtL_mem h2 a (List.mem_of_getElem? e1))
    | lst xs =>
      unfold dtB at h
      obtain ⟨h1, h2⟩ := Bool.and_eq_true_iff.mp h
      have h1 := Nat.le_of_ble_eq_true h1
      exact .lst rfl rfl rfl (by omega) fun i a b e1 e2 => by
        rw [e1] at e2
        cases e2
        exact ih (dtL_mem h2 a (List.mem_of_getElem? e1))
    | dct xs =>
      unfold dtB at h
      obtain ⟨h1, h2⟩ := Bool.and_eq_true_iff.mp h
      have h1 := Nat.le_of_ble_eq_true h1
      have q : ∀ kv ∈ xs, ∃ d, valK xs kv.1 = some d ∧ dtB n d = true := fun kv hkv => by
        unfold valK
        cases e : xs.find? fun x => decide (x.1 = kv.1) with
        | none =>
          have := List.find?_eq_none.mp e kv hkv
          simp at this
        | some z => exact ⟨z.2, rfl, dtK_mem h2 z (List.mem_of_find?_eq_some e)⟩
      refine .dct (fun k => (valK xs k).getD .non) (fun k => (valK xs k).getD .non) rfl rfl rfl rfl rfl (by omega) (fun kv hkv => ?_) fun kv hkv => ?_
      · obtain ⟨d, e, _⟩ := q kv hkv
        rw [e]
        exact ⟨rfl, rfl⟩
      · obtain ⟨d, e, hd⟩ := q kv hkv
        rw [e]
        exact ih hd
    | _ => cases h
/-- taken out of a written list -/
theorem at_all {xs : List D} {r : Nat} (h : r < xs.length) (p : D → Bool) (hp : xs.all p = true) : ∃ d, atI xs (r : Int) = some d ∧ d ∈ xs ∧ p d = true := by
  obtain ⟨d, h1, h2⟩ := atI_mem h
  exact ⟨d, h1, h2, List.all_eq_true.mp hp d h2⟩
end G
namespace G
open PySem L2
/-! ### where links lead -/
inductive Reach (lk : Nat → List Nat) (rs : List Nat) : Nat → Prop
  | root {b : Nat} : b ∈ rs → Reach lk rs b
  | step {a b : Nat} : Reach lk rs a → b ∈ lk a → Reach lk rs b
theorem Reach.closed {lk : Nat → List Nat} {rs F : List Nat} (h1 : ∀ r ∈ rs, r ∈ F) (h2 : ∀ a ∈ F, ∀ b ∈ lk a, b ∈ F) : ∀ {b : Nat}, Reach lk rs b → b ∈ F
  | _, .root h => h1 _ h
  | _, .step h e => h2 _ (Reach.closed h1 h2 h) _ e
theorem Reach.mono {lk : Nat → List Nat} {rs ts : List Nat} (h : ∀ r ∈ rs, r ∈ ts) : ∀ {b : Nat}, Reach lk rs b → Reach lk ts b
  | _, .root e => .root (h _ e)
  | _, .step q e => .step (Reach.mono h q) e
/-- links that change outside of what is reached -/
theorem Reach.same {lk lk' : Nat → List Nat} {rs : List Nat} (h : ∀ b, Reach lk rs b → lk' b = lk b) : ∀ {b : Nat}, Reach lk rs b ↔ Reach lk' rs b := by
  have f : ∀ {b : Nat}, Reach lk rs b → Reach lk' rs b := fun {b} q => by
    induction q with
    | root e => exact .root e
    | step q e ih => exact .step ih (by rw [h _ q]; exact e)
  have g : ∀ {b : Nat}, Reach lk' rs b → Reach lk rs b := fun {b} q => by
    induction q with
    | root e => exact .root e
    | step q e ih => exact .step ih (by rw [← h _ ih]; exact e)
  exact fun {b} => ⟨f, g⟩
theorem Reach.split {lk : Nat → List Nat} {rs : List Nat} : ∀ {b : Nat}, Reach lk rs b → ∃ r ∈ rs, Reach lk [r] b
  | _, .root e => ⟨_, e, .root (by simp)⟩
  | _, .step q e => by
    obtain ⟨r, h1, h2⟩ := Reach.split q
    exact ⟨r, h1, .step h2 e⟩
/-- the links of a page -/
def lkI : List D → List Int
  | [] => []
  | .int i :: ds => i :: lkI ds
  | _ :: ds => lkI ds
theorem lkI_map : ∀ ls : List Int, lkI (ls.map D.int) = ls
  | [] => rfl
  | i :: ls => by
    show i :: lkI (ls.map D.int) = _
    rw [lkI_map ls]
def inR (n : Nat) (i : Int) : Bool := decide (2 ≤ i) && decide (i < n)
def lkP (n : Nat) (d : D) : List Nat := match d with
  | .tup (_ :: .tup ls :: _) => ((lkI ls).filter (inR n)).map Int.toNat
  | _ => []
def lkS (n : Nat) (pres : List D) (b : Nat) : List Nat := lkP n (pres.getD b .non)
theorem lkP_in {n : Nat} {d : D} : ∀ b ∈ lkP n d, 2 ≤ b ∧ b < n := by
  intro b hb
  unfold lkP at hb
  split at hb
  · obtain ⟨i, hi, rfl⟩ := List.mem_map.mp hb
    have h := (List.mem_filter.mp hi).2
    unfold inR at h
    simp at h
    omega
  · cases hb
theorem Reach.inn {n : Nat} {pres : List D} {rs : List Nat} (h : ∀ r ∈ rs, 2 ≤ r ∧ r < n) : ∀ {b : Nat}, Reach (lkS n pres) rs b → 2 ≤ b ∧ b < n
  | _, .root e => h _ e
  | _, .step q e => lkP_in _ e
theorem few : ∀ (k : Nat) (l : List Nat), l.Nodup → (∀ g ∈ l, 2 ≤ g ∧ g < 2 + k) → l.length ≤ k
  | 0, l, _, h => by
    cases l with
    | nil => exact Nat.le_refl _
    | cons g l => have := h g List.mem_cons_self; omega
  | k + 1, l, hn, h => by
    by_cases c : 2 + k ∈ l
    · have := few k (l.erase (2 + k)) (hn.erase _) fun g hg => by
        have h1 := h g (List.mem_of_mem_erase hg)
        have h2 : g ≠ 2 + k := fun e => by
          rw [e] at hg
          exact absurd hg (List.Nodup.not_mem_erase hn)
        omega
      rw [List.length_erase_of_mem c] at this
      omega
    · have := few k l hn fun g hg => by
        have h1 := h g hg
        have h2 : g ≠ 2 + k := fun e => c (e ▸ hg)
        omega
      omega
/-- what is left to be walked -/
def cost (f : Nat → Nat) (F : List Nat) (l : List Nat) : Nat := ((l.filter fun b => decide (b ∉ F)).map f).sum
theorem cost_snoc {f : Nat → Nat} {F : List Nat} {y : Nat} (hy : y ∉ F) : ∀ {l : List Nat}, l.Nodup → y ∈ l → cost f (F ++ [y]) l + f y = cost f F l
  | [], _, h => nomatch h
  | x :: l, hn, h => by
    rw [List.nodup_cons] at hn
    unfold cost
    by_cases e : x = y
    · subst e
      have e1 : (l.filter fun b => decide (b ∉ F ++ [x])) = l.filter fun b => decide (b ∉ F) := by
        apply List.filter_congr
        intro b hb
        have : b ≠ x := fun z => hn.1 (z ▸ hb)
        simp [this]
      rw [List.filter_cons_of_neg (by simp), List.filter_cons_of_pos (by simpa using hy), List.map_cons, List.sum_cons, e1]
      omega
    · have hl : y ∈ l := by
        rcases List.mem_cons.mp h with h | h
        · exact absurd h.symm e
        · exact h
      have ih := cost_snoc (f := f) hy hn.2 hl
      unfold cost at ih
      by_cases c : x ∈ F
      · rw [List.filter_cons_of_neg (by simp [c]), List.filter_cons_of_neg (by simp [c])]
        exact ih
      · rw [List.filter_cons_of_pos (by simp [c, e]), List.filter_cons_of_pos (by simp [c]), List.map_cons, List.map_cons, List.sum_cons, List.sum_cons]
        omega
theorem cost_le {f : Nat → Nat} {F : List Nat} {k : Nat} (h : ∀ b, f b ≤ k) : ∀ l : List Nat, cost f F l ≤ k * l.length
  | [] => by unfold cost; simp
  | x :: l => by
    have ih := cost_le (F := F) h l
    have hx := h x
    unfold cost at ih ⊢
    rw [List.length_cons, Nat.mul_succ]
    by_cases c : x ∈ F
    · rw [List.filter_cons_of_neg (by simp [c])]
      omega
    · rw [List.filter_cons_of_pos (by simp [c]), List.map_cons, List.sum_cons]
      omega
theorem lkS_len {n : Nat} {pres : List D} (hp : ∀ d ∈ pres, d = .non ∨ PgT d) {b : Nat} : (lkS n pres b).length ≤ 1000 := by
  have q : ∀ d, (d = .non ∨ PgT d) → (lkP n d).length ≤ 1000 := by
    rintro d (rfl | ⟨t, ls, rest, rfl, hl⟩)
    · exact Nat.zero_le _
    · show (((lkI (ls.map D.int)).filter (inR n)).map Int.toNat).length ≤ 1000
      rw [lkI_map, List.length_map]
      exact Nat.le_trans (List.length_filter_le _ _) hl
  unfold lkS
  by_cases hb : b < pres.length
  · exact q _ (hp _ (List.mem_of_getElem? (getD_at hb)))
  · rw [List.getD_eq_getElem?_getD, List.getElem?_eq_none (by omega)]
    exact q _ (.inl rfl)
/-! ### used_blocks -/
theorem scVs_ints : ∀ l : List Nat, scVs (l.map fun g => D.int (g : Nat)) = some (l.map fun g => V.int (g : Nat))
  | [] => rfl
  | g :: l => by
    rw [List.map_cons]
    unfold scVs
    rw [scVs_ints l]
    rfl
theorem inV_ints {i : Int} : ∀ l : List Nat, inV (.int i) (l.map fun g => V.int (g : Nat)) = decide (∃ g ∈ l, (g : Int) = i) := fun l => by
  unfold inV
  induction l with
  | nil => simp
  | cons g l ih =>
    simp [ih]
    congr 1
theorem in_lst {S : Store} {x : D} {l : List Nat} {b : Nat} (h : lsOf S x = some (l.map fun g => D.int (g : Nat))) (hx : ∀ z, x ≠ .str z) (ht : ∀ z, x ≠ .tup z) : inB S (.int b) x = some (decide (b ∈ l)) := by
  have e : inB S (.int b) x = (match lsOf S x with
    | some ds => (match scV (.int b), scVs ds with
      | some v, some vs => some (inV v vs)
      | _, _ => none)
    | none => none) := by
    cases x with
    | str z => exact absurd rfl (hx z)
    | tup z => exact absurd rfl (ht z)
    | _ => rfl
  rw [e, h]
  dsimp only
  rw [scVs_ints, show scV (.int (b : Int)) = some (.int (b : Int)) from rfl]
  dsimp only
  rw [inV_ints]
  congr 1
  rw [decide_eq_decide]
  constructor
  · rintro ⟨g, hg, e⟩
    rw [← Int.ofNat_inj.mp e]
    exact hg
  · exact fun h => ⟨b, h, rfl⟩
theorem in_nats {S : Store} {n : Nat} {l : List Nat} {b : Nat} (h : sg S n = some (.lst (l.map fun g => D.int (g : Nat)))) : inB S (.int b) (.ref n) = some (decide (b ∈ l)) :=
  in_lst (by rw [ls_refS, h]; rfl) (fun _ z => nomatch z) (fun _ z => nomatch z)
def tD (F : List Nat) : List (Key × D) := F.map fun b : Nat => (.inl (b : Int), .bl true)
theorem tD_val {F : List Nat} {b : Nat} : (valK (tD F) (.inl (b : Int))).isSome = decide (b ∈ F) := by
  unfold valK tD
  induction F with
  | nil => rfl
  | cons x F ih =>
    rw [List.map_cons, List.find?_cons]
    by_cases e : x = b
    · subst e
      simp
    · have e2 : decide ((Sum.inl (x : Int) : Key) = .inl (b : Int)) = false := by
        rw [decide_eq_false_iff_not]
        intro z
        cases z
        exact e rfl
      rw [e2]
      dsimp only
      rw [ih]
      have : ¬ b = x := fun z => e z.symm
      simp [this]
theorem tD_put {F : List Nat} {b : Nat} (h : b ∉ F) : putKD (tD F) (.inl (b : Int)) (.bl true) = tD (F ++ [b]) := by
  have e : ((tD F).any fun kv => decide (kv.1 = .inl (b : Int))) = false := by
    unfold tD
    rw [List.any_map, List.any_eq_false]
    intro x hx
    show ¬ decide ((Sum.inl (x : Int) : Key) = .inl (b : Int)) = true
    intro z
    have z := of_decide_eq_true z
    cases z
    exact h hx
  unfold putKD
  rw [e]
  simp [tD]
def rD (r : Option Nat) : D := match r with
  | some b => .int (b : Nat)
  | none => .non
theorem isroot_ok {S : Store} {k p w : Nat} {dv : D} {pres wait : List D} (h : DiskAt S k p w dv pres wait) (i : Int) : fn_is_root [.ref k, .int i] S = .ok (.bl (inR pres.length i)) S := by
  unfold fn_is_root
  rw [run_eq]
  simp only [sem_is_root, startD]
  by_cases c : 2 ≤ i <;> simp [h.ob, c_METAS, size_ok h, c, inR]
theorem used_ok {S : Store} {k p w : Nat} {dv : D} {pres wait : List D} (h : DiskAt S k p w dv pres wait) (h4 : pres.length ≤ 400) (hp : ∀ d ∈ pres, d = .non ∨ PgT d) {rs : List (Option Nat)} (hr : ∀ r ∈ rs, ∀ b, r = some b → 2 ≤ b ∧ b < pres.length) (hl : rs.length ≤ 1000) :
    Ok (fn_used_blocks [.ref k, .lst (rs.map rD)] S) fun d S' => Ext S S' ∧ ∃ m F, d = .ref m ∧ sg S' m = some (.dct (tD F)) ∧ ∀ b, b ∈ F ↔ Reach (lkS pres.length pres) (rs.filterMap id) b := by
  generalize hn : pres.length = n at *
  generalize hrl : rs.filterMap id = rl
  have hrl' : ∀ r ∈ rl, 2 ≤ r ∧ r < n := fun r hr' => by
    rw [← hrl] at hr'
    obtain ⟨o, h1, h2⟩ := List.mem_filterMap.mp hr'
    exact hr o h1 r h2
  have lrl : rl.length ≤ 1000 := by rw [← hrl]; exact Nat.le_trans (List.length_filterMap_le _ _) hl
  unfold fn_used_blocks
  rw [run_eq]
  simp only [sem_used_blocks, startD]
  simp [wipeD]
  generalize hx : compL _ _ _ _ _ _ _ _ = x
  obtain ⟨ys, S0, rfl, hys, rfl⟩ := Ok.g hx (compP (xs := rs) rD rD (fun r => r.isSome) grd_none (fun r _ => ⟨_, rfl, by cases r <;> simp [rD], fun _ => by simp⟩) (sz (by omega)))
  have ey : ys = rl.map fun g => D.int (g : Nat) := by
    rw [hys, ← hrl]
    clear hx hys hr hl hrl hrl' lrl
    induction rs with
    | nil => rfl
    | cons r rs ih =>
      cases r with
      | none => simpa [rD] using ih
      | some b => simpa [rD] using ih
  clear hx
  subst ey
  simp
  have H0 : ∀ T, DiskAt (S ++ T) k p w dv pres wait := fun T => h.ext Ext.app
  have cl := cost_le (f := fun b => (lkS n pres b).length) (F := []) (k := 1000) (fun b => lkS_len hp) (List.range n)
  rw [List.length_range] at cl
  generalize hx : whileF _ _ _ _ _ = x
  obtain ⟨_, S3, rfl, ⟨m', F, W, e1, e2, e0, e3, e4, e5, e6, x4, x5, e7⟩, hc⟩ := OkN.g hx (whI (fun m ρ S' => ∃ F W : List Nat, S' = S ++ [.dct (tD F), .lst (W.map fun g => .int (g : Nat))] ∧ m = W.length + cost (fun b => (lkS n pres b).length) F (List.range n) ∧ m ≤ 600000 ∧ F.Nodup ∧ (∀ b, b ∈ F ∨ b ∈ W → Reach (lkS n pres) rl b) ∧ (∀ r ∈ rl, r ∈ F ∨ r ∈ W) ∧ (∀ a ∈ F, ∀ b ∈ lkS n pres a, b ∈ F ∨ b ∈ W) ∧ ∃ x4 x5, ρ = [some (.ref k), some (.lst (rs.map rD)), some (.ref S.length), some (.ref (S.length + 1)), x4, x5, none, none])
    (fun m ρ S' ⟨F, W, e1, e2, e0, e3, e4, e5, e6, x4, x5, e7⟩ => by
      subst e1
      subst e7
      rcases List.eq_nil_or_concat W with rfl | ⟨W1, y, rfl⟩
      · exact ⟨false, by simp, fun z => nomatch z⟩
      · rw [List.concat_eq_append] at *
        refine ⟨true, by simp, fun _ => ?_⟩
        have hy := e4 y (.inr (by simp))
        obtain ⟨y2, yn⟩ := hy.inn hrl'
        have mp : (W1 ++ [y]).map (fun g => D.int (g : Nat)) = W1.map (fun g => D.int (g : Nat)) ++ [.int y] := by simp
        have pl : rPopO (some (.lst ((W1 ++ [y]).map fun g => D.int (g : Nat)))) (S.length + 1) (S ++ [.dct (tD F), .lst ((W1 ++ [y]).map fun g => .int (g : Nat))]) = .ok (.int y) (S ++ [.dct (tD F), .lst (W1.map fun g => .int (g : Nat))]) := by
          rw [rPop_some (y := .int y) (by simp), sp_a1, mp, List.dropLast_concat]
        by_cases c : y ∈ F
        · simp only [mp] at pl
          simp [pl, tD_val, c]
          refine ⟨_, ?_, F, W1, ⟨rfl, rfl⟩, rfl, ?_, e3, fun b hb => e4 b (hb.imp id fun z => by simp [z]), fun r hr => ?_, fun a ha b hb => ?_⟩
          · rw [e2]
            simp
          · rw [e2] at e0
            simp at e0
            omega
          · rcases e5 r hr with h1 | h1
            · exact .inl h1
            · simp at h1
              rcases h1 with h1 | rfl
              · exact .inr h1
              · exact .inl c
          · rcases e6 a ha b hb with h1 | h1
            · exact .inl h1
            · simp at h1
              rcases h1 with h1 | rfl
              · exact .inr h1
              · exact .inl c
        · have pa := putA_dct (S := S ++ [.dct (tD F), .lst (W1.map fun g => .int (g : Nat))]) (n := S.length) (y := .int y) (v := .bl true) (kvs := tD F) (k := .inl (y : Int)) (by simp) rfl (szl (by
            unfold tD
            rw [List.length_map]
            have := few (n - 2) F e3 fun b hb => by have := (e4 b (.inl hb)).inn hrl'; omega
            omega))
          rw [tD_put c, sp_a0] at pa
          have hd : pres[y]? = some (pres.getD y .non) := getD_at (by omega)
          have rd := fun T => read_ok (H0 T) hd
          have cs := cost_snoc (f := fun b => (lkS n pres b).length) c (l := List.range n) List.nodup_range (List.mem_range.mpr yn)
          have done : ∀ W2 : List Nat, W2 = W1 ++ lkS n pres y → ∃ m', m' < m ∧ (∃ F' W : List Nat, S ++ [.dct (tD (F ++ [y])), .lst (W2.map fun g => D.int (g : Nat))] = S ++ [.dct (tD F'), .lst (W.map fun g => .int (g : Nat))] ∧ m' = W.length + cost (fun b => (lkS n pres b).length) F' (List.range n) ∧ m' ≤ 600000 ∧ F'.Nodup ∧ (∀ b, b ∈ F' ∨ b ∈ W → Reach (lkS n pres) rl b) ∧ (∀ r ∈ rl, r ∈ F' ∨ r ∈ W) ∧ (∀ a ∈ F', ∀ b ∈ lkS n pres a, b ∈ F' ∨ b ∈ W)) := by
            rintro W2 rfl
            refine ⟨_, ?_, F ++ [y], W1 ++ lkS n pres y, rfl, rfl, ?_, ?_, ?_, ?_, ?_⟩
            · rw [e2]
              simp only [List.length_append, List.length_cons, List.length_nil]
              have cs := cs
              omega
            · rw [e2] at e0
              simp only [List.length_append, List.length_cons, List.length_nil] at e0 ⊢
              have cs := cs
              omega
            · rw [List.nodup_append]
              refine ⟨e3, by simp, fun a ha b hb e => ?_⟩
              simp at hb
              subst hb
              subst e
              exact c ha
            · intro b hb
              simp only [List.mem_append, List.mem_cons, List.not_mem_nil, or_false] at hb
              rcases hb with (hb | rfl) | hb | hb
              · exact e4 b (.inl hb)
              · exact hy
              · exact e4 b (.inr (by simp [hb]))
              · exact .step hy hb
            · intro r hr
              simp only [List.mem_append, List.mem_cons, List.not_mem_nil, or_false]
              rcases e5 r hr with h1 | h1
              · exact .inl (.inl h1)
              · simp at h1
                rcases h1 with h1 | rfl
                · exact .inr (.inl h1)
                · exact .inl (.inr rfl)
            · intro a ha b hb
              simp only [List.mem_append, List.mem_cons, List.not_mem_nil, or_false] at ha ⊢
              rcases ha with ha | rfl
              · rcases e6 a ha b hb with h1 | h1
                · exact .inl (.inl h1)
                · simp at h1
                  rcases h1 with h1 | rfl
                  · exact .inr (.inl h1)
                  · exact .inl (.inr rfl)
              · exact .inr (.inr hb)
          simp only [mp] at pl
          rcases hp _ (List.mem_of_getElem? hd) with hnn | ⟨t, ls, rest, hpg, hlen⟩
          · have ez : lkS n pres y = [] := by
              unfold lkS
              rw [hnn]
              rfl
            have rd' := fun T => rd T
            rw [hnn] at rd'
            simp [pl, tD_val, c, pa, (H0 _).ob, rd']
            obtain ⟨m', q1, F', W', q2, q3⟩ := done W1 (by rw [ez, List.append_nil])
            exact ⟨m', q1, F', W', by simpa using q2, q3⟩
          · have ez : lkS n pres y = (ls.filter (inR n)).map Int.toNat := by
              unfold lkS
              rw [hpg]
              show ((lkI (ls.map D.int)).filter (inR n)).map Int.toNat = _
              rw [lkI_map]
            have rd' := fun T => rd T
            rw [hpg] at rd'
            have ix : ∀ S, ixO S (.tup (.str t :: .tup (ls.map D.int) :: rest)) (.int 1) = some (.tup (ls.map D.int)) := fun S => atI_nat (j := 1) rfl
            simp [pl, tD_val, c, pa, (H0 _).ob, rd', ix, wipeD]
            generalize hx : compL _ _ _ _ _ _ _ _ = x
            obtain ⟨zs, S5, rfl, rfl, rfl⟩ := Ok.g hx (compP (xs := ls) D.int D.int (inR n) grd_none (fun i _ => ⟨_, rfl, by
              have := isroot_ok (H0 [.dct (tD (F ++ [y])), .lst (W1.map fun g => .int (g : Nat))]) i
              rw [hn] at this
              simp [this], fun _ => by simp⟩) (sz (by omega)))
            have ed : (ls.filter (inR n)).map D.int = (lkS n pres y).map fun g => D.int (g : Nat) := by
              rw [ez, List.map_map]
              apply List.map_congr_left
              intro i hi
              have h := (List.mem_filter.mp hi).2
              unfold inR at h
              simp at h
              show D.int i = D.int ((i.toNat : Nat) : Int)
              rw [show ((i.toNat : Nat) : Int) = i by omega]
            have zl : W1.length + (ls.filter (inR n)).length ≤ sizeLine := by
              have h1 := List.length_filter_le (inR n) ls
              have h2 : W1.length ≤ 600000 := by
                rw [e2] at e0
                simp only [List.length_append, List.length_cons, List.length_nil] at e0
                omega
              exact Nat.le_trans (show _ ≤ 1000000 by omega) (by decide)
            simp [zl]
            obtain ⟨m', q1, F', W', q2, q3⟩ := done (W1 ++ lkS n pres y) rfl
            exact ⟨m', q1, F', W', by rw [ed]; simpa using q2, q3⟩)
    wFuel (rl.length + cost (fun b => (lkS n pres b).length) [] (List.range n)) _ _ (show _ < 1000000 by omega) ⟨[], rl, (show _ = S ++ [.dct [], .lst (rl.map fun g => D.int (g : Nat))] from rfl), rfl, by omega, List.nodup_nil, (fun b hb => .root (hb.elim (fun z => nomatch z) id)), fun r hr => .inr hr, (fun a ha => nomatch ha), _, _, rfl⟩)
  subst e1
  subst e7
  simp at hc
  subst hc
  simp
  refine ⟨Ext.app, F, rfl, fun b => ⟨fun hb => e4 b (.inl hb), fun hb => ?_⟩⟩
  exact Reach.closed (fun r hr => (e5 r hr).elim id fun z => nomatch z) (fun a ha b hb => (e6 a ha b hb).elim id fun z => nomatch z) hb
end G
namespace G
open PySem L2
/-! ### the law's own going along the links -/
/-- the law's pages are those of the disk -/
structure Agree (n : Nat) (P : List (Key × D)) (pres : List D) : Prop where
  yes : ∀ (b : Nat) (d : D), valK P (.inl (b : Int)) = some d → 2 ≤ b ∧ b < n ∧ pres[b]? = some d ∧ PgT d
  cl : ∀ (b : Nat) (d : D), valK P (.inl (b : Int)) = some d → ∀ c ∈ lkS n pres b, (valK P (.inl (c : Int))).isSome = true
theorem Agree.reach {n : Nat} {P : List (Key × D)} {pres : List D} {rl : List Nat} (hA : Agree n P pres) (h : ∀ r ∈ rl, (valK P (.inl (r : Int))).isSome = true) : ∀ {b : Nat}, Reach (lkS n pres) rl b → (valK P (.inl (b : Int))).isSome = true
  | _, .root hb => h _ hb
  | _, .step ha hb => by
    have h1 := hA.reach h ha
    obtain ⟨d, hd⟩ := Option.isSome_iff_exists.mp h1
    exact hA.cl _ d hd _ hb
theorem srt_nats (l : List Nat) : ∃ l' : List Nat, srt (l.map fun g : Nat => (g : Int)) = l'.map (fun g : Nat => (g : Int)) ∧ l'.length = l.length ∧ (∀ b, b ∈ l' ↔ b ∈ l) ∧ l'.Perm l := by
  have hp := srt_perm (l.map fun g : Nat => (g : Int))
  have hm : ∀ i ∈ srt (l.map fun g : Nat => (g : Int)), ∃ g : Nat, g ∈ l ∧ (g : Int) = i := fun i hi => List.mem_map.mp (hp.mem_iff.mp hi)
  refine ⟨(srt (l.map fun g : Nat => (g : Int))).map Int.toNat, ?_, by rw [List.length_map, hp.length_eq, List.length_map], fun b => ?_, ?_⟩
  · rw [List.map_map]
    symm
    rw [← List.map_id (srt (l.map fun g : Nat => (g : Int)))]
    rw [List.map_map]
    apply List.map_congr_left
    intro i hi
    obtain ⟨g, _, e⟩ := hm i hi
    show ((i.toNat : Nat) : Int) = i
    omega
  · rw [List.mem_map]
    constructor
    · rintro ⟨i, hi, rfl⟩
      obtain ⟨g, hg, e⟩ := hm i hi
      rw [← e]
      exact hg
    · intro hb
      exact ⟨(b : Int), hp.mem_iff.mpr (List.mem_map.mpr ⟨b, hb, rfl⟩), rfl⟩
  · have h := hp.map Int.toNat
    rw [List.map_map] at h
    have e : (Int.toNat ∘ fun g : Nat => (g : Int)) = id := by
      funext g
      show (g : Int).toNat = g
      omega
    rw [e, List.map_id] at h
    exact h
theorem intsO_nats : ∀ l : List Nat, intsO (l.map fun c => D.int (c : Nat)) = some (l.map fun c : Nat => (c : Int))
  | [] => rfl
  | c :: l => by
    show (intsO (l.map fun c => D.int (c : Nat))).map _ = _
    rw [intsO_nats l]
    rfl
theorem lused_ok {S : Store} {q n : Nat} {P : List (Key × D)} {pres : List D} (hq : sg S q = some (.dct P)) (hA : Agree n P pres) (hn : pres.length = n) (h2 : 2 ≤ n) (h4 : n ≤ 400) {rs : List (Option Nat)} (hr : ∀ r ∈ rs, ∀ b, r = some b → 2 ≤ b ∧ b < n) (hk : ∀ r ∈ rs, ∀ b, r = some b → (valK P (.inl (b : Int))).isSome = true) :
    Ok (fn_law_used [.ref q, .lst (rs.map rD), .int n] S) fun d S' => Ext S S' ∧ ∃ l : List Nat, d = .lst (l.map fun g => .int (g : Nat)) ∧ l.length ≤ n ∧ l.Nodup ∧ ∀ b, b ∈ l ↔ Reach (lkS n pres) (rs.filterMap id) b := by
  have rr : smR (n : Int) = true := smR_nat (by omega)
  have lq := sg_lt hq
  have Hq : ∀ T, sg (S ++ T) q = some (.dct P) := fun T => by rw [sg_app lq]; exact hq
  unfold fn_law_used
  rw [run_eq]
  simp only [sem_law_used, startD]
  simp
  generalize hx : forL _ _ _ _ _ _ = x
  obtain ⟨_, S1, rfl, G1, rfl, x4, rfl, n1, a1, b1⟩ := OkN.g hx (forI (fun j ρ S' => ∃ G : List Nat, S' = S ++ [.lst (G.map fun g => .int (g : Nat))] ∧ ∃ x4, ρ = [some (.ref q), some (.lst (rs.map rD)), some (.int n), some (.ref S.length), x4, none, none, none] ∧ G.Nodup ∧ (∀ b ∈ G, b ∈ rs.filterMap id) ∧ ∀ i < j, ∀ b, rs[i]? = some (some b) → b ∈ G) (fun _ _ _ _ => grd_none) (fun j d hj ρ S' ⟨G, e1, x4, e2, e3, e4, e5⟩ => by
    subst e1
    subst e2
    refine ⟨_, rfl, ?_⟩
    rw [List.getElem?_map] at hj
    cases er : rs[j]? with
    | none => rw [er] at hj; cases hj
    | some r =>
      rw [er] at hj
      cases hj
      cases r with
      | none =>
        simp [rD]
        refine ⟨G, rfl, e3, fun b hb => by simpa using e4 b hb, fun i hi b hb => ?_⟩
        by_cases e : i = j
        · subst e
          rw [er] at hb
          cases hb
        · exact e5 i (by omega) b hb
      | some y =>
        have hy := hr (some y) (List.mem_of_getElem? er) y rfl
        have ib := in_nats (S := S ++ [.lst (G.map fun g => D.int (g : Nat))]) (n := S.length) (l := G) (b := y) sg_new
        have old : ∀ i < j + 1, ∀ b, rs[i]? = some (some b) → b ∈ G ∨ b = y := fun i hi b hb => by
          by_cases e : i = j
          · subst e
            rw [er] at hb
            cases hb
            exact .inr rfl
          · exact .inl (e5 i (by omega) b hb)
        by_cases c : y ∈ G
        · simp [rD, notInD, ib, c]
          exact ⟨G, rfl, e3, fun b hb => by simpa using e4 b hb, fun i hi b hb => (old i hi b hb).elim id fun z => z ▸ c⟩
        · have zl : G.length < sizeLine := szl (by
            have := few (n - 2) G e3 fun b hb => by
              obtain ⟨o, h1, h2⟩ := List.mem_filterMap.mp (e4 b hb)
              have := hr o h1 b h2
              omega
            omega)
          simp [rD, notInD, ib, c, zl]
          refine ⟨G ++ [y], by simp, ?_, fun b hb => ?_, fun i hi b hb => ?_⟩
          · rw [List.nodup_append]
            refine ⟨e3, by simp, fun a ha b hb e => ?_⟩
            simp at hb
            subst hb
            subst e
            exact c ha
          · rcases List.mem_append.mp hb with hb | hb
            · simpa using e4 b hb
            · simp at hb
              subst hb
              simpa using List.mem_of_getElem? er
          · rcases old i hi b hb with h1 | rfl
            · simp [h1]
            · simp) ⟨[], rfl, _, rfl, List.nodup_nil, fun b hb => (nomatch hb), fun i hi => absurd hi (by omega)⟩)
  have full1 : ∀ b ∈ rs.filterMap id, b ∈ G1 := fun b hb => by
    obtain ⟨o, h1, h2⟩ := List.mem_filterMap.mp hb
    obtain ⟨i, hi⟩ := List.getElem?_of_mem h1
    have h2 : o = some b := h2
    subst h2
    exact b1 i (by simpa using (List.getElem?_eq_some_iff.mp hi).1) b hi
  clear b1
  simp [rr]
  generalize hrl : rs.filterMap id = rl at *
  have hrl' : ∀ r ∈ rl, 2 ≤ r ∧ r < n := fun r hr' => by
    rw [← hrl] at hr'
    obtain ⟨o, h1, h2⟩ := List.mem_filterMap.mp hr'
    exact hr o h1 r h2
  have hkl : ∀ r ∈ rl, (valK P (.inl (r : Int))).isSome = true := fun r hr' => by
    rw [← hrl] at hr'
    obtain ⟨o, h1, h2⟩ := List.mem_filterMap.mp hr'
    exact hk o h1 r h2
  generalize hx : forL _ _ _ _ _ _ = x
  obtain ⟨_, S2, rfl, G2, rfl, ⟨y4, y5, y6, y7, rfl⟩, n2, a2, r2, c2⟩ := OkN.g hx (forI (fun j ρ S' => ∃ G : List Nat, S' = S ++ [.lst (G.map fun g => .int (g : Nat))] ∧ (∃ x4 x5 x6 x7, ρ = [some (.ref q), some (.lst (rs.map rD)), some (.int n), some (.ref S.length), x4, x5, x6, x7]) ∧ G.Nodup ∧ (∀ b ∈ G, Reach (lkS n pres) rl b) ∧ (∀ r ∈ rl, r ∈ G) ∧ ∀ i < j, ∀ a, G[i]? = some a → ∀ b ∈ lkS n pres a, b ∈ G) (fun _ _ _ _ => grd_none) (fun j d hj ρ S' ⟨G, e1, ⟨x4, x5, x6, x7, e2⟩, e3, e4, e5, e6⟩ => by
    subst e1
    subst e2
    refine ⟨_, rfl, ?_⟩
    have hj1 := (List.getElem?_eq_some_iff.mp hj).1
    simp at hj1
    rw [List.getElem?_map, List.getElem?_range hj1] at hj
    cases hj
    by_cases cj : j < G.length
    · have cj' : (j : Int) < G.length := by omega
      obtain ⟨a, ha⟩ : ∃ a, G[j]? = some a := ⟨_, List.getElem?_eq_getElem cj⟩
      have ra := e4 a (List.mem_of_getElem? ha)
      have ia := ra.inn hrl'
      have xa : atI (G.map fun g => D.int (g : Nat)) (j : Int) = some (.int a) := atI_nat (by rw [List.getElem?_map, ha]; rfl)
      cases ev : valK P (.inl (a : Int)) with
      | none =>
        have := hA.reach hkl ra
        rw [ev] at this
        cases this
      | some pgd =>
        obtain ⟨_, v1, v2, t, ls, rest, rfl, hlen⟩ := hA.yes a pgd ev
        have ez : lkS n pres a = (ls.filter (inR n)).map Int.toNat := by
          unfold lkS
          rw [List.getD_eq_getElem?_getD, v2]
          show ((lkI (ls.map D.int)).filter (inR n)).map Int.toNat = _
          rw [lkI_map]
        have ix : ∀ S, ixO S (.tup (.str t :: .tup (ls.map D.int) :: rest)) (.int 1) = some (.tup (ls.map D.int)) := fun S => atI_nat (j := 1) rfl
        simp [cj, cj', xa, Hq, ev, ix, isNb]
        generalize hx : forL _ _ _ _ _ _ = x
        obtain ⟨_, S5, rfl, G5, rfl, ⟨z7, rfl⟩, f1, f2, f3, f4⟩ := OkN.g hx (forI (fun i ρ S' => ∃ G' : List Nat, S' = S ++ [.lst (G'.map fun g => .int (g : Nat))] ∧ (∃ x7, ρ = [some (.ref q), some (.lst (rs.map rD)), some (.int n), some (.ref S.length), x4, some (.int j), some (.tup (.str t :: .tup (ls.map D.int) :: rest)), x7]) ∧ G'.Nodup ∧ (∀ b ∈ G', Reach (lkS n pres) rl b) ∧ (∃ T, G' = G ++ T) ∧ ∀ l < i, ∀ z, ls[l]? = some z → inR n z = true → z.toNat ∈ G') (fun _ _ _ _ => grd_none) (fun i d hd ρ S' ⟨G', g1, ⟨x7, g2⟩, g3, g4, ⟨T, g5⟩, g6⟩ => by
          subst g1
          subst g2
          refine ⟨_, rfl, ?_⟩
          rw [List.getElem?_map] at hd
          cases el : ls[i]? with
          | none => rw [el] at hd; cases hd
          | some z =>
            rw [el] at hd
            cases hd
            have old : z.toNat ∈ G' ∨ inR n z = false → ∀ l < i + 1, ∀ z', ls[l]? = some z' → inR n z' = true → z'.toNat ∈ G' := fun hz l hl z' hz' hi => by
              by_cases e : l = i
              · subst e
                rw [el] at hz'
                cases hz'
                rcases hz with hz | hz
                · exact hz
                · rw [hi] at hz; cases hz
              · exact g6 l (by omega) z' hz' hi
            cases hin : inR n z with
            | false =>
              have hc : ∀ S : Store, (if (2 : Int) ≤ z then Res.ok (D.bl (decide (z < n))) S else Res.ok (D.bl false) S) = Res.ok (D.bl false) S := fun S => by
                unfold inR at hin
                split
                · rename_i h
                  simp [h] at hin
                  have : ¬ z < n := by omega
                  simp [this]
                · rfl
              simp [hc]
              exact ⟨G', rfl, g3, g4, ⟨T, g5⟩, old (.inr hin)⟩
            | true =>
              have hz2 : 2 ≤ z ∧ z < n := by
                unfold inR at hin
                simpa using hin
              obtain ⟨y, rfl⟩ := Int.eq_ofNat_of_zero_le (show 0 ≤ z by omega)
              have ib := in_nats (S := S ++ [.lst (G'.map fun g => D.int (g : Nat))]) (n := S.length) (l := G') (b := y) sg_new
              by_cases c : y ∈ G'
              · simp [hz2.1, hz2.2, notInD, ib, c]
                exact ⟨G', rfl, g3, g4, ⟨T, g5⟩, old (.inl c)⟩
              · have ry : Reach (lkS n pres) rl y := .step ra (by
                  rw [ez]
                  exact List.mem_map.mpr ⟨(y : Int), List.mem_filter.mpr ⟨List.mem_of_getElem? el, hin⟩, rfl⟩)
                have zl : G'.length < sizeLine := szl (by
                  have := few (n - 2) G' g3 fun b hb => by have := (g4 b hb).inn hrl'; omega
                  omega)
                simp [hz2.1, hz2.2, notInD, ib, c, zl]
                refine ⟨G' ++ [y], by simp, ?_, fun b hb => ?_, ⟨T ++ [y], by rw [g5]; simp⟩, fun l hl z' hz' hi => ?_⟩
                · rw [List.nodup_append]
                  refine ⟨g3, by simp, fun a ha b hb e => ?_⟩
                  simp at hb
                  subst hb
                  subst e
                  exact c ha
                · rcases List.mem_append.mp hb with hb | hb
                  · exact g4 b hb
                  · simp at hb
                    subst hb
                    exact ry
                · by_cases e : l = i
                  · subst e
                    rw [el] at hz'
                    cases hz'
                    simp
                  · exact List.mem_append_left _ (g6 l (by omega) z' hz' hi)) ⟨G, rfl, ⟨_, rfl⟩, e3, e4, ⟨[], by simp⟩, fun l hl => absurd hl (by omega)⟩)
        simp
        obtain ⟨T, rfl⟩ := f3
        refine ⟨G ++ T, by simp, f1, f2, fun r hr => List.mem_append_left _ (e5 r hr), fun i hi z hz b hb => ?_⟩
        by_cases e : i = j
        · subst e
          rw [List.getElem?_append_left cj, ha] at hz
          cases hz
          rw [ez] at hb
          obtain ⟨w, hw, rfl⟩ := List.mem_map.mp hb
          obtain ⟨w1, w2⟩ := List.mem_filter.mp hw
          obtain ⟨l, hl⟩ := List.getElem?_of_mem w1
          exact f4 l (by simpa using (List.getElem?_eq_some_iff.mp hl).1) w hl w2
        · rw [List.getElem?_append_left (by omega)] at hz
          exact List.mem_append_left _ (e6 i (by omega) z hz b hb)
    · have cj' : ¬ (j : Int) < G.length := by omega
      simp [cj, cj']
      refine ⟨G, rfl, e3, e4, e5, fun i hi z hz b hb => ?_⟩
      by_cases e : i = j
      · subst e
        rw [List.getElem?_eq_none (by omega)] at hz
        cases hz
      · exact e6 i (by omega) z hz b hb) ⟨G1, rfl, ⟨_, _, _, _, rfl⟩, n1, fun b hb => .root (a1 b hb), full1, fun i hi => absurd hi (by omega)⟩)
  obtain ⟨l', s1, s0, s2, s3⟩ := srt_nats G2
  have es : sortedD [.ref S.length] (S ++ [.lst (G2.map fun g => D.int (g : Nat))]) = .ok (.lst (l'.map fun g => .int (g : Nat))) (S ++ [.lst (G2.map fun g => D.int (g : Nat))]) := by
    unfold sortedD
    dsimp only
    rw [ls_refS, sg_new, rLs_some]
    show (match intsO (G2.map fun g => D.int (g : Nat)) with | some ns => _ | none => _) = _
    rw [intsO_nats]
    dsimp only
    rw [s1, List.map_map]
    rfl
  simp [es]
  refine ⟨Ext.app, l', rfl, by
    have := few (n - 2) G2 n2 fun b hb => by have := (a2 b hb).inn hrl'; omega
    omega, s3.nodup_iff.mpr n2, fun b => ?_⟩
  rw [s2]
  constructor
  · exact a2 b
  · refine Reach.closed r2 fun a ha b hb => ?_
    obtain ⟨i, hi⟩ := List.getElem?_of_mem ha
    have li := (List.getElem?_eq_some_iff.mp hi).1
    have := few (n - 2) G2 n2 fun b hb => by have := (a2 b hb).inn hrl'; omega
    exact c2 i (by simp; omega) a hi b hb
end G
namespace G
open PySem L2
theorem DiskAt.fr {A : List Nat} {S S' : Store} {k p w : Nat} {dv : D} {pres wait : List D} (h : DiskAt S k p w dv pres wait) (f : Fr A S S') (h1 : k ∉ A) (h2 : p ∉ A) (h3 : w ∉ A) : DiskAt S' k p w dv pres wait :=
  ⟨f.get h.ob h1, f.get h.pr h2, f.get h.wt h3, h.kp, h.kw, h.pw⟩
theorem PoolAt.ext {S S' : Store} (h : PoolAt S) (e : Ext S S') : PoolAt S' := by
  obtain ⟨m, g1, g2⟩ := h
  exact ⟨m, e.get g1, g2⟩
theorem PoolAt.fr {A : List Nat} {S S' : Store} (h : PoolAt S) (f : Fr A S S') (hA : 0 ∉ A) : PoolAt S' := by
  obtain ⟨m, g1, g2⟩ := h
  exact ⟨m, f.get g1 hA, g2⟩
abbrev vltM (k : Nat) (v : Int) (r : D) (h : Nat) (b : Bool) : MO := .ins "Vault" [("place", .ref k), ("number", .int v), ("top", r), ("holders", .ref h), ("is_busy", .bl b)]
abbrev snpM (k : Nat) (v : Int) (r : D) (b : Bool) : MO := .ins "Snapshot" [("place", .ref k), ("number", .int v), ("top", r), ("is_closed", .bl b)]
abbrev drfM (v g : Nat) (b : Bool) : MO := .ins "Draft" [("vault", .ref v), ("given", .ref g), ("is_closed", .bl b)]
theorem lkS_set {n b : Nat} {pres : List D} {x : D} {c : Nat} (h : c ≠ b) : lkS n (pres.set b x) c = lkS n pres c := by
  unfold lkS
  rw [List.getD_eq_getElem?_getD, List.getD_eq_getElem?_getD, List.getElem?_set_ne (fun e => h e.symm)]
theorem Reach.set {n b : Nat} {pres : List D} {x : D} {rs : List Nat} (h : ¬ Reach (lkS n pres) rs b) {c : Nat} : Reach (lkS n (pres.set b x)) rs c ↔ Reach (lkS n pres) rs c := by
  rw [← Reach.same (lk' := lkS n (pres.set b x)) fun c hc => lkS_set fun e => h (by rw [← e]; exact hc)]
/-- what is no snapshot -/
def NoS (S : Store) (a : Nat) : Prop := ∀ k v r b, sg S a ≠ some (snpM k v r b)
theorem lst_no {S : Store} {a : Nat} {l : List D} (h : sg S a = some (.lst l)) : NoS S a := fun k v r b e => by
  rw [h] at e
  cases e
theorem dct_no {S : Store} {a : Nat} {l : List (Key × D)} (h : sg S a = some (.dct l)) : NoS S a := fun k v r b e => by
  rw [h] at e
  cases e
theorem drf_no {S : Store} {a v g : Nat} {b : Bool} (h : sg S a = some (drfM v g b)) : NoS S a := fun k v r b e => by
  rw [h] at e
  injection e with e
  injection e with e1 e2
  exact absurd e1 (by decide)
theorem vlt_no {S : Store} {a k h : Nat} {v : Int} {r : D} {b : Bool} (e : sg S a = some (vltM k v r h b)) : NoS S a := fun k v r b e' => by
  rw [e] at e'
  injection e' with e'
  injection e' with e1 e2
  exact absurd e1 (by decide)
theorem dsk_no {S : Store} {a p w : Nat} {d : D} (e : sg S a = some (dskM d p w)) : NoS S a := fun k v r b e' => by
  rw [e] at e'
  injection e' with e'
  injection e' with e1 e2
  exact absurd e1 (by decide)
theorem pool_no {S : Store} (h : PoolAt S) : NoS S 0 := by
  obtain ⟨mm, g1, p0, p1, p2, p3, rfl, _⟩ := h
  exact lst_no g1
theorem NoS.of {S S' : Store} {a : Nat} (h : NoS S a) (e : sg S' a = sg S a) : NoS S' a := fun k v r b z => h k v r b (by rw [← e]; exact z)
/-- X and all snapshots stay -/
structure Keep (X : List Nat) (S S' : Store) : Prop where
  le : S.length ≤ S'.length
  at' : ∀ x ∈ X, x < S.length → sg S' x = sg S x
  sn : ∀ x k v r b, sg S x = some (snpM k v r b) → sg S' x = some (snpM k v r b)
theorem Keep.rf (X : List Nat) (S : Store) : Keep X S S := ⟨Nat.le_refl _, fun _ _ _ => rfl, fun _ _ _ _ _ h => h⟩
theorem Keep.tr {X : List Nat} {S S1 S2 : Store} (a : Keep X S S1) (b : Keep X S1 S2) : Keep X S S2 :=
  ⟨Nat.le_trans a.le b.le, fun x hx h => (b.at' x hx (Nat.lt_of_lt_of_le h a.le)).trans (a.at' x hx h), fun x k v r c h => b.sn x k v r c (a.sn x k v r c h)⟩
theorem Keep.get {X : List Nat} {S S' : Store} {x : Nat} {o : MO} (a : Keep X S S') (h : sg S x = some o) (hx : x ∈ X) : sg S' x = some o := (a.at' x hx (sg_lt h)).trans h
theorem Keep.sub {X Y : List Nat} {S S' : Store} (a : Keep X S S') (h : ∀ y ∈ Y, y ∈ X) : Keep Y S S' := ⟨a.le, fun x hx => a.at' x (h x hx), a.sn⟩
theorem Keep.fr {A X : List Nat} {S S' : Store} (f : Fr A S S') (h1 : ∀ a ∈ A, a ∉ X) (h2 : ∀ a ∈ A, a < S.length → NoS S a) : Keep X S S' :=
  ⟨f.le, fun x hx hl => f.eq x hl fun ha => h1 x ha hx, fun x k v r b e => f.get e fun ha => h2 x ha (sg_lt e) k v r b e⟩
/-- a holder: its place, version and root, and whether it is closed -/
structure Hl where
  ad : Nat
  ver : Int
  rt : Option Nat
  cl : Bool
def rootsV (root : Option Nat) (hs : List Hl) : List Nat := root.toList ++ (hs.filter fun y => !y.cl).filterMap fun y => y.rt
theorem mem_rootsV {root : Option Nat} {hs : List Hl} {b : Nat} : b ∈ rootsV root hs ↔ root = some b ∨ ∃ y ∈ hs, y.cl = false ∧ y.rt = some b := by
  unfold rootsV
  rw [List.mem_append, Option.mem_toList, List.mem_filterMap]
  refine or_congr Iff.rfl ⟨fun ⟨y, h1, h2⟩ => ?_, fun ⟨y, h1, h2, h3⟩ => ⟨y, ?_, h3⟩⟩
  · obtain ⟨h3, h4⟩ := List.mem_filter.mp h1
    exact ⟨y, h3, by simpa using h4, h2⟩
  · exact List.mem_filter.mpr ⟨h1, by simp [h2]⟩
structure VC (k p v n m : Nat) (num : Int) (root : Option Nat) (busy : Bool) (pres : List D) (dv : D) (wait : List D) (hs : List Hl) (X : List Nat) (w h : Nat) (S : Store) : Prop where
  dk : DiskAt S k p w dv pres wait ∧ wait.length ≤ m
  ln : pres.length = n
  pd : ∀ d ∈ pres, dtB 4 d = true ∧ (d = .non ∨ PgT d)
  vo : sg S v = some (vltM k num (rD root) h busy)
  hl : sg S h = some (.lst (hs.map fun y => .ref y.ad))
  sn : ∀ y ∈ hs, sg S y.ad = some (snpM k y.ver (rD y.rt) y.cl) ∧ ∀ c, y.rt = some c → 2 ≤ c ∧ c < n
  nd : (hs.map fun y => y.ad).Nodup
  rg : ∀ c, root = some c → 2 ≤ c ∧ c < n
  hp : h ≠ p
  hw : h ≠ w
  xs : ∀ x ∈ X, x < S.length ∧ x ≠ k ∧ x ≠ p ∧ x ≠ v ∧ x ≠ w ∧ x ≠ h ∧ NoS S x
  lh : hs.length ≤ m
  lm : m ≤ 900
section
variable {k p v n m : Nat} {num : Int} {root : Option Nat} {busy : Bool} {pres : List D} {dv : D} {wait : List D} {hs : List Hl} {X : List Nat} {w h : Nat} {S S' : Store}
theorem VC.kv (V : VC k p v n m num root busy pres dv wait hs X w h S) : k ≠ v ∧ p ≠ v ∧ w ≠ v ∧ h ≠ v ∧ h ≠ k := by
  obtain ⟨D0, _⟩ := V.dk
  refine ⟨fun e => ?_, fun e => ?_, fun e => ?_, fun e => ?_, fun e => ?_⟩
  · have := D0.ob
    rw [e, V.vo] at this
    injection this with this
    injection this with e1 e2
    exact absurd e1 (by decide)
  · have := D0.pr
    rw [e, V.vo] at this
    cases this
  · have := D0.wt
    rw [e, V.vo] at this
    cases this
  · have := V.hl
    rw [e, V.vo] at this
    cases this
  · have := V.hl
    rw [e, D0.ob] at this
    cases this
/-- changes at addresses of X -/
theorem VC.fr (V : VC k p v n m num root busy pres dv wait hs X w h S) {A : List Nat} (f : Fr A S S') (hA : ∀ a ∈ A, a ∈ X ∧ NoS S' a) : VC k p v n m num root busy pres dv wait hs X w h S' := by
  obtain ⟨D1, w1⟩ := V.dk
  have no : ∀ a, (∀ x ∈ X, x ≠ a) → a ∉ A := fun a h1 h2 => h1 a (hA a h2).1 rfl
  have nS : ∀ {k v r b x}, sg S x = some (snpM k v r b) → x ∉ A := fun e hx => (V.xs _ (hA _ hx).1).2.2.2.2.2.2 _ _ _ _ e
  refine ⟨⟨D1.fr f (no _ fun x hx => (V.xs x hx).2.1) (no _ fun x hx => (V.xs x hx).2.2.1) (no _ fun x hx => (V.xs x hx).2.2.2.2.1), w1⟩, V.ln, V.pd, f.get V.vo (no _ fun x hx => (V.xs x hx).2.2.2.1), f.get V.hl (no _ fun x hx => (V.xs x hx).2.2.2.2.2.1), fun y hy => ⟨f.get (V.sn y hy).1 (nS (V.sn y hy).1), (V.sn y hy).2⟩, V.nd, V.rg, V.hp, V.hw, fun x hx => ?_, V.lh, V.lm⟩
  obtain ⟨a1, a2, a3, a4, a5, a6, a7⟩ := V.xs x hx
  refine ⟨Nat.lt_of_lt_of_le a1 f.le, a2, a3, a4, a5, a6, ?_⟩
  by_cases c : x ∈ A
  · exact (hA x c).2
  · exact a7.of (f.eq x a1 c)
theorem VC.ext (V : VC k p v n m num root busy pres dv wait hs X w h S) (e : Ext S S') : VC k p v n m num root busy pres dv wait hs X w h S' :=
  V.fr (A := []) (Fr.ext e) fun _ h => nomatch h
theorem VC.put (V : VC k p v n m num root busy pres dv wait hs X w h S) {x : Nat} {o : MO} (hx : x ∈ X) (ho : ∀ k v r b, o ≠ snpM k v r b) : VC k p v n m num root busy pres dv wait hs X w h (sp S x o) :=
  V.fr (A := [x]) (Fr.put (by simp)) fun a ha => by
    rw [List.mem_singleton.mp ha]
    refine ⟨hx, fun k v r b e => ?_⟩
    rw [sg_sp (V.xs x hx).1] at e
    exact ho _ _ _ _ (Option.some.inj e)
theorem VC.less (V : VC k p v n m num root busy pres dv wait hs X w h S) {Y : List Nat} (hY : ∀ y ∈ Y, y ∈ X) : VC k p v n m num root busy pres dv wait hs Y w h S := by
  obtain ⟨a1, a2, a3, a4, a5, a6, a7, a8, a9, b1, b2, b3, b4⟩ := V
  exact ⟨a1, a2, a3, a4, a5, a6, a7, a8, a9, b1, fun y hy => b2 y (hY y hy), b3, b4⟩
theorem VC.lts (V : VC k p v n m num root busy pres dv wait hs X w h S) : k < S.length ∧ p < S.length ∧ v < S.length ∧ w < S.length ∧ h < S.length := by
  obtain ⟨D1, w1⟩ := V.dk
  exact ⟨sg_lt D1.ob, sg_lt D1.pr, sg_lt V.vo, sg_lt D1.wt, sg_lt V.hl⟩
theorem VC.more (V : VC k p v n m num root busy pres dv wait hs X w h S) {x : Nat} (e : Ext S S') (h1 : S.length ≤ x) (h2 : x < S'.length) (h3 : NoS S' x) : VC k p v n m num root busy pres dv wait hs (x :: X) w h S' := by
  have lt := V.lts
  obtain ⟨a1, a2, a3, a4, a5, a6, a7, a8, a9, b1, b2, b3, b4⟩ := V.ext e
  refine ⟨a1, a2, a3, a4, a5, a6, a7, a8, a9, b1, fun y hy => ?_, b3, b4⟩
  rcases List.mem_cons.mp hy with rfl | hy
  · exact ⟨h2, by omega, by omega, by omega, by omega, by omega, h3⟩
  · exact b2 y hy
theorem VC.up {m' : Nat} (V : VC k p v n m num root busy pres dv wait hs X w h S) (h1 : m ≤ m') (h2 : m' ≤ 900) : VC k p v n m' num root busy pres dv wait hs X w h S := by
  obtain ⟨⟨a1, a1'⟩, a2, a3, a4, a5, a6, a7, a8, a9, b1, b2, b3, b4⟩ := V
  exact ⟨⟨a1, by omega⟩, a2, a3, a4, a5, a6, a7, a8, a9, b1, b2, by omega, h2⟩
end
end G
namespace G
open PySem L2
/-- a loop, its end told by Z -/
theorem forZ {it : Itb} {p : Pt} {b : MS} {ρ : Sl} {S : Store} {ds : List D} {x : Out} (hx : forL it p b ds ρ S = x) (I : Nat → Sl → Store → Prop) (Z : Out → Prop)
    (h : ∀ j d, ds[j]? = some d → ∀ ρ S, I j ρ S → Grd it S ∧ ∃ ρ1, p d ρ = some ρ1 ∧ Stp (I (j + 1)) Z (b ρ1 S)) (h0 : ∀ ρ S, I ds.length ρ S → Grd it S ∧ Z (.nx ρ S)) (hI : I 0 ρ S) : Z x := by
  rw [← hx]
  exact for_gen I Z h h0 hI
/-- the blocks that q does not tell -/
def freeL (n : Nat) (q : Nat → Bool) : List D := ((List.range (n - 2)).filter fun i => !q (2 + i)).map fun i : Nat => D.int (2 + (i : Nat))
theorem freeL_congr {n : Nat} {q q' : Nat → Bool} (hq : ∀ b, 2 ≤ b → b < n → (q b = true ↔ q' b = true)) : freeL n q = freeL n q' := by
  unfold freeL
  congr 1
  apply List.filter_congr
  intro i hi
  have := List.mem_range.mp hi
  have := hq (2 + i) (by omega) (by omega)
  cases e1 : q (2 + i) <;> cases e2 : q' (2 + i) <;> simp [e1, e2] at this ⊢
theorem freeL_at {n : Nat} {q : Nat → Bool} {j : Nat} {d : D} (h : (freeL n q)[j]? = some d) : ∃ b : Nat, d = .int (b : Nat) ∧ 2 ≤ b ∧ b < n ∧ q b = false := by
  unfold freeL at h
  rw [List.getElem?_map] at h
  cases e : ((List.range (n - 2)).filter fun i => !q (2 + i))[j]? with
  | none => rw [e] at h; cases h
  | some i =>
    rw [e] at h
    cases h
    have hi := List.mem_of_getElem? e
    obtain ⟨h1, h2⟩ := List.mem_filter.mp hi
    have := List.mem_range.mp h1
    exact ⟨2 + i, by rw [show ((2 + i : Nat) : Int) = 2 + (i : Nat) by omega], by omega, by omega, by simpa using h2⟩
section
variable {k p v n m : Nat} {num : Int} {root : Option Nat} {busy : Bool} {pres : List D} {dv : D} {wait : List D} {hs : List Hl} {X : List Nat} {w h : Nat} {S S' : Store}
theorem rootsV_in (V : VC k p v n m num root busy pres dv wait hs X w h S) : ∀ r ∈ rootsV root hs, 2 ≤ r ∧ r < n := fun r hr => by
  rw [mem_rootsV] at hr
  rcases hr with e | ⟨y, hy, _, e⟩
  · exact V.rg r e
  · exact (V.sn y hy).2 r e
theorem free_ok (V : VC k p v n m num root busy pres dv wait hs X w h S) (h2 : 2 ≤ n) (h4 : n ≤ 400) :
    Ok (fn_Vault_free [.ref v] S) fun d S' => (∃ q : Nat → Bool, (∀ b, q b = true ↔ Reach (lkS n pres) (rootsV root hs) b) ∧ d = .lst (freeL n q)) ∧ VC k p v n m num root busy pres dv wait (hs.filter fun y => !y.cl) X w S.length S' ∧ Keep X S S' := by
  obtain ⟨D0, w0⟩ := V.dk
  have ln := V.ln
  have lm := V.lm
  have lh := V.lh
  obtain ⟨lk, lp, lv, lw, lhh⟩ := V.lts
  obtain ⟨kv, pv, wv, hv, hk⟩ := V.kv
  unfold fn_Vault_free
  rw [run_eq]
  simp only [sem_Vault_free, startD]
  simp [V.vo, V.hl, wipeD]
  generalize hx : compL _ _ _ _ _ _ _ _ = x
  obtain ⟨ys, S, rfl, rfl, rfl⟩ := Ok.g hx (compP (xs := hs) (fun y => D.ref y.ad) (fun y => D.ref y.ad) (fun y => !y.cl) (grd_some V.hl) (fun y hy => ⟨_, rfl, by
    have e := (V.sn y hy).1
    simp [e], fun _ => by simp⟩) (sz (by omega)))
  have e1 : ∀ T, sg (S ++ T) v = some (vltM k num (rD root) h busy) := fun T => by rw [sg_app lv]; exact V.vo
  simp [e1]
  generalize hhs : hs.filter (fun y => !y.cl) = hs1
  have hsub : ∀ y ∈ hs1, y ∈ hs ∧ y.cl = false := fun y hy => by
    rw [← hhs] at hy
    obtain ⟨h1, h2⟩ := List.mem_filter.mp hy
    exact ⟨h1, by simpa using h2⟩
  have l1 : hs1.length ≤ hs.length := by rw [← hhs]; exact List.length_filter_le _ _
  have f2 : Fr [v] S (sp (S ++ [.lst (hs1.map fun y => D.ref y.ad)]) v (vltM k num (rD root) S.length busy)) := Fr.tr Fr.app (Fr.put (by simp))
  have s2 : sg (sp (S ++ [.lst (hs1.map fun y => D.ref y.ad)]) v (vltM k num (rD root) S.length busy)) v = some (vltM k num (rD root) S.length busy) := sg_sp (by simp; omega)
  have h2' : sg (sp (S ++ [.lst (hs1.map fun y => D.ref y.ad)]) v (vltM k num (rD root) S.length busy)) S.length = some (.lst (hs1.map fun y => D.ref y.ad)) := by
    rw [sg_ne (by omega)]
    exact sg_new
  generalize sp (S ++ [.lst (hs1.map fun y => D.ref y.ad)]) v (vltM k num (rD root) S.length busy) = S2 at f2 s2 h2' ⊢
  have n5 : ∀ {k v' r b x}, sg S x = some (snpM k v' r b) → x ∉ [v] := fun e hx => by
    rw [List.mem_singleton.mp hx] at e
    exact vlt_no V.vo _ _ _ _ e
  have D2 := D0.fr f2 (by rw [List.mem_singleton]; exact kv) (by rw [List.mem_singleton]; exact pv) (by rw [List.mem_singleton]; exact wv)
  have V2 : VC k p v n m num root busy pres dv wait hs1 X w S.length S2 := ⟨⟨D2, w0⟩, ln, V.pd, s2, h2', fun y hy => ⟨f2.get (V.sn y (hsub y hy).1).1 (n5 (V.sn y (hsub y hy).1).1), (V.sn y (hsub y hy).1).2⟩, by
    rw [← hhs]
    exact List.Sublist.nodup (List.Sublist.map _ List.filter_sublist) V.nd, V.rg, by omega, by omega, fun x hx => by
    obtain ⟨a1, a2, a3, a4, a5, a6, a7⟩ := V.xs x hx
    exact ⟨Nat.lt_of_lt_of_le a1 f2.le, a2, a3, a4, a5, by omega, a7.of (f2.eq x a1 (by rw [List.mem_singleton]; exact a4))⟩, by omega, V.lm⟩
  simp [s2, h2', wipeD]
  generalize hx : compL _ _ _ _ _ _ _ _ = x
  obtain ⟨ys, S3, rfl, rfl, rfl⟩ := Ok.g hx (compM (xs := hs1) (fun y => D.ref y.ad) (fun y => rD y.rt) (grd_some h2') (fun y hy => ⟨_, rfl, by
    have e := (V2.sn y hy).1
    simp [e]⟩) (sz (by omega)))
  have z1 : 1 + hs1.length ≤ sizeLine := sz (by omega)
  have u := used_ok (rs := root :: hs1.map fun y => y.rt) D2 (by omega) (fun d hd => (V.pd d hd).2) (fun r hr b hb => by
    rw [ln]
    rcases List.mem_cons.mp hr with rfl | hr
    · exact V.rg b hb
    · obtain ⟨y, hy, rfl⟩ := List.mem_map.mp hr
      exact (V2.sn y hy).2 b hb) (by simp; omega)
  rw [List.map_cons, List.map_map, ln] at u
  simp [z1]
  generalize hx : fn_used_blocks _ _ = x
  obtain ⟨_, S4, rfl, E4, k4, F, rfl, d4, hF⟩ := Ok.g hx u
  have V4 := V2.ext E4
  have D4 := D2.ext E4
  have rr : smR (pres.length : Int) = true := smR_nat (by omega)
  have sm2 : smR 2 = true := by decide
  have en : ((pres.length : Int) - 2).toNat = n - 2 := by omega
  simp [V4.vo, D4.ob, size_ok D4, c_METAS, sm2, rr, en, wipeD]
  generalize hx : compL _ _ _ _ _ _ _ _ = x
  obtain ⟨ys, S5, rfl, rfl, rfl⟩ := Ok.g hx (compP (xs := List.range (n - 2)) (fun i : Nat => D.int (2 + (i : Nat))) (fun i : Nat => D.int (2 + (i : Nat))) (fun i => !decide (2 + i ∈ F)) grd_none (fun i _ => ⟨_, rfl, by
    have e : (2 : Int) + (i : Nat) = ((2 + i : Nat) : Int) := by omega
    have t := tD_val (F := F) (b := 2 + i)
    rw [← e] at t
    simp [d4, t], fun _ => by simp⟩) (sz (by simp; omega)))
  simp
  refine ⟨⟨fun b => decide (b ∈ F), fun b => ?_, rfl⟩, V4, ?_⟩
  · rw [decide_eq_true_iff, hF]
    have q : ∀ c, c ∈ (root :: hs1.map fun y => y.rt).filterMap id ↔ c ∈ rootsV root hs := fun c => by
      rw [mem_rootsV, List.mem_filterMap]
      constructor
      · rintro ⟨o, h1, h2⟩
        have h2 : o = some c := h2
        subst h2
        rcases List.mem_cons.mp h1 with h1 | h1
        · exact .inl h1.symm
        · obtain ⟨y, hy, e⟩ := List.mem_map.mp h1
          exact .inr ⟨y, (hsub y hy).1, (hsub y hy).2, e⟩
      · rintro (rfl | ⟨y, hy, yc, e⟩)
        · exact ⟨_, List.mem_cons_self, rfl⟩
        · refine ⟨some c, List.mem_cons_of_mem _ (List.mem_map.mpr ⟨y, ?_, e⟩), rfl⟩
          rw [← hhs]
          exact List.mem_filter.mpr ⟨hy, by simp [yc]⟩
    exact ⟨Reach.mono fun c hc => (q c).mp hc, Reach.mono fun c hc => (q c).mpr hc⟩
  · refine Keep.fr (f2.tr (Fr.ext E4)) (fun a ha hx => ?_) fun a ha _ => ?_
    · rw [List.mem_singleton.mp ha] at hx
      exact (V.xs v hx).2.2.2.1 rfl
    · rw [List.mem_singleton.mp ha]
      exact vlt_no V.vo
/-- the vault's mark of a draft -/
theorem VC.busyAs (V : VC k p v n m num root busy pres dv wait hs X w h S) (b : Bool) : VC k p v n m num root b pres dv wait hs X w h (sp S v (vltM k num (rD root) h b)) ∧ Keep X S (sp S v (vltM k num (rD root) h b)) := by
  have f : Fr [v] S (sp S v (vltM k num (rD root) h b)) := Fr.put (by simp)
  obtain ⟨kv, pv, wv, hv, hk⟩ := V.kv
  obtain ⟨D0, w0⟩ := V.dk
  have n5 : ∀ {k v' r b x}, sg S x = some (snpM k v' r b) → x ∉ [v] := fun e hx => by
    rw [List.mem_singleton.mp hx] at e
    exact vlt_no V.vo _ _ _ _ e
  refine ⟨⟨⟨D0.fr f (by rw [List.mem_singleton]; exact kv) (by rw [List.mem_singleton]; exact pv) (by rw [List.mem_singleton]; exact wv), w0⟩, V.ln, V.pd, sg_sp V.lts.2.2.1, f.get V.hl (by rw [List.mem_singleton]; exact hv), fun y hy => ⟨f.get (V.sn y hy).1 (n5 (V.sn y hy).1), (V.sn y hy).2⟩, V.nd, V.rg, V.hp, V.hw, fun x hx => ?_, V.lh, V.lm⟩, Keep.fr f (fun a ha hx => ?_) fun a ha _ => ?_⟩
  · obtain ⟨a1, a2, a3, a4, a5, a6, a7⟩ := V.xs x hx
    exact ⟨Nat.lt_of_lt_of_le a1 f.le, a2, a3, a4, a5, a6, a7.of (f.eq x a1 (by rw [List.mem_singleton]; exact a4))⟩
  · rw [List.mem_singleton.mp ha] at hx
    exact (V.xs v hx).2.2.2.1 rfl
  · rw [List.mem_singleton.mp ha]
    exact vlt_no V.vo
/-- an open draft at d, what it gave at g -/
structure Dr (v d g : Nat) (gs : List Nat) (S : Store) : Prop where
  dr : sg S d = some (drfM v g false)
  gv : sg S g = some (.lst (gs.map fun b => .int (b : Nat)))
  gl : gs.length ≤ 400
theorem Dr.kp {d g : Nat} {gs : List Nat} (H : Dr v d g gs S) (hd : d ∈ X) (hg : g ∈ X) (q : Keep X S S') : Dr v d g gs S' := ⟨q.get H.dr hd, q.get H.gv hg, H.gl⟩
theorem Dr.ne {d g : Nat} {gs : List Nat} (H : Dr v d g gs S) : d ≠ g := fun e => by
  have := H.dr
  rw [e, H.gv] at this
  cases this
theorem begun (V : VC k p v n m num root false pres dv wait hs X w h S) : Ok (fn_Vault_begin [.ref v] S) fun d S' => ∃ a g, d = .ref a ∧ Dr v a g [] S' ∧ VC k p v n m num root true pres dv wait hs (a :: g :: X) w h S' ∧ Keep X S S' ∧ S.length ≤ a ∧ S.length ≤ g := by
  have vo := V.vo
  have lv := sg_lt vo
  have e1 : ∀ T : Store, fn_Draft_init [.ref T.length, .ref v] (T ++ [.ins "Draft" []]) = .ok .non (T ++ [drfM v (T.length + 1) false, .lst []]) := fun T => by
    unfold fn_Draft_init
    rw [run_eq]
    simp only [sem_Draft_init, startD]
    simp
  obtain ⟨V1, q1⟩ := V.busyAs true
  have l1 : (sp S v (vltM k num (rD root) h true)).length = S.length := sp_len
  have eq : fn_Vault_begin [.ref v] S = .ok (.ref S.length) (sp S v (vltM k num (rD root) h true) ++ [drfM v (S.length + 1) false, .lst []]) := by
    have e2 := e1 (sp S v (vltM k num (rD root) h true))
    rw [sp_len] at e2
    unfold fn_Vault_begin
    rw [run_eq]
    simp only [sem_Vault_begin, startD]
    simp [vo, e2]
  generalize sp S v (vltM k num (rD root) h true) = S1 at V1 q1 l1 eq
  rw [← l1] at eq
  have s0 := sg_a0 (S := S1) (a := drfM v (S1.length + 1) false) (l := [.lst []])
  have s1 := sg_a1 (S := S1) (a := drfM v (S1.length + 1) false) (b := .lst []) (l := [])
  refine Ok.of eq ⟨S1.length, S1.length + 1, rfl, ⟨s0, s1, by simp⟩, ?_, q1.tr ⟨by simp, fun x hx hl => sg_app hl, fun x k v r b e => by rw [sg_app (sg_lt e)]; exact e⟩, by omega, by omega⟩
  have V2 := V1.more (x := S1.length + 1) (S' := S1 ++ [drfM v (S1.length + 1) false, .lst []]) Ext.app (by omega) (by simp) (lst_no s1)
  have V3 := V1.more (x := S1.length) (S' := S1 ++ [drfM v (S1.length + 1) false, .lst []]) Ext.app (by omega) (by simp) (drf_no s0)
  obtain ⟨a1, a2, a3, a4, a5, a6, a7, a8, a9, b1, b2, b3, b4⟩ := V2
  exact ⟨a1, a2, a3, a4, a5, a6, a7, a8, a9, b1, fun y hy => by
    rcases List.mem_cons.mp hy with rfl | hy
    · exact V3.xs _ List.mem_cons_self
    · exact b2 y hy, b3, b4⟩
theorem open_ok {d g : Nat} {gs : List Nat} (H : Dr v d g gs S) : fn_Draft_check_open [.ref d] S = .ok .non S := by
  unfold fn_Draft_check_open
  rw [run_eq]
  simp only [sem_Draft_check_open, startD]
  simp [H.dr]
end
end G
namespace G
open PySem L2
abbrev nD (l : List Nat) : List D := l.map fun b => .int (b : Nat)
section
variable {k p v n m : Nat} {num : Int} {root : Option Nat} {busy : Bool} {pres : List D} {dv : D} {wait : List D} {hs : List Hl} {X : List Nat} {w h : Nat} {S S' : Store}
/-- writing a page -/
theorem VC.wrote (V : VC k p v n m num root busy pres dv wait hs X w h S) {b : Nat} {d x : D} (D1 : DiskAt S k p w dv pres wait) (hw : wait.length < m) (hd : dtB 4 d = true ∧ (d = .non ∨ PgT d)) :
    VC k p v n m num root busy (pres.set b d) dv (wait ++ [x]) hs X w h (sp (sp S p (.lst (pres.set b d))) w (.lst (wait ++ [x]))) ∧ Keep X S (sp (sp S p (.lst (pres.set b d))) w (.lst (wait ++ [x]))) := by
  have f : Fr [p, w] S (sp (sp S p (.lst (pres.set b d))) w (.lst (wait ++ [x]))) := (Fr.put (by simp)).tr (Fr.put (by simp))
  have D2 := D1.wrote b d x
  obtain ⟨kv, pv, wv, hv, hk⟩ := V.kv
  have hp := V.hp
  have hw' := V.hw
  generalize sp (sp S p (.lst (pres.set b d))) w (.lst (wait ++ [x])) = S1 at f D2
  have no : ∀ a, a ≠ p → a ≠ w → a ∉ [p, w] := fun a h1 h2 ha => by
    simp only [List.mem_cons, List.not_mem_nil, or_false] at ha
    exact ha.elim h1 h2
  have nl : ∀ a ∈ [p, w], NoS S a := fun a ha => by
    simp only [List.mem_cons, List.not_mem_nil, or_false] at ha
    rcases ha with rfl | rfl
    · exact lst_no D1.pr
    · exact lst_no D1.wt
  have nS : ∀ {k v r b x}, sg S x = some (snpM k v r b) → x ∉ [p, w] := fun e hx => nl _ hx _ _ _ _ e
  refine ⟨⟨⟨D2, by simp; omega⟩, by rw [List.length_set]; exact V.ln, fun y hy => ?_, f.get V.vo (no _ pv.symm wv.symm), f.get V.hl (no _ hp hw'), fun y hy => ⟨f.get (V.sn y hy).1 (nS (V.sn y hy).1), (V.sn y hy).2⟩, V.nd, V.rg, V.hp, V.hw, fun x hx => ?_, V.lh, V.lm⟩, Keep.fr f (fun a ha hx => ?_) fun a ha _ => nl a ha⟩
  · rcases List.mem_or_eq_of_mem_set hy with hy | rfl
    · exact V.pd y hy
    · exact hd
  · obtain ⟨a1, a2, a3, a4, a5, a6, a7⟩ := V.xs x hx
    exact ⟨Nat.lt_of_lt_of_le a1 f.le, a2, a3, a4, a5, a6, a7.of (f.eq x a1 (no _ a3 a5))⟩
  · obtain ⟨a1, a2, a3, a4, a5, a6, a7⟩ := V.xs a hx
    simp only [List.mem_cons, List.not_mem_nil, or_false] at ha
    exact ha.elim a3 a5
/-- a page is added: at the first free block that was not given, or there is none -/
theorem add_ok {d g : Nat} {gs : List Nat} {pg : D} (V : VC k p v n m num root busy pres dv wait hs X w h S) (hD : Dr v d g gs S) (hd : d ∈ X) (hg : g ∈ X) (h2 : 2 ≤ n) (h4 : n ≤ 400) (hpg : PgT pg) (hdt : dtB 4 pg = true) (hm : m < 900) (hgl : gs.length < 400) :
    OkX (fn_Draft_add [.ref d, pg] S) (fun y S' => ∃ b : Nat, y = .int (b : Nat) ∧ 2 ≤ b ∧ b < n ∧ ¬ Reach (lkS n pres) (rootsV root hs) b ∧ b ∉ gs ∧ (∃ h', VC k p v n (m + 1) num root busy (pres.set b pg) dv (wait ++ [.tup [.int (b : Nat), pg]]) (hs.filter fun y => !y.cl) X w h' S') ∧ Dr v d g (gs ++ [b]) S' ∧ (∀ Y : List Nat, (∀ y ∈ Y, y ∈ X ∧ y ≠ g) → Keep Y S S') ∧ ∃ (q : Nat → Bool) (j : Nat), (∀ b, q b = true ↔ Reach (lkS n pres) (rootsV root hs) b) ∧ (freeL n q)[j]? = some (.int (b : Nat)) ∧ ∀ i < j, ∀ c : Nat, (freeL n q)[i]? = some (.int (c : Nat)) → c ∈ gs)
      (fun x S' => x = ⟨"NoSpace", [("count", .int n)]⟩ ∧ (∃ h', VC k p v n m num root busy pres dv wait (hs.filter fun y => !y.cl) X w h' S') ∧ Keep X S S' ∧ ∀ q : Nat → Bool, (∀ b, q b = true ↔ Reach (lkS n pres) (rootsV root hs) b) → ∀ (i c : Nat), (freeL n q)[i]? = some (.int (c : Nat)) → c ∈ gs) := by
  have dg := hD.ne
  unfold fn_Draft_add
  rw [run_eq]
  simp only [sem_Draft_add, startD]
  simp [hD.dr, open_ok hD, page_true hpg, V.vo]
  generalize hx : fn_Vault_free _ _ = x
  obtain ⟨_, S1, rfl, ⟨q, hq, rfl⟩, V1, k1⟩ := Ok.g hx (free_ok V h2 h4)
  have D1 := hD.kp hd hg k1
  simp
  generalize hx : forL _ _ _ _ _ _ = x
  have hz := forZ hx (fun j ρ S' => S' = S1 ∧ (∃ x3, ρ = [some (.ref d), some pg, some (.ref k), x3]) ∧ ∀ i < j, ∀ c : Nat, (freeL n q)[i]? = some (.int (c : Nat)) → c ∈ gs)
    (fun o => (∃ (b : Nat) (S' : Store), o = .rt (.int (b : Nat)) S' ∧ 2 ≤ b ∧ b < n ∧ ¬ Reach (lkS n pres) (rootsV root hs) b ∧ b ∉ gs ∧ (∃ h', VC k p v n (m + 1) num root busy (pres.set b pg) dv (wait ++ [.tup [.int (b : Nat), pg]]) (hs.filter fun y => !y.cl) X w h' S') ∧ Dr v d g (gs ++ [b]) S' ∧ (∀ Y : List Nat, (∀ y ∈ Y, y ∈ X ∧ y ≠ g) → Keep Y S S') ∧ ∃ (j : Nat), (freeL n q)[j]? = some (.int (b : Nat)) ∧ ∀ i < j, ∀ c : Nat, (freeL n q)[i]? = some (.int (c : Nat)) → c ∈ gs)
      ∨ (∃ x3, o = .nx [some (.ref d), some pg, some (.ref k), x3] S1) ∧ ∀ (i c : Nat), (freeL n q)[i]? = some (.int (c : Nat)) → c ∈ gs) ?_ ?_ ⟨rfl, ⟨_, rfl⟩, fun i hi => absurd hi (by omega)⟩
  · clear hx
    rcases hz with ⟨b, S', rfl, r1, r2, r3, r4, r5, r6, r7, j, r8, r9⟩ | ⟨⟨x3, rfl⟩, ha⟩
    · simp
      exact ⟨b, rfl, r1, r2, r3, r4, r5, r6, r7, q, hq, j, r8, r9⟩
    · obtain ⟨D2, w2⟩ := V1.dk
      simp [D2.ob, size_ok D2, V1.ln, startD]
      refine ⟨⟨_, V1⟩, k1, fun q' hq' i c hc => ha i c ?_⟩
      rw [freeL_congr (q := q) (q' := q') fun b _ _ => by rw [hq, hq']]
      exact hc
  · rintro j x hj ρ S2 ⟨rfl, ⟨x3, rfl⟩, ha⟩
    refine ⟨grd_none, _, rfl, ?_⟩
    obtain ⟨b, rfl, b2, bn, bq⟩ := freeL_at hj
    have ib := in_nats (b := b) D1.gv
    by_cases c : b ∈ gs
    · simp [D1.dr, notInD, ib, c]
      intro i hi c' hc'
      by_cases e : i = j
      · rw [e, hj] at hc'
        have hc' := Option.some.inj hc'
        rw [D.int.injEq] at hc'
        rw [show c' = b by omega]
        exact c
      · exact ha i (by omega) c' hc'
    · obtain ⟨D2, w2⟩ := V1.dk
      have hb : ¬ Reach (lkS n pres) (rootsV root hs) b := fun z => by rw [(hq b).mpr z] at bq; cases bq
      have wr := write_ok D2 (i := b) (d := pg) (by rw [V1.ln]; exact bn) (.inr hpg) (by omega)
      obtain ⟨V2, k2⟩ := (V1.up (m' := m + 1) (by omega) (by omega)).wrote (b := b) (x := .tup [.int (b : Nat), pg]) D2 (by omega) ⟨hdt, .inr hpg⟩
      generalize sp (sp S2 p (.lst (pres.set b pg))) w (.lst (wait ++ [.tup [.int (b : Nat), pg]])) = S3 at wr V2 k2
      have zg : gs.length < sizeLine := szl (by omega)
      have D3 := D1.kp hd hg k2
      simp [D1.dr, notInD, ib, c, D2.ob, wr, D3.dr, D3.gv, zg]
      have V3 := V2.put (o := .lst (gs.map (fun g => D.int (g : Nat)) ++ [.int (b : Nat)])) hg (fun _ _ _ _ e => nomatch e)
      have f3 : Fr [g] S3 (sp S3 g (.lst (gs.map (fun g => D.int (g : Nat)) ++ [.int (b : Nat)]))) := Fr.put (by simp)
      have s3 : sg (sp S3 g (.lst (gs.map (fun g => D.int (g : Nat)) ++ [.int (b : Nat)]))) g = some (.lst (gs.map (fun g => D.int (g : Nat)) ++ [.int (b : Nat)])) := sg_sp (sg_lt D3.gv)
      generalize sp S3 g (.lst (gs.map (fun g => D.int (g : Nat)) ++ [.int (b : Nat)])) = S4 at V3 s3 f3 ⊢
      refine ⟨b, S4, ⟨rfl, rfl⟩, b2, bn, hb, c, ⟨_, V3⟩, ⟨f3.get D3.dr (by rw [List.mem_singleton]; exact dg), by rw [s3, List.map_append]; rfl, by simp; omega⟩, fun Y hY => ((k1.sub fun y hy => (hY y hy).1).tr (k2.sub fun y hy => (hY y hy).1)).tr (Keep.fr f3 (fun a ha hx => ?_) fun a ha _ => ?_), j, hj, ha⟩
      · rw [List.mem_singleton.mp ha] at hx
        exact (hY g hx).2 rfl
      · rw [List.mem_singleton.mp ha]
        exact lst_no D3.gv
  · rintro ρ S2 ⟨rfl, ⟨x3, rfl⟩, ha⟩
    refine ⟨grd_none, .inr ⟨⟨x3, rfl⟩, fun i c hc => ha i (List.getElem?_eq_some_iff.mp hc).1 c hc⟩⟩
theorem cancel_ok {d g : Nat} {gs : List Nat} (V : VC k p v n m num root true pres dv wait hs X w h S) (hD : Dr v d g gs S) (hd : d ∈ X) : Ok (fn_Draft_cancel [.ref d] S) fun y S' => VC k p v n m num root false pres dv wait hs X w h S' ∧ ∀ Y : List Nat, (∀ y ∈ Y, y ∈ X ∧ y ≠ d) → Keep Y S S' := by
  have V1 := V.put (o := drfM v g true) hd (fun k v r b e => by injection e with e1 e2; exact absurd e1 (by decide))
  have s1 : sg (sp S d (drfM v g true)) d = some (drfM v g true) := sg_sp (sg_lt hD.dr)
  have f1 : Fr [d] S (sp S d (drfM v g true)) := Fr.put (by simp)
  generalize hS1 : sp S d (drfM v g true) = S1 at V1 s1 f1
  have lg1 : fn_Vault_let_go [.ref v] S1 = .ok .non (sp S1 v (vltM k num (rD root) h false)) := by
    unfold fn_Vault_let_go
    rw [run_eq]
    simp only [sem_Vault_let_go, startD]
    simp [V1.vo]
  obtain ⟨V2, k2⟩ := V1.busyAs false
  unfold fn_Draft_cancel
  rw [run_eq]
  simp only [sem_Draft_cancel, startD]
  simp [hD.dr, open_ok hD, hS1, s1, V1.vo, lg1]
  refine ⟨V2, fun Y hY => (Keep.fr f1 (fun a ha hx => ?_) fun a ha _ => ?_).tr (k2.sub fun y hy => (hY y hy).1)⟩
  · rw [List.mem_singleton.mp ha] at hx
    exact (hY d hx).2 rfl
  · rw [List.mem_singleton.mp ha]
    exact drf_no hD.dr
abbrev mtP (r : Option Nat) (v : Int) : D := .tup [.str "meta", .tup (nD r.toList), .int v]
theorem mtP_pg {r : Option Nat} {v : Int} : PgT (mtP r v) ∧ dtB 4 (mtP r v) = true := by
  cases r with
  | none => exact ⟨⟨"meta", [], _, rfl, by simp⟩, rfl⟩
  | some b => exact ⟨⟨"meta", [(b : Int)], _, rfl, by simp⟩, rfl⟩
theorem commit_ok {d g : Nat} {gs : List Nat} {r : Option Nat} (V : VC k p v n m num root true pres dv wait hs X w h S) (hD : Dr v d g gs S) (hd : d ∈ X) (h2 : 2 ≤ n) (hr : ∀ b, r = some b → 2 ≤ b ∧ b < n) :
    Ok (fn_Draft_commit [.ref d, rD r] S) fun y S' => y = .int (num + 1) ∧ ∃ (w' b : Nat), b < 2 ∧ (num + 1) % 2 = (b : Int) ∧ VC k p v n m (num + 1) r false (pres.set b (mtP r (num + 1))) (.lst (pres.set b (mtP r (num + 1)))) [] hs X w' h S' ∧ sg S' w' = some (.lst []) ∧ ∀ Y : List Nat, (∀ y ∈ Y, y ∈ X ∧ y ≠ d) → Keep Y S S' := by
  have V1 := V.put (o := drfM v g true) hd (fun k v r b e => by injection e with e1 e2; exact absurd e1 (by decide))
  have s1 : sg (sp S d (drfM v g true)) d = some (drfM v g true) := sg_sp (sg_lt hD.dr)
  have f1 : Fr [d] S (sp S d (drfM v g true)) := Fr.put (by simp)
  generalize hS1 : sp S d (drfM v g true) = S1 at V1 s1 f1
  obtain ⟨D0, _⟩ := V.dk
  obtain ⟨D2, w2⟩ := V1.dk
  obtain ⟨kv, pv, wv, hv, hk⟩ := V1.kv
  obtain ⟨lk, lp, lv, lw, lhh⟩ := V1.lts
  have hp := V1.hp
  have kp := D2.kp
  -- the vault goes on
  obtain ⟨F1, F2⟩ := flush_ok D2
  have f2 : Fr [k] S1 (sp S1 k (dskM (.lst pres) p S1.length) ++ [.lst []]) := (Fr.put (by simp)).tr Fr.app
  generalize hw1 : S1.length = a1 at F1 F2 f2
  generalize sp S1 k (dskM (.lst pres) p a1) ++ [.lst []] = S2 at F1 F2 f2
  obtain ⟨b, hb, hb2⟩ : ∃ b : Nat, (num + 1) % 2 = (b : Int) ∧ b < 2 := ⟨((num + 1) % 2).toNat, by omega, by omega⟩
  obtain ⟨pg1, pg2⟩ := mtP_pg (r := r) (v := num + 1)
  have wr := write_ok F2 (i := b) (d := mtP r (num + 1)) (by rw [V1.ln]; omega) (.inr pg1) (by simp)
  have D3 := F2.wrote b (mtP r (num + 1)) (.tup [.int b, mtP r (num + 1)])
  have f3 : Fr [p, a1] S2 (sp (sp S2 p (.lst (pres.set b (mtP r (num + 1))))) a1 (.lst ([] ++ [.tup [.int b, mtP r (num + 1)]]))) := (Fr.put (by simp)).tr (Fr.put (by simp))
  generalize sp (sp S2 p (.lst (pres.set b (mtP r (num + 1))))) a1 (.lst ([] ++ [.tup [.int b, mtP r (num + 1)]])) = S3 at wr D3 f3
  obtain ⟨F4, F5⟩ := flush_ok D3
  have f4 : Fr [k] S3 (sp S3 k (dskM (.lst (pres.set b (mtP r (num + 1)))) p S3.length) ++ [.lst []]) := (Fr.put (by simp)).tr Fr.app
  have ge3 : a1 < S3.length := sg_lt D3.wt
  generalize hw2 : S3.length = a2 at F4 F5 f4 ge3
  generalize sp S3 k (dskM (.lst (pres.set b (mtP r (num + 1)))) p a2) ++ [.lst []] = S4 at F4 F5 f4
  have fA : Fr [k, p, a1] S1 S4 := (f2.sub (by simp)).tr ((f3.sub (by simp)).tr (f4.sub (by simp)))
  have o2 := f2.get V1.vo (by rw [List.mem_singleton]; exact kv.symm)
  have o4 := fA.get V1.vo (by
    simp only [List.mem_cons, List.not_mem_nil, or_false]
    intro z
    rcases z with z | z | z
    · exact kv z.symm
    · exact pv z.symm
    · omega)
  have l5 := sg_lt o4
  have f5 : Fr [k, p, v, a1] S1 (sp S4 v (vltM k (num + 1) (rD r) h false)) := (fA.sub (by simp)).tr (Fr.put (by simp))
  have s5 : sg (sp S4 v (vltM k (num + 1) (rD r) h false)) v = some (vltM k (num + 1) (rD r) h false) := sg_sp l5
  have D5 := F5.fr (S' := sp S4 v (vltM k (num + 1) (rD r) h false)) (A := [v]) (Fr.put (by simp)) (by rw [List.mem_singleton]; exact kv) (by rw [List.mem_singleton]; exact pv) (by rw [List.mem_singleton]; omega)
  have go : fn_Vault_go_on [.ref v, rD r] S1 = .ok (.int (num + 1)) (sp S4 v (vltM k (num + 1) (rD r) h false)) := by
    unfold fn_Vault_go_on
    rw [run_eq]
    simp only [sem_Vault_go_on, startD]
    have e5 : ∀ M, sg (sp S4 v M) v = some M := fun M => sg_sp l5
    cases r with
    | none =>
      simp [mtP, nD] at wr
      simp [V1.vo, F2.ob, D2.ob, F1, c_METAS, c_META, hb, rD, wr, D3.ob, F4, o4, e5]
    | some c =>
      simp [mtP, nD] at wr
      simp [V1.vo, F2.ob, D2.ob, F1, c_METAS, c_META, hb, rD, wr, D3.ob, F4, o4, e5]
  generalize sp S4 v (vltM k (num + 1) (rD r) h false) = S5 at f5 s5 D5 go
  have f : Fr [k, p, v] S1 S5 := f5.mono fun i hi hi2 => by
    simp only [List.mem_cons, List.not_mem_nil, or_false] at hi ⊢
    omega
  have nl : ∀ a ∈ [k, p, v], NoS S1 a := fun a ha => by
    simp only [List.mem_cons, List.not_mem_nil, or_false] at ha
    rcases ha with rfl | rfl | rfl
    · exact dsk_no D2.ob
    · exact lst_no D2.pr
    · exact vlt_no V1.vo
  have nS : ∀ {k' v' r b x}, sg S1 x = some (snpM k' v' r b) → x ∉ [k, p, v] := fun e hx => nl _ hx _ _ _ _ e
  have nX : ∀ x ∈ X, x ∉ [k, p, v] := fun x hx ha => by
    obtain ⟨a1, a2, a3, a4, a5, a6, a7⟩ := V1.xs x hx
    simp only [List.mem_cons, List.not_mem_nil, or_false] at ha
    rcases ha with ha | ha | ha
    · exact a2 ha
    · exact a3 ha
    · exact a4 ha
  have V5 : VC k p v n m (num + 1) r false (pres.set b (mtP r (num + 1))) (.lst (pres.set b (mtP r (num + 1)))) [] hs X a2 h S5 := ⟨⟨D5, by simp⟩, by rw [List.length_set]; exact V1.ln, fun y hy => by
    rcases List.mem_or_eq_of_mem_set hy with hy | rfl
    · exact V1.pd y hy
    · exact ⟨pg2, .inr pg1⟩, s5, f.get V1.hl (by
      simp only [List.mem_cons, List.not_mem_nil, or_false]
      intro z
      rcases z with z | z | z
      · exact hk z
      · exact hp z
      · exact hv z), fun y hy => ⟨f.get (V1.sn y hy).1 (nS (V1.sn y hy).1), (V1.sn y hy).2⟩, V1.nd, hr, V1.hp, by omega, fun x hx => by
      obtain ⟨a1, a2, a3, a4, a5, a6, a7⟩ := V1.xs x hx
      exact ⟨Nat.lt_of_lt_of_le a1 f.le, a2, a3, a4, by omega, a6, a7.of (f.eq x a1 (nX x hx))⟩, V1.lh, V1.lm⟩
  have ir : ∀ c, r = some c → fn_is_root [.ref k, .int (c : Nat)] S = .ok (.bl true) S := fun c hc => by
    rw [isroot_ok D0, V.ln]
    have := hr c hc
    have e : inR n (c : Int) = true := by
      unfold inR
      simp
      omega
    rw [e]
  have cm : fn_Draft_commit [.ref d, rD r] S = .ok (.int (num + 1)) S5 := by
    unfold fn_Draft_commit
    rw [run_eq]
    simp only [sem_Draft_commit, startD]
    cases r with
    | none => simp [hD.dr, open_ok hD, hS1, s1, V1.vo, V.vo, rD, show fn_Vault_go_on [.ref v, .non] S1 = _ from go]
    | some c => simp [hD.dr, open_ok hD, hS1, s1, V1.vo, V.vo, rD, isNb, ir c rfl, show fn_Vault_go_on [.ref v, .int c] S1 = _ from go]
  refine Ok.of cm ⟨rfl, a2, b, hb2, hb, V5, D5.wt, fun Y hY => (Keep.fr f1 (fun a ha hx => ?_) fun a ha _ => ?_).tr (Keep.fr f (fun a ha hx => ?_) fun a ha _ => nl a ha)⟩
  · rw [List.mem_singleton.mp ha] at hx
    exact (hY d hx).2 rfl
  · rw [List.mem_singleton.mp ha]
    exact drf_no hD.dr
  · exact nX a (hY a hx).1 ha
end
end G
namespace G
open PySem L2
section
variable {k p v n m : Nat} {num : Int} {root : Option Nat} {busy : Bool} {pres : List D} {dv : D} {wait : List D} {hs : List Hl} {X : List Nat} {w h : Nat} {S S' : Store}
theorem hold_ok (V : VC k p v n m num root busy pres dv wait hs X w h S) (hm : m < 900) : Ok (fn_Vault_hold [.ref v] S) fun y S' => ∃ x, y = .ref x ∧ S.length ≤ x ∧ sg S' x = some (snpM k num (rD root) false) ∧ VC k p v n (m + 1) num root busy pres dv wait (hs ++ [⟨x, num, root, false⟩]) X w h S' ∧ Keep X S S' := by
  obtain ⟨kv, pv, wv, hv, hk⟩ := V.kv
  obtain ⟨lk, lp, lv, lw, lhh⟩ := V.lts
  have hp := V.hp
  have hw := V.hw
  have lh := V.lh
  have e1 : fn_Snapshot_init [.ref S.length, .ref k, .int num, rD root] (S ++ [.ins "Snapshot" []]) = .ok .non (S ++ [snpM k num (rD root) false]) := by
    unfold fn_Snapshot_init
    rw [run_eq]
    simp only [sem_Snapshot_init, startD]
    simp
  have o5 : ∀ T, sg (S ++ T) v = some (vltM k num (rD root) h busy) := fun T => by rw [sg_app lv]; exact V.vo
  have oh : ∀ T, sg (S ++ T) h = some (.lst (hs.map fun y => D.ref y.ad)) := fun T => by rw [sg_app lhh]; exact V.hl
  have zh : hs.length < sizeLine := szl (by omega)
  have eq : fn_Vault_hold [.ref v] S = .ok (.ref S.length) (sp (S ++ [snpM k num (rD root) false]) h (.lst ((hs.map fun y => D.ref y.ad) ++ [.ref S.length]))) := by
    unfold fn_Vault_hold
    rw [run_eq]
    simp only [sem_Vault_hold, startD]
    simp [V.vo, e1, o5, oh, zh]
  have f : Fr [h] S (sp (S ++ [snpM k num (rD root) false]) h (.lst ((hs.map fun y => D.ref y.ad) ++ [.ref S.length]))) := Fr.tr Fr.app (Fr.put (by simp))
  have s1 : sg (sp (S ++ [snpM k num (rD root) false]) h (.lst ((hs.map fun y => D.ref y.ad) ++ [.ref S.length]))) S.length = some (snpM k num (rD root) false) := by
    rw [sg_ne (by omega)]
    exact sg_new
  have s2 : sg (sp (S ++ [snpM k num (rD root) false]) h (.lst ((hs.map fun y => D.ref y.ad) ++ [.ref S.length]))) h = some (.lst ((hs.map fun y => D.ref y.ad) ++ [.ref S.length])) := sg_sp (by simp; omega)
  generalize sp (S ++ [snpM k num (rD root) false]) h (.lst ((hs.map fun y => D.ref y.ad) ++ [.ref S.length])) = S1 at eq f s1 s2
  have nS : ∀ {k v' r b x}, sg S x = some (snpM k v' r b) → x ∉ [h] := fun e hx => by
    rw [List.mem_singleton.mp hx] at e
    exact lst_no V.hl _ _ _ _ e
  obtain ⟨D0, w0⟩ := V.dk
  refine Ok.of eq ⟨S.length, rfl, Nat.le_refl _, s1, ⟨⟨D0.fr f (by rw [List.mem_singleton]; exact hk.symm) (by rw [List.mem_singleton]; exact hp.symm) (by rw [List.mem_singleton]; exact hw.symm), by omega⟩, V.ln, V.pd, f.get V.vo (by rw [List.mem_singleton]; exact hv.symm), by rw [s2, List.map_append]; rfl, fun y hy => ?_, ?_, V.rg, V.hp, V.hw, fun x hx => ?_, by simp; omega, by omega⟩, Keep.fr f (fun a ha hx => ?_) fun a ha _ => ?_⟩
  · rcases List.mem_append.mp hy with hy | hy
    · exact ⟨f.get (V.sn y hy).1 (nS (V.sn y hy).1), (V.sn y hy).2⟩
    · rw [List.mem_singleton.mp hy]
      exact ⟨s1, V.rg⟩
  · rw [List.map_append, List.nodup_append]
    refine ⟨V.nd, by simp, fun a ha b hb e => ?_⟩
    simp at hb
    subst hb
    obtain ⟨y, hy, rfl⟩ := List.mem_map.mp ha
    have := sg_lt (V.sn y hy).1
    omega
  · obtain ⟨a1, a2, a3, a4, a5, a6, a7⟩ := V.xs x hx
    exact ⟨Nat.lt_of_lt_of_le a1 f.le, a2, a3, a4, a5, a6, a7.of (f.eq x a1 (by rw [List.mem_singleton]; exact a6))⟩
  · rw [List.mem_singleton.mp ha] at hx
    exact (V.xs h hx).2.2.2.2.2.1 rfl
  · rw [List.mem_singleton.mp ha]
    exact lst_no V.hl
theorem rem_map (gs : List Nat) (b : Nat) : ((gs.map fun g : Nat => (g : Int)).erase (b : Int)) = (gs.erase b).map fun g : Nat => (g : Int) := by
  induction gs with
  | nil => rfl
  | cons g gs ih =>
    rw [List.map_cons, List.erase_cons, List.erase_cons]
    by_cases e : g = b
    · subst e
      simp
    · have e' : ((g : Int) == (b : Int)) = false := by
        rw [beq_eq_false_iff_ne]
        omega
      have e2 : (g == b) = false := beq_eq_false_iff_ne.mpr e
      rw [e', e2]
      simp [ih]
theorem rem_nats {x b : Nat} {gs : List Nat} (h : sg S x = some (.lst (gs.map fun g => .int (g : Nat)))) (hb : b ∈ gs) : remD (.ref x) [.int b] S = .ok .non (sp S x (.lst ((gs.erase b).map fun g => .int (g : Nat)))) := by
  have e : (gs.map fun g => D.int (g : Nat)) = (gs.map fun g : Nat => (g : Int)).map D.int := by rw [List.map_map]; rfl
  rw [rem_ref, h, e, rRem_some (List.mem_map.mpr ⟨b, hb, rfl⟩), rem_map, List.map_map]
  rfl
theorem b0 (a : D) (r : List D) : atI (a :: r) 0 = some a := atI_nat (j := 0) rfl
theorem b1 (a b : D) (r : List D) : atI (a :: b :: r) 1 = some b := atI_nat (j := 1) rfl
theorem b2 (a b c : D) (r : List D) : atI (a :: b :: c :: r) 2 = some c := atI_nat (j := 2) rfl
/-- the metas of a disk -/
structure Mts (n : Nat) (num : Int) (root : Option Nat) (pres : List D) : Prop where
  ge : 0 ≤ num
  rg : ∀ c, root = some c → 2 ≤ c ∧ c < n
  one : ∃ b : Nat, b < 2 ∧ num % 2 = (b : Int) ∧ pres[b]? = some (mtP root num) ∧ (pres[1 - b]? = some .non ∨ ∃ r' : Option Nat, 1 ≤ num ∧ (∀ c, r' = some c → 2 ≤ c ∧ c < n) ∧ pres[1 - b]? = some (mtP r' (num - 1)))
theorem version_no {dv : D} {wait : List D} (D0 : DiskAt S k p w dv pres wait) {b : Nat} (hb : pres[b]? = some .non) : fn_version_at [.ref k, .int b] S = .ok .non S := by
  have r0 := read_ok D0 hb
  unfold fn_version_at
  rw [run_eq]
  simp only [sem_version_at, startD]
  simp [D0.ob, r0]
theorem version_is {dv : D} {wait : List D} (D0 : DiskAt S k p w dv pres wait) {b : Nat} {a : Int} {r : Option Nat} (hb : pres[b]? = some (mtP r a)) (ha : 0 ≤ a) (hab : a % 2 = (b : Int)) (hr : ∀ c, r = some c → 2 ≤ c ∧ c < pres.length) : fn_version_at [.ref k, .int b] S = .ok (.tup [.int a, rD r]) S := by
  have r0 := read_ok D0 hb
  have na : ¬ a < 0 := by omega
  unfold fn_version_at
  rw [run_eq]
  simp only [sem_version_at, startD]
  cases r with
  | none =>
    simp [mtP, nD] at r0
    simp [D0.ob, r0, b0, b1, b2, c_META, c_METAS, na, hab, rD]
  | some c =>
    have e : inR pres.length (c : Int) = true := by
      have := hr c rfl
      unfold inR
      simp
      omega
    simp [mtP, nD] at r0
    simp [D0.ob, r0, b0, b1, b2, c_META, c_METAS, na, hab, rD, isroot_ok D0, e]
end
end G
namespace G
open PySem L2
section
variable {k p v n m : Nat} {num : Int} {root : Option Nat} {busy : Bool} {pres : List D} {dv : D} {wait : List D} {hs : List Hl} {X : List Nat} {w h : Nat} {S S' : Store}
/-- a disk is opened -/
theorem vault_open {dv : D} {wait : List D} (D0 : DiskAt S k p w dv pres wait) (ln : pres.length = n) (M : Mts n num root pres) : fn_Vault_init [.ref S.length, .ref k] (S ++ [.ins "Vault" []]) = .ok .non (S ++ [vltM k num (rD root) (S.length + 1) false, .lst []]) := by
  have H := D0.ext (Ext.one (m := .ins "Vault" []))
  obtain ⟨b, hb, hn, h1, h2⟩ := M.one
  have g0 := M.ge
  have sm2 : smR 2 = true := by decide
  have rng2' : List.range 2 = [0, 1] := rfl
  have eq1 : ∀ (S : Store) (a : Int) (r : Option Nat), eqB S (.lst [.tup [.int a, rD r]]) (.lst []) = some false := fun _ _ r => by cases r <;> rfl
  have eq2 : ∀ (S : Store) (a c : Int) (r r' : Option Nat), eqB S (.lst [.tup [.int a, rD r], .tup [.int c, rD r']]) (.lst []) = some false := fun _ _ _ r r' => by cases r <;> cases r' <;> rfl
  have va := version_is H h1 g0 hn (by rw [ln]; exact M.rg)
  have v1 : num < num ↔ False := by simp
  have v2 : num - 1 < num ↔ True := by simp; omega
  have v3 : num < num - 1 ↔ False := by simp; omega
  unfold fn_Vault_init
  rw [run_eq]
  simp only [sem_Vault_init, startD]
  rcases (by omega : b = 0 ∨ b = 1) with rfl | rfl
  · rcases h2 with h2 | ⟨r', hge, hr', h2⟩
    · have vb := version_no H h2
      simp at va vb
      simp [c_METAS, sm2, rng2', comp_N, comp_nil, wipeD, va, vb, eq1, eq2, b0, b1, for_N, for_nil]
    · have vb := version_is H h2 (by omega) (by simp; omega) (by rw [ln]; exact hr')
      simp at va vb
      simp [c_METAS, sm2, rng2', comp_N, comp_nil, wipeD, va, vb, eq1, eq2, b0, b1, for_N, for_nil, v1, v2, v3]
  · rcases h2 with h2 | ⟨r', hge, hr', h2⟩
    · have vb := version_no H h2
      simp at va vb
      simp [c_METAS, sm2, rng2', comp_N, comp_nil, wipeD, va, vb, eq1, eq2, b0, b1, for_N, for_nil]
    · have vb := version_is H h2 (by omega) (by simp; omega) (by rw [ln]; exact hr')
      simp at va vb
      simp [c_METAS, sm2, rng2', comp_N, comp_nil, wipeD, va, vb, eq1, eq2, b0, b1, for_N, for_nil, v1, v2, v3]
/-- a commit's metas -/
theorem Mts.next {b : Nat} {r : Option Nat} (M : Mts n num root pres) (ln : pres.length = n) (h2 : 2 ≤ n) (hb : b < 2) (hn : (num + 1) % 2 = (b : Int)) (hr : ∀ c, r = some c → 2 ≤ c ∧ c < n) : Mts n (num + 1) r (pres.set b (mtP r (num + 1))) := by
  obtain ⟨b', hb', hn', h1, _⟩ := M.one
  have g0 := M.ge
  have e : 1 - b = b' := by omega
  refine ⟨by omega, hr, b, hb, hn, List.getElem?_set_self (by omega), .inr ⟨root, by omega, M.rg, ?_⟩⟩
  rw [e, List.getElem?_set_ne (by omega), h1, show num + 1 - 1 = num by omega]
/-- writing elsewhere -/
theorem Mts.set {b : Nat} {d : D} (M : Mts n num root pres) (hb : 2 ≤ b) : Mts n num root (pres.set b d) := by
  obtain ⟨b', hb', hn', h1, h2⟩ := M.one
  refine ⟨M.ge, M.rg, b', hb', hn', by rw [List.getElem?_set_ne (by omega)]; exact h1, ?_⟩
  rcases h2 with h2 | ⟨r, h3, h4, h5⟩
  · exact .inl (by rw [List.getElem?_set_ne (by omega)]; exact h2)
  · exact .inr ⟨r, h3, h4, by rw [List.getElem?_set_ne (by omega)]; exact h5⟩
/-- another vault on the same disk -/
theorem opened (V : VC k p v n m num root busy pres dv wait hs X w h S) (M : Mts n num root pres) : ∃ S1, fn_Vault_init [.ref S.length, .ref k] (S ++ [.ins "Vault" []]) = .ok .non S1 ∧ VC k p S.length n m num root false pres dv wait [] X w (S.length + 1) S1 ∧ Ext S S1 := by
  obtain ⟨D0, w0⟩ := V.dk
  obtain ⟨lk, lp, lv, lw, lhh⟩ := V.lts
  have e : Ext S (S ++ [vltM k num (rD root) (S.length + 1) false, .lst []]) := Ext.app
  refine ⟨_, vault_open D0 V.ln M, ⟨⟨D0.ext e, w0⟩, V.ln, V.pd, sg_a0, sg_a1, fun y hy => (nomatch hy), List.nodup_nil, M.rg, by omega, by omega, fun x hx => ?_, by simp, V.lm⟩, e⟩
  obtain ⟨a1, a2, a3, a4, a5, a6, a7⟩ := V.xs x hx
  exact ⟨Nat.lt_of_lt_of_le a1 e.le, a2, a3, by omega, a5, by omega, a7.of (sg_app a1)⟩
end
end G
namespace G
open PySem L2
/-! ### crashes -/
def wD (x : Nat × D) : D := .tup [.int x.1, x.2]
/-- the pages that wait for a block -/
def pgs (ws : List (Nat × D)) (i : Nat) : List D := (ws.filter fun x => decide (x.1 = i)).map (·.2)
def encC (cs : List (Nat × Nat)) : List (Key × D) := cs.map fun c => (Sum.inl (c.1 : Int), D.int c.2)
theorem encC_val {cs : List (Nat × Nat)} {i c : Nat} (hn : (cs.map (·.1)).Nodup) (h : (i, c) ∈ cs) : valK (encC cs) (.inl (i : Int)) = some (.int c) := by
  induction cs with
  | nil => cases h
  | cons x cs ih =>
    rw [List.map_cons, List.nodup_cons] at hn
    unfold valK encC
    rw [List.map_cons, List.find?_cons]
    by_cases e : x.1 = i
    · have ex : x = (i, c) := by
        rcases List.mem_cons.mp h with h | h
        · exact h.symm
        · exact absurd (List.mem_map.mpr ⟨_, h, rfl⟩) (e ▸ hn.1)
      subst ex
      simp
    · have e2 : decide ((Sum.inl (x.1 : Int) : Key) = .inl (i : Int)) = false := by
        rw [decide_eq_false_iff_not]
        intro z
        cases z
        exact e rfl
      rw [e2]
      rcases List.mem_cons.mp h with h | h
      · subst h
        exact absurd rfl e
      · exact ih hn.2 h
theorem encC_key (cs : List (Nat × Nat)) : (encC cs).map (fun kv => keyD kv.1) = cs.map fun c => D.int (c.1 : Nat) := by
  unfold encC
  rw [List.map_map]
  rfl
theorem ints_nat : ∀ l : List Nat, intsO (l.map fun c => D.int (c : Nat)) = some (l.map fun c : Nat => (c : Int))
  | [] => rfl
  | c :: l => by
    show (intsO (l.map fun c => D.int (c : Nat))).map _ = _
    rw [ints_nat l]
    rfl
def crS (ws : List (Nat × D)) (bl : List D) (c : Nat × Nat) : List D := if 0 < c.2 then bl.set c.1 ((pgs ws c.1).getD (c.2 - 1) .non) else bl
def crash (ws : List (Nat × D)) (dur : List D) (cs : List (Nat × Nat)) : List D := cs.foldl (crS ws) dur
theorem crS_len {ws : List (Nat × D)} {bl : List D} {c : Nat × Nat} : (crS ws bl c).length = bl.length := by
  unfold crS
  split
  · rw [List.length_set]
  · rfl
theorem crash_len {ws : List (Nat × D)} : ∀ {cs : List (Nat × Nat)} {dur : List D}, (crash ws dur cs).length = dur.length
  | [], _ => rfl
  | c :: cs, dur => by
    show (crash ws (crS ws dur c) cs).length = _
    rw [crash_len, crS_len]
section
variable {S : Store} {k p w : Nat} {dv : D} {pres : List D} {ws : List (Nat × D)} {cs : List (Nat × Nat)}
theorem eqD_nat {i j : Nat} : eqB S (.int (i : Int)) (.int (j : Int)) = some (decide (i = j)) := by
  simp
  omega
theorem kept_ok (h : DiskAt S k p w dv pres (ws.map wD)) (hn : (cs.map (·.1)).Nodup) (hb : ∀ c ∈ cs, c.1 < pres.length ∧ c.2 ≤ (pgs ws c.1).length) (hw : ws.length ≤ 1000) :
    fn_Disk_check_kept [.ref k, .dct (encC cs)] S = .ok .non S := by
  unfold fn_Disk_check_kept
  rw [run_eq]
  simp only [sem_Disk_check_kept, startD]
  simp [k_dict]
  refine for_gen (fun j ρ S' => S' = S ∧ ∃ x2, ρ = [some (.ref k), some (.dct (encC cs)), x2, none, none, none]) (fun o => rB (oB o _) = _) ?_ ?_ ⟨rfl, _, rfl⟩
  · rintro j d hj ρ S ⟨rfl, x2, rfl⟩
    refine ⟨grd_none, _, rfl, ?_⟩
    rw [show (encC cs).map (fun kv => keyD kv.1) = cs.map fun c => D.int (c.1 : Nat) from encC_key cs, List.getElem?_map] at hj
    cases ec : cs[j]? with
    | none => rw [ec] at hj; cases hj
    | some c =>
      rw [ec] at hj
      cases hj
      obtain ⟨b1, b2⟩ := hb c (List.mem_of_getElem? ec)
      have b3 : (c.1 : Int) < pres.length := by omega
      simp [h.ob, isblock_int h, b3]
  rintro ρ S ⟨rfl, x2, rfl⟩
  refine ⟨grd_none, ?_⟩
  have es : sortedD [.lst ((encC cs).map fun kv => keyD kv.1)] S = .ok (.lst ((srt (cs.map fun c => (c.1 : Int))).map D.int)) S := by
    unfold sortedD
    dsimp only
    rw [encC_key]
    have := ints_nat (cs.map (·.1))
    rw [List.map_map, List.map_map] at this
    rw [show (fun c : Nat × Nat => D.int (c.1 : Nat)) = (fun c : Nat => D.int (c : Nat)) ∘ (·.1) from rfl]
    show (match (some (cs.map ((fun c : Nat => D.int (c : Nat)) ∘ (·.1)))).bind intsO with | some ns => _ | none => _) = _
    dsimp only [Option.bind]
    rw [this]
    rfl
  simp [es]
  refine for_gen (fun j ρ S' => S' = S ∧ ∃ x2 x3, ρ = [some (.ref k), some (.dct (encC cs)), x2, x3, none, none]) (fun o => rB o = _) ?_ ?_ ⟨rfl, _, _, rfl⟩
  · rintro j d hj ρ S ⟨rfl, x2, x3, rfl⟩
    refine ⟨grd_none, _, rfl, ?_⟩
    rw [List.getElem?_map] at hj
    cases ec : (srt (cs.map fun c => (c.1 : Int)))[j]? with
    | none => rw [ec] at hj; cases hj
    | some z =>
      rw [ec] at hj
      cases hj
      obtain ⟨c, hc, rfl⟩ := List.mem_map.mp ((srt_perm _).mem_iff.mp (List.mem_of_getElem? ec))
      obtain ⟨b1, b2⟩ := hb c hc
      have ev := encC_val hn (i := c.1) (c := c.2) hc
      have ix : ∀ S : Store, ixA (.dct (encC cs)) (.int (c.1 : Int)) S = .ok (.int c.2) S := fun S => by
        rw [ixA_dct (kvs := encC cs) (k := .inl (c.1 : Int)) rfl rfl, ev]
        rfl
      have cc := comp_pure (it := ⟨ws.map wD, some w⟩) (p := ptT (psC (ptN 4) (psC (ptN 5) psN))) (t := mTest (mOp eqD (mVar 4) (mVar 2))) (e := mC (.int 1)) (ρ := [some (.ref k), some (.dct (encC cs)), some (.int c.1), x3, none, none]) (grd_some h.wt) wD (fun _ => D.int 1) (fun x => decide (x.1 = c.1)) ws 0 (fun x _ => ⟨_, rfl, by simp; omega, fun _ => by simp⟩) (sz (by omega))
      have hl : ((ws.filter fun x => decide (x.1 = c.1)).map fun _ => D.int 1).length = (pgs ws c.1).length := by
        unfold pgs
        rw [List.length_map, List.length_map]
      have b4 : (c.2 : Int) ≤ (pgs ws c.1).length := by omega
      have b5 : 0 ≤ (c.2 : Int) := by omega
      simp only [List.length_map] at hl
      simp [h.ob, h.wt, cc, wipeD, ix, ev, hl, b4, b5]
  · rintro ρ S ⟨rfl, x2, x3, rfl⟩
    exact ⟨grd_none, rfl⟩
/-- the objects of the disk that is found -/
def crT (L n : Nat) (f : List D) : Store := [dskM (.ref (L + 3)) (L + 4) (L + 2), .lst (List.replicate n .non), .lst [], .lst f, .lst f]
theorem crashed_ok (h : DiskAt S k p w dv pres (ws.map wD)) {dur : List D} (hd : sqOf S dv = some dur) (hdl : dur.length = pres.length) (h8 : 8 ≤ pres.length) (h4 : pres.length ≤ 400) (hn : (cs.map (·.1)).Nodup) (hb : ∀ c ∈ cs, c.1 < pres.length ∧ c.2 ≤ (pgs ws c.1).length) (hw : ws.length ≤ 1000) :
    fn_Disk_crashed [.ref k, .dct (encC cs)] S = .ok (.ref S.length) (S ++ crT S.length pres.length (crash ws dur cs)) := by
  have e1 := kept_ok h hn hb hw
  have e2 := disk_new (S := S) (n := pres.length) (by omega) (by omega)
  simp only [Int.toNat_natCast, List.append_assoc, List.cons_append, List.nil_append] at e2
  have sub : ∀ T, sqOf (S ++ T) dv = some dur := fun T => by
    cases dv with
    | ref n =>
      rw [sq_refS] at hd ⊢
      cases e : sg S n with
      | none => rw [e] at hd; cases hd
      | some mo => rw [sg_app (sg_lt e), e]; rw [e] at hd; exact hd
    | _ => exact hd
  have ob : ∀ T, sg (S ++ T) k = some (dskM dv p w) := fun T => by rw [sg_app (sg_lt h.ob)]; exact h.ob
  have wt : ∀ T, sg (S ++ T) w = some (.lst (ws.map wD)) := fun T => by rw [sg_app (sg_lt h.wt)]; exact h.wt
  unfold fn_Disk_crashed
  rw [run_eq]
  simp only [sem_Disk_crashed, startD]
  simp [h.ob, e1, h.pr, e2, ob, sub]
  refine for_gen (fun j ρ S' => S' = S ++ [dskM (.lst (List.replicate pres.length .non)) (S.length + 1) (S.length + 2), .lst (List.replicate pres.length .non), .lst [], .lst (crash ws dur (cs.take j))] ∧ ∃ x4 x5, ρ = [some (.ref k), some (.dct (encC cs)), some (.ref S.length), some (.ref (S.length + 3)), x4, x5, none, none]) (fun o => rB (oB o _) = _) ?_ ?_ ⟨rfl, _, _, rfl⟩
  · rintro j d hj ρ S' ⟨rfl, x4, x5, rfl⟩
    rw [encC_key, List.getElem?_map] at hj
    cases ec : cs[j]? with
    | none => rw [ec] at hj; cases hj
    | some c =>
      rw [ec] at hj
      cases hj
      have hj' := (List.getElem?_eq_some_iff.mp ec).1
      obtain ⟨b1, b2⟩ := hb c (List.mem_of_getElem? ec)
      have ev := encC_val hn (i := c.1) (c := c.2) (List.mem_of_getElem? ec)
      have ix : ∀ S : Store, ixA (.dct (encC cs)) (.int (c.1 : Int)) S = .ok (.int c.2) S := fun S => by
        rw [ixA_dct (kvs := encC cs) (k := .inl (c.1 : Int)) rfl rfl, ev]
        rfl
      have et : crash ws dur (cs.take (j + 1)) = crS ws (crash ws dur (cs.take j)) c := by
        rw [List.take_add_one, ec]
        show (cs.take j ++ [c]).foldl (crS ws) dur = _
        rw [List.foldl_append]
        rfl
      have cc := fun T => comp_pure (it := ⟨ws.map wD, some w⟩) (p := ptT (psC (ptN 6) (psC (ptN 7) psN))) (t := mTest (mOp eqD (mVar 6) (mVar 4))) (e := mVar 7) (ρ := [some (.ref k), some (.dct (encC cs)), some (.ref S.length), some (.ref (S.length + 3)), some (.int c.1), x5, none, none]) (grd_some (wt T)) wD (fun x => x.2) (fun x => decide (x.1 = c.1)) ws 0 (fun x _ => ⟨_, rfl, by simp; omega, fun _ => by simp⟩) (sz (by omega))
      refine ⟨grd_none, _, rfl, ?_⟩
      rw [et]
      by_cases c0 : 0 < c.2
      · have c1 : (0 : Int) < c.2 := by omega
        have gt : atI (pgs ws c.1) ((c.2 : Int) - 1) = some ((pgs ws c.1).getD (c.2 - 1) .non) := by
          rw [show (c.2 : Int) - 1 = ((c.2 - 1 : Nat) : Int) by omega]
          exact atI_nat (getD_at (by omega))
        have il : ixN (crash ws dur (cs.take j)).length (c.1 : Int) = some c.1 := ixN_nat (by rw [crash_len]; omega)
        unfold crS
        rw [if_pos c0]
        unfold pgs at gt ⊢
        simp [ob, wt, cc, wipeD, ix, ev, c0, c1, gt, rP_some il, -List.getD_eq_getElem?_getD]
      · have c1 : ¬ (0 : Int) < c.2 := by omega
        unfold crS
        rw [if_neg c0]
        simp [ob, wt, cc, wipeD, ix, ev, c0, c1]
  · rintro ρ S' ⟨rfl, x4, x5, rfl⟩
    refine ⟨grd_none, ?_⟩
    have ed : cs.take (((encC cs).map fun kv => keyD kv.1).length) = cs := by
      rw [encC_key, List.length_map, List.take_length]
    simp only [ed]
    simp [crT]
end
end G
namespace G
open PySem L2
/-! ### how many wait for each block -/
def bump (cs : List (Nat × Nat)) (i : Nat) : List (Nat × Nat) := if (cs.any fun c => decide (c.1 = i)) = true then cs.map (fun c => if c.1 = i then (c.1, c.2 + 1) else c) else cs ++ [(i, 1)]
def ct (ws : List (Nat × D)) : List (Nat × Nat) := ws.foldl (fun cs x => bump cs x.1) []
theorem ct_snoc {ws : List (Nat × D)} {x : Nat × D} : ct (ws ++ [x]) = bump (ct ws) x.1 := by
  unfold ct
  rw [List.foldl_append]
  rfl
theorem pgs_snoc {ws : List (Nat × D)} {x : Nat × D} {i : Nat} : pgs (ws ++ [x]) i = if x.1 = i then pgs ws i ++ [x.2] else pgs ws i := by
  unfold pgs
  rw [List.filter_append, List.map_append]
  by_cases e : x.1 = i
  · rw [if_pos e]
    simp [e]
  · rw [if_neg e]
    simp [e]
theorem bump_key {cs : List (Nat × Nat)} {i j : Nat} : j ∈ (bump cs i).map (·.1) ↔ j = i ∨ j ∈ cs.map (·.1) := by
  unfold bump
  split
  · rename_i h
    have e : (cs.map fun c => if c.1 = i then (c.1, c.2 + 1) else c).map (·.1) = cs.map (·.1) := by
      rw [List.map_map]
      apply List.map_congr_left
      intro c _
      show (if c.1 = i then (c.1, c.2 + 1) else c).1 = c.1
      split <;> rfl
    rw [e]
    refine ⟨.inr, fun h2 => h2.elim (fun e => ?_) id⟩
    obtain ⟨c, hc, h3⟩ := List.any_eq_true.mp h
    rw [e]
    exact List.mem_map.mpr ⟨c, hc, of_decide_eq_true h3⟩
  · rw [List.map_append, List.mem_append]
    constructor
    · intro h
      rcases h with h | h
      · exact .inr h
      · simp at h; exact .inl h
    · intro h
      rcases h with h | h
      · exact .inr (by simp [h])
      · exact .inl h
theorem bump_nodup {cs : List (Nat × Nat)} {i : Nat} (h : (cs.map (·.1)).Nodup) : ((bump cs i).map (·.1)).Nodup := by
  unfold bump
  split
  · have e : (cs.map fun c => if c.1 = i then (c.1, c.2 + 1) else c).map (·.1) = cs.map (·.1) := by
      rw [List.map_map]
      apply List.map_congr_left
      intro c _
      show (if c.1 = i then (c.1, c.2 + 1) else c).1 = c.1
      split <;> rfl
    rw [e]
    exact h
  · rename_i hn
    rw [List.map_append, List.nodup_append]
    refine ⟨h, by simp, fun a ha b hb e => ?_⟩
    simp at hb
    subst hb
    subst e
    obtain ⟨c, hc, h3⟩ := List.mem_map.mp ha
    exact hn (List.any_eq_true.mpr ⟨c, hc, decide_eq_true h3⟩)
theorem ct_nodup (ws : List (Nat × D)) : ((ct ws).map (·.1)).Nodup := by
  rcases List.eq_nil_or_concat ws with rfl | ⟨l, x, rfl⟩
  · exact List.nodup_nil
  · rw [List.concat_eq_append, ct_snoc]
    exact bump_nodup (ct_nodup l)
termination_by ws.length
decreasing_by subst_vars; simp
theorem ct_has (ws : List (Nat × D)) : ∀ i, 0 < (pgs ws i).length → ∃ c, (i, c) ∈ ct ws := by
  rcases List.eq_nil_or_concat ws with rfl | ⟨l, x, rfl⟩
  · intro i h; exact absurd h (by simp [pgs])
  · rw [List.concat_eq_append]
    intro i h
    rw [ct_snoc]
    rw [pgs_snoc] at h
    have k : i ∈ (bump (ct l) x.1).map (·.1) := by
      rw [bump_key]
      by_cases e : x.1 = i
      · exact .inl e.symm
      · rw [if_neg e] at h
        obtain ⟨c, hc⟩ := ct_has l i h
        exact .inr (List.mem_map.mpr ⟨_, hc, rfl⟩)
    obtain ⟨c, hc, rfl⟩ := List.mem_map.mp k
    exact ⟨c.2, hc⟩
termination_by ws.length
decreasing_by all_goals (subst_vars; simp)
theorem ct_mem (ws : List (Nat × D)) : ∀ i c, (i, c) ∈ ct ws → c = (pgs ws i).length ∧ 0 < c := by
  rcases List.eq_nil_or_concat ws with rfl | ⟨l, x, rfl⟩
  · intro i c h; cases h
  · rw [List.concat_eq_append]
    intro i c h
    rw [ct_snoc] at h
    rw [pgs_snoc]
    unfold bump at h
    split at h
    · obtain ⟨⟨j, b⟩, hq, e⟩ := List.mem_map.mp h
      have hq := ct_mem l j b hq
      by_cases ej : j = x.1
      · rw [if_pos (by exact ej)] at e
        cases e
        rw [if_pos ej.symm, List.length_append]
        exact ⟨by rw [hq.1]; rfl, by omega⟩
      · rw [if_neg (by exact ej)] at e
        cases e
        rw [if_neg (Ne.symm ej)]
        exact hq
    · rename_i hn
      rcases List.mem_append.mp h with h | h
      · have hq := ct_mem l i c h
        have ej : x.1 ≠ i := fun ej => hn (List.any_eq_true.mpr ⟨_, h, decide_eq_true ej.symm⟩)
        rw [if_neg ej]
        exact hq
      · simp at h
        obtain ⟨rfl, rfl⟩ := h
        rw [if_pos rfl, List.length_append]
        have : pgs l x.1 = [] := by
          cases hp : pgs l x.1 with
          | nil => rfl
          | cons a r =>
            have := ct_has l x.1 (by rw [hp]; simp)
            obtain ⟨c, hc⟩ := this
            exact absurd (List.any_eq_true.mpr ⟨_, hc, decide_eq_true rfl⟩) hn
        rw [this]
        exact ⟨rfl, by omega⟩
termination_by ws.length
decreasing_by all_goals (subst_vars; simp)
/-- all writes done -/
def apw (dur : List D) (ws : List (Nat × D)) : List D := ws.foldl (fun bl x => bl.set x.1 x.2) dur
theorem apw_len : ∀ {ws : List (Nat × D)} {dur : List D}, (apw dur ws).length = dur.length
  | [], _ => rfl
  | x :: ws, dur => by
    show (apw (dur.set x.1 x.2) ws).length = _
    rw [apw_len, List.length_set]
theorem apw_snoc {ws : List (Nat × D)} {dur : List D} {x : Nat × D} : apw dur (ws ++ [x]) = (apw dur ws).set x.1 x.2 := by
  unfold apw
  rw [List.foldl_append]
  rfl
theorem apw_at (dur : List D) (i : Nat) (hi : i < dur.length) (ws : List (Nat × D)) : (apw dur ws)[i]? = some ((pgs ws i).getLast?.getD (dur.getD i .non)) := by
  rcases List.eq_nil_or_concat ws with rfl | ⟨l, x, rfl⟩
  · exact getD_at hi
  · rw [List.concat_eq_append, apw_snoc, pgs_snoc]
    by_cases e : x.1 = i
    · subst e
      rw [if_pos rfl, List.getElem?_set_self (by rw [apw_len]; exact hi)]
      simp
    · rw [if_neg e, List.getElem?_set_ne e]
      exact apw_at dur i hi l
termination_by ws.length
decreasing_by all_goals (subst_vars; simp)
theorem crash_at {ws : List (Nat × D)} {i : Nat} : ∀ {cs : List (Nat × Nat)} {dur : List D}, i < dur.length → (cs.map (·.1)).Nodup →
    (∀ c, (i, c) ∈ cs → 0 < c → (crash ws dur cs)[i]? = some ((pgs ws i).getD (c - 1) .non)) ∧ ((∀ c, (i, c) ∈ cs → c = 0) → (crash ws dur cs)[i]? = dur[i]?)
  | [], dur, hi, _ => ⟨fun c h => (nomatch h), fun _ => rfl⟩
  | x :: cs, dur, hi, hn => by
    rw [List.map_cons, List.nodup_cons] at hn
    obtain ⟨h1, h2⟩ := crash_at (ws := ws) (cs := cs) (dur := crS ws dur x) (by rw [crS_len]; exact hi) hn.2
    have e : crash ws dur (x :: cs) = crash ws (crS ws dur x) cs := rfl
    rw [e]
    refine ⟨fun c hc h0 => ?_, fun h => ?_⟩
    · rcases List.mem_cons.mp hc with hc | hc
      · subst hc
        rw [h2 fun c' hc' => absurd (List.mem_map.mpr ⟨_, hc', rfl⟩) hn.1]
        unfold crS
        rw [if_pos h0, List.getElem?_set_self hi]
      · exact h1 c hc h0
    · rw [h2 fun c' hc' => h c' (List.mem_cons_of_mem _ hc')]
      unfold crS
      split
      · rename_i h0
        by_cases e : x.1 = i
        · have := h x.2 (by rw [← e]; exact List.mem_cons_self)
          omega
        · rw [List.getElem?_set_ne e]
      · rfl
theorem crash_all {ws : List (Nat × D)} {dur : List D} : crash ws dur (ct ws) = apw dur ws := by
  apply List.ext_getElem?
  intro i
  by_cases hi : i < dur.length
  · obtain ⟨h1, h2⟩ := crash_at (ws := ws) (i := i) hi (ct_nodup ws)
    rw [apw_at dur i hi]
    by_cases hp : 0 < (pgs ws i).length
    · obtain ⟨c, hc⟩ := ct_has ws i hp
      obtain ⟨q1, q2⟩ := ct_mem ws i c hc
      rw [h1 c hc q2, q1, List.getLast?_eq_getElem?, getD_at (i := (pgs ws i).length - 1) (by omega)]
      rfl
    · have : pgs ws i = [] := List.eq_nil_of_length_eq_zero (by omega)
      rw [h2 fun c hc => absurd (ct_mem ws i c hc) (by rw [this]; rintro ⟨rfl, h⟩; simp at h), this]
      exact getD_at hi
  · rw [List.getElem?_eq_none (by rw [crash_len]; omega), List.getElem?_eq_none (by rw [apw_len]; omega)]
theorem encC_none {cs : List (Nat × Nat)} {i : Nat} (h : (cs.any fun c => decide (c.1 = i)) = false) : valK (encC cs) (.inl (i : Int)) = none := by
  unfold valK encC
  rw [Option.map_eq_none_iff, List.find?_eq_none]
  intro kv hkv
  obtain ⟨c, hc, rfl⟩ := List.mem_map.mp hkv
  have := (List.any_eq_false.mp h) c hc
  intro z
  have z := of_decide_eq_true z
  cases z
  simp at this
theorem encC_any {cs : List (Nat × Nat)} {i : Nat} : ((encC cs).any fun kv => decide (kv.1 = .inl (i : Int))) = cs.any fun c => decide (c.1 = i) := by
  unfold encC
  rw [List.any_map]
  congr 1
  funext c
  show decide ((Sum.inl (c.1 : Int) : Key) = .inl (i : Int)) = _
  by_cases e : c.1 = i
  · subst e; simp
  · rw [decide_eq_false e, decide_eq_false]
    intro z
    cases z
    exact e rfl
theorem encC_bump {cs : List (Nat × Nat)} {i : Nat} (hn : (cs.map (·.1)).Nodup) : ∃ v : Nat, (valK (encC cs) (.inl (i : Int))).getD (.int 0) = .int v ∧ putKD (encC cs) (.inl (i : Int)) (.int (v + 1)) = encC (bump cs i) := by
  cases h : cs.any fun c => decide (c.1 = i) with
  | false =>
    refine ⟨0, by rw [encC_none h]; rfl, ?_⟩
    unfold putKD bump
    rw [encC_any, h]
    simp [encC]
  | true =>
    obtain ⟨⟨j, c⟩, hc, e⟩ := List.any_eq_true.mp h
    obtain rfl : j = i := of_decide_eq_true e
    refine ⟨c, by rw [encC_val hn hc]; rfl, ?_⟩
    unfold putKD bump
    rw [encC_any, h]
    simp only [if_true]
    unfold encC
    rw [List.map_map, List.map_map]
    apply List.map_congr_left
    intro x hx
    show (if (Sum.inl (x.1 : Int) : Key) = .inl (j : Int) then ((Sum.inl (x.1 : Int) : Key), D.int (c + 1)) else (Sum.inl (x.1 : Int), D.int x.2)) = ((fun c : Nat × Nat => (Sum.inl (c.1 : Int), D.int c.2)) (if x.1 = j then (x.1, x.2 + 1) else x) : Key × D)
    by_cases ej : x.1 = j
    · subst ej
      have ev := encC_val hn hx
      rw [encC_val hn hc] at ev
      have ev : (c : Int) = x.2 := by injection ev with ev; injection ev
      rw [if_pos rfl, if_pos rfl, ev]
      simp
    · rw [if_neg ej, if_neg]
      intro z
      cases z
      exact ej rfl
end G
namespace G
open PySem L2
/-! ### what is durable stays -/
theorem dt4_like {S : Store} {d : D} (h : dtB 4 d = true) : fn_law_like 20 [d, d] S = .ok (.bl true) S := like_ok 4 (dtB_sm h) 20 (by decide)
theorem inl_ne {a b : Nat} (h : a ≠ b) : (Sum.inl (a : Int) : Key) ≠ .inl (b : Int) := fun e => by
  injection e with e
  omega
abbrev kvF (pres : List D) (F : List Nat) : List (Key × D) := F.map fun b : Nat => (.inl (b : Int), pres.getD b .non)
theorem valK_kvF {pres : List D} {b : Nat} : ∀ {F : List Nat}, b ∈ F → valK (kvF pres F) (.inl (b : Int)) = some (pres.getD b .non)
  | [], h => nomatch h
  | c :: F, h => by
    unfold valK
    show Option.map _ (List.find? _ ((Sum.inl (c : Int), pres.getD c .non) :: kvF pres F)) = _
    rw [List.find?_cons]
    by_cases e : c = b
    · subst e
      simp
    · have e2 : decide ((Sum.inl (c : Int) : Key) = .inl (b : Int)) = false := decide_eq_false (inl_ne e)
      have hb : b ∈ F := by
        rcases List.mem_cons.mp h with h | h
        · exact absurd h.symm e
        · exact h
      simp only [e2]
      exact valK_kvF hb
theorem kvF_in {pres : List D} {b : Nat} : ∀ {F : List Nat}, (valK (kvF pres F) (.inl (b : Int))).isSome = true → b ∈ F
  | [], h => by cases h
  | c :: F, h => by
    unfold valK at h
    change (Option.map _ (List.find? _ ((Sum.inl (c : Int), pres.getD c .non) :: kvF pres F))).isSome = true at h
    rw [List.find?_cons] at h
    by_cases e : c = b
    · subst e
      exact List.mem_cons_self
    · have e2 : decide ((Sum.inl (c : Int) : Key) = .inl (b : Int)) = false := decide_eq_false (inl_ne e)
      simp only [e2] at h
      exact List.mem_cons_of_mem _ (kvF_in h)
theorem put_kvF {pres : List D} {b : Nat} {F : List Nat} (h : b ∉ F) : putKD (kvF pres F) (.inl (b : Int)) (pres.getD b .non) = kvF pres (F ++ [b]) := by
  unfold putKD
  rw [if_neg]
  · simp [kvF]
  · intro z
    obtain ⟨kv, h1, h2⟩ := List.any_eq_true.mp z
    obtain ⟨c, hc, rfl⟩ := List.mem_map.mp h1
    by_cases e : c = b
    · exact h (e ▸ hc)
    · exact inl_ne e (of_decide_eq_true h2)
theorem kvF_keys {pres : List D} {F : List Nat} : ((kvF pres F).map fun kv => keyD kv.1) = nD F := by
  rw [List.map_map]
  rfl
theorem kvF_congr {a b : List D} {F : List Nat} (h : ∀ c ∈ F, a[c]? = b[c]?) : kvF a F = kvF b F := by
  apply List.map_congr_left
  intro c hc
  rw [List.getD_eq_getElem?_getD, List.getD_eq_getElem?_getD, h c hc]
/-- two lists of pages are alike at the metas and at F -/
structure Alike (F : List Nat) (a b : List D) : Prop where
  ln : b.length = a.length
  at' : ∀ c, c < 2 ∨ c ∈ F → b[c]? = a[c]?
theorem Alike.rf {F : List Nat} {a : List D} : Alike F a a := ⟨rfl, fun _ _ => rfl⟩
theorem Alike.kv {F : List Nat} {a b : List D} (h : Alike F a b) : kvF b F = kvF a F := kvF_congr fun c hc => h.at' c (.inr hc)
theorem Alike.mts {n : Nat} {num : Int} {root : Option Nat} {F : List Nat} {a b : List D} (h : Alike F a b) (M : Mts n num root a) : Mts n num root b := by
  obtain ⟨h1, h2, c, c1, c2, c3, c4⟩ := M
  refine ⟨h1, h2, c, c1, c2, by rw [h.at' c (.inl c1)]; exact c3, ?_⟩
  rw [h.at' (1 - c) (.inl (by omega))]
  exact c4
theorem lkS_at {n : Nat} {a b : List D} {c : Nat} (h : b[c]? = a[c]?) : lkS n b c = lkS n a c := by
  unfold lkS
  rw [List.getD_eq_getElem?_getD, List.getD_eq_getElem?_getD, h]
theorem Alike.reach {n : Nat} {root : Option Nat} {F : List Nat} {a b : List D} (h : Alike F a b) (hF : ∀ c, c ∈ F ↔ Reach (lkS n a) root.toList c) : ∀ c, c ∈ F ↔ Reach (lkS n b) root.toList c := fun c => by
  rw [hF c]
  exact Reach.same fun d hd => lkS_at (h.at' d (.inr ((hF d).mpr hd)))
theorem pgs_nil {ws : List (Nat × D)} {i : Nat} (h : ∀ x ∈ ws, x.1 ≠ i) : pgs ws i = [] := by
  unfold pgs
  rw [List.filter_eq_nil_iff.mpr fun x hx => by simpa using h x hx]
  rfl
theorem Alike.apw {n : Nat} {F : List Nat} {dur : List D} {ws : List (Nat × D)} (hF : ∀ b ∈ F, b < dur.length) (h2 : 2 ≤ dur.length) (hw : ∀ x ∈ ws, 2 ≤ x.1 ∧ x.1 ∉ F) : Alike F dur (apw dur ws) := by
  refine ⟨apw_len, fun c hc => ?_⟩
  have hl : c < dur.length := hc.elim (fun h => by omega) (hF c)
  rw [apw_at dur c hl, pgs_nil (fun x hx e => by
    obtain ⟨g1, g2⟩ := hw x hx
    rcases hc with hc | hc
    · omega
    · exact g2 (e ▸ hc))]
  exact (getD_at hl).symm
theorem Alike.crash {F : List Nat} {dur : List D} {ws : List (Nat × D)} {cs : List (Nat × Nat)} (hF : ∀ b ∈ F, b < dur.length) (h2 : 2 ≤ dur.length) (hw : ∀ x ∈ ws, 2 ≤ x.1 ∧ x.1 ∉ F) (hn : (cs.map (·.1)).Nodup) (hb : ∀ c ∈ cs, c.2 ≤ (pgs ws c.1).length) : Alike F dur (crash ws dur cs) := by
  refine ⟨crash_len, fun c hc => ?_⟩
  have hl : c < dur.length := hc.elim (fun h => by omega) (hF c)
  refine (crash_at hl hn).2 fun k hk => ?_
  have := hb _ hk
  rw [pgs_nil (fun x hx e => by
    obtain ⟨g1, g2⟩ := hw x hx
    rcases hc with hc | hc
    · omega
    · exact g2 (e ▸ hc))] at this
  simpa using this
/-- what a crash finds is durable or was written -/
theorem crash_mem {ws : List (Nat × D)} {p : D → Prop} (hw : ∀ x ∈ ws, p x.2) : ∀ {cs : List (Nat × Nat)} {dur : List D}, (∀ d ∈ dur, p d) → (∀ c ∈ cs, c.2 ≤ (pgs ws c.1).length) → ∀ d ∈ crash ws dur cs, p d
  | [], dur, h, _, d, hd => h d hd
  | c :: cs, dur, h, hb, d, hd => by
    refine crash_mem hw (cs := cs) (dur := crS ws dur c) (fun e he => ?_) (fun c' hc' => hb c' (List.mem_cons_of_mem _ hc')) d hd
    unfold crS at he
    split at he
    · rename_i h0
      rcases List.mem_or_eq_of_mem_set he with he | rfl
      · exact h e he
      · have hl := hb c List.mem_cons_self
        have hm : (pgs ws c.1).getD (c.2 - 1) .non ∈ pgs ws c.1 := List.mem_of_getElem? (getD_at (by omega))
        obtain ⟨x, hx, e⟩ := List.mem_map.mp hm
        rw [← e]
        exact hw x (List.mem_filter.mp hx).1
    · exact h e he
theorem apw_mem {p : D → Prop} : ∀ {ws : List (Nat × D)} {dur : List D}, (∀ x ∈ ws, p x.2) → (∀ d ∈ dur, p d) → ∀ d ∈ apw dur ws, p d
  | [], dur, _, h, d, hd => h d hd
  | x :: ws, dur, hw, h, d, hd => by
    refine apw_mem (ws := ws) (dur := dur.set x.1 x.2) (fun y hy => hw y (List.mem_cons_of_mem _ hy)) (fun e he => ?_) d hd
    rcases List.mem_or_eq_of_mem_set he with he | rfl
    · exact h e he
    · exact hw x List.mem_cons_self
/-! ### the twin, the look at a version -/
def twT (L n : Nat) (dur pres wait : List D) : Store := [dskM (.lst dur) (L + 3) (L + 4), .lst (List.replicate n .non), .lst [], .lst pres, .lst wait]
section
variable {S : Store} {k p w n : Nat} {dv : D} {dur pres wait : List D} {num : Int} {root : Option Nat} {F : List Nat}
theorem sqOf_app (hd : sqOf S dv = some dur) (T : Store) : sqOf (S ++ T) dv = some dur := by
  cases dv with
  | ref n =>
    rw [sq_refS] at hd ⊢
    cases e : sg S n with
    | none => rw [e] at hd; cases hd
    | some mo => rw [sg_app (sg_lt e), e]; rw [e] at hd; exact hd
  | _ => exact hd
theorem twin_ok (h : DiskAt S k p w dv pres wait) (hd : sqOf S dv = some dur) (h8 : 8 ≤ pres.length) (h4 : pres.length ≤ 400) : fn_Disk_twin [.ref k] S = .ok (.ref S.length) (S ++ twT S.length pres.length dur pres wait) := by
  have e2 := disk_new (S := S) (n := pres.length) (by omega) (by omega)
  simp only [Int.toNat_natCast, List.append_assoc, List.cons_append, List.nil_append] at e2
  have ob : ∀ T, sg (S ++ T) k = some (dskM dv p w) := fun T => by rw [sg_app (sg_lt h.ob)]; exact h.ob
  have pr : ∀ T, sg (S ++ T) p = some (.lst pres) := fun T => by rw [sg_app (sg_lt h.pr)]; exact h.pr
  have wt : ∀ T, sg (S ++ T) w = some (.lst wait) := fun T => by rw [sg_app (sg_lt h.wt)]; exact h.wt
  unfold fn_Disk_twin
  rw [run_eq]
  simp only [sem_Disk_twin, startD]
  simp [h.ob, h.pr, e2, ob, pr, wt, twT, sqOf_app hd]
theorem isver_ok (D0 : DiskAt S k p w dv pres wait) (ln : pres.length = n) (M : Mts n num root pres) (h4 : F.length ≤ 400) (hF : ∀ b ∈ F, pres[b]? = some (pres.getD b .non)) (hd : ∀ d ∈ pres, dtB 4 d = true) :
    Ok (fn_law_is_version [.ref k, .tup [.int num, rD root, .dct (kvF pres F)]] S) fun d S' => d = .bl true ∧ Ext S S' := by
  have vo := vault_open D0 ln M
  have E : Ext S (S ++ [vltM k num (rD root) (S.length + 1) false, .lst []]) := Ext.app
  have D1 := D0.ext E
  have o1 : sg (S ++ [vltM k num (rD root) (S.length + 1) false, .lst []]) S.length = some (vltM k num (rD root) (S.length + 1) false) := sg_a0
  generalize hS1 : S ++ [vltM k num (rD root) (S.length + 1) false, .lst []] = S1 at vo E D1 o1
  have ver : fn_Vault_version [.ref S.length] S1 = .ok (.int num) S1 := by
    unfold fn_Vault_version
    rw [run_eq]
    simp only [sem_Vault_version, startD]
    simp [o1]
  have rt : fn_Vault_root [.ref S.length] S1 = .ok (rD root) S1 := by
    unfold fn_Vault_root
    rw [run_eq]
    simp only [sem_Vault_root, startD]
    simp [o1]
  have lk : fn_law_like 20 [.lst [.int num, rD root], .lst [.int num, rD root]] S1 = .ok (.bl true) S1 := dt4_like (by cases root <;> rfl)
  unfold fn_law_is_version
  rw [run_eq]
  simp only [sem_law_is_version, startD]
  simp [vo, o1, ver, rt, b0, b1, b2, lk, wipeD, kvF_keys, -List.getD_eq_getElem?_getD]
  generalize hx : compL _ _ _ _ _ _ _ _ = x
  obtain ⟨ys, S2, rfl, rfl, rfl⟩ := Ok.g hx (compM (xs := F) (fun b : Nat => D.int (b : Nat)) (fun _ => D.bl true) grd_none (fun b hb => ⟨_, rfl, by
    have rd : fn_Vault_read [.ref S.length, .int b] S1 = .ok (pres.getD b .non) S1 := by
      have := read_ok D1 (hF b hb)
      unfold fn_Vault_read
      rw [run_eq]
      simp only [sem_Vault_read, startD]
      simp [o1, D1.ob, this, -List.getD_eq_getElem?_getD]
    have lk := dt4_like (S := S1) (hd _ (List.mem_of_getElem? (hF b hb)))
    simp [o1, rd, b2, valK_kvF hb, lk, -List.getD_eq_getElem?_getD]⟩) (sz (by omega)))
  have ab := all_bl (S := S2) (fun _ : Nat => true) F
  simp [ab]
  exact E
end
end G
namespace G
open PySem L2
theorem encC_put {cs : List (Nat × Nat)} {i c : Nat} (h : i ∉ cs.map (·.1)) : putKD (encC cs) (.inl (i : Int)) (.int (c : Nat)) = encC (cs ++ [(i, c)]) := by
  unfold putKD
  rw [if_neg]
  · simp [encC]
  · intro z
    obtain ⟨kv, h1, h2⟩ := List.any_eq_true.mp z
    obtain ⟨x, hx, rfl⟩ := List.mem_map.mp h1
    by_cases e : x.1 = i
    · exact h (e ▸ List.mem_map.mpr ⟨x, hx, rfl⟩)
    · exact inl_ne e (of_decide_eq_true h2)
theorem ct_len (ws : List (Nat × D)) : (ct ws).length ≤ ws.length := by
  rcases List.eq_nil_or_concat ws with rfl | ⟨l, x, rfl⟩
  · exact Nat.le_refl _
  · rw [List.concat_eq_append, ct_snoc]
    have := ct_len l
    unfold bump
    split
    · rw [List.length_map, List.length_append]
      omega
    · rw [List.length_append, List.length_append]
      simpa using this
termination_by ws.length
decreasing_by all_goals (subst_vars; simp)
/-- a choice of the pending writes -/
structure Chosen (ws : List (Nat × D)) (cs : List (Nat × Nat)) : Prop where
  nd : (cs.map (·.1)).Nodup
  le : ∀ c ∈ cs, c.2 ≤ (pgs ws c.1).length ∧ c.1 ∈ ws.map (·.1)
structure KpI (ws : List (Nat × D)) (l : List Nat) (L : Nat) (S2 : Store) (j : Nat) (S' : Store) (cs : List (Nat × Nat)) : Prop where
  fr : Fr [0, L + 1] S2 S'
  pl : PoolAt S'
  d1 : sg S' (L + 1) = some (.dct (encC cs))
  ch : Chosen ws cs
  d3 : cs.length ≤ j
  d5 : ∀ c ∈ cs, c.1 ∈ l.take j
section
variable {S : Store} {k p w n : Nat} {dv : D} {dur pres : List D} {ws : List (Nat × D)} {num : Int} {root r : Option Nat} {F : List Nat} {ns : List Int}
/-- a drawn choice of the pending writes -/
theorem lkept_ok (D0 : DiskAt S k p w dv pres (ws.map wD)) (hp : PoolAt S) (hw : ws.length ≤ 900) :
    Ok (fn_law_kept [.scr ns, .ref 0, .ref k] S) fun d S' => Fr [0] S S' ∧ PoolAt S' ∧ ∃ cs, d = .dct (encC cs) ∧ Chosen ws cs := by
  have ob : ∀ T, sg (S ++ T) k = some (dskM dv p w) := fun T => by rw [sg_app (sg_lt D0.ob)]; exact D0.ob
  have pe : fn_Disk_pending [.ref k] (S ++ [.dct []]) = .ok (.lst (ws.map wD)) (S ++ [.dct []]) := pending_ok (D0.ext Ext.app)
  unfold fn_law_kept
  rw [run_eq]
  simp only [sem_law_kept, startD]
  simp [ob, pe]
  generalize hx : forL _ _ _ _ _ _ = x
  obtain ⟨_, S1, rfl, rfl, x4, x5, rfl⟩ := OkN.g hx (forI (fun j ρ S' => S' = S ++ [.dct (encC (ct (ws.take j)))] ∧ ∃ x4 x5, ρ = [some (.scr ns), some (.ref 0), some (.ref k), some (.ref S.length), x4, x5, none]) (fun _ _ _ _ => grd_none) (fun j d hj ρ S' ⟨e, x4, x5, eρ⟩ => by
    subst e
    subst eρ
    rw [List.getElem?_map] at hj
    cases ew : ws[j]? with
    | none => rw [ew] at hj; cases hj
    | some x =>
      rw [ew] at hj
      cases hj
      refine ⟨_, rfl, ?_⟩
      obtain ⟨v, b1, b2⟩ := encC_bump (cs := ct (ws.take j)) (i := x.1) (ct_nodup _)
      have et : ct (ws.take (j + 1)) = bump (ct (ws.take j)) x.1 := by
        rw [List.take_add_one, ew]
        exact ct_snoc
      have hd := dc_ref (S := S ++ [.dct (encC (ct (ws.take j)))]) (n := S.length) sg_new
      have g1 := get_ok (S := S ++ [.dct (encC (ct (ws.take j)))]) (z := .int 0) (y := .int x.1) hd rfl
      rw [b1] at g1
      have zl : (encC (ct (ws.take j))).length < sizeLine := szl (by
        unfold encC
        rw [List.length_map]
        exact Nat.lt_of_le_of_lt (ct_len _) (by simp; omega))
      have g2 := putA_dct (S := S ++ [.dct (encC (ct (ws.take j)))]) (n := S.length) (y := .int x.1) (v := .int (v + 1)) sg_new rfl zl
      have sp0 : ∀ M, sp (S ++ [.dct (encC (ct (ws.take j)))]) S.length M = S ++ [M] := fun M => sp_new
      rw [b2, sp0] at g2
      rw [et]
      simp [hd, g1, g2, b1]) ⟨by simp [ct, encC], _, _, rfl⟩)
  simp
  have c1 : sg (S ++ [.dct (encC (ct ws)), .dct []]) S.length = some (.dct (encC (ct ws))) := sg_a0
  have c2 : sg (S ++ [.dct (encC (ct ws)), .dct []]) (S.length + 1) = some (.dct (encC [])) := sg_a1
  have p2 : PoolAt (S ++ [.dct (encC (ct ws)), .dct []]) := hp.ext Ext.app
  have F2 : Fr [0] S (S ++ [.dct (encC (ct ws)), .dct []]) := Fr.app
  have l2 : (S ++ [MO.dct (encC (ct ws)), MO.dct []]).length = S.length + 2 := by simp
  have l0 : 0 < S.length := by
    obtain ⟨mm, g1, _⟩ := hp
    exact sg_lt g1
  generalize S ++ [MO.dct (encC (ct ws)), MO.dct []] = S2 at c1 c2 p2 F2 l2 ⊢
  obtain ⟨l, s1, s0, s2, s3⟩ := srt_nats ((ct ws).map (·.1))
  have es : sortedD [.lst ((encC (ct ws)).map fun kv => keyD kv.1)] S2 = .ok (.lst (nD l)) S2 := by
    unfold sortedD
    dsimp only
    rw [encC_key]
    have := ints_nat ((ct ws).map (·.1))
    rw [List.map_map, List.map_map] at this
    rw [show (fun c : Nat × Nat => D.int (c.1 : Nat)) = (fun c : Nat => D.int (c : Nat)) ∘ (·.1) from rfl]
    show (match (some ((ct ws).map ((fun c : Nat => D.int (c : Nat)) ∘ (·.1)))).bind intsO with | some ns => _ | none => _) = _
    dsimp only [Option.bind]
    rw [this]
    dsimp only
    rw [List.map_map] at s1
    rw [s1, List.map_map]
    rfl
  have ln : l.Nodup := s3.nodup_iff.mpr (ct_nodup ws)
  simp [c1, es]
  generalize hx : forL _ _ _ _ _ _ = x
  obtain ⟨_, S3, rfl, cs, ⟨f3, p3, d1, ⟨d2, d4⟩, d3, d5⟩, y4, rfl⟩ := OkN.g hx (forI (fun j ρ S' => ∃ cs : List (Nat × Nat), KpI ws l S.length S2 j S' cs ∧ ∃ x4, ρ = [some (.scr ns), some (.ref 0), some (.ref k), some (.ref S.length), x4, x5, some (.ref (S.length + 1))]) (fun _ _ _ _ => grd_none) (fun j d hj ρ S' ⟨cs, ⟨f3, p3, d1, ⟨d2, d4⟩, d3, d5⟩, x4, eρ⟩ => by
    subst eρ
    refine ⟨_, rfl, ?_⟩
    rw [List.getElem?_map] at hj
    cases el : l[j]? with
    | none => rw [el] at hj; cases hj
    | some b =>
      rw [el] at hj
      cases hj
      have hb := (s2 b).mp (List.mem_of_getElem? el)
      obtain ⟨x, hx, rfl⟩ := List.mem_map.mp hb
      obtain ⟨q1, q2⟩ := ct_mem ws x.1 x.2 hx
      have nj : x.1 ∉ cs.map (·.1) := fun hz => by
        obtain ⟨c, hc, e⟩ := List.mem_map.mp hz
        have h1 := d5 c hc
        rw [e] at h1
        obtain ⟨i, hi⟩ := List.getElem?_of_mem h1
        have li := (List.getElem?_eq_some_iff.mp hi).1
        simp at li
        rw [List.getElem?_take_of_lt (by omega)] at hi
        have := (List.getElem?_inj (by omega) ln).mp (hi.trans el.symm)
        omega
      have inw : x.1 ∈ ws.map (·.1) := by
        have : pgs ws x.1 ≠ [] := fun z => by rw [z] at q1; simp at q1; omega
        obtain ⟨z, hz⟩ := List.exists_mem_of_ne_nil _ this
        unfold pgs at hz
        obtain ⟨y, hy, _⟩ := List.mem_map.mp hz
        obtain ⟨h1, h2⟩ := List.mem_filter.mp hy
        exact List.mem_map.mpr ⟨y, h1, by simpa using h2⟩
      have lx : x.2 ≤ 900 := by
        rw [q1]
        unfold pgs
        rw [List.length_map]
        have := List.length_filter_le (fun y : Nat × D => decide (y.1 = x.1)) ws
        omega
      have tk : ∀ c ∈ cs, c.1 ∈ l.take (j + 1) := fun c hc => by
        have h1 := d5 c hc
        rw [List.take_add_one]
        exact List.mem_append_left _ h1
      simp
      generalize hx' : fn_law_take _ _ = x'
      obtain ⟨_, S4, rfl, ⟨⟨r4, rfl, l4⟩, p4, f4, q4⟩⟩ := Ok.g hx' (draw p3)
      have F4 := f3.tr (f4.sub (B := [0, S.length + 1]) (by simp))
      have e4 := f4.get d1 (by simp)
      by_cases c4 : r4 = 0
      · subst c4
        simp
        exact ⟨cs, F4, p4, e4, ⟨d2, d4⟩, by omega, tk⟩
      · have c4' : (0 : Int) < r4 := by omega
        have c4'' : 0 < r4 := by omega
        have hS : sg S4 S.length = some (.dct (encC (ct ws))) := F4.get c1 (fun h => by simp only [List.mem_cons, List.not_mem_nil, or_false] at h; omega)
        have ev := encC_val (ct_nodup ws) (i := x.1) (c := x.2) hx
        simp [c4', c4'', hS, ev]
        generalize hx' : fn_law_take _ _ = x'
        obtain ⟨_, S5, rfl, ⟨⟨r5, rfl, l5⟩, p5, f5, q5⟩⟩ := Ok.g hx' (draw p4 (z := (x.2 : Int) + 1) (by omega) (by omega))
        have F5 := F4.tr (f5.sub (B := [0, S.length + 1]) (by simp))
        have e5 := f5.get e4 (by simp)
        have lj := (List.getElem?_eq_some_iff.mp el).1
        have ll : l.length ≤ 900 := by
          rw [s0, List.length_map]
          have := ct_len ws
          omega
        have zl : (encC cs).length < sizeLine := szl (by
          unfold encC
          rw [List.length_map]
          omega)
        have g2 := putA_dct (n := S.length + 1) (y := .int x.1) (v := .int r5) e5 rfl zl
        rw [encC_put nj] at g2
        simp [g2]
        refine ⟨cs ++ [(x.1, r5)], F5.tr (Fr.put (by simp)), ?_, sg_sp (sg_lt e5), ⟨?_, fun c hc => ?_⟩, by simp; omega, fun c hc => ?_⟩
        · obtain ⟨mm, g1, g2⟩ := p5
          exact ⟨mm, by rw [sg_ne (by omega)]; exact g1, g2⟩
        · rw [List.map_append, List.nodup_append]
          refine ⟨d2, by simp, fun a ha b hb e => ?_⟩
          simp at hb
          subst hb
          subst e
          exact nj ha
        · rcases List.mem_append.mp hc with hc | hc
          · exact d4 c hc
          · rw [List.mem_singleton.mp hc]
            refine ⟨?_, inw⟩
            show r5 ≤ (pgs ws x.1).length
            omega
        · rcases List.mem_append.mp hc with hc | hc
          · exact tk c hc
          · rw [List.mem_singleton.mp hc]
            rw [List.take_add_one, el]
            simp) ⟨[], ⟨Fr.rf _ _, p2, c2, ⟨List.nodup_nil, fun c hc => (nomatch hc)⟩, by simp, fun c hc => (nomatch hc)⟩, _, rfl⟩)
  simp [frzR_ok d1]
  have fA : Fr [0, S.length + 1] S (sp S3 (S.length + 1) .dead) := ((F2.sub (by simp)).tr f3).tr (Fr.put (by simp))
  refine ⟨fA.mono fun i hi hl => ?_, ?_, cs, rfl, d2, d4⟩
  · simp only [List.mem_cons, List.not_mem_nil, or_false] at hi ⊢
    omega
  · obtain ⟨mm, g1, g2⟩ := p3
    exact ⟨mm, by rw [sg_ne (by omega)]; exact g1, g2⟩
end
end G
namespace G
open PySem L2
theorem Agree.val {n b : Nat} {P : List (Key × D)} {pres : List D} (A : Agree n P pres) (h : (valK P (.inl (b : Int))).isSome = true) : valK P (.inl (b : Int)) = some (pres.getD b .non) ∧ 2 ≤ b ∧ b < n := by
  obtain ⟨d, hd⟩ := Option.isSome_iff_exists.mp h
  obtain ⟨h1, h2, h3, _⟩ := A.yes b d hd
  refine ⟨?_, h1, h2⟩
  rw [hd, List.getD_eq_getElem?_getD, h3]
  rfl
section
variable {S : Store} {k p w n q : Nat} {dv : D} {dur pres : List D} {ws : List (Nat × D)} {num : Int} {root r : Option Nat} {F F' : List Nat} {ns : List Int} {P : List (Key × D)}
/-- what the next version is to be -/
theorem due_ok {v : Int} (hq : sg S q = some (.dct P)) (A : Agree n P pres) (ln : pres.length = n) (h2 : 2 ≤ n) (h4 : n ≤ 400) (hr : ∀ b, r = some b → (valK P (.inl (b : Int))).isSome = true) :
    Ok (fn_law_due [.int v, rD r, .ref q, .int n] S) fun d S' => Fr [] S S' ∧ ∃ F : List Nat, d = .tup [.int v, rD r, .dct (kvF pres F)] ∧ F.Nodup ∧ F.length ≤ n ∧ ∀ b, b ∈ F ↔ Reach (lkS n pres) r.toList b := by
  have lq := sg_lt hq
  have hq1 : sg (S ++ [.dct []]) q = some (.dct P) := by rw [sg_app lq]; exact hq
  have lu := lused_ok (rs := [r]) hq1 A ln h2 h4 (fun o ho b hb => by
    rw [List.mem_singleton.mp ho] at hb
    have := A.val (hr b hb)
    omega) (fun o ho b hb => by
    rw [List.mem_singleton.mp ho] at hb
    exact hr b hb)
  have er : [r].filterMap id = r.toList := by cases r <;> rfl
  rw [er] at lu
  simp only [List.map_cons, List.map_nil] at lu
  unfold fn_law_due
  rw [run_eq]
  simp only [sem_law_due, startD]
  simp
  generalize hx : fn_law_used _ _ = x
  obtain ⟨_, S1, rfl, E1, l, rfl, l1, l2, l3⟩ := Ok.g hx lu
  have c1 : sg S1 S.length = some (.dct (kvF pres [])) := E1.get sg_new
  have q1 := E1.get hq1
  have F1 : Fr [S.length] S S1 := (Fr.app (T := [.dct []])).tr (Fr.ext E1)
  clear hx lu E1
  have isk : ∀ b ∈ l, (valK P (.inl (b : Int))).isSome = true := fun b hb => A.reach (rl := r.toList) (fun c hc => hr c (Option.mem_toList.mp hc)) ((l3 b).mp hb)
  simp
  generalize hx : forL _ _ _ _ _ _ = x
  obtain ⟨_, S2, rfl, f2, c2, x5, rfl⟩ := OkN.g hx (forI (fun j ρ S' => Fr [S.length] S1 S' ∧ sg S' S.length = some (.dct (kvF pres (l.take j))) ∧ ∃ x5, ρ = [some (.int v), some (rD r), some (.ref q), some (.int n), some (.ref S.length), x5]) (fun _ _ _ _ => grd_none) (fun j d hj ρ S' ⟨f2, c2, x5, eρ⟩ => by
    subst eρ
    refine ⟨_, rfl, ?_⟩
    rw [List.getElem?_map] at hj
    cases el : l[j]? with
    | none => rw [el] at hj; cases hj
    | some b =>
      rw [el] at hj
      cases hj
      have bl := List.mem_of_getElem? el
      obtain ⟨va, _, _⟩ := A.val (isk b bl)
      have hq2 := f2.get q1 (by simp; omega)
      have lj := (List.getElem?_eq_some_iff.mp el).1
      have zl : (kvF pres (l.take j)).length < sizeLine := szl (by simp; omega)
      have nj : b ∉ l.take j := fun h1 => by
        obtain ⟨i, hi⟩ := List.getElem?_of_mem h1
        have li := (List.getElem?_eq_some_iff.mp hi).1
        simp at li
        rw [List.getElem?_take_of_lt (by omega)] at hi
        have := (List.getElem?_inj (by omega) l2).mp (hi.trans el.symm)
        omega
      have g2 := putA_dct (n := S.length) (y := .int b) (v := pres.getD b .non) c2 rfl zl
      rw [put_kvF nj] at g2
      have et : l.take (j + 1) = l.take j ++ [b] := by
        rw [List.take_add_one, el]
        rfl
      rw [et]
      simp only [List.getD_eq_getElem?_getD] at g2 va
      simp [hq2, va, g2]
      exact ⟨f2.tr (Fr.put (by simp)), sg_sp (sg_lt c2)⟩) ⟨Fr.rf _ _, by simpa using c1, _, rfl⟩)
  rw [show l.take (l.map fun g : Nat => D.int (g : Nat)).length = l by simp] at c2
  simp [frzR_ok c2, -List.getD_eq_getElem?_getD]
  refine ⟨(((F1.tr f2).tr (Fr.put (by simp))).mono fun i hi hl => ?_), l, rfl, l2, l1, l3⟩
  rw [List.mem_singleton.mp hi] at hl
  omega
theorem found_at {f : List D} (hl : f.length = n) : DiskAt (S ++ crT S.length n f) S.length (S.length + 4) (S.length + 2) (.ref (S.length + 3)) f [] := by
  have sgT : ∀ T i, sg (S ++ T) (S.length + i) = T[i]? := fun T i => by
    unfold sg
    rw [List.getElem?_append_right (by omega)]
    congr 1
    omega
  exact ⟨sgT _ 0, sgT _ 4, sgT _ 2, by omega, by omega, by omega⟩
/-- the look behind a crash -/
theorem crash_ver {cs : List (Nat × Nat)} {f : List D} (D0 : DiskAt S k p w dv pres (ws.map wD)) (hd : sqOf S dv = some dur) (dl : dur.length = n) (pl : pres.length = n) (h8 : 8 ≤ n) (h4 : n ≤ 400) (hn : (cs.map (·.1)).Nodup) (hb : ∀ c ∈ cs, c.1 < n ∧ c.2 ≤ (pgs ws c.1).length) (hw : ws.length ≤ 1000) (ef : crash ws dur cs = f) (M : Mts n num root f) (hF : ∀ b ∈ F, b < n) (lF : F.length ≤ 400) (hp : ∀ d ∈ f, dtB 4 d = true) :
    ∃ S1, fn_Disk_crashed [.ref k, .dct (encC cs)] S = .ok (.ref S.length) S1 ∧ S1 = S ++ crT S.length n f ∧ DiskAt S1 S.length (S.length + 4) (S.length + 2) (.ref (S.length + 3)) f [] ∧ Ok (fn_law_is_version [.ref S.length, .tup [.int num, rD root, .dct (kvF f F)]] S1) fun d S' => d = .bl true ∧ Ext S S' ∧ Ext S1 S' := by
  have fl : f.length = n := by rw [← ef, crash_len]; exact dl
  have e1 := crashed_ok D0 hd (by omega) (by omega) (by omega) hn (fun c hc => by rw [pl]; exact hb c hc) hw
  rw [ef, pl] at e1
  have D1 := found_at (S := S) fl
  have E1 : Ext S (S ++ crT S.length n f) := Ext.app
  exact ⟨_, e1, rfl, D1, (isver_ok D1 fl M lF (fun b hb => getD_at (by rw [fl]; exact hF b hb)) hp).imp fun d S' ⟨h1, h2⟩ => ⟨h1, E1.tr h2, h2⟩⟩
/-- crashes at all places of a commit -/
theorem commit_right {b : Nat} (D0 : DiskAt S k p w dv pres (ws.map wD)) (hd : sqOf S dv = some dur) (dl : dur.length = n) (pl : pres.length = n) (h8 : 8 ≤ n) (h4 : n ≤ 400) (AL : Alike F dur pres) (M : Mts n num root dur) (hF : ∀ b ∈ F, b < n) (lF : F.length ≤ 400) (hF' : ∀ b ∈ F', 2 ≤ b ∧ b < n) (lF' : F'.length ≤ 400) (hr : ∀ c, r = some c → 2 ≤ c ∧ c < n) (hp : ∀ d ∈ pres, dtB 4 d = true) :
    Ok (fn_law_commit_right [.ref k, rD r, .tup [.int num, rD root, .dct (kvF dur F)], .tup [.int (num + 1), rD r, .dct (kvF pres F')]] S) fun d S' => d = .bl true ∧ Fr [] S S' := by
  obtain ⟨b, hb, hb2⟩ : ∃ b : Nat, (num + 1) % 2 = (b : Int) ∧ b < 2 := ⟨((num + 1) % 2).toNat, by omega, by omega⟩
  have tw := twin_ok D0 hd (by omega) (by omega)
  have DT : DiskAt (S ++ twT S.length pres.length dur pres (ws.map wD)) S.length (S.length + 3) (S.length + 4) (.lst dur) pres (ws.map wD) := by
    have sgT : ∀ T i, sg (S ++ T) (S.length + i) = T[i]? := fun T i => by
      unfold sg
      rw [List.getElem?_append_right (by omega)]
      congr 1
      omega
    exact ⟨sgT _ 0, sgT _ 3, sgT _ 4, by omega, by omega, by omega⟩
  have ET : Fr [] S (S ++ twT S.length pres.length dur pres (ws.map wD)) := Fr.app
  generalize S ++ twT S.length pres.length dur pres (ws.map wD) = S1 at tw DT ET
  obtain ⟨F1, D2⟩ := flush_ok DT
  have f2 : Fr [S.length] S1 (sp S1 S.length (dskM (.lst pres) (S.length + 3) S1.length) ++ [.lst []]) := (Fr.put (by simp)).tr Fr.app
  generalize sp S1 S.length (dskM (.lst pres) (S.length + 3) S1.length) ++ [.lst []] = S2 at F1 D2 f2
  have Mp := AL.mts M
  have kp : kvF dur F = kvF pres F := AL.kv.symm
  rw [kp]
  -- the first crash
  obtain ⟨S3, e3, h3, _, v3⟩ := crash_ver (ws := []) (cs := []) (dur := pres) D2 rfl pl pl h8 h4 List.nodup_nil (fun c hc => nomatch hc) (by simp) rfl Mp hF lF hp
  unfold fn_law_commit_right
  rw [run_eq]
  simp only [sem_law_commit_right, startD]
  rw [show encC [] = [] from rfl] at e3
  simp [D0.ob, tw, DT.ob, F1, D2.ob, e3, -List.getD_eq_getElem?_getD]
  generalize hx : fn_law_is_version _ _ = x
  obtain ⟨_, S4, rfl, rfl, E4, _⟩ := Ok.g hx v3
  clear hx v3
  have D4 := D2.ext E4
  obtain ⟨pg1, pg2⟩ := mtP_pg (r := r) (v := num + 1)
  have wr := write_ok D4 (i := b) (d := mtP r (num + 1)) (by omega) (.inr pg1) (by simp)
  have D5 := D4.wrote b (mtP r (num + 1)) (.tup [.int b, mtP r (num + 1)])
  have f5 : Fr [S.length + 3, S1.length] S4 (sp (sp S4 (S.length + 3) (.lst (pres.set b (mtP r (num + 1))))) S1.length (.lst ([] ++ [.tup [.int b, mtP r (num + 1)]]))) := (Fr.put (by simp)).tr (Fr.put (by simp))
  generalize sp (sp S4 (S.length + 3) (.lst (pres.set b (mtP r (num + 1))))) S1.length (.lst ([] ++ [.tup [.int b, mtP r (num + 1)]])) = S5 at wr D5 f5
  have ew : ([] ++ [D.tup [.int b, mtP r (num + 1)]]) = [((b, mtP r (num + 1)) : Nat × D)].map wD := rfl
  rw [ew] at D5
  have pl5 : (pres.set b (mtP r (num + 1))).length = n := by rw [List.length_set]; exact pl
  have Mn := Mp.next pl (by omega) hb2 hb hr
  have hp5 : ∀ d ∈ pres.set b (mtP r (num + 1)), dtB 4 d = true := fun d hd => by
    rcases List.mem_or_eq_of_mem_set hd with hd | rfl
    · exact hp d hd
    · exact pg2
  have kp' : kvF pres F' = kvF (pres.set b (mtP r (num + 1))) F' := kvF_congr fun c hc => by
    have := hF' c hc
    rw [List.getElem?_set_ne (by omega)]
  have hF'' : ∀ b ∈ F', b < n := fun b hb => (hF' b hb).2
  have g2 : pgs [((b, mtP r (num + 1)) : Nat × D)] b = [mtP r (num + 1)] := by simp [pgs]
  obtain ⟨S6, e6, h6, _, v6⟩ := crash_ver (cs := []) (dur := pres) D5 rfl pl pl5 h8 h4 List.nodup_nil (fun c hc => nomatch hc) (by simp) rfl Mp hF lF hp
  rw [show encC [] = [] from rfl] at e6
  have key : Ok (rB (oB (.nx [some (.ref k), some (rD r), some (.tup [.int num, rD root, .dct (kvF pres F)]), some (.tup [.int (num + 1), rD r, .dct (kvF pres F')]), some (.ref S.length), some (.tup (nD r.toList)), some (.int b)] S5)
      (sSeq (sIf (mOr (mNot (mTru (mFn (ar 2 fn_law_is_version) (mCons (mMeth [("Disk", fn_Disk_crashed)] "crashed" 2 (mVar 4) (mCons (mC (.dct [])) mNil)) (mCons (mVar 2) mNil))))) (mNot (mTru (mFn (ar 2 fn_law_is_version) (mCons (mMeth [("Disk", fn_Disk_crashed)] "crashed" 2 (mVar 4) (mCons (mDisp [((mVar 6), (mC (.int 0)))] dfz) mNil)) (mCons (mVar 2) mNil))))))
  (sRet (mC (.bl false)))
  sPass)
  (sSeq (sIf (mNot (mTru (mFn (ar 2 fn_law_is_version) (mCons (mMeth [("Disk", fn_Disk_crashed)] "crashed" 2 (mVar 4) (mCons (mDisp [((mVar 6), (mC (.int 1)))] dfz) mNil)) (mCons (mVar 3) mNil)))))
  (sRet (mC (.bl false)))
  sPass)
  (sSeq (sExpr (mMeth [("Disk", fn_Disk_flush)] "flush" 1 (mVar 4) mNil))
  (sRet (mFn (ar 2 fn_law_is_version) (mCons (mMeth [("Disk", fn_Disk_crashed)] "crashed" 2 (mVar 4) (mCons (mC (.dct [])) mNil)) (mCons (mVar 3) mNil))))))))) fun d S' => d = .bl true ∧ Fr [] S S' := by
    simp [D5.ob, e6, -List.getD_eq_getElem?_getD]
    generalize hx : fn_law_is_version _ _ = x
    obtain ⟨_, S7, rfl, rfl, E7, _⟩ := Ok.g hx v6
    clear hx v6
    have D7 := D5.ext E7
    obtain ⟨S8, e8, h8', _, v8⟩ := crash_ver (cs := [(b, 0)]) (dur := pres) D7 rfl pl pl5 h8 h4 (by simp) (fun c hc => by rw [List.mem_singleton.mp hc]; exact ⟨by omega, Nat.zero_le _⟩) (by simp) rfl Mp hF lF hp
    rw [show encC [(b, 0)] = [(Sum.inl (b : Int), D.int 0)] from rfl] at e8
    have mr : ∀ v : D, mrgD [(Sum.inl (b : Int), v)] = [(Sum.inl (b : Int), v)] := fun _ => rfl
    simp [D7.ob, mr, e8, -List.getD_eq_getElem?_getD]
    generalize hx : fn_law_is_version _ _ = x
    obtain ⟨_, S9, rfl, rfl, E9, _⟩ := Ok.g hx v8
    clear hx v8
    have D9 := D7.ext E9
    obtain ⟨S10, e10, h10, _, v10⟩ := crash_ver (cs := [(b, 1)]) (dur := pres) D9 rfl pl pl5 h8 h4 (by simp) (fun c hc => by rw [List.mem_singleton.mp hc]; exact ⟨by omega, by show 1 ≤ (pgs _ b).length; rw [g2]; exact Nat.le_refl _⟩) (by simp) (f := pres.set b (mtP r (num + 1))) (by
      show crS _ pres (b, 1) = _
      unfold crS
      rw [if_pos (show 0 < 1 by decide)]
      dsimp only
      rw [g2]
      rfl) Mn hF'' lF' hp5
    rw [show encC [(b, 1)] = [(Sum.inl (b : Int), D.int 1)] from rfl] at e10
    rw [← kp'] at v10
    simp [D9.ob, mr, e10, -List.getD_eq_getElem?_getD]
    generalize hx : fn_law_is_version _ _ = x
    obtain ⟨_, S11, rfl, rfl, E11, _⟩ := Ok.g hx v10
    clear hx v10
    have D11 := D9.ext E11
    obtain ⟨F12, D12⟩ := flush_ok D11
    have f12 : Fr [S.length] S11 (sp S11 S.length (dskM (.lst (pres.set b (mtP r (num + 1)))) (S.length + 3) S11.length) ++ [.lst []]) := (Fr.put (by simp)).tr Fr.app
    generalize sp S11 S.length (dskM (.lst (pres.set b (mtP r (num + 1)))) (S.length + 3) S11.length) ++ [.lst []] = S12 at F12 D12 f12
    obtain ⟨S13, e13, h13, _, v13⟩ := crash_ver (F := F') (f := pres.set b (mtP r (num + 1))) (ws := []) (cs := []) (dur := pres.set b (mtP r (num + 1))) D12 rfl pl5 pl5 h8 h4 List.nodup_nil (fun c hc => nomatch hc) (by simp) rfl Mn hF'' lF' hp5
    rw [show encC [] = [] from rfl] at e13
    rw [← kp'] at v13
    simp [D11.ob, F12, D12.ob, e13, -List.getD_eq_getElem?_getD]
    generalize hx : fn_law_is_version _ _ = x
    obtain ⟨_, S', rfl, rfl, h2, _⟩ := Ok.g hx v13
    simp
    have fA : Fr [S.length, S.length + 3, S1.length] S S' := (ET.sub (by simp)).tr ((f2.sub (by simp)).tr ((Fr.ext E4).tr ((f5.sub (by simp)).tr ((Fr.ext E7).tr ((Fr.ext E9).tr ((Fr.ext E11).tr ((f12.sub (by simp)).tr (Fr.ext h2))))))))
    have le := ET.le
    exact fA.mono fun i hi hl => by
      simp only [List.mem_cons, List.not_mem_nil, or_false] at hi
      omega
  cases r with
  | _ =>
    simp [mtP, nD] at wr
    simp [rD, b0, hb, D4.ob, wr, -List.getD_eq_getElem?_getD]
    simpa [rD, nD, -List.getD_eq_getElem?_getD] using key
end
end G
namespace G
open PySem L2
theorem valK_put {P : List (Key × D)} {k k' : Key} {v : D} : valK (putKD P k v) k' = if k = k' then some v else valK P k' := by
  unfold putKD
  by_cases e : (P.any fun kv => decide (kv.1 = k)) = true
  · rw [if_pos e]
    unfold valK
    induction P with
    | nil => cases e
    | cons p P ih =>
      rw [List.map_cons, List.find?_cons, List.find?_cons]
      by_cases ep : p.1 = k
      · simp only [ep, if_true, decide_true]
        by_cases ek : k = k'
        · subst ek
          simp
        · simp only [ek, decide_false, if_false]
          have hq : ∀ l : List (Key × D), ((l.map fun kv => if kv.1 = k then (kv.1, v) else kv).find? fun x => decide (x.1 = k')).map (·.2) = (l.find? fun x => decide (x.1 = k')).map (·.2) := by
            intro l
            induction l with
            | nil => rfl
            | cons q l il =>
              rw [List.map_cons, List.find?_cons, List.find?_cons]
              by_cases eq : q.1 = k
              · simp only [eq, if_true, ek, decide_false]
                exact il
              · simp only [eq, if_false]
                by_cases eq' : q.1 = k'
                · simp [eq']
                · simp only [eq', decide_false]
                  exact il
          exact hq P
      · simp only [ep, if_false]
        by_cases ep' : p.1 = k'
        · have : ¬ k = k' := fun z => ep (ep'.trans z.symm)
          simp [ep', this]
        · simp only [ep', decide_false]
          refine ih ?_
          rw [List.any_cons] at e
          simpa [ep] using e
  · rw [if_neg e]
    have hn : ∀ q ∈ P, ¬ q.1 = k := fun q hq z => e (List.any_eq_true.mpr ⟨q, hq, decide_eq_true z⟩)
    unfold valK
    rw [List.find?_append]
    by_cases ek : k = k'
    · subst ek
      have : P.find? (fun x => decide (x.1 = k)) = none := List.find?_eq_none.mpr fun q hq => by simp [hn q hq]
      rw [this]
      simp
    · simp [ek]
theorem put_len {P : List (Key × D)} {k : Key} {v : D} : (putKD P k v).length ≤ P.length + 1 := by
  unfold putKD
  split <;> simp
theorem Agree.put {n : Nat} {P : List (Key × D)} {pres : List D} (A : Agree n P pres) {b : Nat} {pg : D} (h2 : 2 ≤ b) (hb : b < n) (ln : pres.length = n) (hp : PgT pg) (hl : ∀ c ∈ lkP n pg, (valK P (.inl (c : Int))).isSome = true) : Agree n (putKD P (.inl (b : Int)) pg) (pres.set b pg) := by
  refine ⟨fun c d hc => ?_, fun c d hc e he => ?_⟩
  · rw [valK_put] at hc
    by_cases e : b = c
    · subst e
      simp at hc
      subst hc
      exact ⟨h2, hb, List.getElem?_set_self (by omega), hp⟩
    · rw [if_neg (inl_ne e)] at hc
      obtain ⟨g1, g2, g3, g4⟩ := A.yes c d hc
      exact ⟨g1, g2, by rw [List.getElem?_set_ne e]; exact g3, g4⟩
  · have up : (valK P (.inl (e : Int))).isSome = true → (valK (putKD P (.inl (b : Int)) pg) (.inl (e : Int))).isSome = true := fun z => by
      rw [valK_put]
      split
      · rfl
      · exact z
    apply up
    rw [valK_put] at hc
    by_cases eb : b = c
    · subst eb
      apply hl
      unfold lkS at he
      rw [List.getD_eq_getElem?_getD, List.getElem?_set_self (by omega)] at he
      exact he
    · rw [if_neg (inl_ne eb)] at hc
      rw [lkS_set (fun z => eb z.symm)] at he
      exact A.cl c d hc e he
def isK (P : List (Key × D)) (b : Nat) : Prop := (valK P (.inl (b : Int))).isSome = true
theorem isK_put {P : List (Key × D)} {b c : Nat} {d : D} (h : isK P c) : isK (putKD P (.inl (b : Int)) d) c := by
  unfold isK
  rw [valK_put]
  split
  · rfl
  · exact h
theorem isK_new {P : List (Key × D)} {b : Nat} {d : D} : isK (putKD P (.inl (b : Int)) d) b := by
  unfold isK
  rw [valK_put, if_pos rfl]
  rfl
/-- a draft: its place, the list that it gave -/
structure Df where
  d : Nat
  g : Nat
  gs : List Nat
def dvX (dv : D) : List Nat := match dv with
  | .ref q => [q]
  | _ => []
def dfX (o : Option Df) : List Nat := match o with
  | some y => [y.d, y.g]
  | none => []
def ownX (pd mi ho : Nat) (dv : D) (o : Option Df) : List Nat := [0, pd, mi, ho] ++ (dvX dv ++ dfX o)
structure Nes (pd mi ho : Nat) (dv : D) (o : Option Df) : Prop where
  p0 : pd ≠ 0
  m0 : mi ≠ 0
  h0 : ho ≠ 0
  pm : pd ≠ mi
  ph : pd ≠ ho
  mh : mi ≠ ho
  x : ∀ x ∈ dvX dv ++ dfX o, x ≠ 0 ∧ x ≠ pd ∧ x ≠ mi ∧ x ≠ ho
  nd : (dvX dv ++ dfX o).Nodup
theorem nes_iff {pd mi ho : Nat} {dv : D} {o : Option Df} : (ownX pd mi ho dv o).Nodup ↔ Nes pd mi ho dv o := by
  unfold ownX
  rw [List.nodup_append]
  constructor
  · rintro ⟨h1, h2, h3⟩
    simp only [List.nodup_cons, List.mem_cons, List.not_mem_nil, or_false, not_or] at h1
    exact ⟨fun e => h1.1.1 e.symm, fun e => h1.1.2.1 e.symm, fun e => h1.1.2.2 e.symm, h1.2.1.1, h1.2.1.2, h1.2.2.1, fun x hx => ⟨fun e => h3 0 (by simp) x hx e.symm, fun e => h3 pd (by simp) x hx e.symm, fun e => h3 mi (by simp) x hx e.symm, fun e => h3 ho (by simp) x hx e.symm⟩, h2⟩
  · rintro ⟨h1, h2, h3, h4, h5, h6, h7, h8⟩
    refine ⟨?_, h8, fun a ha b hb e => ?_⟩
    · simp only [List.nodup_cons, List.mem_cons, List.not_mem_nil, or_false, not_or]
      exact ⟨⟨h1.symm, h2.symm, h3.symm⟩, ⟨h4, h5⟩, h6, not_false, List.nodup_nil⟩
    · obtain ⟨g1, g2, g3, g4⟩ := h7 b hb
      simp only [List.mem_cons, List.not_mem_nil, or_false] at ha
      subst e
      rcases ha with ha | ha | ha | ha
      · exact g1 ha
      · exact g2 ha
      · exact g3 ha
      · exact g4 ha
abbrev okP (d : D) : Prop := dtB 4 d = true ∧ (d = .non ∨ PgT d)
/-- what holds of the data -/
structure Pu (n m : Nat) (num : Int) (root : Option Nat) (P : List (Key × D)) (pres dur : List D) (ws : List (Nat × D)) (F mine : List Nat) (busy : Bool) : Prop where
  dl : dur.length = n
  pa : pres = apw dur ws
  wb : ∀ x ∈ ws, 2 ≤ x.1 ∧ x.1 < n ∧ x.1 ∉ F
  wq : ∀ x ∈ ws, okP x.2
  dq : ∀ d ∈ dur, okP d
  mt : Mts n num root dur
  fr : ∀ b, b ∈ F ↔ Reach (lkS n dur) root.toList b
  fn : F.Nodup
  lp : P.length ≤ m
  ag : Agree n P pres
  fp : ∀ b ∈ F, isK P b
  ml : mine.length ≤ m
  mn : busy = true → ∀ b ∈ mine, isK P b
  n8 : 8 ≤ n
  n4 : n ≤ 40
/-- what holds of the store -/
structure St (n m : Nat) (num : Int) (root : Option Nat) (P : List (Key × D)) (pres dur : List D) (ws : List (Nat × D)) (mine : List Nat) (hol : List D) (o : Option Df) (dv : D) (hs : List Hl) (k p v w h pd mi ho : Nat) (S : Store) : Prop where
  vc : VC k p v n m num root o.isSome pres dv (ws.map wD) hs (ownX pd mi ho dv o) w h S
  dS : sqOf S dv = some dur
  pool : PoolAt S
  pg : sg S pd = some (.dct P)
  ms : sg S mi = some (.lst (nD mine))
  hl : sg S ho = some (.lst hol)
  h3 : hol.length ≤ 3
  nb : Nes pd mi ho dv o
  df : ∀ y, o = some y → Dr v y.d y.g y.gs S ∧ y.gs.length ≤ m
section
variable {n m m' : Nat} {num : Int} {root : Option Nat} {P : List (Key × D)} {pres dur : List D} {ws : List (Nat × D)} {F mine : List Nat} {hol : List D} {o : Option Df} {dv : D} {hs hs' : List Hl} {k p v w w' h h' pd mi ho : Nat} {S S' : Store} {busy : Bool}
theorem Pu.fin (U : Pu n m num root P pres dur ws F mine busy) : ∀ b ∈ F, 2 ≤ b ∧ b < n := fun b hb =>
  ((U.fr b).mp hb).inn fun r hr => U.mt.rg r (Option.mem_toList.mp hr)
theorem Pu.flen (U : Pu n m num root P pres dur ws F mine busy) : F.length ≤ 400 := by
  have h4 := U.n4
  have := few (n - 2) F U.fn fun b hb => by have := U.fin b hb; omega
  omega
theorem Pu.like (U : Pu n m num root P pres dur ws F mine busy) : Alike F dur pres := by
  rw [U.pa]
  exact Alike.apw (n := n) (fun b hb => by rw [U.dl]; exact (U.fin b hb).2) (by have := U.dl; have := U.n8; omega) fun x hx => ⟨(U.wb x hx).1, (U.wb x hx).2.2⟩
theorem Pu.up (U : Pu n m num root P pres dur ws F mine busy) (h : m ≤ m') : Pu n m' num root P pres dur ws F mine busy := by
  obtain ⟨a1, a2, a3, a4, a5, a6, a7, a8, a9, b1, b2, b3, b4, b5, b6⟩ := U
  exact ⟨a1, a2, a3, a4, a5, a6, a7, a8, by omega, b1, b2, by omega, b4, b5, b6⟩
theorem i4 : ∀ x ∈ [0, pd, mi, ho], x ∈ ownX pd mi ho dv o := fun x hx => List.mem_append_left _ hx
theorem sq_keep {X : List Nat} (hX : ∀ x ∈ dvX dv, x ∈ X) (q : Keep X S S') (h : sqOf S dv = some dur) : sqOf S' dv = some dur := by
  cases dv with
  | ref a =>
    rw [sq_refS] at h ⊢
    cases e : sg S a with
    | none => rw [e] at h; cases h
    | some mo => rw [q.get e (hX a (by simp [dvX]))]; rw [e] at h; exact h
  | _ => exact h
theorem sq_fr {A : List Nat} (hA : ∀ x ∈ dvX dv, x ∉ A) (q : Fr A S S') (h : sqOf S dv = some dur) : sqOf S' dv = some dur := by
  cases dv with
  | ref a =>
    rw [sq_refS] at h ⊢
    cases e : sg S a with
    | none => rw [e] at h; cases h
    | some mo => rw [q.get e (hA a (by simp [dvX]))]; rw [e] at h; exact h
  | _ => exact h
/-- X stays -/
theorem St.kept (B : St n m num root P pres dur ws mine hol o dv hs k p v w h pd mi ho S) (hm : m ≤ m') (q : Keep (ownX pd mi ho dv o) S S') (V : VC k p v n m' num root o.isSome pres dv (ws.map wD) hs' (ownX pd mi ho dv o) w' h' S') : St n m' num root P pres dur ws mine hol o dv hs' k p v w' h' pd mi ho S' := by
  refine ⟨V, sq_keep (fun x hx => List.mem_append_right _ (List.mem_append_left _ hx)) q B.dS, ?_, q.get B.pg (i4 _ (by simp)), q.get B.ms (i4 _ (by simp)), q.get B.hl (i4 _ (by simp)), B.h3, B.nb, fun y hy => ?_⟩
  · obtain ⟨mm, g1, g2⟩ := B.pool
    exact ⟨mm, q.get g1 (i4 _ (by simp)), g2⟩
  · subst hy
    obtain ⟨a1, a2⟩ := B.df y rfl
    have iD : ∀ x ∈ [y.d, y.g], x ∈ ownX pd mi ho dv (some y) := fun x hx => List.mem_append_right _ (List.mem_append_right _ hx)
    exact ⟨⟨q.get a1.dr (iD _ (by simp)), q.get a1.gv (iD _ (by simp)), a1.gl⟩, by omega⟩
theorem St.ext (B : St n m num root P pres dur ws mine hol o dv hs k p v w h pd mi ho S) (e : Ext S S') : St n m num root P pres dur ws mine hol o dv hs k p v w h pd mi ho S' :=
  B.kept (Nat.le_refl _) (Keep.fr (A := []) (Fr.ext e) (fun _ h => nomatch h) fun _ h => nomatch h) (B.vc.ext e)
theorem St.fr (B : St n m num root P pres dur ws mine hol o dv hs k p v w h pd mi ho S) (f : Fr [] S S') : St n m num root P pres dur ws mine hol o dv hs k p v w h pd mi ho S' :=
  B.kept (Nat.le_refl _) (Keep.fr f (fun _ h => nomatch h) fun _ h => nomatch h) (B.vc.fr f fun _ h => nomatch h)
/-- a change at an address of nobody -/
theorem St.fr' {a : Nat} (B : St n m num root P pres dur ws mine hol o dv hs k p v w h pd mi ho S) (f : Fr [a] S S') (ha : ∀ x ∈ ownX pd mi ho dv o, x ≠ a) (hk : k ≠ a ∧ p ≠ a ∧ v ≠ a ∧ w ≠ a ∧ h ≠ a) (nS : NoS S a) : St n m num root P pres dur ws mine hol o dv hs k p v w h pd mi ho S' := by
  have no : ∀ x, x ≠ a → x ∉ [a] := fun x h => by rw [List.mem_singleton]; exact h
  refine B.kept (Nat.le_refl _) (Keep.fr f (fun z hz hx => ha z hx (List.mem_singleton.mp hz)) fun z hz _ => by rw [List.mem_singleton.mp hz]; exact nS) ?_
  obtain ⟨⟨D1, w1⟩, a2, a3, a4, a5, a6, a7, a8, a9, b1, b2, b3, b4⟩ := B.vc
  refine ⟨⟨D1.fr f (no _ hk.1) (no _ hk.2.1) (no _ hk.2.2.2.1), w1⟩, a2, a3, f.get a4 (no _ hk.2.2.1), f.get a5 (no _ hk.2.2.2.2), fun y hy => ⟨f.get (a6 y hy).1 (no _ fun e => nS _ _ _ _ (e ▸ (a6 y hy).1)), (a6 y hy).2⟩, a7, a8, a9, b1, fun x hx => ?_, b3, b4⟩
  obtain ⟨c1, c2, c3, c4, c5, c6, c7⟩ := b2 x hx
  exact ⟨Nat.lt_of_lt_of_le c1 f.le, c2, c3, c4, c5, c6, c7.of (f.eq x c1 (no _ (ha x hx)))⟩
theorem St.up (B : St n m num root P pres dur ws mine hol o dv hs k p v w h pd mi ho S) (h1 : m ≤ m') (h2 : m' ≤ 900) : St n m' num root P pres dur ws mine hol o dv hs k p v w h pd mi ho S :=
  B.kept h1 (Keep.rf _ _) (B.vc.up h1 h2)
/-- a draw -/
theorem St.fr0 (B : St n m num root P pres dur ws mine hol o dv hs k p v w h pd mi ho S) (f : Fr [0] S S') (hp : PoolAt S') : St n m num root P pres dur ws mine hol o dv hs k p v w h pd mi ho S' := by
  have V := B.vc.fr f fun a ha => by
    rw [List.mem_singleton.mp ha]
    exact ⟨i4 _ (by simp), pool_no hp⟩
  have hx : ∀ x ∈ dvX dv ++ dfX o, x ∉ [0] := fun x hx => by rw [List.mem_singleton]; exact (B.nb.x x hx).1
  refine ⟨V, sq_fr (fun x h => hx x (List.mem_append_left _ h)) f B.dS, hp, f.get B.pg (by simpa using B.nb.p0), f.get B.ms (by simpa using B.nb.m0), f.get B.hl (by simpa using B.nb.h0), B.h3, B.nb, fun y hy => ?_⟩
  subst hy
  obtain ⟨a1, a2⟩ := B.df y rfl
  have iD : ∀ x ∈ [y.d, y.g], x ∉ [0] := fun x h => hx x (List.mem_append_right _ h)
  exact ⟨⟨f.get a1.dr (iD _ (by simp)), f.get a1.gv (iD _ (by simp)), a1.gl⟩, a2⟩
end
end G
namespace G
open PySem L2
section
variable {n m m' : Nat} {num : Int} {root : Option Nat} {P : List (Key × D)} {pres dur : List D} {ws : List (Nat × D)} {F mine : List Nat} {hol : List D} {o : Option Df} {dv : D} {hs hs' : List Hl} {k p v w w' h h' pd mi ho : Nat} {S S' : Store} {busy : Bool}
theorem Pu.free (U : Pu n m num root P pres dur ws F mine busy) {b : Nat} (h : ¬ Reach (lkS n pres) (rootsV root hs) b) : b ∉ F := fun hb => by
  have h1 := (U.like.reach U.fr b).mp hb
  exact h (h1.mono fun r hr => by
    rw [mem_rootsV]
    exact .inl (Option.mem_toList.mp hr))
theorem Pu.added {b : Nat} {pg : D} (U : Pu n m num root P pres dur ws F mine true) (b2 : 2 ≤ b) (bn : b < n) (bF : b ∉ F) (hp : PgT pg) (hdt : dtB 4 pg = true) (hl : ∀ c ∈ lkP n pg, isK P c) :
    Pu n (m + 1) num root (putKD P (.inl (b : Int)) pg) (pres.set b pg) dur (ws ++ [(b, pg)]) F (mine ++ [b]) true := by
  have pl := put_len (P := P) (k := .inl (b : Int)) (v := pg)
  have lp := U.lp
  have ml := U.ml
  have lpr : pres.length = n := by rw [U.pa, apw_len]; exact U.dl
  refine ⟨U.dl, by rw [apw_snoc, ← U.pa], fun x hx => ?_, fun x hx => ?_, U.dq, U.mt, U.fr, U.fn, by omega, U.ag.put b2 bn lpr hp hl, fun c hc => isK_put (U.fp c hc), by simp; omega, fun _ c hc => ?_, U.n8, U.n4⟩
  · rcases List.mem_append.mp hx with hx | hx
    · exact U.wb x hx
    · rw [List.mem_singleton.mp hx]
      exact ⟨b2, bn, bF⟩
  · rcases List.mem_append.mp hx with hx | hx
    · exact U.wq x hx
    · rw [List.mem_singleton.mp hx]
      exact ⟨hdt, .inr hp⟩
  · rcases List.mem_append.mp hc with hc | hc
    · exact isK_put (U.mn rfl c hc)
    · rw [List.mem_singleton.mp hc]
      exact isK_new
theorem St.added {y : Df} {b : Nat} {pg : D} {S1 S3 : Store} (B : St n m num root P pres dur ws mine hol (some y) dv hs k p v w h pd mi ho S)
    (V1 : VC k p v n (m + 1) num root true (pres.set b pg) dv (ws.map wD ++ [.tup [.int (b : Nat), pg]]) hs' (ownX pd mi ho dv (some y)) w h' S1) (D1 : Dr v y.d y.g (y.gs ++ [b]) S1) (k1 : ∀ Y : List Nat, (∀ z ∈ Y, z ∈ ownX pd mi ho dv (some y) ∧ z ≠ y.g) → Keep Y S S1)
    (e3 : S3 = sp (sp S1 pd (.dct (putKD P (.inl (b : Int)) pg))) mi (.lst (nD mine ++ [.int (b : Nat)]))) :
    St n (m + 1) num root (putKD P (.inl (b : Int)) pg) (pres.set b pg) dur (ws ++ [(b, pg)]) (mine ++ [b]) hol (some ⟨y.d, y.g, y.gs ++ [b]⟩) dv hs' k p v w h' pd mi ho S3 := by
  have nb := B.nb
  have ng := nb.nd
  have gx := nb.x y.g (by simp [dfX])
  have dx := nb.x y.d (by simp [dfX])
  have q := k1 ([0, pd, mi, ho] ++ dvX dv) fun z hz => by
    rcases List.mem_append.mp hz with hz | hz
    · refine ⟨i4 z hz, fun e => ?_⟩
      simp only [List.mem_cons, List.not_mem_nil, or_false] at hz
      omega
    · refine ⟨List.mem_append_right _ (List.mem_append_left _ hz), fun e => ?_⟩
      rw [List.nodup_append] at ng
      exact ng.2.2 z hz y.g (by simp [dfX]) e
  have V2 := V1.put (o := .dct (putKD P (.inl (b : Int)) pg)) (x := pd) (i4 _ (by simp)) (fun _ _ _ _ e => nomatch e)
  have V3 := V2.put (o := .lst (nD mine ++ [.int (b : Nat)])) (x := mi) (i4 _ (by simp)) (fun _ _ _ _ e => nomatch e)
  rw [← e3] at V3
  have f : Fr [pd, mi] S1 S3 := by rw [e3]; exact (Fr.put (by simp)).tr (Fr.put (by simp))
  have lp : pd < S1.length := (V1.xs pd (i4 _ (by simp))).1
  have lm : mi < S1.length := (V1.xs mi (i4 _ (by simp))).1
  have ew : (ws ++ [(b, pg)]).map wD = ws.map wD ++ [.tup [.int (b : Nat), pg]] := by rw [List.map_append]; rfl
  have no : ∀ x, x ≠ pd → x ≠ mi → x ∉ [pd, mi] := fun x h1 h2 hx => by
    simp only [List.mem_cons, List.not_mem_nil, or_false] at hx
    exact hx.elim h1 h2
  refine ⟨by rw [ew]; exact V3, ?_, ?_, ?_, ?_, f.get (q.get B.hl (by simp)) (no _ nb.ph.symm nb.mh.symm), B.h3, ⟨nb.p0, nb.m0, nb.h0, nb.pm, nb.ph, nb.mh, nb.x, nb.nd⟩, fun z hz => ?_⟩
  · exact sq_fr (fun x hx => no x (nb.x x (List.mem_append_left _ hx)).2.1 (nb.x x (List.mem_append_left _ hx)).2.2.1) f (sq_keep (fun x hx => List.mem_append_right _ hx) q B.dS)
  · obtain ⟨mm, g1, g2⟩ := B.pool
    exact ⟨mm, f.get (q.get g1 (by simp)) (no _ nb.p0.symm nb.m0.symm), g2⟩
  · rw [e3, sg_ne nb.pm.symm]
    exact sg_sp lp
  · rw [e3, sg_sp (by rw [sp_len]; exact lm)]
    simp [nD]
  · cases hz
    have := (B.df y rfl).2
    exact ⟨⟨f.get D1.dr (no _ dx.2.1 dx.2.2.1), f.get D1.gv (no _ gx.2.1 gx.2.2.1), D1.gl⟩, by simp; omega⟩
/-- a draft begins -/
theorem St.begun {a g : Nat} {S1 S2 : Store} (B : St n m num root P pres dur ws mine hol none dv hs k p v w h pd mi ho S) (D1 : Dr v a g [] S1) (V1 : VC k p v n m num root true pres dv (ws.map wD) hs (a :: g :: ownX pd mi ho dv none) w h S1) (q : Keep (ownX pd mi ho dv none) S S1) (ha : S.length ≤ a) (hg : S.length ≤ g) (e2 : S2 = S1 ++ [.lst []]) :
    St n m num root P pres dur ws [] hol (some ⟨a, g, []⟩) dv hs k p v w h pd S1.length ho S2 := by
  have nb := B.nb
  have E : Ext S1 S2 := by rw [e2]; exact Ext.app
  have s2 : sg S2 S1.length = some (.lst []) := by rw [e2]; exact sg_new
  have V2 := V1.more (x := S1.length) E (Nat.le_refl _) (by rw [e2]; simp) (lst_no s2)
  have lX : ∀ x ∈ ownX pd mi ho dv none, x < S.length := fun x hx => (B.vc.xs x hx).1
  have la := sg_lt D1.dr
  have lg := sg_lt D1.gv
  have le := q.le
  have l4 : ∀ x ∈ [0, pd, ho], x < S.length := fun x hx => lX x (i4 x (by simp only [List.mem_cons, List.not_mem_nil, or_false] at hx ⊢; omega))
  have l0 := l4 0 (by simp)
  have lp := l4 pd (by simp)
  have lh := l4 ho (by simp)
  have ldv : ∀ x ∈ dvX dv, x < S.length := fun x hx => lX x (List.mem_append_right _ (List.mem_append_left _ hx))
  have nb' := nb.nd
  rw [show dvX dv ++ dfX none = dvX dv from List.append_nil _] at nb'
  refine ⟨V2.less fun x hx => ?_, sq_keep (fun x hx => List.mem_append_right _ (List.mem_append_left _ hx)) (q.tr (Keep.fr (Fr.ext (A := []) E) (fun _ h => nomatch h) fun _ h => nomatch h)) B.dS, ?_, E.get (q.get B.pg (i4 _ (by simp))), s2, E.get (q.get B.hl (i4 _ (by simp))), B.h3, ⟨nb.p0, by omega, nb.h0, by omega, nb.ph, by omega, fun x hx => ?_, ?_⟩, fun y hy => ?_⟩
  · rcases List.mem_append.mp hx with hx | hx
    · simp only [List.mem_cons, List.not_mem_nil, or_false] at hx
      rcases hx with rfl | rfl | rfl | rfl
      · exact List.mem_cons_of_mem _ (List.mem_cons_of_mem _ (List.mem_cons_of_mem _ (i4 _ (by simp))))
      · exact List.mem_cons_of_mem _ (List.mem_cons_of_mem _ (List.mem_cons_of_mem _ (i4 _ (by simp))))
      · exact List.mem_cons_self
      · exact List.mem_cons_of_mem _ (List.mem_cons_of_mem _ (List.mem_cons_of_mem _ (i4 _ (by simp))))
    · rcases List.mem_append.mp hx with hx | hx
      · exact List.mem_cons_of_mem _ (List.mem_cons_of_mem _ (List.mem_cons_of_mem _ (List.mem_append_right _ (List.mem_append_left _ hx))))
      · simp only [dfX, List.mem_cons, List.not_mem_nil, or_false] at hx
        rcases hx with rfl | rfl
        · simp
        · simp
  · obtain ⟨mm, g1, g2⟩ := B.pool
    exact ⟨mm, E.get (q.get g1 (i4 _ (by simp))), g2⟩
  · rcases List.mem_append.mp hx with hx | hx
    · obtain ⟨h1, h2, h3, h4⟩ := nb.x x (List.mem_append_left _ hx)
      have := ldv x hx
      exact ⟨h1, h2, by omega, h4⟩
    · simp only [dfX, List.mem_cons, List.not_mem_nil, or_false] at hx
      omega
  · rw [List.nodup_append]
    refine ⟨nb', ?_, fun x hx y hy e => ?_⟩
    · simp only [dfX, List.nodup_cons, List.mem_cons, List.not_mem_nil, or_false]
      exact ⟨D1.ne, not_false, List.nodup_nil⟩
    · have := ldv x hx
      simp only [dfX, List.mem_cons, List.not_mem_nil, or_false] at hy
      omega
  · cases hy
    exact ⟨⟨E.get D1.dr, E.get D1.gv, D1.gl⟩, Nat.zero_le _⟩
theorem Pu.begun (U : Pu n m num root P pres dur ws F mine busy) : Pu n m num root P pres dur ws F [] true := by
  obtain ⟨a1, a2, a3, a4, a5, a6, a7, a8, a9, b1, b2, b3, b4, b5, b6⟩ := U
  exact ⟨a1, a2, a3, a4, a5, a6, a7, a8, a9, b1, b2, by simp, fun _ b hb => (nomatch hb), b5, b6⟩
theorem Pu.idle (U : Pu n m num root P pres dur ws F mine busy) : Pu n m num root P pres dur ws F mine false := by
  obtain ⟨a1, a2, a3, a4, a5, a6, a7, a8, a9, b1, b2, b3, b4, b5, b6⟩ := U
  exact ⟨a1, a2, a3, a4, a5, a6, a7, a8, a9, b1, b2, b3, fun h => (nomatch h), b5, b6⟩
/-- the end of a draft, with another version, too -/
theorem St.ended {y : Df} {num' : Int} {r : Option Nat} {pres' dur' : List D} {ws' : List (Nat × D)} {dv' : D} {S1 : Store} (B : St n m num root P pres dur ws mine hol (some y) dv hs k p v w h pd mi ho S)
    (V1 : VC k p v n m num' r false pres' dv' (ws'.map wD) hs' (ownX pd mi ho dv (some y)) w' h' S1) (k1 : ∀ Y : List Nat, (∀ z ∈ Y, z ∈ ownX pd mi ho dv (some y) ∧ z ≠ y.d) → Keep Y S S1) (hdv : ∀ x ∈ dvX dv', x ∈ dvX dv) (nd' : (dvX dv').Nodup) (dS' : Keep ([0, pd, mi, ho] ++ dvX dv) S S1 → sqOf S1 dv' = some dur') :
    St n m num' r P pres' dur' ws' mine hol none dv' hs' k p v w' h' pd mi ho S1 := by
  have nb := B.nb
  have ng := nb.nd
  have dx := nb.x y.d (by simp [dfX])
  have q := k1 ([0, pd, mi, ho] ++ dvX dv) fun z hz => by
    rcases List.mem_append.mp hz with hz | hz
    · refine ⟨i4 z hz, fun e => ?_⟩
      simp only [List.mem_cons, List.not_mem_nil, or_false] at hz
      omega
    · refine ⟨List.mem_append_right _ (List.mem_append_left _ hz), fun e => ?_⟩
      rw [List.nodup_append] at ng
      exact ng.2.2 z hz y.d (by simp [dfX]) e
  refine ⟨V1.less fun x hx => ?_, dS' q, ?_, q.get B.pg (by simp), q.get B.ms (by simp), q.get B.hl (by simp), B.h3, ⟨nb.p0, nb.m0, nb.h0, nb.pm, nb.ph, nb.mh, fun x hx => ?_, ?_⟩, fun z hz => (nomatch hz)⟩
  · rcases List.mem_append.mp hx with hx | hx
    · exact i4 x hx
    · rw [show dvX dv' ++ dfX none = dvX dv' from List.append_nil _] at hx
      exact List.mem_append_right _ (List.mem_append_left _ (hdv x hx))
  · obtain ⟨mm, g1, g2⟩ := B.pool
    exact ⟨mm, q.get g1 (by simp), g2⟩
  · rw [show dvX dv' ++ dfX none = dvX dv' from List.append_nil _] at hx
    exact nb.x x (List.mem_append_left _ (hdv x hx))
  · rw [show dvX dv' ++ dfX none = dvX dv' from List.append_nil _]
    exact nd'
/-- a hold -/
theorem St.held {x : Nat} {S1 S2 : Store} (B : St n m num root P pres dur ws mine hol o dv hs k p v w h pd mi ho S) (V1 : VC k p v n (m + 1) num root o.isSome pres dv (ws.map wD) hs' (ownX pd mi ho dv o) w h S1) (q : Keep (ownX pd mi ho dv o) S S1) (l3 : hol.length < 3) (e2 : S2 = sp S1 ho (.lst (hol ++ [.ref x]))) :
    St n (m + 1) num root P pres dur ws mine (hol ++ [.ref x]) o dv hs' k p v w h pd mi ho S2 := by
  have B1 := B.kept (Nat.le_succ _) q V1
  have nb := B.nb
  have lh := sg_lt B1.hl
  have V2 := V1.put (o := .lst (hol ++ [.ref x])) (x := ho) (i4 _ (by simp)) (fun _ _ _ _ e => nomatch e)
  rw [← e2] at V2
  have f : Fr [ho] S1 S2 := by rw [e2]; exact Fr.put (by simp)
  have no : ∀ x, x ≠ ho → x ∉ [ho] := fun x h => by rw [List.mem_singleton]; exact h
  refine ⟨V2, sq_fr (fun x hx => no x (nb.x x (List.mem_append_left _ hx)).2.2.2) f B1.dS, ?_, f.get B1.pg (no _ nb.ph), f.get B1.ms (no _ nb.mh), by rw [e2]; exact sg_sp lh, by simp; omega, nb, fun y hy => ?_⟩
  · obtain ⟨mm, g1, g2⟩ := B1.pool
    exact ⟨mm, f.get g1 (no _ nb.h0.symm), g2⟩
  · obtain ⟨a1, a2⟩ := B1.df y hy
    subst hy
    have dx := nb.x y.d (by simp [dfX])
    have gx := nb.x y.g (by simp [dfX])
    exact ⟨⟨f.get a1.dr (no _ dx.2.2.2), f.get a1.gv (no _ gx.2.2.2), a1.gl⟩, a2⟩
end
end G
namespace G
open PySem L2
theorem page_nD {ls : List Nat} {i : Int} (h : ls.length ≤ 100) : PgT (.tup [.str "page", .tup (nD ls), .int i]) ∧ dtB 4 (.tup [.str "page", .tup (nD ls), .int i]) = true := by
  refine ⟨⟨"page", ls.map fun b : Nat => (b : Int), [.int i], by rw [List.map_map]; rfl, by simp; omega⟩, ?_⟩
  have e : ∀ l : List Nat, dtL 2 (nD l) = true := fun l => by
    induction l with
    | nil => rfl
    | cons a l ih =>
      show dtL 2 (.int (a : Nat) :: nD l) = true
      unfold dtL
      rw [ih]
      rfl
  have e3 : dtB 3 (.tup (nD ls)) = true := by
    unfold dtB
    rw [e, Nat.ble_eq_true_of_le (by simp; omega)]
    rfl
  unfold dtB
  simp [dtL, e3, dtB]
  exact ⟨by omega, e ls⟩
theorem lkP_nD {n : Nat} {ls : List Nat} {t : D} {rest : List D} {c : Nat} (h : c ∈ lkP n (.tup (t :: .tup (nD ls) :: rest))) : c ∈ ls := by
  have e : nD ls = (ls.map fun b : Nat => (b : Int)).map D.int := by rw [List.map_map]; rfl
  unfold lkP at h
  dsimp only at h
  rw [e, lkI_map] at h
  obtain ⟨i, hi, rfl⟩ := List.mem_map.mp h
  obtain ⟨b, hb, rfl⟩ := List.mem_map.mp (List.mem_filter.mp hi).1
  exact hb
theorem addLR {S : Store} {a : Nat} {ds es : List D} (h : sg S a = some (.lst es)) (hz : ds.length + es.length ≤ sizeLine) : addD (.lst ds) (.ref a) S = .ok (.lst (ds ++ es)) S := by
  unfold addD
  dsimp only
  rw [ls_refS, h]
  show (if ds.length + es.length ≤ sizeLine then Res.ok (D.lst (ds ++ es)) S else Res.stk) = _
  rw [if_pos hz]
theorem tupleR {S : Store} {a : Nat} {ds : List D} (h : sg S a = some (.lst ds)) : tupleD [.ref a] S = .ok (.tup ds) S := by
  unfold tupleD
  dsimp only
  rw [sq_refS, h]
  rfl
theorem mulR2 {S : Store} {a : Nat} {ds : List D} (h : sg S a = some (.lst ds)) (hz : ds.length ≤ 1000) : mulD (.ref a) (.int 2) S = .ok (.lst (ds ++ ds)) S := by
  unfold mulD
  dsimp only
  rw [ls_refS, h]
  show (if 0 ≤ (2 : Int) ∧ smR 2 = true ∧ ds.length * 2 ≤ sizeLine then Res.ok (D.lst (List.replicate 2 ds).flatten) S else Res.stk) = _
  rw [if_pos ⟨by decide, by decide, sz (by omega)⟩]
  simp [List.replicate]
theorem draw6 {ns : List Int} {S : Store} (hp : PoolAt S) : Ok (fn_law_take [.scr ns, .ref 0, .int 1000000] S) (Drawn 1000000 S) := by
  obtain ⟨m, hS, hp⟩ := hp
  obtain ⟨r, m', e, g1, l1, p1⟩ := take_ok ns 0 S m 1000000 hS hp (by decide) (by decide +kernel)
  obtain ⟨r, rfl⟩ := Int.eq_ofNat_of_zero_le g1
  exact Ok.of e ⟨⟨r, rfl, l1⟩, ⟨m', sg_sp (sg_lt hS), p1⟩, Fr.put (by simp), sp_len⟩
theorem nD_at {l : List Nat} {r : Nat} (h : r < l.length) : ∃ b, atI (nD l) (r : Int) = some (.int (b : Nat)) ∧ b ∈ l :=
  ⟨l[r], atI_nat (by rw [List.getElem?_map, List.getElem?_eq_getElem h]; rfl), List.getElem_mem h⟩
section
variable {k p v n m : Nat} {num : Int} {root : Option Nat} {busy : Bool} {pres : List D} {dv : D} {wait : List D} {hs : List Hl} {X : List Nat} {w h : Nat} {S S' : Store}
theorem added_ok {d g : Nat} {gs : List Nat} {pg : D} (V : VC k p v n m num root busy pres dv wait hs X w h S) (hD : Dr v d g gs S) (hd : d ∈ X) (hg : g ∈ X) (h2 : 2 ≤ n) (h4 : n ≤ 400) (hpg : PgT pg) (hdt : dtB 4 pg = true) (hm : m < 900) (hgl : gs.length < 400) :
    Ok (fn_law_added [.ref d, pg] S) fun y S' => (∃ b : Nat, y = .tup [.str "block", .int (b : Nat)] ∧ 2 ≤ b ∧ b < n ∧ ¬ Reach (lkS n pres) (rootsV root hs) b ∧ b ∉ gs ∧ (∃ h', VC k p v n (m + 1) num root busy (pres.set b pg) dv (wait ++ [.tup [.int (b : Nat), pg]]) (hs.filter fun y => !y.cl) X w h' S') ∧ Dr v d g (gs ++ [b]) S' ∧ (∀ Y : List Nat, (∀ y ∈ Y, y ∈ X ∧ y ≠ g) → Keep Y S S') ∧ ∃ (q : Nat → Bool) (j : Nat), (∀ b, q b = true ↔ Reach (lkS n pres) (rootsV root hs) b) ∧ (freeL n q)[j]? = some (.int (b : Nat)) ∧ ∀ i < j, ∀ c : Nat, (freeL n q)[i]? = some (.int (c : Nat)) → c ∈ gs)
      ∨ (y = .tup [.str "space", .int n] ∧ (∃ h', VC k p v n m num root busy pres dv wait (hs.filter fun y => !y.cl) X w h' S') ∧ Keep X S S' ∧ ∀ q : Nat → Bool, (∀ b, q b = true ↔ Reach (lkS n pres) (rootsV root hs) b) → ∀ (i c : Nat), (freeL n q)[i]? = some (.int (c : Nat)) → c ∈ gs) := by
  unfold fn_law_added
  rw [run_eq]
  simp only [sem_law_added, startD]
  simp [hD.dr]
  generalize hx : fn_Draft_add _ _ = x
  rcases OkX.g hx (add_ok V hD hd hg h2 h4 hpg hdt hm hgl) with ⟨_, S1, rfl, b, rfl, hh⟩ | ⟨y, S1, rfl, rfl, hh⟩
  · simp
    obtain ⟨r1, r2, r3, r4, r5, r6, r7, q, j, s1, s2, s3⟩ := hh
    exact ⟨b, rfl, r1, r2, r3, r4, r5, r6, r7, q, s1, j, s2, s3⟩
  · simp [xf, xfL]
    exact hh
end
section
variable {n m m' : Nat} {num : Int} {root : Option Nat} {P : List (Key × D)} {pres dur : List D} {ws : List (Nat × D)} {F mine : List Nat} {hol : List D} {o : Option Df} {dv : D} {hs hs' : List Hl} {k p v w w' h h' pd mi ho : Nat} {S S' : Store} {busy : Bool} {ns : List Int}
structure LkI (P : List (Key × D)) (L j : Nat) (S' : Store) (ls : List Nat) : Prop where
  at' : sg S' L = some (.lst (nD ls))
  len : ls.length ≤ j
  key : ∀ b ∈ ls, isK P b
/-- the state with a draft, behind an added page -/
def Padded (n m : Nat) (num : Int) (root : Option Nat) (dur : List D) (F : List Nat) (hol : List D) (d : Nat) (dv : D) (k p v w pd mi ho : Nat) (S : Store) : Prop :=
  ∃ P pres ws mine y h hs, Pu n m num root P pres dur ws F mine true ∧ St n m num root P pres dur ws mine hol (some y) dv hs k p v w h pd mi ho S ∧ y.d = d
theorem padd_ok {y : Df} (B : St n m num root P pres dur ws mine hol (some y) dv hs k p v w h pd mi ho S) (U : Pu n m num root P pres dur ws F mine true) (hm : m < 300) :
    Ok (fn_law_page_added [.scr ns, .ref 0, .ref y.d, .ref pd, .lst (nD F), .ref mi] S) fun _ S' => Padded n (m + 1) num root dur F hol y.d dv k p v w pd mi ho S' := by
  have pw : (10 : Int) ^ (6 : Int).toNat = 1000000 := by decide
  have n4 := U.n4
  have n8 := U.n8
  have fl := U.flen
  have ml := U.ml
  have E0 : Ext S (S ++ [.lst []]) := Ext.app
  have L0 : sg (S ++ [.lst []]) S.length = some (.lst (nD [])) := sg_new
  have B0 := B.ext E0
  have hco : ∀ b ∈ F ++ mine, isK P b := fun b hb => (List.mem_append.mp hb).elim (U.fp b) (U.mn rfl b)
  have lco : (F ++ mine).length ≤ 900 := by simp; omega
  have lX : ∀ x ∈ ownX pd mi ho dv (some y), x < S.length := fun x hx => (B.vc.xs x hx).1
  have l0 := lX 0 (i4 _ (by simp))
  unfold fn_law_page_added
  rw [run_eq]
  simp only [sem_law_page_added, startD]
  simp
  generalize S ++ [MO.lst []] = S1 at E0 L0 B0 ⊢
  generalize hx : fn_law_take _ _ = x
  obtain ⟨_, S2, rfl, ⟨⟨r2, rfl, l2⟩, p2, f2, q2⟩⟩ := Ok.g hx (draw B0.pool)
  have B2 := B0.fr0 f2 p2
  have L2' := f2.get L0 (by rw [List.mem_singleton]; omega)
  have rt : smR (r2 : Int) = true := smR_nat (by omega)
  simp [rt]
  generalize hx : forL _ _ _ _ _ _ = x
  obtain ⟨_, S3, rfl, ⟨ls, L3, ll, lk⟩, B3, x7, rfl⟩ := OkN.g hx (forI (fun j ρ S' => (∃ ls : List Nat, LkI P S.length j S' ls) ∧ St n m num root P pres dur ws mine hol (some y) dv hs k p v w h pd mi ho S' ∧ ∃ x7, ρ = [some (.scr ns), some (.ref 0), some (.ref y.d), some (.ref pd), some (.lst (nD F)), some (.ref mi), some (.ref S.length), x7, none, none]) (fun _ _ _ _ => grd_none) (fun j d hj ρ S' ⟨⟨ls, L3, ll, lk⟩, B3, x7, eρ⟩ => by
    subst eρ
    refine ⟨_, rfl, ?_⟩
    have hj1 := (List.getElem?_eq_some_iff.mp hj).1
    simp at hj1
    have ad := addLR (ds := nD F) B3.ms (sz (by simp; omega))
    rw [← List.map_append] at ad
    cases e : F ++ mine with
    | nil =>
      rw [e] at ad
      simp [ad]
      exact ⟨⟨ls, ⟨L3, by omega, lk⟩⟩, B3⟩
    | cons a t =>
      have c' : (nD (a :: t)).isEmpty = false := rfl
      rw [e] at ad hco lco
      have c0 : 0 < (a :: t).length := by simp
      generalize a :: t = co at ad hco lco c' c0
      simp [ad, c', L3]
      generalize hx : fn_law_take _ _ = x
      obtain ⟨_, S4, rfl, ⟨⟨r4, rfl, l4⟩, p4, f4, q4⟩⟩ := Ok.g hx (draw B3.pool (by omega) (by omega))
      have B4 := B3.fr0 f4 p4
      have L4 := f4.get L3 (by rw [List.mem_singleton]; omega)
      obtain ⟨b, hb1, hb2⟩ := nD_at (l := co) (r := r4) (by omega)
      have zl : ls.length < sizeLine := szl (by omega)
      simp [hb1, L4, zl]
      have f5 : Fr [S.length] S4 (sp S4 S.length (.lst (nD ls ++ [.int (b : Nat)]))) := Fr.put (by simp)
      have B5 := B4.fr' f5 (fun x hx => by have := lX x hx; omega) (by have := B.vc.lts; omega) (lst_no L4)
      refine ⟨⟨ls ++ [b], ⟨by rw [sg_sp (sg_lt L4)]; simp [nD], by simp; omega, fun c hc => ?_⟩⟩, B5⟩
      rcases List.mem_append.mp hc with hc | hc
      · exact lk c hc
      · rw [List.mem_singleton.mp hc]
        exact hco b hb2) ⟨⟨[], ⟨L2', by simp, fun b hb => (nomatch hb)⟩⟩, B2, _, rfl⟩)
  simp at ll
  simp [tupleR L3, pw]
  generalize hx : fn_law_take _ _ = x
  obtain ⟨_, S4, rfl, ⟨⟨i4', rfl, l4⟩, p4, f4, q4⟩⟩ := Ok.g hx (draw6 B3.pool)
  have B4 := B3.fr0 f4 p4
  obtain ⟨pg1, pg2⟩ := page_nD (ls := ls) (i := i4') (by omega)
  obtain ⟨d4, g4⟩ := B4.df y rfl
  have hlk : ∀ c ∈ lkP n (.tup [.str "page", .tup (nD ls), .int i4']), isK P c := fun c hc => lk c (lkP_nD hc)
  simp
  generalize hx : fn_law_added _ _ = x
  obtain ⟨_, S5, rfl, h5⟩ := Ok.g hx (added_ok B4.vc d4 (List.mem_append_right _ (List.mem_append_right _ (by simp [dfX]))) (List.mem_append_right _ (List.mem_append_right _ (by simp [dfX]))) (by omega) (by omega) pg1 pg2 (by omega) (by omega))
  clear hx
  rcases h5 with ⟨b, rfl, b2, bn, br, bg, ⟨h', V5⟩, D5, k5, _⟩ | ⟨rfl, ⟨h', V5⟩, k5, _⟩
  · have U5 := U.added b2 bn (U.free br) pg1 pg2 hlk
    have q5 := k5 [pd, mi] fun z hz => by
      have gx := B4.nb.x y.g (by simp [dfX])
      simp only [List.mem_cons, List.not_mem_nil, or_false] at hz
      rcases hz with rfl | rfl
      · exact ⟨i4 _ (by simp), fun e => gx.2.1 e.symm⟩
      · exact ⟨i4 _ (by simp), fun e => gx.2.2.1 e.symm⟩
    have t5 := q5.get B4.pg (by simp)
    have m5 := q5.get B4.ms (by simp)
    have lp := U.lp
    have zl : P.length < sizeLine := szl (by omega)
    have zm : mine.length < sizeLine := szl (by omega)
    have p5 := putA_dct (n := pd) (y := .int b) (v := .tup [.str "page", .tup (nD ls), .int i4']) t5 rfl zl
    have B6 := B4.added V5 D5 k5 rfl
    have pm := B4.nb.pm
    have m6 : ∀ M, sg (sp S5 pd M) mi = some (.lst (nD mine)) := fun M => by rw [sg_ne pm]; exact m5
    simp [b0, b1, p5, m6, zm]
    exact ⟨_, _, _, _, _, _, _, U5, B6, rfl⟩
  · have hx : b0 = b0 := rfl
    simp [b0, b1]
    exact ⟨_, _, _, _, y, _, _, U.up (Nat.le_succ _), (B4.kept (Nat.le_refl _) k5 V5).up (Nat.le_succ _) (by omega), rfl⟩
end
end G
namespace G
open PySem L2
noncomputable abbrev CRK : MS :=
(sSeq (sSet 12 (mMeth [("Disk", fn_Disk_crashed)] "crashed" 2 (mVar 3) (mCons (mFn (ar 3 fn_law_kept) (mCons (mVar 0) (mCons (mVar 1) (mCons (mVar 3) mNil)))) mNil)))
  (sSeq (sIf (mNot (mTru (mFn (ar 2 fn_law_is_version) (mCons (mVar 12) (mCons (mVar 5) mNil)))))
  (sRet (mC (.bl false)))
  sPass)
  (sIf (mTest (mOp eqD (mFn (ar 3 fn_law_take) (mCons (mVar 0) (mCons (mVar 1) (mCons (mC (.int 6)) mNil)))) (mC (.int 0))))
  (sSeq (sSet 3 (mVar 12))
  (sSeq (sSet 4 (mMake "Vault" 2 fn_Vault_init (mCons (mVar 3) mNil)))
  (sSeq (sSet 7 (mC .non))
  (sSeq (sSet 9 (mFn lstL mNil))
  (sSet 6 (mUn copyLv (mOp ixD (mVar 5) (mC (.int 2)))))))))
  sPass)))
noncomputable abbrev DEEDK : MS :=
(sSeq (sIf (mTest (mOp isND (mVar 7) (mC .non)))
  (sSeq (sSet 7 (mMeth [("Vault", fn_Vault_begin)] "begin" 1 (mVar 4) mNil))
  (sSet 8 (mFn lstL mNil)))
  (sIf (mTest (mOp ltD (mVar 11) (mC (.int 5))))
  (sExpr (mFn (ar 6 fn_law_page_added) (mCons (mVar 0) (mCons (mVar 1) (mCons (mVar 7) (mCons (mVar 6) (mCons (mUn keysL (mOp ixD (mVar 5) (mC (.int 2)))) (mCons (mVar 8) mNil))))))))
  (sIf (mTest (mOp eqD (mVar 11) (mC (.int 5))))
  (sSeq (sExpr (mMeth [("Draft", fn_Draft_cancel)] "cancel" 1 (mVar 7) mNil))
  (sSet 7 (mC .non)))
  (sIf (mAnd (mTest (mOp eqD (mVar 11) (mC (.int 6)))) (mTest (mOp ltD (mFn lenD (mCons (mVar 9) mNil)) (mC (.int 3)))))
  (sExpr (mMt "list" appD (mVar 9) (mCons (mMeth [("Vault", fn_Vault_hold)] "hold" 1 (mVar 4) mNil) mNil)))
  (sSeq (sSet 13 (mOp addD (mOp addD (mFn lstD (mCons (mC .non) mNil)) (mOp mulD (mVar 8) (mC (.int 2)))) (mUn keysL (mOp ixD (mVar 5) (mC (.int 2))))))
  (sSeq (sSet 14 (mOp ixD (mVar 13) (mFn (ar 3 fn_law_take) (mCons (mVar 0) (mCons (mVar 1) (mCons (mFn lenD (mCons (mVar 13) mNil)) mNil))))))
  (sSeq (sSet 15 (mFn (ar 4 fn_law_due) (mCons (mOp addD (mOp ixD (mVar 5) (mC (.int 0))) (mC (.int 1))) (mCons (mVar 14) (mCons (mVar 6) (mCons (mVar 2) mNil))))))
  (sSeq (sIf (mOr (mNot (mTru (mFn (ar 4 fn_law_commit_right) (mCons (mVar 3) (mCons (mVar 14) (mCons (mVar 5) (mCons (mVar 15) mNil))))))) (mTest (mOp neD (mMeth [("Draft", fn_Draft_commit)] "commit" 2 (mVar 7) (mCons (mVar 14) mNil)) (mOp ixD (mVar 15) (mC (.int 0))))))
  (sRet (mC (.bl false)))
  sPass)
  (sSeq (sSet 5 (mVar 15))
  (sSet 7 (mC .non)))))))))))
  (sSeq (sSet 12 (mMeth [("Disk", fn_Disk_crashed)] "crashed" 2 (mVar 3) (mCons (mFn (ar 3 fn_law_kept) (mCons (mVar 0) (mCons (mVar 1) (mCons (mVar 3) mNil)))) mNil)))
  (sSeq (sIf (mNot (mTru (mFn (ar 2 fn_law_is_version) (mCons (mVar 12) (mCons (mVar 5) mNil)))))
  (sRet (mC (.bl false)))
  sPass)
  (sIf (mTest (mOp eqD (mFn (ar 3 fn_law_take) (mCons (mVar 0) (mCons (mVar 1) (mCons (mC (.int 6)) mNil)))) (mC (.int 0))))
  (sSeq (sSet 3 (mVar 12))
  (sSeq (sSet 4 (mMake "Vault" 2 fn_Vault_init (mCons (mVar 3) mNil)))
  (sSeq (sSet 7 (mC .non))
  (sSeq (sSet 9 (mFn lstL mNil))
  (sSet 6 (mUn copyLv (mOp ixD (mVar 5) (mC (.int 2)))))))))
  sPass))))
def dD (o : Option Df) : D := match o with
  | some y => .ref y.d
  | none => .non
/-- the law's state between two deeds -/
def LI (ns : List Int) (n j : Nat) (ρ : Sl) (S : Store) : Prop := ∃ m num root P pres dur ws F mine hol o dv hs k p v w h pd mi ho, (50 ≤ m ∧ m ≤ 50 + j) ∧ Pu n m num root P pres dur ws F mine (Option.isSome o) ∧ St n m num root P pres dur ws mine hol o dv hs k p v w h pd mi ho S ∧ ∃ x10 x11 x12 x13 x14 x15, ρ = [some (.scr ns), some (.ref 0), some (.int n), some (.ref k), some (.ref v), some (.tup [.int num, rD root, .dct (kvF dur F)]), some (.ref pd), some (dD o), some (.ref mi), some (.ref ho), x10, x11, x12, x13, x14, x15]
section
variable {n m m' : Nat} {num : Int} {root : Option Nat} {P : List (Key × D)} {pres dur : List D} {ws : List (Nat × D)} {F mine : List Nat} {hol : List D} {o : Option Df} {dv : D} {hs hs' : List Hl} {k p v w w' h h' pd mi ho : Nat} {S S' : Store} {busy : Bool} {ns : List Int} {x10 x11 x12 x13 x14 x15 : Option D} {j : Nat}
theorem Pu.f40 (U : Pu n m num root P pres dur ws F mine busy) : F.length ≤ 40 := by
  have h4 := U.n4
  have := few (n - 2) F U.fn fun b hb => by have := U.fin b hb; omega
  omega
/-- the data behind a crash -/
theorem Pu.found {f : List D} (U : Pu n m num root P pres dur ws F mine busy) (A : Alike F dur f) (hf : ∀ d ∈ f, okP d) (hm : 50 ≤ m) : Pu n m num root (kvF dur F) f f [] F mine false := by
  have f40 := U.f40
  have kin : ∀ b : Nat, (valK (kvF dur F) (.inl (b : Int))).isSome = true → b ∈ F := fun b h => kvF_in h
  have R := A.reach U.fr
  refine ⟨by rw [A.ln]; exact U.dl, rfl, fun x hx => (nomatch hx), fun x hx => (nomatch hx), hf, A.mts U.mt, R, U.fn, by simp; omega, ⟨fun b d hb => ?_, fun b d hb c hc => ?_⟩, fun b hb => ?_, U.ml, fun h => (nomatch h), U.n8, U.n4⟩
  · have bF := kin b (by rw [hb]; rfl)
    rw [valK_kvF bF] at hb
    obtain ⟨d', hd'⟩ := Option.isSome_iff_exists.mp (U.fp b bF)
    obtain ⟨g1, g2, g3, g4⟩ := U.ag.yes b d' hd'
    rw [U.like.at' b (.inr bF)] at g3
    have e : d' = d := by
      rw [List.getD_eq_getElem?_getD, g3] at hb
      exact Option.some.inj hb
    subst e
    exact ⟨g1, g2, by rw [A.at' b (.inr bF)]; exact g3, g4⟩
  · have bF := kin b (by rw [hb]; rfl)
    have cF : c ∈ F := (R c).mpr (.step ((R b).mp bF) hc)
    rw [valK_kvF cF]
    rfl
  · unfold isK
    rw [valK_kvF hb]
    rfl
/-- the found disk is gone on with -/
theorem St.reopened {f : List D} {S7 : Store} {k' : Nat} (B : St n m num root P pres dur ws mine hol o dv hs k p v w h pd mi ho S) (mt : Mts n num root f) (hf : ∀ d ∈ f, okP d) (fl : f.length = n) (D0 : DiskAt S k' (k' + 4) (k' + 2) (.ref (k' + 3)) f []) (dq : sg S (k' + 3) = some (.lst f)) (hmi : mi < k') (h0 : 0 < k')
    (e7 : S7 = S ++ [vltM k' num (rD root) (S.length + 1) false, .lst [], .lst [], .dct (kvF dur F)]) :
    St n m num root (kvF dur F) f f [] mine [] none (.ref (k' + 3)) [] k' (k' + 4) S.length (k' + 2) (S.length + 1) (S.length + 3) mi (S.length + 2) S7 := by
  have E : Ext S S7 := by rw [e7]; exact Ext.app
  have sgT : ∀ i, sg S7 (S.length + i) = [vltM k' num (rD root) (S.length + 1) false, .lst [], .lst [], .dct (kvF dur F)][i]? := fun i => by
    rw [e7]
    unfold sg
    rw [List.getElem?_append_right (by omega)]
    congr 1
    omega
  have s0 := sgT 0
  have s1 := sgT 1
  have s2 := sgT 2
  have s3 := sgT 3
  have l4 := sg_lt D0.pr
  have lS : S7.length = S.length + 4 := by rw [e7]; simp
  have p7 : PoolAt S7 := B.pool.ext E
  have m7 := E.get B.ms
  have q7 := E.get dq
  have lm := B.vc.lm
  refine ⟨⟨⟨D0.ext E, by simp⟩, fl, hf, s0, s1, fun y hy => (nomatch hy), List.nodup_nil, mt.rg, by omega, by omega, fun x hx => ?_, by simp, lm⟩, ?_, p7, s3, m7, s2, by simp, ⟨by omega, B.nb.m0, by omega, by omega, by omega, by omega, fun x hx => ?_, by simp [dvX, dfX]⟩, fun y hy => (nomatch hy)⟩
  · simp only [ownX, dvX, dfX, List.append_nil, List.mem_append, List.mem_cons, List.not_mem_nil, or_false] at hx
    rcases hx with (rfl | rfl | rfl | rfl) | rfl
    · exact ⟨by omega, by omega, by omega, by omega, by omega, by omega, pool_no p7⟩
    · exact ⟨by omega, by omega, by omega, by omega, by omega, by omega, dct_no s3⟩
    · exact ⟨by omega, by omega, by omega, by omega, by omega, by omega, lst_no m7⟩
    · exact ⟨by omega, by omega, by omega, by omega, by omega, by omega, lst_no s2⟩
    · exact ⟨by omega, by omega, by omega, by omega, by omega, by omega, lst_no q7⟩
  · rw [sq_refS, q7]
    rfl
  · simp only [dvX, dfX, List.append_nil, List.mem_cons, List.not_mem_nil, or_false] at hx
    omega
theorem crash_step (U : Pu n m num root P pres dur ws F mine (Option.isSome o)) (B : St n m num root P pres dur ws mine hol o dv hs k p v w h pd mi ho S) (hm : 50 ≤ m) (hm' : m ≤ 50 + (j + 1)) (hj : j < 100) :
    Stp (LI ns n (j + 1)) (fun _ => False) (CRK [some (.scr ns), some (.ref 0), some (.int n), some (.ref k), some (.ref v), some (.tup [.int num, rD root, .dct (kvF dur F)]), some (.ref pd), some (dD o), some (.ref mi), some (.ref ho), x10, x11, x12, x13, x14, x15] S) := by
  have n4 := U.n4
  have n8 := U.n8
  have wl := B.vc.dk.2
  rw [List.length_map] at wl
  simp [CRK, B.vc.dk.1.ob, -List.getD_eq_getElem?_getD]
  generalize hx : fn_law_kept _ _ = x
  obtain ⟨_, S1, rfl, f1, p1, cs, rfl, ch⟩ := Ok.g hx (lkept_ok B.vc.dk.1 B.pool (by omega))
  clear hx
  have B1 := B.fr0 f1 p1
  have hw2 : ∀ x ∈ ws, 2 ≤ x.1 ∧ x.1 ∉ F := fun x hx => ⟨(U.wb x hx).1, (U.wb x hx).2.2⟩
  have A : Alike F dur (crash ws dur cs) := Alike.crash (fun b hb => by rw [U.dl]; exact (U.fin b hb).2) (by have := U.dl; omega) hw2 ch.nd fun c hc => (ch.le c hc).1
  have hf : ∀ d ∈ crash ws dur cs, okP d := crash_mem U.wq U.dq fun c hc => (ch.le c hc).1
  have fl : (crash ws dur cs).length = n := by rw [crash_len]; exact U.dl
  obtain ⟨S2, e2, h2, D2, v2⟩ := crash_ver B1.vc.dk.1 B1.dS U.dl B1.vc.ln n8 (by omega) ch.nd (fun c hc => ⟨by
    obtain ⟨x, hx, e⟩ := List.mem_map.mp (ch.le c hc).2
    rw [← e]
    exact (U.wb x hx).2.1, (ch.le c hc).1⟩) (by omega) rfl (A.mts U.mt) (fun b hb => (U.fin b hb).2) U.flen (fun d hd => (hf d hd).1)
  rw [A.kv] at v2
  have Uf := U.found A hf hm
  have dq2 : sg S2 (S1.length + 3) = some (.lst (crash ws dur cs)) := by
    rw [h2]
    unfold sg
    rw [List.getElem?_append_right (by omega), show S1.length + 3 - S1.length = 3 by omega]
    rfl
  generalize crash ws dur cs = f at *
  simp [B1.vc.dk.1.ob, e2, -List.getD_eq_getElem?_getD]
  generalize hx : fn_law_is_version _ _ = x
  obtain ⟨_, S3, rfl, rfl, E3, E3'⟩ := Ok.g hx v2
  clear hx v2
  have B3 := B1.ext E3
  simp [-List.getD_eq_getElem?_getD]
  generalize hx : fn_law_take _ _ = x
  obtain ⟨_, S4, rfl, ⟨⟨r4, rfl, l4⟩, p4, f4, q4⟩⟩ := Ok.g hx (draw B3.pool)
  clear hx
  have B4 := B3.fr0 f4 p4
  by_cases c4 : r4 = 0
  · subst c4
    have l1 : 0 < S1.length := (B1.vc.xs 0 (i4 _ (by simp))).1
    have D4 := (D2.ext E3').fr f4 (by rw [List.mem_singleton]; omega) (by rw [List.mem_singleton]; omega) (by rw [List.mem_singleton]; omega)
    have dq4 := f4.get (E3'.get dq2) (by rw [List.mem_singleton]; omega)
    have vo := vault_open D4 fl Uf.mt
    have B7 := B4.reopened (F := F) Uf.mt hf fl D4 dq4 (B1.vc.xs mi (i4 _ (by simp))).1 l1 rfl
    have cp := fun T => copyL_ok (S := T) (x := .dct (kvF dur F)) (kvs := kvF dur F) rfl
    simp [vo, b2, cp, -List.getD_eq_getElem?_getD]
    rw [← A.kv] at Uf B7 ⊢
    exact ⟨m, num, root, _, _, _, _, _, _, _, none, _, _, _, _, _, _, _, _, _, _, ⟨hm, hm'⟩, Uf, B7, _, _, _, _, _, _, rfl⟩
  · have c4' : ¬ (r4 : Int) = 0 := by omega
    simp [c4, c4', -List.getD_eq_getElem?_getD]
    exact ⟨m, num, root, _, _, _, _, _, _, _, o, _, _, _, _, _, _, _, _, _, _, ⟨hm, hm'⟩, U, B4, _, _, _, _, _, _, rfl⟩
end
end G
namespace G
open PySem L2
theorem addLL2 {S : Store} {es ds : List D} (hz : ds.length + es.length ≤ sizeLine) : addD (.lst ds) (.lst es) S = .ok (.lst (ds ++ es)) S := by
  rw [v_addL, if_pos hz]
theorem Agree.meta {n : Nat} {P : List (Key × D)} {pres : List D} {b : Nat} {d : D} (A : Agree n P pres) (hb : b < 2) : Agree n P (pres.set b d) := by
  refine ⟨fun c e hc => ?_, fun c e hc z hz => ?_⟩
  · obtain ⟨g1, g2, g3, g4⟩ := A.yes c e hc
    exact ⟨g1, g2, by rw [List.getElem?_set_ne (by omega)]; exact g3, g4⟩
  · obtain ⟨g1, g2, g3, g4⟩ := A.yes c e hc
    rw [lkS_set (by omega)] at hz
    exact A.cl c e hc z hz
section
variable {n m m' : Nat} {num : Int} {root : Option Nat} {P : List (Key × D)} {pres dur : List D} {ws : List (Nat × D)} {F mine : List Nat} {hol : List D} {o : Option Df} {dv : D} {hs hs' : List Hl} {k p v w w' h h' pd mi ho : Nat} {S S' : Store} {busy : Bool} {ns : List Int} {x10 x11 x12 x13 x14 x15 : Option D} {j κ : Nat}
theorem deed_begin (U : Pu n m num root P pres dur ws F mine false) (B : St n m num root P pres dur ws mine hol none dv hs k p v w h pd mi ho S) (hm : 50 ≤ m) (hm' : m ≤ 50 + j) (hj : j < 100) :
    Stp (LI ns n (j + 1)) (fun _ => False) (DEEDK [some (.scr ns), some (.ref 0), some (.int n), some (.ref k), some (.ref v), some (.tup [.int num, rD root, .dct (kvF dur F)]), some (.ref pd), some .non, some (.ref mi), some (.ref ho), x10, some (.int κ), x12, x13, x14, x15] S) := by
  simp [DEEDK, B.vc.vo, -List.getD_eq_getElem?_getD]
  generalize hx : fn_Vault_begin _ _ = x
  obtain ⟨_, S1, rfl, a, g, rfl, D1, V1, q, ha, hg⟩ := Ok.g hx (begun B.vc)
  have B2 := B.begun D1 V1 q ha hg rfl
  simp [-List.getD_eq_getElem?_getD]
  simpa [CRK, dD, -List.getD_eq_getElem?_getD] using crash_step (j := j) U.begun B2 hm (by omega) hj
theorem deed_add {y : Df} (U : Pu n m num root P pres dur ws F mine true) (B : St n m num root P pres dur ws mine hol (some y) dv hs k p v w h pd mi ho S) (hm : 50 ≤ m) (hm' : m ≤ 50 + j) (hj : j < 100) (hk : κ < 5) :
    Stp (LI ns n (j + 1)) (fun _ => False) (DEEDK [some (.scr ns), some (.ref 0), some (.int n), some (.ref k), some (.ref v), some (.tup [.int num, rD root, .dct (kvF dur F)]), some (.ref pd), some (.ref y.d), some (.ref mi), some (.ref ho), x10, some (.int κ), x12, x13, x14, x15] S) := by
  have hk' : (κ : Int) < 5 := by omega
  simp [DEEDK, hk, hk', b2, kvF_keys, -List.getD_eq_getElem?_getD]
  generalize hx : fn_law_page_added _ _ = x
  obtain ⟨_, S1, rfl, P1, pres1, ws1, mine1, y1, h1, hs1, U1, B1, e1⟩ := Ok.g hx (padd_ok B U (by omega))
  simp [-List.getD_eq_getElem?_getD]
  rw [← e1]
  simpa [CRK, dD, -List.getD_eq_getElem?_getD] using crash_step (j := j) U1 B1 (by omega) (by omega) hj
theorem deed_cancel {y : Df} (U : Pu n m num root P pres dur ws F mine true) (B : St n m num root P pres dur ws mine hol (some y) dv hs k p v w h pd mi ho S) (hm : 50 ≤ m) (hm' : m ≤ 50 + j) (hj : j < 100) :
    Stp (LI ns n (j + 1)) (fun _ => False) (DEEDK [some (.scr ns), some (.ref 0), some (.int n), some (.ref k), some (.ref v), some (.tup [.int num, rD root, .dct (kvF dur F)]), some (.ref pd), some (.ref y.d), some (.ref mi), some (.ref ho), x10, some (.int 5), x12, x13, x14, x15] S) := by
  obtain ⟨d1, _⟩ := B.df y rfl
  simp [DEEDK, d1.dr, -List.getD_eq_getElem?_getD]
  generalize hx : fn_Draft_cancel _ _ = x
  obtain ⟨_, S1, rfl, V1, k1⟩ := Ok.g hx (cancel_ok B.vc d1 (List.mem_append_right _ (List.mem_append_right _ (by simp [dfX]))))
  have nd := B.nb.nd
  rw [List.nodup_append] at nd
  have B1 := B.ended (dur' := dur) V1 k1 (fun x hx => hx) nd.1 fun q => sq_keep (fun x hx => List.mem_append_right _ hx) q B.dS
  simp [-List.getD_eq_getElem?_getD]
  simpa [CRK, dD, -List.getD_eq_getElem?_getD] using crash_step (j := j) U.idle B1 hm (by omega) hj
theorem deed_hold {y : Df} (U : Pu n m num root P pres dur ws F mine true) (B : St n m num root P pres dur ws mine hol (some y) dv hs k p v w h pd mi ho S) (hm : 50 ≤ m) (hm' : m ≤ 50 + j) (hj : j < 100) (l3 : hol.length < 3) :
    Stp (LI ns n (j + 1)) (fun _ => False) (DEEDK [some (.scr ns), some (.ref 0), some (.int n), some (.ref k), some (.ref v), some (.tup [.int num, rD root, .dct (kvF dur F)]), some (.ref pd), some (.ref y.d), some (.ref mi), some (.ref ho), x10, some (.int 6), x12, x13, x14, x15] S) := by
  have l3' : (hol.length : Int) < 3 := by omega
  simp [DEEDK, B.hl, l3, l3', B.vc.vo, -List.getD_eq_getElem?_getD]
  generalize hx : fn_Vault_hold _ _ = x
  obtain ⟨_, S1, rfl, x, rfl, hx', s1, V1, q⟩ := Ok.g hx (hold_ok B.vc (by omega))
  have th := q.get B.hl (i4 _ (by simp))
  have zh : hol.length < sizeLine := szl (by omega)
  have B1 := B.held (x := x) V1 q l3 rfl
  simp [B.hl, th, zh, -List.getD_eq_getElem?_getD]
  simpa [CRK, dD, -List.getD_eq_getElem?_getD] using crash_step (j := j) (U.up (Nat.le_succ _)) B1 (by omega) (by omega) hj
/-- the data behind a commit -/
theorem Pu.next {b : Nat} {r : Option Nat} {F' : List Nat} (U : Pu n m num root P pres dur ws F mine busy) (ln : pres.length = n) (pq : ∀ d ∈ pres, okP d) (b2 : b < 2) (hb : (num + 1) % 2 = (b : Int)) (hr : ∀ c, r = some c → isK P c) (hF' : ∀ c, c ∈ F' ↔ Reach (lkS n pres) r.toList c) (nF : F'.Nodup) :
    Pu n m (num + 1) r P (pres.set b (mtP r (num + 1))) (pres.set b (mtP r (num + 1))) [] F' mine false ∧ kvF pres F' = kvF (pres.set b (mtP r (num + 1))) F' := by
  have rr : ∀ c, r = some c → 2 ≤ c ∧ c < n := fun c hc => (U.ag.val (hr c hc)).2
  have F2 : ∀ c ∈ F', 2 ≤ c ∧ c < n := fun c hc => ((hF' c).mp hc).inn fun r' hr' => rr r' (Option.mem_toList.mp hr')
  have n8 := U.n8
  refine ⟨⟨by rw [List.length_set]; exact ln, rfl, fun x hx => (nomatch hx), fun x hx => (nomatch hx), fun d hd => ?_, (U.like.mts U.mt).next ln (by omega) b2 hb rr, fun c => ?_, nF, U.lp, U.ag.meta b2, fun c hc => U.ag.reach (rl := r.toList) (fun c hc => hr c (Option.mem_toList.mp hc)) ((hF' c).mp hc), U.ml, fun h => (nomatch h), U.n8, U.n4⟩, kvF_congr fun c hc => ?_⟩
  · rcases List.mem_or_eq_of_mem_set hd with hd | rfl
    · exact pq d hd
    · exact ⟨mtP_pg.2, .inr mtP_pg.1⟩
  · rw [hF' c]
    exact Reach.same fun d hd => lkS_set (by have := F2 d ((hF' d).mpr hd); omega)
  · have := F2 c hc
    rw [List.getElem?_set_ne (by omega)]
theorem deed_commit {y : Df} (U : Pu n m num root P pres dur ws F mine true) (B : St n m num root P pres dur ws mine hol (some y) dv hs k p v w h pd mi ho S) (hm : 50 ≤ m) (hm' : m ≤ 50 + j) (hj : j < 100) (hk : 6 ≤ κ) (h6 : κ = 6 → 3 ≤ hol.length) :
    Stp (LI ns n (j + 1)) (fun _ => False) (DEEDK [some (.scr ns), some (.ref 0), some (.int n), some (.ref k), some (.ref v), some (.tup [.int num, rD root, .dct (kvF dur F)]), some (.ref pd), some (.ref y.d), some (.ref mi), some (.ref ho), x10, some (.int κ), x12, x13, x14, x15] S) := by
  have k5 : ¬ (κ : Int) < 5 := by omega
  have k5' : ¬ κ < 5 := by omega
  have k5e : ¬ (κ : Int) = 5 := by omega
  have k5e' : ¬ κ = 5 := by omega
  have n4 := U.n4
  have n8 := U.n8
  have ml := U.ml
  have f40 := U.f40
  have mul := mulR2 B.ms (by simp; omega)
  have a1 := addLL2 (S := S) (ds := [.non]) (es := nD mine ++ nD mine) (sz (by simp; omega))
  have a2 := addLL2 (S := S) (ds := .non :: (nD mine ++ nD mine)) (es := nD F) (sz (by simp; omega))
  have rs : (rD ∘ some) = fun b : Nat => D.int (b : Nat) := rfl
  have ec : D.non :: (nD mine ++ nD mine) ++ nD F = (none :: (mine ++ mine ++ F).map some).map rD := by
    simp [rs, nD]
    rfl
  have kk : F.map ((fun kv : Key × D => keyD kv.1) ∘ fun b : Nat => (Sum.inl (b : Int), dur.getD b .non)) = nD F := rfl
  rw [ec] at a2
  have hcs : ∀ o ∈ none :: (mine ++ mine ++ F).map some, ∀ b, o = some b → isK P b := fun o ho b hb => by
    subst hb
    rcases List.mem_cons.mp ho with e | ho
    · cases e
    · obtain ⟨c, hc, e⟩ := List.mem_map.mp ho
      cases e
      simp only [List.mem_append] at hc
      rcases hc with (hc | hc) | hc
      · exact U.mn rfl _ hc
      · exact U.mn rfl _ hc
      · exact U.fp _ hc
  have lc1 : (none :: (mine ++ mine ++ F).map some).length ≤ 900 := by simp; omega
  have lc0 : 0 < (none :: (mine ++ mine ++ F).map some).length := by simp
  generalize none :: (mine ++ mine ++ F).map some = cs at a2 ec hcs lc1 lc0
  have key : ∀ x11, Stp (LI ns n (j + 1)) (fun _ => False) ((sSeq (sSeq (sSet 13 (mOp addD (mOp addD (mFn lstD (mCons (mC .non) mNil)) (mOp mulD (mVar 8) (mC (.int 2)))) (mUn keysL (mOp ixD (mVar 5) (mC (.int 2))))))
  (sSeq (sSet 14 (mOp ixD (mVar 13) (mFn (ar 3 fn_law_take) (mCons (mVar 0) (mCons (mVar 1) (mCons (mFn lenD (mCons (mVar 13) mNil)) mNil))))))
  (sSeq (sSet 15 (mFn (ar 4 fn_law_due) (mCons (mOp addD (mOp ixD (mVar 5) (mC (.int 0))) (mC (.int 1))) (mCons (mVar 14) (mCons (mVar 6) (mCons (mVar 2) mNil))))))
  (sSeq (sIf (mOr (mNot (mTru (mFn (ar 4 fn_law_commit_right) (mCons (mVar 3) (mCons (mVar 14) (mCons (mVar 5) (mCons (mVar 15) mNil))))))) (mTest (mOp neD (mMeth [("Draft", fn_Draft_commit)] "commit" 2 (mVar 7) (mCons (mVar 14) mNil)) (mOp ixD (mVar 15) (mC (.int 0))))))
  (sRet (mC (.bl false)))
  sPass)
  (sSeq (sSet 5 (mVar 15))
  (sSet 7 (mC .non))))))) CRK) [some (.scr ns), some (.ref 0), some (.int n), some (.ref k), some (.ref v), some (.tup [.int num, rD root, .dct (kvF dur F)]), some (.ref pd), some (.ref y.d), some (.ref mi), some (.ref ho), x10, x11, x12, x13, x14, x15] S) := by
    intro x11
    simp [mul, a1, kk, a2, b2, -v_addL, -List.getD_eq_getElem?_getD]
    generalize hx : fn_law_take _ _ = x
    obtain ⟨_, S1, rfl, ⟨⟨r1, rfl, l1⟩, p1, f1, q1⟩⟩ := Ok.g hx (draw B.pool (by omega) (by omega))
    clear hx
    have B1 := B.fr0 f1 p1
    obtain ⟨r, ho'⟩ : ∃ r, cs[r1]? = some r := ⟨_, List.getElem?_eq_getElem (by omega)⟩
    have ao : atI (cs.map rD) (r1 : Int) = some (rD r) := atI_nat (by rw [List.getElem?_map, ho']; rfl)
    have ok := hcs r (List.mem_of_getElem? ho')
    have rr : ∀ c, r = some c → 2 ≤ c ∧ c < n := fun c hc => (U.ag.val (ok c hc)).2
    simp [ao, b0, -List.getD_eq_getElem?_getD]
    generalize hx : fn_law_due _ _ = x
    obtain ⟨_, S2, rfl, f2, F', rfl, nF, lF, hF'⟩ := Ok.g hx (due_ok B1.pg U.ag B1.vc.ln (by omega) (by omega) ok)
    clear hx
    have B2 := B1.fr f2
    have F2 : ∀ c ∈ F', 2 ≤ c ∧ c < n := fun c hc => ((hF' c).mp hc).inn fun r' hr' => rr r' (Option.mem_toList.mp hr')
    simp [-List.getD_eq_getElem?_getD]
    generalize hx : fn_law_commit_right _ _ = x
    obtain ⟨_, S3, rfl, rfl, f3⟩ := Ok.g hx (commit_right (b := 0) B2.vc.dk.1 B2.dS U.dl B2.vc.ln n8 (by omega) U.like U.mt (fun b hb => (U.fin b hb).2) U.flen F2 (by omega) rr (fun d hd => (B2.vc.pd d hd).1))
    clear hx
    have B3 := B2.fr f3
    obtain ⟨d3, _⟩ := B3.df y rfl
    simp [d3.dr, -List.getD_eq_getElem?_getD]
    generalize hx : fn_Draft_commit _ _ = x
    obtain ⟨_, S4, rfl, rfl, w', b, hb2, hb, V4, s4, k4⟩ := Ok.g hx (commit_ok B3.vc d3 (List.mem_append_right _ (List.mem_append_right _ (by simp [dfX]))) (by omega) rr)
    clear hx
    obtain ⟨U4, ek⟩ := U.next B3.vc.ln B3.vc.pd hb2 hb ok hF' nF
    have B4 := B3.ended (ws' := []) (dur' := pres.set b (mtP r (num + 1))) V4 k4 (fun x hx => nomatch hx) List.nodup_nil (fun _ => rfl)
    simp [b0, -List.getD_eq_getElem?_getD]
    rw [ek]
    simpa [CRK, dD, -List.getD_eq_getElem?_getD] using crash_step (j := j) U4 B4 hm (by omega) hj
  by_cases c6 : κ = 6
  · have l3 : ¬ (hol.length : Int) < 3 := by have := h6 c6; omega
    have l3' : ¬ hol.length < 3 := by have := h6 c6; omega
    subst c6
    simp [DEEDK, B.hl, l3, l3', -List.getD_eq_getElem?_getD, -v_addL]
    simpa [CRK, -List.getD_eq_getElem?_getD, -v_addL] using key _
  · have c6' : ¬ (κ : Int) = 6 := by omega
    simp [DEEDK, k5, k5', k5e, k5e', c6, c6', -List.getD_eq_getElem?_getD, -v_addL]
    simpa [CRK, -List.getD_eq_getElem?_getD, -v_addL] using key _
theorem deed_ok (U : Pu n m num root P pres dur ws F mine (Option.isSome o)) (B : St n m num root P pres dur ws mine hol o dv hs k p v w h pd mi ho S) (hm : 50 ≤ m) (hm' : m ≤ 50 + j) (hj : j < 100) :
    Stp (LI ns n (j + 1)) (fun _ => False) (DEEDK [some (.scr ns), some (.ref 0), some (.int n), some (.ref k), some (.ref v), some (.tup [.int num, rD root, .dct (kvF dur F)]), some (.ref pd), some (dD o), some (.ref mi), some (.ref ho), x10, some (.int κ), x12, x13, x14, x15] S) := by
  cases o with
  | none => exact deed_begin U B hm hm' hj
  | some y =>
    by_cases c5 : κ < 5
    · exact deed_add U B hm hm' hj c5
    by_cases e5 : κ = 5
    · subst e5
      exact deed_cancel U B hm hm' hj
    by_cases e6 : κ = 6 ∧ hol.length < 3
    · obtain ⟨rfl, l3⟩ := e6
      exact deed_hold U B hm hm' hj l3
    · exact deed_commit U B hm hm' hj (by omega) (fun e => by omega)
end
end G
namespace G
open PySem L2
abbrev mPg : D := .tup [.str "meta", .tup [], .int 0]
/-- format_disk on a disk whose list of pending writes is short -/
theorem format_ok {S : Store} {k p w : Nat} {dv : D} {pres wait : List D} (h : DiskAt S k p w dv pres wait) (h8 : 8 ≤ pres.length) (h4 : pres.length ≤ 400) (hw : wait.length ≤ 1000) :
    Ok (fn_format_disk [.ref k] S) fun d S' => d = .non ∧ ∃ S1, Fr [p, w] S S1 ∧ S1.length = S.length ∧ S' = sp S1 k (dskM (.lst ((List.replicate pres.length .non).set 0 mPg)) p S1.length) ++ [.lst []] ∧ DiskAt S' k p S1.length (.lst ((List.replicate pres.length .non).set 0 mPg)) ((List.replicate pres.length .non).set 0 mPg) [] := by
  have rr : smR (pres.length : Int) = true := smR_nat (by omega)
  unfold fn_format_disk
  rw [run_eq]
  simp only [sem_format_disk, startD]
  simp [h.ob, size_ok h, rr]
  generalize hx : forL _ _ _ _ _ _ = x
  obtain ⟨_, S1, rfl, ⟨pr1, wt1, D1, l1, z1, a1, f1, q1⟩, x1, rfl⟩ := OkN.g hx (forI (fun j ρ S' => (∃ pr wt, DiskAt S' k p w dv pr wt ∧ pr.length = pres.length ∧ wt.length ≤ 1000 + j ∧ (∀ i, i < j → pr[i]? = some .non) ∧ Fr [p, w] S S' ∧ S'.length = S.length) ∧ ∃ x1, ρ = [some (.ref k), x1]) (fun _ _ _ _ => grd_none) (fun j d hj ρ S' ⟨⟨pr, wt, D1, l1, z1, a1, f1, q1⟩, x1, eρ⟩ => by
    subst eρ
    refine ⟨_, rfl, ?_⟩
    have hj1 := (List.getElem?_eq_some_iff.mp hj).1
    simp at hj1
    rw [List.getElem?_map, List.getElem?_range hj1] at hj
    cases hj
    have wr := write_ok D1 (i := j) (d := .non) (by omega) (.inl rfl) (by omega)
    simp [D1.ob, wr]
    refine ⟨pr.set j .non, wt ++ [.tup [.int j, .non]], D1.wrote j .non _, by rw [List.length_set]; exact l1, by simp; omega, fun i hi => ?_, f1.tr ((Fr.put (by simp)).tr (Fr.put (by simp))), q1⟩
    by_cases e : j = i
    · subst e
      rw [List.getElem?_set_self (by omega)]
    · rw [List.getElem?_set_ne e]
      exact a1 i (by omega)) ⟨⟨pres, wait, h, rfl, by omega, fun i hi => absurd hi (by omega), Fr.rf _ _, rfl⟩, _, rfl⟩)
  have e1 : pr1 = List.replicate pres.length .non := by
    apply List.ext_getElem?
    intro i
    by_cases hi : i < pres.length
    · rw [a1 i (by simpa using hi), rep_at hi]
    · rw [List.getElem?_eq_none (by omega), List.getElem?_eq_none (by simp; omega)]
  subst e1
  have wr : fn_Disk_write [.ref k, .int 0, mPg] S1 = _ := write_ok D1 (i := 0) (d := mPg) (by simp; omega) (.inr ⟨"meta", [], _, rfl, by simp⟩) (by simp at z1; omega)
  have D2 := D1.wrote 0 mPg (.tup [.int (0 : Nat), mPg])
  have f2 : Fr [p, w] S1 (sp (sp S1 p (.lst ((List.replicate pres.length D.non).set 0 mPg))) w (.lst (wt1 ++ [.tup [.int (0 : Nat), mPg]]))) := (Fr.put (by simp)).tr (Fr.put (by simp))
  have q2 : (sp (sp S1 p (.lst ((List.replicate pres.length D.non).set 0 mPg))) w (.lst (wt1 ++ [.tup [.int (0 : Nat), mPg]]))).length = S1.length := by rw [sp_len, sp_len]
  generalize sp (sp S1 p (.lst ((List.replicate pres.length D.non).set 0 mPg))) w (.lst (wt1 ++ [.tup [.int (0 : Nat), mPg]])) = S2 at wr D2 f2 q2
  obtain ⟨F1, F2⟩ := flush_ok D2
  have wr' : fn_Disk_write [.ref k, .int 0, .tup [.str "meta", .tup [], .int 0]] S1 = .ok .non S2 := wr
  simp [D1.ob, c_META, wr', D2.ob, F1]
  exact ⟨S2, f1.tr f2, q2.trans q1, rfl, by simpa using F2⟩
theorem vault_new {S : Store} {k p w : Nat} {dv : D} {pres wait : List D} (h : DiskAt S k p w dv pres wait) (h0 : pres[0]? = some mPg) (h1 : pres[1]? = some .non) : fn_Vault_init [.ref S.length, .ref k] (S ++ [.ins "Vault" []]) = .ok .non (S ++ [vltM k 0 .non (S.length + 1) false, .lst []]) := by
  have H := h.ext (Ext.one (m := .ins "Vault" []))
  have r0 : fn_Disk_read [.ref k, .int 0] (S ++ [.ins "Vault" []]) = .ok mPg (S ++ [.ins "Vault" []]) := read_ok H h0
  have r1 : fn_Disk_read [.ref k, .int 1] (S ++ [.ins "Vault" []]) = .ok .non (S ++ [.ins "Vault" []]) := read_ok H h1
  have v0 : fn_version_at [.ref k, .int 0] (S ++ [.ins "Vault" []]) = .ok (.tup [.int 0, .non]) (S ++ [.ins "Vault" []]) := by
    unfold fn_version_at
    rw [run_eq]
    simp only [sem_version_at, startD]
    simp [H.ob, r0, b0, b1, b2, c_META, c_METAS]
  have v1 : fn_version_at [.ref k, .int 1] (S ++ [.ins "Vault" []]) = .ok .non (S ++ [.ins "Vault" []]) := by
    unfold fn_version_at
    rw [run_eq]
    simp only [sem_version_at, startD]
    simp [H.ob, r1]
  have sm2 : smR 2 = true := by decide
  have rng2' : List.range 2 = [0, 1] := rfl
  have eq1 : ∀ S, eqB S (.lst [.tup [.int 0, .non]]) (.lst []) = some false := fun _ => rfl
  unfold fn_Vault_init
  rw [run_eq]
  simp only [sem_Vault_init, startD]
  simp [c_METAS, sm2, rng2', comp_N, comp_nil, wipeD, v0, v1, eq1, b0, for_N, for_nil]
end G
namespace G
open PySem L2
/-! ### the end -/
def LawOk : Prop := ∀ ns : List Int, ns.length ≤ 63 → ∃ S, fn_law [.scr ns] [] = .ok (.bl true) S
abbrev clNames : List Str := ["WorkError", "BadCount", "BadBlock", "BadPage", "BadKept", "NoMeta", "Busy", "Closed", "NoSpace", "Disk", "Vault", "Snapshot", "Draft"]
theorem all_mk {l : PySem.W.OpenLaw} {w : World} {K : PySem.W.Frag} {h : Heap} {mg : Str → Option Value} {fa : Addr} (X : K.In h) (G : h.Ns mainGlobals mg) (hfa : mg "law" = some (.ref fa))
    {C_WorkError : Addr}
    (aC_WorkError : PySem.W.nsIn K mainGlobals "WorkError" = some (some (.ref C_WorkError)))
    {C_BadCount : Addr}
    (aC_BadCount : PySem.W.nsIn K mainGlobals "BadCount" = some (some (.ref C_BadCount)))
    {C_BadBlock : Addr}
    (aC_BadBlock : PySem.W.nsIn K mainGlobals "BadBlock" = some (some (.ref C_BadBlock)))
    {C_BadPage : Addr}
    (aC_BadPage : PySem.W.nsIn K mainGlobals "BadPage" = some (some (.ref C_BadPage)))
    {C_BadKept : Addr}
    (aC_BadKept : PySem.W.nsIn K mainGlobals "BadKept" = some (some (.ref C_BadKept)))
    {C_NoMeta : Addr}
    (aC_NoMeta : PySem.W.nsIn K mainGlobals "NoMeta" = some (some (.ref C_NoMeta)))
    {C_Busy : Addr}
    (aC_Busy : PySem.W.nsIn K mainGlobals "Busy" = some (some (.ref C_Busy)))
    {C_Closed : Addr}
    (aC_Closed : PySem.W.nsIn K mainGlobals "Closed" = some (some (.ref C_Closed)))
    {C_NoSpace : Addr}
    (aC_NoSpace : PySem.W.nsIn K mainGlobals "NoSpace" = some (some (.ref C_NoSpace)))
    {C_Disk : Addr}
    (aC_Disk : PySem.W.nsIn K mainGlobals "Disk" = some (some (.ref C_Disk)))
    {C_Vault : Addr}
    (aC_Vault : PySem.W.nsIn K mainGlobals "Vault" = some (some (.ref C_Vault)))
    {C_Snapshot : Addr}
    (aC_Snapshot : PySem.W.nsIn K mainGlobals "Snapshot" = some (some (.ref C_Snapshot)))
    {C_Draft : Addr}
    (aC_Draft : PySem.W.nsIn K mainGlobals "Draft" = some (some (.ref C_Draft)))
    (q_Disk : clsB K C_Disk = true)
    (q_Vault : clsB K C_Vault = true)
    (q_Snapshot : clsB K C_Snapshot = true)
    (q_Draft : clsB K C_Draft = true)
    (m1_Disk : PySem.W.makesIn K C_Disk = true)
    (m2_Disk : PySem.W.keepIn K (.ref C_Disk) = true)
    (m1_Vault : PySem.W.makesIn K C_Vault = true)
    (m2_Vault : PySem.W.keepIn K (.ref C_Vault) = true)
    (m1_Draft : PySem.W.makesIn K C_Draft = true)
    (m2_Draft : PySem.W.keepIn K (.ref C_Draft) = true)
    (m1_Snapshot : PySem.W.makesIn K C_Snapshot = true)
    (m2_Snapshot : PySem.W.keepIn K (.ref C_Snapshot) = true)
    (n_Disk_durable : PySem.W.findIn K (.ref C_Disk) "durable" = some none)
    (n_Disk_present : PySem.W.findIn K (.ref C_Disk) "present" = some none)
    (n_Disk_waiting : PySem.W.findIn K (.ref C_Disk) "waiting" = some none)
    (n_Draft_given : PySem.W.findIn K (.ref C_Draft) "given" = some none)
    (n_Draft_is_closed : PySem.W.findIn K (.ref C_Draft) "is_closed" = some none)
    (n_Draft_vault : PySem.W.findIn K (.ref C_Draft) "vault" = some none)
    (n_Snapshot_is_closed : PySem.W.findIn K (.ref C_Snapshot) "is_closed" = some none)
    (n_Snapshot_number : PySem.W.findIn K (.ref C_Snapshot) "number" = some none)
    (n_Snapshot_place : PySem.W.findIn K (.ref C_Snapshot) "place" = some none)
    (n_Snapshot_top : PySem.W.findIn K (.ref C_Snapshot) "top" = some none)
    (n_Vault_holders : PySem.W.findIn K (.ref C_Vault) "holders" = some none)
    (n_Vault_is_busy : PySem.W.findIn K (.ref C_Vault) "is_busy" = some none)
    (n_Vault_number : PySem.W.findIn K (.ref C_Vault) "number" = some none)
    (n_Vault_place : PySem.W.findIn K (.ref C_Vault) "place" = some none)
    (n_Vault_top : PySem.W.findIn K (.ref C_Vault) "top" = some none)
    {nm_BadCount : _} {qn_BadCount : _} {N_BadCount : _} {bs_BadCount : _} {bm_BadCount : _} {sn_BadCount : _} {sub_BadCount : _} {ab_BadCount : _} {col_BadCount : _} {dd_BadCount : _} {k0_BadCount : _} {k1_BadCount : _} {k2_BadCount : _} {k3_BadCount : _} {k5_BadCount : _}
    (x1_BadCount : K.lookup C_BadCount = some (excClassObj nm_BadCount qn_BadCount C_BadCount N_BadCount bs_BadCount bm_BadCount true sn_BadCount sub_BadCount ab_BadCount col_BadCount dd_BadCount k0_BadCount k1_BadCount k2_BadCount k3_BadCount k5_BadCount "ValueError.__new__"))
    (x2_BadCount : PySem.HandSPX.refsVE bm_BadCount = true)
    (x3_BadCount : oexB K C_BadCount = true)
    (xf_BadCount_count : PySem.W.findIn K (.ref C_BadCount) "count" = some none)
    {nm_BadKept : _} {qn_BadKept : _} {N_BadKept : _} {bs_BadKept : _} {bm_BadKept : _} {sn_BadKept : _} {sub_BadKept : _} {ab_BadKept : _} {col_BadKept : _} {dd_BadKept : _} {k0_BadKept : _} {k1_BadKept : _} {k2_BadKept : _} {k3_BadKept : _} {k5_BadKept : _}
    (x1_BadKept : K.lookup C_BadKept = some (excClassObj nm_BadKept qn_BadKept C_BadKept N_BadKept bs_BadKept bm_BadKept true sn_BadKept sub_BadKept ab_BadKept col_BadKept dd_BadKept k0_BadKept k1_BadKept k2_BadKept k3_BadKept k5_BadKept "ValueError.__new__"))
    (x2_BadKept : PySem.HandSPX.refsVE bm_BadKept = true)
    (x3_BadKept : oexB K C_BadKept = true)
    (xf_BadKept_block : PySem.W.findIn K (.ref C_BadKept) "block" = some none)
    {nm_BadBlock : _} {qn_BadBlock : _} {N_BadBlock : _} {bs_BadBlock : _} {bm_BadBlock : _} {sn_BadBlock : _} {sub_BadBlock : _} {ab_BadBlock : _} {col_BadBlock : _} {dd_BadBlock : _} {k0_BadBlock : _} {k1_BadBlock : _} {k2_BadBlock : _} {k3_BadBlock : _} {k5_BadBlock : _}
    (x1_BadBlock : K.lookup C_BadBlock = some (excClassObj nm_BadBlock qn_BadBlock C_BadBlock N_BadBlock bs_BadBlock bm_BadBlock true sn_BadBlock sub_BadBlock ab_BadBlock col_BadBlock dd_BadBlock k0_BadBlock k1_BadBlock k2_BadBlock k3_BadBlock k5_BadBlock "ValueError.__new__"))
    (x2_BadBlock : PySem.HandSPX.refsVE bm_BadBlock = true)
    (x3_BadBlock : oexB K C_BadBlock = true)
    (xf_BadBlock_block : PySem.W.findIn K (.ref C_BadBlock) "block" = some none)
    {nm_BadPage : _} {qn_BadPage : _} {N_BadPage : _} {bs_BadPage : _} {bm_BadPage : _} {sn_BadPage : _} {sub_BadPage : _} {ab_BadPage : _} {col_BadPage : _} {dd_BadPage : _} {k0_BadPage : _} {k1_BadPage : _} {k2_BadPage : _} {k3_BadPage : _} {k5_BadPage : _}
    (x1_BadPage : K.lookup C_BadPage = some (excClassObj nm_BadPage qn_BadPage C_BadPage N_BadPage bs_BadPage bm_BadPage true sn_BadPage sub_BadPage ab_BadPage col_BadPage dd_BadPage k0_BadPage k1_BadPage k2_BadPage k3_BadPage k5_BadPage "ValueError.__new__"))
    (x2_BadPage : PySem.HandSPX.refsVE bm_BadPage = true)
    (x3_BadPage : oexB K C_BadPage = true)
    (xf_BadPage_block : PySem.W.findIn K (.ref C_BadPage) "block" = some none)
    {nm_NoSpace : _} {qn_NoSpace : _} {N_NoSpace : _} {bs_NoSpace : _} {bm_NoSpace : _} {sn_NoSpace : _} {sub_NoSpace : _} {ab_NoSpace : _} {col_NoSpace : _} {dd_NoSpace : _} {k0_NoSpace : _} {k1_NoSpace : _} {k2_NoSpace : _} {k3_NoSpace : _} {k5_NoSpace : _}
    (x1_NoSpace : K.lookup C_NoSpace = some (excClassObj nm_NoSpace qn_NoSpace C_NoSpace N_NoSpace bs_NoSpace bm_NoSpace true sn_NoSpace sub_NoSpace ab_NoSpace col_NoSpace dd_NoSpace k0_NoSpace k1_NoSpace k2_NoSpace k3_NoSpace k5_NoSpace "ValueError.__new__"))
    (x2_NoSpace : PySem.HandSPX.refsVE bm_NoSpace = true)
    (x3_NoSpace : oexB K C_NoSpace = true)
    (xf_NoSpace_count : PySem.W.findIn K (.ref C_NoSpace) "count" = some none)
    {B_Busy newId_Busy initId_Busy : String} {bmB_Busy : List Value}
    (z1_Busy : ExcBaseFacts B_Busy newId_Busy initId_Busy bmB_Busy)
    (z2_Busy : PySem.W.excIn K C_Busy bmB_Busy newId_Busy = true)
    (z3_Busy : oexB K C_Busy = true)
    {B_Closed newId_Closed initId_Closed : String} {bmB_Closed : List Value}
    (z1_Closed : ExcBaseFacts B_Closed newId_Closed initId_Closed bmB_Closed)
    (z2_Closed : PySem.W.excIn K C_Closed bmB_Closed newId_Closed = true)
    (z3_Closed : oexB K C_Closed = true)
    {B_NoMeta newId_NoMeta initId_NoMeta : String} {bmB_NoMeta : List Value}
    (z1_NoMeta : ExcBaseFacts B_NoMeta newId_NoMeta initId_NoMeta bmB_NoMeta)
    (z2_NoMeta : PySem.W.excIn K C_NoMeta bmB_NoMeta newId_NoMeta = true)
    (z3_NoMeta : oexB K C_NoMeta = true)
    (xc_BadCount : xfB K C_BadCount = true)
    (xd_BadCount_count : PySem.W.findIn K (.ref C_BadCount) "count" = some none)
    (xc_NoSpace : xfB K C_NoSpace = true)
    (xd_NoSpace_count : PySem.W.findIn K (.ref C_NoSpace) "count" = some none)
    (kt_NoSpace_WorkError : PySem.W.exmOne K (.ref C_WorkError) (.ref C_NoSpace) = some false)
    (kt_NoSpace_BadCount : PySem.W.exmOne K (.ref C_BadCount) (.ref C_NoSpace) = some false)
    (kt_NoSpace_BadBlock : PySem.W.exmOne K (.ref C_BadBlock) (.ref C_NoSpace) = some false)
    (kt_NoSpace_BadPage : PySem.W.exmOne K (.ref C_BadPage) (.ref C_NoSpace) = some false)
    (kt_NoSpace_BadKept : PySem.W.exmOne K (.ref C_BadKept) (.ref C_NoSpace) = some false)
    (kt_NoSpace_NoMeta : PySem.W.exmOne K (.ref C_NoMeta) (.ref C_NoSpace) = some false)
    (kt_NoSpace_Busy : PySem.W.exmOne K (.ref C_Busy) (.ref C_NoSpace) = some false)
    (kt_NoSpace_Closed : PySem.W.exmOne K (.ref C_Closed) (.ref C_NoSpace) = some false)
    (kt_NoSpace_NoSpace : PySem.W.exmOne K (.ref C_NoSpace) (.ref C_NoSpace) = some true)
    {f0 : Addr} {od0 an0 : Option Addr} {sl0 : Array (Option Value)} {oc0 kV0 dc0 pm0 cd0 ct0 : Value}
    (a0 : PySem.W.findIn K (.ref C_BadCount) "__init__" = some (some (.ref f0)))
    (i0 : PySem.W.typeIn K (.ref f0) = some (.type "function"))
    (l0 : K.lookup f0 = some ⟨oc0, od0, .func (PySem.W.fnOf "__init__" "BadCount.__init__" (defArgs s_BadCount_init) (defBody s_BadCount_init) (defScope s_BadCount_init) .none kV0 dc0 pm0 an0 cd0 ct0), sl0⟩)
    (c0 : PySem.W.codeIn K cd0 "BadCount.__init__" = true)
    (k0 : PySem.W.keepIn K (.ref f0) = true)
    {f1 : Addr} {od1 an1 : Option Addr} {sl1 : Array (Option Value)} {oc1 kV1 dc1 pm1 cd1 ct1 : Value}
    (a1 : PySem.W.nsIn K mainGlobals "is_integer" = some (some (.ref f1)))
    (l1 : K.lookup f1 = some ⟨oc1, od1, .func (PySem.W.fnOf "is_integer" "is_integer" (defArgs s_is_integer) (defBody s_is_integer) (defScope s_is_integer) .none kV1 dc1 pm1 an1 cd1 ct1), sl1⟩)
    (c1 : PySem.W.codeIn K cd1 "is_integer" = true)
    (k1 : PySem.W.keepIn K (.ref f1) = true)
    {f2 : Addr} {od2 an2 : Option Addr} {sl2 : Array (Option Value)} {oc2 kV2 dc2 pm2 cd2 ct2 : Value}
    (a2 : PySem.W.findIn K (.ref C_Disk) "__init__" = some (some (.ref f2)))
    (i2 : PySem.W.isFn K (.ref f2) = true)
    (l2 : K.lookup f2 = some ⟨oc2, od2, .func (PySem.W.fnOf "__init__" "Disk.__init__" (defArgs s_Disk_init) (defBody s_Disk_init) (defScope s_Disk_init) .none kV2 dc2 pm2 an2 cd2 ct2), sl2⟩)
    (c2 : PySem.W.codeIn K cd2 "Disk.__init__" = true)
    (k2 : PySem.W.keepIn K (.ref f2) = true)
    {f3 : Addr} {od3 an3 : Option Addr} {sl3 : Array (Option Value)} {oc3 kV3 dc3 pm3 cd3 ct3 : Value}
    (a3 : PySem.W.findIn K (.ref C_BadKept) "__init__" = some (some (.ref f3)))
    (i3 : PySem.W.typeIn K (.ref f3) = some (.type "function"))
    (l3 : K.lookup f3 = some ⟨oc3, od3, .func (PySem.W.fnOf "__init__" "BadKept.__init__" (defArgs s_BadKept_init) (defBody s_BadKept_init) (defScope s_BadKept_init) .none kV3 dc3 pm3 an3 cd3 ct3), sl3⟩)
    (c3 : PySem.W.codeIn K cd3 "BadKept.__init__" = true)
    (k3 : PySem.W.keepIn K (.ref f3) = true)
    {f4 : Addr} {od4 an4 : Option Addr} {sl4 : Array (Option Value)} {oc4 kV4 dc4 pm4 cd4 ct4 : Value}
    (a4 : PySem.W.findIn K (.ref C_Disk) "is_block" = some (some (.ref f4)))
    (i4 : PySem.W.isFn K (.ref f4) = true)
    (l4 : K.lookup f4 = some ⟨oc4, od4, .func (PySem.W.fnOf "is_block" "Disk.is_block" (defArgs s_Disk_is_block) (defBody s_Disk_is_block) (defScope s_Disk_is_block) .none kV4 dc4 pm4 an4 cd4 ct4), sl4⟩)
    (c4 : PySem.W.codeIn K cd4 "Disk.is_block" = true)
    (k4 : PySem.W.keepIn K (.ref f4) = true)
    {f5 : Addr} {od5 an5 : Option Addr} {sl5 : Array (Option Value)} {oc5 kV5 dc5 pm5 cd5 ct5 : Value}
    (a5 : PySem.W.findIn K (.ref C_Disk) "check_kept" = some (some (.ref f5)))
    (i5 : PySem.W.isFn K (.ref f5) = true)
    (l5 : K.lookup f5 = some ⟨oc5, od5, .func (PySem.W.fnOf "check_kept" "Disk.check_kept" (defArgs s_Disk_check_kept) (defBody s_Disk_check_kept) (defScope s_Disk_check_kept) .none kV5 dc5 pm5 an5 cd5 ct5), sl5⟩)
    (c5 : PySem.W.codeIn K cd5 "Disk.check_kept" = true)
    (k5 : PySem.W.keepIn K (.ref f5) = true)
    {f6 : Addr} {od6 an6 : Option Addr} {sl6 : Array (Option Value)} {oc6 kV6 dc6 pm6 cd6 ct6 : Value}
    (a6 : PySem.W.findIn K (.ref C_Disk) "crashed" = some (some (.ref f6)))
    (i6 : PySem.W.isFn K (.ref f6) = true)
    (l6 : K.lookup f6 = some ⟨oc6, od6, .func (PySem.W.fnOf "crashed" "Disk.crashed" (defArgs s_Disk_crashed) (defBody s_Disk_crashed) (defScope s_Disk_crashed) .none kV6 dc6 pm6 an6 cd6 ct6), sl6⟩)
    (c6 : PySem.W.codeIn K cd6 "Disk.crashed" = true)
    (k6 : PySem.W.keepIn K (.ref f6) = true)
    {f7 : Addr} {od7 an7 : Option Addr} {sl7 : Array (Option Value)} {oc7 kV7 dc7 pm7 cd7 ct7 : Value}
    (a7 : PySem.W.findIn K (.ref C_Draft) "check_open" = some (some (.ref f7)))
    (i7 : PySem.W.isFn K (.ref f7) = true)
    (l7 : K.lookup f7 = some ⟨oc7, od7, .func (PySem.W.fnOf "check_open" "Draft.check_open" (defArgs s_Draft_check_open) (defBody s_Draft_check_open) (defScope s_Draft_check_open) .none kV7 dc7 pm7 an7 cd7 ct7), sl7⟩)
    (c7 : PySem.W.codeIn K cd7 "Draft.check_open" = true)
    (k7 : PySem.W.keepIn K (.ref f7) = true)
    {f8 : Addr} {od8 an8 : Option Addr} {sl8 : Array (Option Value)} {oc8 kV8 dc8 pm8 cd8 ct8 : Value}
    (a8 : PySem.W.findIn K (.ref C_Vault) "let_go" = some (some (.ref f8)))
    (i8 : PySem.W.isFn K (.ref f8) = true)
    (l8 : K.lookup f8 = some ⟨oc8, od8, .func (PySem.W.fnOf "let_go" "Vault.let_go" (defArgs s_Vault_let_go) (defBody s_Vault_let_go) (defScope s_Vault_let_go) .none kV8 dc8 pm8 an8 cd8 ct8), sl8⟩)
    (c8 : PySem.W.codeIn K cd8 "Vault.let_go" = true)
    (k8 : PySem.W.keepIn K (.ref f8) = true)
    {f9 : Addr} {od9 an9 : Option Addr} {sl9 : Array (Option Value)} {oc9 kV9 dc9 pm9 cd9 ct9 : Value}
    (a9 : PySem.W.findIn K (.ref C_Draft) "cancel" = some (some (.ref f9)))
    (i9 : PySem.W.isFn K (.ref f9) = true)
    (l9 : K.lookup f9 = some ⟨oc9, od9, .func (PySem.W.fnOf "cancel" "Draft.cancel" (defArgs s_Draft_cancel) (defBody s_Draft_cancel) (defScope s_Draft_cancel) .none kV9 dc9 pm9 an9 cd9 ct9), sl9⟩)
    (c9 : PySem.W.codeIn K cd9 "Draft.cancel" = true)
    (k9 : PySem.W.keepIn K (.ref f9) = true)
    {f10 : Addr} {od10 an10 : Option Addr} {sl10 : Array (Option Value)} {oc10 kV10 dc10 pm10 cd10 ct10 : Value}
    (a10 : PySem.W.findIn K (.ref C_BadBlock) "__init__" = some (some (.ref f10)))
    (i10 : PySem.W.typeIn K (.ref f10) = some (.type "function"))
    (l10 : K.lookup f10 = some ⟨oc10, od10, .func (PySem.W.fnOf "__init__" "BadBlock.__init__" (defArgs s_BadBlock_init) (defBody s_BadBlock_init) (defScope s_BadBlock_init) .none kV10 dc10 pm10 an10 cd10 ct10), sl10⟩)
    (c10 : PySem.W.codeIn K cd10 "BadBlock.__init__" = true)
    (k10 : PySem.W.keepIn K (.ref f10) = true)
    {f11 : Addr} {od11 an11 : Option Addr} {sl11 : Array (Option Value)} {oc11 kV11 dc11 pm11 cd11 ct11 : Value}
    (a11 : PySem.W.findIn K (.ref C_Disk) "flush" = some (some (.ref f11)))
    (i11 : PySem.W.isFn K (.ref f11) = true)
    (l11 : K.lookup f11 = some ⟨oc11, od11, .func (PySem.W.fnOf "flush" "Disk.flush" (defArgs s_Disk_flush) (defBody s_Disk_flush) (defScope s_Disk_flush) .none kV11 dc11 pm11 an11 cd11 ct11), sl11⟩)
    (c11 : PySem.W.codeIn K cd11 "Disk.flush" = true)
    (k11 : PySem.W.keepIn K (.ref f11) = true)
    {f12 : Addr} {od12 an12 : Option Addr} {sl12 : Array (Option Value)} {oc12 kV12 dc12 pm12 cd12 ct12 : Value}
    (a12 : PySem.W.findIn K (.ref C_BadPage) "__init__" = some (some (.ref f12)))
    (i12 : PySem.W.typeIn K (.ref f12) = some (.type "function"))
    (l12 : K.lookup f12 = some ⟨oc12, od12, .func (PySem.W.fnOf "__init__" "BadPage.__init__" (defArgs s_BadPage_init) (defBody s_BadPage_init) (defScope s_BadPage_init) .none kV12 dc12 pm12 an12 cd12 ct12), sl12⟩)
    (c12 : PySem.W.codeIn K cd12 "BadPage.__init__" = true)
    (k12 : PySem.W.keepIn K (.ref f12) = true)
    {f13 : Addr} {od13 an13 : Option Addr} {sl13 : Array (Option Value)} {oc13 kV13 dc13 pm13 cd13 ct13 : Value}
    (a13 : PySem.W.findIn K (.ref C_Disk) "check_block" = some (some (.ref f13)))
    (i13 : PySem.W.isFn K (.ref f13) = true)
    (l13 : K.lookup f13 = some ⟨oc13, od13, .func (PySem.W.fnOf "check_block" "Disk.check_block" (defArgs s_Disk_check_block) (defBody s_Disk_check_block) (defScope s_Disk_check_block) .none kV13 dc13 pm13 an13 cd13 ct13), sl13⟩)
    (c13 : PySem.W.codeIn K cd13 "Disk.check_block" = true)
    (k13 : PySem.W.keepIn K (.ref f13) = true)
    {f14 : Addr} {od14 an14 : Option Addr} {sl14 : Array (Option Value)} {oc14 kV14 dc14 pm14 cd14 ct14 : Value}
    (a14 : PySem.W.nsIn K mainGlobals "is_page" = some (some (.ref f14)))
    (l14 : K.lookup f14 = some ⟨oc14, od14, .func (PySem.W.fnOf "is_page" "is_page" (defArgs s_is_page) (defBody s_is_page) (defScope s_is_page) .none kV14 dc14 pm14 an14 cd14 ct14), sl14⟩)
    (c14 : PySem.W.codeIn K cd14 "is_page" = true)
    (k14 : PySem.W.keepIn K (.ref f14) = true)
    {f15 : Addr} {od15 an15 : Option Addr} {sl15 : Array (Option Value)} {oc15 kV15 dc15 pm15 cd15 ct15 : Value}
    (a15 : PySem.W.findIn K (.ref C_Disk) "write" = some (some (.ref f15)))
    (i15 : PySem.W.isFn K (.ref f15) = true)
    (l15 : K.lookup f15 = some ⟨oc15, od15, .func (PySem.W.fnOf "write" "Disk.write" (defArgs s_Disk_write) (defBody s_Disk_write) (defScope s_Disk_write) .none kV15 dc15 pm15 an15 cd15 ct15), sl15⟩)
    (c15 : PySem.W.codeIn K cd15 "Disk.write" = true)
    (k15 : PySem.W.keepIn K (.ref f15) = true)
    {f16 : Addr} {od16 an16 : Option Addr} {sl16 : Array (Option Value)} {oc16 kV16 dc16 pm16 cd16 ct16 : Value}
    (a16 : PySem.W.findIn K (.ref C_Vault) "go_on" = some (some (.ref f16)))
    (i16 : PySem.W.isFn K (.ref f16) = true)
    (l16 : K.lookup f16 = some ⟨oc16, od16, .func (PySem.W.fnOf "go_on" "Vault.go_on" (defArgs s_Vault_go_on) (defBody s_Vault_go_on) (defScope s_Vault_go_on) .none kV16 dc16 pm16 an16 cd16 ct16), sl16⟩)
    (c16 : PySem.W.codeIn K cd16 "Vault.go_on" = true)
    (k16 : PySem.W.keepIn K (.ref f16) = true)
    {f17 : Addr} {od17 an17 : Option Addr} {sl17 : Array (Option Value)} {oc17 kV17 dc17 pm17 cd17 ct17 : Value}
    (a17 : PySem.W.findIn K (.ref C_Disk) "size" = some (some (.ref f17)))
    (i17 : PySem.W.isFn K (.ref f17) = true)
    (l17 : K.lookup f17 = some ⟨oc17, od17, .func (PySem.W.fnOf "size" "Disk.size" (defArgs s_Disk_size) (defBody s_Disk_size) (defScope s_Disk_size) .none kV17 dc17 pm17 an17 cd17 ct17), sl17⟩)
    (c17 : PySem.W.codeIn K cd17 "Disk.size" = true)
    (k17 : PySem.W.keepIn K (.ref f17) = true)
    {f18 : Addr} {od18 an18 : Option Addr} {sl18 : Array (Option Value)} {oc18 kV18 dc18 pm18 cd18 ct18 : Value}
    (a18 : PySem.W.nsIn K mainGlobals "is_root" = some (some (.ref f18)))
    (l18 : K.lookup f18 = some ⟨oc18, od18, .func (PySem.W.fnOf "is_root" "is_root" (defArgs s_is_root) (defBody s_is_root) (defScope s_is_root) .none kV18 dc18 pm18 an18 cd18 ct18), sl18⟩)
    (c18 : PySem.W.codeIn K cd18 "is_root" = true)
    (k18 : PySem.W.keepIn K (.ref f18) = true)
    {f19 : Addr} {od19 an19 : Option Addr} {sl19 : Array (Option Value)} {oc19 kV19 dc19 pm19 cd19 ct19 : Value}
    (a19 : PySem.W.findIn K (.ref C_Draft) "commit" = some (some (.ref f19)))
    (i19 : PySem.W.isFn K (.ref f19) = true)
    (l19 : K.lookup f19 = some ⟨oc19, od19, .func (PySem.W.fnOf "commit" "Draft.commit" (defArgs s_Draft_commit) (defBody s_Draft_commit) (defScope s_Draft_commit) .none kV19 dc19 pm19 an19 cd19 ct19), sl19⟩)
    (c19 : PySem.W.codeIn K cd19 "Draft.commit" = true)
    (k19 : PySem.W.keepIn K (.ref f19) = true)
    {f20 : Addr} {od20 an20 : Option Addr} {sl20 : Array (Option Value)} {oc20 kV20 dc20 pm20 cd20 ct20 : Value}
    (a20 : PySem.W.findIn K (.ref C_Disk) "read" = some (some (.ref f20)))
    (i20 : PySem.W.isFn K (.ref f20) = true)
    (l20 : K.lookup f20 = some ⟨oc20, od20, .func (PySem.W.fnOf "read" "Disk.read" (defArgs s_Disk_read) (defBody s_Disk_read) (defScope s_Disk_read) .none kV20 dc20 pm20 an20 cd20 ct20), sl20⟩)
    (c20 : PySem.W.codeIn K cd20 "Disk.read" = true)
    (k20 : PySem.W.keepIn K (.ref f20) = true)
    {f21 : Addr} {od21 an21 : Option Addr} {sl21 : Array (Option Value)} {oc21 kV21 dc21 pm21 cd21 ct21 : Value}
    (a21 : PySem.W.nsIn K mainGlobals "version_at" = some (some (.ref f21)))
    (l21 : K.lookup f21 = some ⟨oc21, od21, .func (PySem.W.fnOf "version_at" "version_at" (defArgs s_version_at) (defBody s_version_at) (defScope s_version_at) .none kV21 dc21 pm21 an21 cd21 ct21), sl21⟩)
    (c21 : PySem.W.codeIn K cd21 "version_at" = true)
    (k21 : PySem.W.keepIn K (.ref f21) = true)
    {f22 : Addr} {od22 an22 : Option Addr} {sl22 : Array (Option Value)} {oc22 kV22 dc22 pm22 cd22 ct22 : Value}
    (a22 : PySem.W.findIn K (.ref C_Vault) "__init__" = some (some (.ref f22)))
    (i22 : PySem.W.isFn K (.ref f22) = true)
    (l22 : K.lookup f22 = some ⟨oc22, od22, .func (PySem.W.fnOf "__init__" "Vault.__init__" (defArgs s_Vault_init) (defBody s_Vault_init) (defScope s_Vault_init) .none kV22 dc22 pm22 an22 cd22 ct22), sl22⟩)
    (c22 : PySem.W.codeIn K cd22 "Vault.__init__" = true)
    (k22 : PySem.W.keepIn K (.ref f22) = true)
    {f23 : Addr} {od23 an23 : Option Addr} {sl23 : Array (Option Value)} {oc23 kV23 dc23 pm23 cd23 ct23 : Value}
    (a23 : PySem.W.findIn K (.ref C_Draft) "__init__" = some (some (.ref f23)))
    (i23 : PySem.W.isFn K (.ref f23) = true)
    (l23 : K.lookup f23 = some ⟨oc23, od23, .func (PySem.W.fnOf "__init__" "Draft.__init__" (defArgs s_Draft_init) (defBody s_Draft_init) (defScope s_Draft_init) .none kV23 dc23 pm23 an23 cd23 ct23), sl23⟩)
    (c23 : PySem.W.codeIn K cd23 "Draft.__init__" = true)
    (k23 : PySem.W.keepIn K (.ref f23) = true)
    {f24 : Addr} {od24 an24 : Option Addr} {sl24 : Array (Option Value)} {oc24 kV24 dc24 pm24 cd24 ct24 : Value}
    (a24 : PySem.W.findIn K (.ref C_Vault) "begin" = some (some (.ref f24)))
    (i24 : PySem.W.isFn K (.ref f24) = true)
    (l24 : K.lookup f24 = some ⟨oc24, od24, .func (PySem.W.fnOf "begin" "Vault.begin" (defArgs s_Vault_begin) (defBody s_Vault_begin) (defScope s_Vault_begin) .none kV24 dc24 pm24 an24 cd24 ct24), sl24⟩)
    (c24 : PySem.W.codeIn K cd24 "Vault.begin" = true)
    (k24 : PySem.W.keepIn K (.ref f24) = true)
    {f25 : Addr} {od25 an25 : Option Addr} {sl25 : Array (Option Value)} {oc25 kV25 dc25 pm25 cd25 ct25 : Value}
    (a25 : PySem.W.findIn K (.ref C_Snapshot) "__init__" = some (some (.ref f25)))
    (i25 : PySem.W.isFn K (.ref f25) = true)
    (l25 : K.lookup f25 = some ⟨oc25, od25, .func (PySem.W.fnOf "__init__" "Snapshot.__init__" (defArgs s_Snapshot_init) (defBody s_Snapshot_init) (defScope s_Snapshot_init) .none kV25 dc25 pm25 an25 cd25 ct25), sl25⟩)
    (c25 : PySem.W.codeIn K cd25 "Snapshot.__init__" = true)
    (k25 : PySem.W.keepIn K (.ref f25) = true)
    {f26 : Addr} {od26 an26 : Option Addr} {sl26 : Array (Option Value)} {oc26 kV26 dc26 pm26 cd26 ct26 : Value}
    (a26 : PySem.W.findIn K (.ref C_Vault) "hold" = some (some (.ref f26)))
    (i26 : PySem.W.isFn K (.ref f26) = true)
    (l26 : K.lookup f26 = some ⟨oc26, od26, .func (PySem.W.fnOf "hold" "Vault.hold" (defArgs s_Vault_hold) (defBody s_Vault_hold) (defScope s_Vault_hold) .none kV26 dc26 pm26 an26 cd26 ct26), sl26⟩)
    (c26 : PySem.W.codeIn K cd26 "Vault.hold" = true)
    (k26 : PySem.W.keepIn K (.ref f26) = true)
    {f27 : Addr} {od27 an27 : Option Addr} {sl27 : Array (Option Value)} {oc27 kV27 dc27 pm27 cd27 ct27 : Value}
    (a27 : PySem.W.findIn K (.ref C_Disk) "twin" = some (some (.ref f27)))
    (i27 : PySem.W.isFn K (.ref f27) = true)
    (l27 : K.lookup f27 = some ⟨oc27, od27, .func (PySem.W.fnOf "twin" "Disk.twin" (defArgs s_Disk_twin) (defBody s_Disk_twin) (defScope s_Disk_twin) .none kV27 dc27 pm27 an27 cd27 ct27), sl27⟩)
    (c27 : PySem.W.codeIn K cd27 "Disk.twin" = true)
    (k27 : PySem.W.keepIn K (.ref f27) = true)
    {f28 : Addr} {od28 an28 : Option Addr} {sl28 : Array (Option Value)} {oc28 kV28 dc28 pm28 cd28 ct28 : Value}
    (a28 : PySem.W.findIn K (.ref C_Vault) "read" = some (some (.ref f28)))
    (i28 : PySem.W.isFn K (.ref f28) = true)
    (l28 : K.lookup f28 = some ⟨oc28, od28, .func (PySem.W.fnOf "read" "Vault.read" (defArgs s_Vault_read) (defBody s_Vault_read) (defScope s_Vault_read) .none kV28 dc28 pm28 an28 cd28 ct28), sl28⟩)
    (c28 : PySem.W.codeIn K cd28 "Vault.read" = true)
    (k28 : PySem.W.keepIn K (.ref f28) = true)
    {f29 : Addr} {od29 an29 : Option Addr} {sl29 : Array (Option Value)} {oc29 kV29 dc29 pm29 cd29 ct29 : Value}
    (a29 : PySem.W.findIn K (.ref C_Vault) "root" = some (some (.ref f29)))
    (i29 : PySem.W.isFn K (.ref f29) = true)
    (l29 : K.lookup f29 = some ⟨oc29, od29, .func (PySem.W.fnOf "root" "Vault.root" (defArgs s_Vault_root) (defBody s_Vault_root) (defScope s_Vault_root) .none kV29 dc29 pm29 an29 cd29 ct29), sl29⟩)
    (c29 : PySem.W.codeIn K cd29 "Vault.root" = true)
    (k29 : PySem.W.keepIn K (.ref f29) = true)
    {f30 : Addr} {od30 an30 : Option Addr} {sl30 : Array (Option Value)} {oc30 kV30 dc30 pm30 cd30 ct30 : Value}
    (a30 : PySem.W.findIn K (.ref C_Vault) "version" = some (some (.ref f30)))
    (i30 : PySem.W.isFn K (.ref f30) = true)
    (l30 : K.lookup f30 = some ⟨oc30, od30, .func (PySem.W.fnOf "version" "Vault.version" (defArgs s_Vault_version) (defBody s_Vault_version) (defScope s_Vault_version) .none kV30 dc30 pm30 an30 cd30 ct30), sl30⟩)
    (c30 : PySem.W.codeIn K cd30 "Vault.version" = true)
    (k30 : PySem.W.keepIn K (.ref f30) = true)
    {f31 : Addr} {od31 an31 : Option Addr} {sl31 : Array (Option Value)} {oc31 kV31 dc31 pm31 cd31 ct31 : Value}
    (a31 : PySem.W.nsIn K mainGlobals "_law_like" = some (some (.ref f31)))
    (l31 : K.lookup f31 = some ⟨oc31, od31, .func (PySem.W.fnOf "_law_like" "_law_like" (defArgs s_law_like) (defBody s_law_like) (defScope s_law_like) .none kV31 dc31 pm31 an31 cd31 ct31), sl31⟩)
    (c31 : PySem.W.codeIn K cd31 "_law_like" = true)
    (k31 : PySem.W.keepIn K (.ref f31) = true)
    {f32 : Addr} {od32 an32 : Option Addr} {sl32 : Array (Option Value)} {oc32 kV32 dc32 pm32 cd32 ct32 : Value}
    (a32 : PySem.W.nsIn K mainGlobals "_law_is_version" = some (some (.ref f32)))
    (l32 : K.lookup f32 = some ⟨oc32, od32, .func (PySem.W.fnOf "_law_is_version" "_law_is_version" (defArgs s_law_is_version) (defBody s_law_is_version) (defScope s_law_is_version) .none kV32 dc32 pm32 an32 cd32 ct32), sl32⟩)
    (c32 : PySem.W.codeIn K cd32 "_law_is_version" = true)
    (k32 : PySem.W.keepIn K (.ref f32) = true)
    {f33 : Addr} {od33 an33 : Option Addr} {sl33 : Array (Option Value)} {oc33 kV33 dc33 pm33 cd33 ct33 : Value}
    (a33 : PySem.W.nsIn K mainGlobals "_law_commit_right" = some (some (.ref f33)))
    (l33 : K.lookup f33 = some ⟨oc33, od33, .func (PySem.W.fnOf "_law_commit_right" "_law_commit_right" (defArgs s_law_commit_right) (defBody s_law_commit_right) (defScope s_law_commit_right) .none kV33 dc33 pm33 an33 cd33 ct33), sl33⟩)
    (c33 : PySem.W.codeIn K cd33 "_law_commit_right" = true)
    (k33 : PySem.W.keepIn K (.ref f33) = true)
    {f34 : Addr} {od34 an34 : Option Addr} {sl34 : Array (Option Value)} {oc34 kV34 dc34 pm34 cd34 ct34 : Value}
    (a34 : PySem.W.nsIn K mainGlobals "_law_used" = some (some (.ref f34)))
    (l34 : K.lookup f34 = some ⟨oc34, od34, .func (PySem.W.fnOf "_law_used" "_law_used" (defArgs s_law_used) (defBody s_law_used) (defScope s_law_used) .none kV34 dc34 pm34 an34 cd34 ct34), sl34⟩)
    (c34 : PySem.W.codeIn K cd34 "_law_used" = true)
    (k34 : PySem.W.keepIn K (.ref f34) = true)
    {f35 : Addr} {od35 an35 : Option Addr} {sl35 : Array (Option Value)} {oc35 kV35 dc35 pm35 cd35 ct35 : Value}
    (a35 : PySem.W.nsIn K mainGlobals "_law_due" = some (some (.ref f35)))
    (l35 : K.lookup f35 = some ⟨oc35, od35, .func (PySem.W.fnOf "_law_due" "_law_due" (defArgs s_law_due) (defBody s_law_due) (defScope s_law_due) .none kV35 dc35 pm35 an35 cd35 ct35), sl35⟩)
    (c35 : PySem.W.codeIn K cd35 "_law_due" = true)
    (k35 : PySem.W.keepIn K (.ref f35) = true)
    {f36 : Addr} {od36 an36 : Option Addr} {sl36 : Array (Option Value)} {oc36 kV36 dc36 pm36 cd36 ct36 : Value}
    (a36 : PySem.W.findIn K (.ref C_Disk) "pending" = some (some (.ref f36)))
    (i36 : PySem.W.isFn K (.ref f36) = true)
    (l36 : K.lookup f36 = some ⟨oc36, od36, .func (PySem.W.fnOf "pending" "Disk.pending" (defArgs s_Disk_pending) (defBody s_Disk_pending) (defScope s_Disk_pending) .none kV36 dc36 pm36 an36 cd36 ct36), sl36⟩)
    (c36 : PySem.W.codeIn K cd36 "Disk.pending" = true)
    (k36 : PySem.W.keepIn K (.ref f36) = true)
    {f37 : Addr} {od37 an37 : Option Addr} {sl37 : Array (Option Value)} {oc37 kV37 dc37 pm37 cd37 ct37 : Value}
    (a37 : PySem.W.nsIn K mainGlobals "_law_take" = some (some (.ref f37)))
    (l37 : K.lookup f37 = some ⟨oc37, od37, .func (PySem.W.fnOf "_law_take" "_law_take" (defArgs s_law_take) (defBody s_law_take) (defScope s_law_take) .none kV37 dc37 pm37 an37 cd37 ct37), sl37⟩)
    (c37 : PySem.W.codeIn K cd37 "_law_take" = true)
    (k37 : PySem.W.keepIn K (.ref f37) = true)
    {f38 : Addr} {od38 an38 : Option Addr} {sl38 : Array (Option Value)} {oc38 kV38 dc38 pm38 cd38 ct38 : Value}
    (a38 : PySem.W.nsIn K mainGlobals "_law_kept" = some (some (.ref f38)))
    (l38 : K.lookup f38 = some ⟨oc38, od38, .func (PySem.W.fnOf "_law_kept" "_law_kept" (defArgs s_law_kept) (defBody s_law_kept) (defScope s_law_kept) .none kV38 dc38 pm38 an38 cd38 ct38), sl38⟩)
    (c38 : PySem.W.codeIn K cd38 "_law_kept" = true)
    (k38 : PySem.W.keepIn K (.ref f38) = true)
    {f39 : Addr} {od39 an39 : Option Addr} {sl39 : Array (Option Value)} {oc39 kV39 dc39 pm39 cd39 ct39 : Value}
    (a39 : PySem.W.findIn K (.ref C_NoSpace) "__init__" = some (some (.ref f39)))
    (i39 : PySem.W.typeIn K (.ref f39) = some (.type "function"))
    (l39 : K.lookup f39 = some ⟨oc39, od39, .func (PySem.W.fnOf "__init__" "NoSpace.__init__" (defArgs s_NoSpace_init) (defBody s_NoSpace_init) (defScope s_NoSpace_init) .none kV39 dc39 pm39 an39 cd39 ct39), sl39⟩)
    (c39 : PySem.W.codeIn K cd39 "NoSpace.__init__" = true)
    (k39 : PySem.W.keepIn K (.ref f39) = true)
    {f40 : Addr} {od40 an40 : Option Addr} {sl40 : Array (Option Value)} {oc40 kV40 dc40 pm40 cd40 ct40 : Value}
    (a40 : PySem.W.nsIn K mainGlobals "used_blocks" = some (some (.ref f40)))
    (l40 : K.lookup f40 = some ⟨oc40, od40, .func (PySem.W.fnOf "used_blocks" "used_blocks" (defArgs s_used_blocks) (defBody s_used_blocks) (defScope s_used_blocks) .none kV40 dc40 pm40 an40 cd40 ct40), sl40⟩)
    (c40 : PySem.W.codeIn K cd40 "used_blocks" = true)
    (k40 : PySem.W.keepIn K (.ref f40) = true)
    {f41 : Addr} {od41 an41 : Option Addr} {sl41 : Array (Option Value)} {oc41 kV41 dc41 pm41 cd41 ct41 : Value}
    (a41 : PySem.W.findIn K (.ref C_Vault) "free" = some (some (.ref f41)))
    (i41 : PySem.W.isFn K (.ref f41) = true)
    (l41 : K.lookup f41 = some ⟨oc41, od41, .func (PySem.W.fnOf "free" "Vault.free" (defArgs s_Vault_free) (defBody s_Vault_free) (defScope s_Vault_free) .none kV41 dc41 pm41 an41 cd41 ct41), sl41⟩)
    (c41 : PySem.W.codeIn K cd41 "Vault.free" = true)
    (k41 : PySem.W.keepIn K (.ref f41) = true)
    {f42 : Addr} {od42 an42 : Option Addr} {sl42 : Array (Option Value)} {oc42 kV42 dc42 pm42 cd42 ct42 : Value}
    (a42 : PySem.W.findIn K (.ref C_Draft) "add" = some (some (.ref f42)))
    (i42 : PySem.W.isFn K (.ref f42) = true)
    (l42 : K.lookup f42 = some ⟨oc42, od42, .func (PySem.W.fnOf "add" "Draft.add" (defArgs s_Draft_add) (defBody s_Draft_add) (defScope s_Draft_add) .none kV42 dc42 pm42 an42 cd42 ct42), sl42⟩)
    (c42 : PySem.W.codeIn K cd42 "Draft.add" = true)
    (k42 : PySem.W.keepIn K (.ref f42) = true)
    {f43 : Addr} {od43 an43 : Option Addr} {sl43 : Array (Option Value)} {oc43 kV43 dc43 pm43 cd43 ct43 : Value}
    (a43 : PySem.W.nsIn K mainGlobals "_law_added" = some (some (.ref f43)))
    (l43 : K.lookup f43 = some ⟨oc43, od43, .func (PySem.W.fnOf "_law_added" "_law_added" (defArgs s_law_added) (defBody s_law_added) (defScope s_law_added) .none kV43 dc43 pm43 an43 cd43 ct43), sl43⟩)
    (c43 : PySem.W.codeIn K cd43 "_law_added" = true)
    (k43 : PySem.W.keepIn K (.ref f43) = true)
    {f44 : Addr} {od44 an44 : Option Addr} {sl44 : Array (Option Value)} {oc44 kV44 dc44 pm44 cd44 ct44 : Value}
    (a44 : PySem.W.nsIn K mainGlobals "_law_page_added" = some (some (.ref f44)))
    (l44 : K.lookup f44 = some ⟨oc44, od44, .func (PySem.W.fnOf "_law_page_added" "_law_page_added" (defArgs s_law_page_added) (defBody s_law_page_added) (defScope s_law_page_added) .none kV44 dc44 pm44 an44 cd44 ct44), sl44⟩)
    (c44 : PySem.W.codeIn K cd44 "_law_page_added" = true)
    (k44 : PySem.W.keepIn K (.ref f44) = true)
    {f45 : Addr} {od45 an45 : Option Addr} {sl45 : Array (Option Value)} {oc45 kV45 dc45 pm45 cd45 ct45 : Value}
    (a45 : PySem.W.nsIn K mainGlobals "format_disk" = some (some (.ref f45)))
    (l45 : K.lookup f45 = some ⟨oc45, od45, .func (PySem.W.fnOf "format_disk" "format_disk" (defArgs s_format_disk) (defBody s_format_disk) (defScope s_format_disk) .none kV45 dc45 pm45 an45 cd45 ct45), sl45⟩)
    (c45 : PySem.W.codeIn K cd45 "format_disk" = true)
    (k45 : PySem.W.keepIn K (.ref f45) = true)
    {f46 : Addr} {od46 an46 : Option Addr} {sl46 : Array (Option Value)} {oc46 kV46 dc46 pm46 cd46 ct46 : Value}
    (a46 : PySem.W.nsIn K mainGlobals "law" = some (some (.ref f46)))
    (l46 : K.lookup f46 = some ⟨oc46, od46, .func (PySem.W.fnOf "law" "law" (defArgs s_law) (defBody s_law) (defScope s_law) .none kV46 dc46 pm46 an46 cd46 ct46), sl46⟩)
    (c46 : PySem.W.codeIn K cd46 "law" = true)
    (k46 : PySem.W.keepIn K (.ref f46) = true)
    (z_all : PySem.W.nsIn K mainGlobals "all" = some none)
    (z_bool : PySem.W.nsIn K mainGlobals "bool" = some none)
    (z_dict : PySem.W.nsIn K mainGlobals "dict" = some none)
    (z_int : PySem.W.nsIn K mainGlobals "int" = some none)
    (z_isinstance : PySem.W.nsIn K mainGlobals "isinstance" = some none)
    (z_len : PySem.W.nsIn K mainGlobals "len" = some none)
    (z_list : PySem.W.nsIn K mainGlobals "list" = some none)
    (z_range : PySem.W.nsIn K mainGlobals "range" = some none)
    (z_sorted : PySem.W.nsIn K mainGlobals "sorted" = some none)
    (z_str : PySem.W.nsIn K mainGlobals "str" = some none)
    (z_tuple : PySem.W.nsIn K mainGlobals "tuple" = some none)
    {tu_LEAST_BLOCKS : Value} (x_LEAST_BLOCKS : PySem.W.nsIn K mainGlobals "LEAST_BLOCKS" = some (some tu_LEAST_BLOCKS)) (v_LEAST_BLOCKS : ∃ v, RelV v tu_LEAST_BLOCKS ∧ absD v = some (.int 8))
    {tu_META : Value} (x_META : PySem.W.nsIn K mainGlobals "META" = some (some tu_META)) (v_META : ∃ v, RelV v tu_META ∧ absD v = some (.str "meta"))
    {tu_METAS : Value} (x_METAS : PySem.W.nsIn K mainGlobals "METAS" = some (some tu_METAS)) (v_METAS : ∃ v, RelV v tu_METAS ∧ absD v = some (.int 2))
    {tu_MOST_BLOCKS : Value} (x_MOST_BLOCKS : PySem.W.nsIn K mainGlobals "MOST_BLOCKS" = some (some tu_MOST_BLOCKS)) (v_MOST_BLOCKS : ∃ v, RelV v tu_MOST_BLOCKS ∧ absD v = some (.int 400))
    : ∃ fd : FuncData, (∀ (s : Shared) (v : Value), BindsTo s fd ⟨[v], []⟩ [("_law_script", v)]) ∧ ∀ base : Heap, K.In base → base.Ns mainGlobals mg → FnOk l.prog w K mg base (L2.CX l.prog w) 23 fa fd ["_law_script"] (spOf K (clOf clNames K) 1 fn_law) := by
  have e := hfa.symm.trans (PySem.W.mg_of X G a46)
  cases e
  have h_WorkError : clOf clNames K "WorkError" = some C_WorkError := clOf_at aC_WorkError (by decide)
  have g_WorkError : mg "WorkError" = some (.ref C_WorkError) := PySem.W.mg_of X G aC_WorkError
  have h_BadCount : clOf clNames K "BadCount" = some C_BadCount := clOf_at aC_BadCount (by decide)
  have g_BadCount : mg "BadCount" = some (.ref C_BadCount) := PySem.W.mg_of X G aC_BadCount
  have h_BadBlock : clOf clNames K "BadBlock" = some C_BadBlock := clOf_at aC_BadBlock (by decide)
  have g_BadBlock : mg "BadBlock" = some (.ref C_BadBlock) := PySem.W.mg_of X G aC_BadBlock
  have h_BadPage : clOf clNames K "BadPage" = some C_BadPage := clOf_at aC_BadPage (by decide)
  have g_BadPage : mg "BadPage" = some (.ref C_BadPage) := PySem.W.mg_of X G aC_BadPage
  have h_BadKept : clOf clNames K "BadKept" = some C_BadKept := clOf_at aC_BadKept (by decide)
  have g_BadKept : mg "BadKept" = some (.ref C_BadKept) := PySem.W.mg_of X G aC_BadKept
  have h_NoMeta : clOf clNames K "NoMeta" = some C_NoMeta := clOf_at aC_NoMeta (by decide)
  have g_NoMeta : mg "NoMeta" = some (.ref C_NoMeta) := PySem.W.mg_of X G aC_NoMeta
  have h_Busy : clOf clNames K "Busy" = some C_Busy := clOf_at aC_Busy (by decide)
  have g_Busy : mg "Busy" = some (.ref C_Busy) := PySem.W.mg_of X G aC_Busy
  have h_Closed : clOf clNames K "Closed" = some C_Closed := clOf_at aC_Closed (by decide)
  have g_Closed : mg "Closed" = some (.ref C_Closed) := PySem.W.mg_of X G aC_Closed
  have h_NoSpace : clOf clNames K "NoSpace" = some C_NoSpace := clOf_at aC_NoSpace (by decide)
  have g_NoSpace : mg "NoSpace" = some (.ref C_NoSpace) := PySem.W.mg_of X G aC_NoSpace
  have h_Disk : clOf clNames K "Disk" = some C_Disk := clOf_at aC_Disk (by decide)
  have g_Disk : mg "Disk" = some (.ref C_Disk) := PySem.W.mg_of X G aC_Disk
  have h_Vault : clOf clNames K "Vault" = some C_Vault := clOf_at aC_Vault (by decide)
  have g_Vault : mg "Vault" = some (.ref C_Vault) := PySem.W.mg_of X G aC_Vault
  have h_Snapshot : clOf clNames K "Snapshot" = some C_Snapshot := clOf_at aC_Snapshot (by decide)
  have g_Snapshot : mg "Snapshot" = some (.ref C_Snapshot) := PySem.W.mg_of X G aC_Snapshot
  have h_Draft : clOf clNames K "Draft" = some C_Draft := clOf_at aC_Draft (by decide)
  have g_Draft : mg "Draft" = some (.ref C_Draft) := PySem.W.mg_of X G aC_Draft
  have T : Gb K (clOf clNames K) mg := ⟨PySem.W.mg_none_of X G z_all, PySem.W.mg_none_of X G z_bool, PySem.W.mg_none_of X G z_dict, PySem.W.mg_none_of X G z_int, PySem.W.mg_none_of X G z_isinstance, PySem.W.mg_none_of X G z_len, PySem.W.mg_none_of X G z_list, PySem.W.mg_none_of X G z_range, PySem.W.mg_none_of X G z_sorted, PySem.W.mg_none_of X G z_str, PySem.W.mg_none_of X G z_tuple, glob_sc (PySem.W.mg_of X G x_LEAST_BLOCKS) v_LEAST_BLOCKS, glob_sc (PySem.W.mg_of X G x_META) v_META, glob_sc (PySem.W.mg_of X G x_METAS) v_METAS, glob_sc (PySem.W.mg_of X G x_MOST_BLOCKS) v_MOST_BLOCKS, at_cons h_Disk (clsB_ok q_Disk) n_Disk_durable at_nil, at_cons h_Disk (clsB_ok q_Disk) n_Disk_present at_nil, at_cons h_Disk (clsB_ok q_Disk) n_Disk_waiting at_nil, at_cons h_Draft (clsB_ok q_Draft) n_Draft_given at_nil, at_cons h_Draft (clsB_ok q_Draft) n_Draft_is_closed at_nil, at_cons h_Draft (clsB_ok q_Draft) n_Draft_vault at_nil, at_cons h_Snapshot (clsB_ok q_Snapshot) n_Snapshot_is_closed at_nil, at_cons h_Snapshot (clsB_ok q_Snapshot) n_Snapshot_number at_nil, at_cons h_Snapshot (clsB_ok q_Snapshot) n_Snapshot_place at_nil, at_cons h_Snapshot (clsB_ok q_Snapshot) n_Snapshot_top at_nil, at_cons h_Vault (clsB_ok q_Vault) n_Vault_holders at_nil, at_cons h_Vault (clsB_ok q_Vault) n_Vault_is_busy at_nil, at_cons h_Vault (clsB_ok q_Vault) n_Vault_number at_nil, at_cons h_Vault (clsB_ok q_Vault) n_Vault_place at_nil, at_cons h_Vault (clsB_ok q_Vault) n_Vault_top at_nil, (xat_cons h_BadCount (xfB_ok xc_BadCount) xd_BadCount_count (xat_cons h_NoSpace (xfB_ok xc_NoSpace) xd_NoSpace_count xat_nil)), by have o := z3_Busy; unfold oexB at o; simp only [Bool.and_eq_true, decide_eq_true_eq] at o; exact ⟨_, _, _, _, _, h_Busy, g_Busy, z1_Busy, z2_Busy, o.2.2.2, o.2.1, o.2.2.1⟩, by have o := z3_Closed; unfold oexB at o; simp only [Bool.and_eq_true, decide_eq_true_eq] at o; exact ⟨_, _, _, _, _, h_Closed, g_Closed, z1_Closed, z2_Closed, o.2.2.2, o.2.1, o.2.2.1⟩, by have o := z3_NoMeta; unfold oexB at o; simp only [Bool.and_eq_true, decide_eq_true_eq] at o; exact ⟨_, _, _, _, _, h_NoMeta, g_NoMeta, z1_NoMeta, z2_NoMeta, o.2.2.2, o.2.1, o.2.2.1⟩, ⟨C_NoSpace, g_NoSpace, (try_cons h_WorkError kt_NoSpace_WorkError (try_cons h_BadCount kt_NoSpace_BadCount (try_cons h_BadBlock kt_NoSpace_BadBlock (try_cons h_BadPage kt_NoSpace_BadPage (try_cons h_BadKept kt_NoSpace_BadKept (try_cons h_NoMeta kt_NoSpace_NoMeta (try_cons h_Busy kt_NoSpace_Busy (try_cons h_Closed kt_NoSpace_Closed (try_cons h_NoSpace kt_NoSpace_NoSpace try_nil)))))))))⟩, clOf_rsv (by decide)⟩
  refine ⟨PySem.W.fnOf "law" "law" (defArgs s_law) (defBody s_law) (defScope s_law) .none kV46 dc46 pm46 an46 cd46 ct46, fun s v => .of_eq rfl, fun base _ _ => ?_⟩
  have G_BadCount_init := mk_BadCount_init (P := l.prog) (w := w) (base := base) (fun_mk (st := s_BadCount_init) l0 c0 k0) h_BadCount g_BadCount (oexB_ok ⟨_, _, _, _, _, _, _, _, _, _, _, _, _, _, _, x1_BadCount, x2_BadCount⟩ x3_BadCount) a0 i0 xf_BadCount_count
  have G_is_integer : Fn l.prog w K mg base (clOf clNames K) "is_integer" 1 1 fn_is_integer := mk_is_integer (fun_mk (st := s_is_integer) l1 c1 k1) (PySem.W.mg_of X G a1) T
  have G_Disk_init := mk_Disk_init (P := l.prog) (w := w) (base := base) (fun_mk (st := s_Disk_init) l2 c2 k2) h_Disk g_Disk ⟨m1_Disk, a2, i2, m2_Disk⟩ T G_BadCount_init G_is_integer
  have G_BadKept_init := mk_BadKept_init (P := l.prog) (w := w) (base := base) (fun_mk (st := s_BadKept_init) l3 c3 k3) h_BadKept g_BadKept (oexB_ok ⟨_, _, _, _, _, _, _, _, _, _, _, _, _, _, _, x1_BadKept, x2_BadKept⟩ x3_BadKept) a3 i3 xf_BadKept_block
  have G_Disk_is_block := mk_Disk_is_block (P := l.prog) (w := w) (base := base) (fun_mk (st := s_Disk_is_block) l4 c4 k4) h_Disk (clsB_ok q_Disk) ⟨a4, i4, k4⟩ T G_is_integer
  have G_Disk_check_kept := mk_Disk_check_kept (P := l.prog) (w := w) (base := base) (fun_mk (st := s_Disk_check_kept) l5 c5 k5) h_Disk (clsB_ok q_Disk) ⟨a5, i5, k5⟩ T G_BadKept_init G_Disk_is_block G_is_integer
  have G_Disk_crashed := mk_Disk_crashed (P := l.prog) (w := w) (base := base) (fun_mk (st := s_Disk_crashed) l6 c6 k6) h_Disk (clsB_ok q_Disk) ⟨a6, i6, k6⟩ T G_Disk_init G_Disk_check_kept
  have G_Draft_check_open := mk_Draft_check_open (P := l.prog) (w := w) (base := base) (fun_mk (st := s_Draft_check_open) l7 c7 k7) h_Draft (clsB_ok q_Draft) ⟨a7, i7, k7⟩ T
  have G_Vault_let_go := mk_Vault_let_go (P := l.prog) (w := w) (base := base) (fun_mk (st := s_Vault_let_go) l8 c8 k8) h_Vault (clsB_ok q_Vault) ⟨a8, i8, k8⟩ T
  have G_Draft_cancel := mk_Draft_cancel (P := l.prog) (w := w) (base := base) (fun_mk (st := s_Draft_cancel) l9 c9 k9) h_Draft (clsB_ok q_Draft) ⟨a9, i9, k9⟩ T G_Draft_check_open G_Vault_let_go
  have G_BadBlock_init := mk_BadBlock_init (P := l.prog) (w := w) (base := base) (fun_mk (st := s_BadBlock_init) l10 c10 k10) h_BadBlock g_BadBlock (oexB_ok ⟨_, _, _, _, _, _, _, _, _, _, _, _, _, _, _, x1_BadBlock, x2_BadBlock⟩ x3_BadBlock) a10 i10 xf_BadBlock_block
  have G_Disk_flush := mk_Disk_flush (P := l.prog) (w := w) (base := base) (fun_mk (st := s_Disk_flush) l11 c11 k11) h_Disk (clsB_ok q_Disk) ⟨a11, i11, k11⟩ T
  have G_BadPage_init := mk_BadPage_init (P := l.prog) (w := w) (base := base) (fun_mk (st := s_BadPage_init) l12 c12 k12) h_BadPage g_BadPage (oexB_ok ⟨_, _, _, _, _, _, _, _, _, _, _, _, _, _, _, x1_BadPage, x2_BadPage⟩ x3_BadPage) a12 i12 xf_BadPage_block
  have G_Disk_check_block := mk_Disk_check_block (P := l.prog) (w := w) (base := base) (fun_mk (st := s_Disk_check_block) l13 c13 k13) h_Disk (clsB_ok q_Disk) ⟨a13, i13, k13⟩ T G_BadBlock_init G_Disk_is_block
  have G_is_page : Fn l.prog w K mg base (clOf clNames K) "is_page" 2 1 fn_is_page := mk_is_page (fun_mk (st := s_is_page) l14 c14 k14) (PySem.W.mg_of X G a14) T G_is_integer
  have G_Disk_write := mk_Disk_write (P := l.prog) (w := w) (base := base) (fun_mk (st := s_Disk_write) l15 c15 k15) h_Disk (clsB_ok q_Disk) ⟨a15, i15, k15⟩ T G_BadPage_init G_Disk_check_block G_is_page
  have G_Vault_go_on := mk_Vault_go_on (P := l.prog) (w := w) (base := base) (fun_mk (st := s_Vault_go_on) l16 c16 k16) h_Vault (clsB_ok q_Vault) ⟨a16, i16, k16⟩ T G_Disk_flush G_Disk_write
  have G_Disk_size := mk_Disk_size (P := l.prog) (w := w) (base := base) (fun_mk (st := s_Disk_size) l17 c17 k17) h_Disk (clsB_ok q_Disk) ⟨a17, i17, k17⟩ T
  have G_is_root : Fn l.prog w K mg base (clOf clNames K) "is_root" 2 2 fn_is_root := mk_is_root (fun_mk (st := s_is_root) l18 c18 k18) (PySem.W.mg_of X G a18) T G_Disk_size G_is_integer
  have G_Draft_commit := mk_Draft_commit (P := l.prog) (w := w) (base := base) (fun_mk (st := s_Draft_commit) l19 c19 k19) h_Draft (clsB_ok q_Draft) ⟨a19, i19, k19⟩ T G_BadBlock_init G_Draft_check_open G_Vault_go_on G_is_root
  have G_Disk_read := mk_Disk_read (P := l.prog) (w := w) (base := base) (fun_mk (st := s_Disk_read) l20 c20 k20) h_Disk (clsB_ok q_Disk) ⟨a20, i20, k20⟩ T G_Disk_check_block
  have G_version_at : Fn l.prog w K mg base (clOf clNames K) "version_at" 5 2 fn_version_at := mk_version_at (fun_mk (st := s_version_at) l21 c21 k21) (PySem.W.mg_of X G a21) T G_Disk_read G_is_integer G_is_root
  have G_Vault_init := mk_Vault_init (P := l.prog) (w := w) (base := base) (fun_mk (st := s_Vault_init) l22 c22 k22) h_Vault g_Vault ⟨m1_Vault, a22, i22, m2_Vault⟩ T G_version_at
  have G_Draft_init := mk_Draft_init (P := l.prog) (w := w) (base := base) (fun_mk (st := s_Draft_init) l23 c23 k23) h_Draft g_Draft ⟨m1_Draft, a23, i23, m2_Draft⟩ T
  have G_Vault_begin := mk_Vault_begin (P := l.prog) (w := w) (base := base) (fun_mk (st := s_Vault_begin) l24 c24 k24) h_Vault (clsB_ok q_Vault) ⟨a24, i24, k24⟩ T G_Draft_init
  have G_Snapshot_init := mk_Snapshot_init (P := l.prog) (w := w) (base := base) (fun_mk (st := s_Snapshot_init) l25 c25 k25) h_Snapshot g_Snapshot ⟨m1_Snapshot, a25, i25, m2_Snapshot⟩ T
  have G_Vault_hold := mk_Vault_hold (P := l.prog) (w := w) (base := base) (fun_mk (st := s_Vault_hold) l26 c26 k26) h_Vault (clsB_ok q_Vault) ⟨a26, i26, k26⟩ T G_Snapshot_init
  have G_Disk_twin := mk_Disk_twin (P := l.prog) (w := w) (base := base) (fun_mk (st := s_Disk_twin) l27 c27 k27) h_Disk (clsB_ok q_Disk) ⟨a27, i27, k27⟩ T G_Disk_init
  have G_Vault_read := mk_Vault_read (P := l.prog) (w := w) (base := base) (fun_mk (st := s_Vault_read) l28 c28 k28) h_Vault (clsB_ok q_Vault) ⟨a28, i28, k28⟩ T G_Disk_read
  have G_Vault_root := mk_Vault_root (P := l.prog) (w := w) (base := base) (fun_mk (st := s_Vault_root) l29 c29 k29) h_Vault (clsB_ok q_Vault) ⟨a29, i29, k29⟩ T
  have G_Vault_version := mk_Vault_version (P := l.prog) (w := w) (base := base) (fun_mk (st := s_Vault_version) l30 c30 k30) h_Vault (clsB_ok q_Vault) ⟨a30, i30, k30⟩ T
  have G_law_like : Fn l.prog w K mg base (clOf clNames K) "_law_like" 20 2 (fn_law_like 20) := mk_law_like (fun_mk (st := s_law_like) l31 c31 k31) (PySem.W.mg_of X G a31) T 20
  have G_law_is_version : Fn l.prog w K mg base (clOf clNames K) "_law_is_version" 21 2 fn_law_is_version := mk_law_is_version (fun_mk (st := s_law_is_version) l32 c32 k32) (PySem.W.mg_of X G a32) T G_Vault_init G_Vault_read G_Vault_root G_Vault_version G_law_like
  have G_law_commit_right : Fn l.prog w K mg base (clOf clNames K) "_law_commit_right" 22 4 fn_law_commit_right := mk_law_commit_right (fun_mk (st := s_law_commit_right) l33 c33 k33) (PySem.W.mg_of X G a33) T G_Disk_crashed G_Disk_flush G_Disk_twin G_Disk_write G_law_is_version
  have G_law_used : Fn l.prog w K mg base (clOf clNames K) "_law_used" 1 3 fn_law_used := mk_law_used (fun_mk (st := s_law_used) l34 c34 k34) (PySem.W.mg_of X G a34) T
  have G_law_due : Fn l.prog w K mg base (clOf clNames K) "_law_due" 2 4 fn_law_due := mk_law_due (fun_mk (st := s_law_due) l35 c35 k35) (PySem.W.mg_of X G a35) T G_law_used
  have G_Disk_pending := mk_Disk_pending (P := l.prog) (w := w) (base := base) (fun_mk (st := s_Disk_pending) l36 c36 k36) h_Disk (clsB_ok q_Disk) ⟨a36, i36, k36⟩ T
  have G_law_take : Fn l.prog w K mg base (clOf clNames K) "_law_take" 1 3 fn_law_take := mk_law_take (fun_mk (st := s_law_take) l37 c37 k37) (PySem.W.mg_of X G a37) T
  have G_law_kept : Fn l.prog w K mg base (clOf clNames K) "_law_kept" 2 3 fn_law_kept := mk_law_kept (fun_mk (st := s_law_kept) l38 c38 k38) (PySem.W.mg_of X G a38) T G_Disk_pending G_law_take
  have G_NoSpace_init := mk_NoSpace_init (P := l.prog) (w := w) (base := base) (fun_mk (st := s_NoSpace_init) l39 c39 k39) h_NoSpace g_NoSpace (oexB_ok ⟨_, _, _, _, _, _, _, _, _, _, _, _, _, _, _, x1_NoSpace, x2_NoSpace⟩ x3_NoSpace) a39 i39 xf_NoSpace_count
  have G_used_blocks : Fn l.prog w K mg base (clOf clNames K) "used_blocks" 5 2 fn_used_blocks := mk_used_blocks (fun_mk (st := s_used_blocks) l40 c40 k40) (PySem.W.mg_of X G a40) T G_Disk_read G_is_root
  have G_Vault_free := mk_Vault_free (P := l.prog) (w := w) (base := base) (fun_mk (st := s_Vault_free) l41 c41 k41) h_Vault (clsB_ok q_Vault) ⟨a41, i41, k41⟩ T G_Disk_size G_used_blocks
  have G_Draft_add := mk_Draft_add (P := l.prog) (w := w) (base := base) (fun_mk (st := s_Draft_add) l42 c42 k42) h_Draft (clsB_ok q_Draft) ⟨a42, i42, k42⟩ T G_BadPage_init G_Disk_size G_Disk_write G_Draft_check_open G_NoSpace_init G_Vault_free G_is_page
  have G_law_added : Fn l.prog w K mg base (clOf clNames K) "_law_added" 8 2 fn_law_added := mk_law_added (fun_mk (st := s_law_added) l43 c43 k43) (PySem.W.mg_of X G a43) T G_Draft_add
  have G_law_page_added : Fn l.prog w K mg base (clOf clNames K) "_law_page_added" 9 6 fn_law_page_added := mk_law_page_added (fun_mk (st := s_law_page_added) l44 c44 k44) (PySem.W.mg_of X G a44) T G_law_added G_law_take
  have G_format_disk : Fn l.prog w K mg base (clOf clNames K) "format_disk" 5 1 fn_format_disk := mk_format_disk (fun_mk (st := s_format_disk) l45 c45 k45) (PySem.W.mg_of X G a45) T G_Disk_flush G_Disk_size G_Disk_write
  exact ok_law (fun_mk (st := s_law) l46 c46 k46) T G_Disk_init G_Disk_crashed G_Draft_cancel G_Draft_commit G_Vault_init G_Vault_begin G_Vault_hold G_law_commit_right G_law_due G_law_is_version G_law_kept G_law_page_added G_law_take G_format_disk
theorem rep_start {K : PySem.W.Frag} {cl : Str → Option Addr} {H : Hp} {a : Addr} {ns : List Int} (hS : SqL K H a (ns.map V.int)) (lo : LawOk) (hl : ns.length ≤ 63) : spOf K cl 1 fn_law [.ref a] H (fun v _ => v = .bl true) (fun _ _ _ => False) := by
  obtain ⟨S, e⟩ := lo ns hl
  refine ⟨⟨H, fun _ => none, fun _ => 0, 0⟩, [], [.scr ns], ⟨rfl, fun _ _ h => h, fun i mo h => by simp at h, fun i j m m' h => by simp at h, fun a o h => by cases h⟩, .cons (.scr hS) .nil, ?_⟩
  show Post K cl (Rep K cl) _ (fn_law [.scr ns] []) _ _
  rw [e]
  intro W' H' v _ _ r
  cases r
  rfl
theorem walk {l : PySem.W.OpenLaw} {q : Program} {loose : List Str} {XP : (Str → Option Value) → Heap → Prop} {YP : World → Heap → Prop} {d : DefRec} {K : Params → PySem.W.Frag} (lo : LawOk) (hn : l.most = some 63) (hdf : d.params.defaults = [])
    (hY : ∀ (w : World) (h : Heap), YP w h → (K w.params).In h)
    (F : ∀ (w : World) (mg : Str → Option Value) (fa : Addr) (h : Heap), (K w.params).In h → h.Ns mainGlobals mg → mg d.name = some (.ref fa) →
      ∃ fd : FuncData, (∀ (s : Shared) (u : Value), BindsTo s fd ⟨[u], []⟩ [("_law_script", u)]) ∧ ∀ base : Heap, (K w.params).In base → base.Ns mainGlobals mg → FnOk l.prog w (K w.params) mg base (L2.CX l.prog w) 23 fa fd ["_law_script"] (spOf (K w.params) (clOf clNames (K w.params)) 1 fn_law)) :
    PySem.W.WalkO q loose XP YP l.row.toRowW d [] (fun f vs => PySem.call f vs) :=
  L2.walk_of (n := 63) (k := 23) (x := "_law_script") (CX := fun w => L2.CX l.prog w) (sp := fun w => spOf (K w.params) (clOf clNames (K w.params)) 1 fn_law) hn (by decide) hdf ⟨rfl, by decide, by decide⟩ hY F
    (fun _ _ a ns hl _ hS => rep_start hS lo hl) fun w H s e s' z => by
      obtain ⟨_, _, _, _, _, _, _, _, _, _, _, _, z⟩ := z
      exact z
end G
namespace G
open PySem L2
theorem law_ok : LawOk := by
  intro ns hns
  suffices h : Ok (fn_law [.scr ns] []) (fun d _ => d = .bl true) by
    obtain ⟨d, S, e, rfl⟩ := h.ex
    exact ⟨S, e⟩
  unfold fn_law
  rw [run_eq]
  simp only [sem_law, startD]
  simp
  generalize hx : fn_law_take _ _ = x
  obtain ⟨_, S1, rfl, ⟨⟨c, rfl, lc⟩, p1, f1, q1⟩⟩ := Ok.g hx (draw ⟨_, rfl, 0, 0, 0, 0, rfl, by decide, by decide⟩)
  simp at q1
  obtain ⟨n, hn⟩ : ∃ n, n = 8 + c := ⟨_, rfl⟩
  have en : (8 : Int) + (c : Nat) = (n : Nat) := by omega
  have h8 : 8 ≤ n := by omega
  have h30 : n ≤ 30 := by omega
  have e2 := disk_new (S := S1) (n := n) (by omega) (by omega)
  rw [q1] at e2
  simp only [Int.toNat_natCast, List.append_assoc, List.cons_append, List.nil_append, Nat.reduceAdd] at e2
  have sg' : ∀ T i (hi : 1 ≤ i), sg (S1 ++ T) i = T[i - 1]? := fun T i hi => by
    unfold sg
    rw [List.getElem?_append_right (by omega), q1]
  have D2 : DiskAt (S1 ++ [dskM (.lst (List.replicate n .non)) 2 3, .lst (List.replicate n .non), .lst []]) 1 2 3 (.lst (List.replicate n .non)) (List.replicate n .non) [] := ⟨sg' _ 1 (by decide), sg' _ 2 (by decide), sg' _ 3 (by decide), by decide, by decide, by decide⟩
  have E2 : Ext S1 (S1 ++ [dskM (.lst (List.replicate n .non)) 2 3, .lst (List.replicate n .non), .lst []]) := Ext.app
  have l2 : (S1 ++ [dskM (.lst (List.replicate n .non)) 2 3, .lst (List.replicate n .non), .lst []]).length = 4 := by simp [q1]
  generalize S1 ++ [dskM (.lst (List.replicate n .non)) 2 3, .lst (List.replicate n .non), .lst []] = S2 at e2 D2 E2 l2
  simp [en, q1, e2]
  generalize hx : fn_format_disk _ _ = x
  obtain ⟨_, S4, rfl, rfl, S3, f3, q3, hS4, D4⟩ := Ok.g hx (format_ok D2 (by simp; omega) (by simp; omega) (by simp))
  rw [List.length_replicate, q3, l2] at D4
  have l4 : S4.length = 5 := by rw [hS4]; simp [q3, l2]
  have p4 : PoolAt S4 := by
    rw [hS4]
    obtain ⟨mm, g1, g2⟩ := (p1.ext E2).fr f3 (by decide)
    exact ⟨mm, by rw [sg_app (by rw [sp_len, q3, l2]; decide), sg_ne (by decide)]; exact g1, g2⟩
  have hln : ((List.replicate n D.non).set 0 mPg).length = n := by simp
  have vn := vault_new D4 (List.getElem?_set_self (by simp; omega)) (by rw [List.getElem?_set_ne (by decide), rep_at (by omega)])
  rw [l4] at vn
  have hpd : ∀ d ∈ (List.replicate n D.non).set 0 mPg, dtB 4 d = true ∧ (d = .non ∨ PgT d) := fun d hd => by
    rcases List.mem_or_eq_of_mem_set hd with hd | rfl
    · rw [List.eq_of_mem_replicate hd]
      exact ⟨rfl, .inl rfl⟩
    · exact ⟨rfl, .inr ⟨"meta", [], _, rfl, by simp⟩⟩
  have M6 : Mts n 0 none ((List.replicate n D.non).set 0 mPg) := ⟨by decide, fun c hc => (nomatch hc), 0, by decide, rfl, List.getElem?_set_self (by simp; omega), .inl (by rw [List.getElem?_set_ne (by decide), rep_at (by omega)])⟩
  generalize (List.replicate n D.non).set 0 mPg = pres0 at D4 hln hpd M6
  simp [l4, vn]
  have B6 : St n 50 0 none [] pres0 pres0 [] [] [] none (.lst pres0) [] 1 2 5 4 6 7 8 9 (S4 ++ [vltM 1 0 .non 6 false, .lst [], .dct [], .lst [], .lst []]) := by
    have sg4 : ∀ T i (hi : 5 ≤ i), sg (S4 ++ T) i = T[i - 5]? := fun T i hi => by
      unfold sg
      rw [List.getElem?_append_right (by omega), l4]
    have P6 := p4.ext (Ext.app (T := [vltM 1 0 .non 6 false, .lst [], .dct [], .lst [], .lst []]))
    refine ⟨⟨⟨D4.ext Ext.app, by simp⟩, hln, hpd, sg4 _ 5 (by decide), sg4 _ 6 (by decide), fun y hy => (nomatch hy), List.nodup_nil, fun c hc => (nomatch hc), by decide, by decide, fun x hx => ?_, by simp, by omega⟩, rfl, P6, sg4 _ 7 (by decide), sg4 _ 8 (by decide), sg4 _ 9 (by decide), by simp, ⟨by decide, by decide, by decide, by decide, by decide, by decide, fun x hx => (nomatch hx), List.nodup_nil⟩, fun y hy => (nomatch hy)⟩
    simp only [ownX, dvX, dfX, List.append_nil, List.mem_cons, List.not_mem_nil, or_false] at hx
    rcases hx with rfl | rfl | rfl | rfl
    · exact ⟨by simp [l4], by decide, by decide, by decide, by decide, by decide, pool_no P6⟩
    · exact ⟨by simp [l4], by decide, by decide, by decide, by decide, by decide, dct_no (sg4 _ 7 (by decide))⟩
    · exact ⟨by simp [l4], by decide, by decide, by decide, by decide, by decide, lst_no (sg4 _ 8 (by decide))⟩
    · exact ⟨by simp [l4], by decide, by decide, by decide, by decide, by decide, lst_no (sg4 _ 9 (by decide))⟩
  have U6 : Pu n 50 0 none [] pres0 pres0 [] [] [] false := by
    refine ⟨hln, rfl, fun x hx => (nomatch hx), fun x hx => (nomatch hx), hpd, M6, fun b => ⟨fun hb => (nomatch hb), fun hb => ?_⟩, List.nodup_nil, by simp, ⟨fun b d hb => (nomatch hb), fun b d hb => (nomatch hb)⟩, fun b hb => (nomatch hb), by simp, fun h => (nomatch h), h8, by omega⟩
    obtain ⟨r, hr, _⟩ := hb.split
    cases hr
  generalize S4 ++ [vltM 1 0 .non 6 false, .lst [], .dct [], .lst [], .lst []] = S6 at B6 ⊢
  generalize hx : fn_law_take _ _ = x
  obtain ⟨_, S7, rfl, ⟨⟨r7, rfl, l7⟩, p7, f7, q7⟩⟩ := Ok.g hx (draw B6.pool)
  have B7 := B6.fr0 f7 p7
  have et : (4 : Int) + (r7 : Nat) = ((4 + r7 : Nat) : Int) := by omega
  generalize hT : 4 + r7 = tt at et
  have rt : smR (tt : Int) = true := smR_nat (by omega)
  simp [et, rt]
  generalize hx : forL _ _ _ _ _ _ = x
  have hz := OkN.g hx (forI (LI ns n) (fun _ _ _ _ => grd_none) (fun j d hj ρ S8 hI => by
    obtain ⟨m, num, root, P, pres, dur, ws, F, mine, hol, o, dv, hs, k, p, v, w, h, pd, mi, ho, ⟨m1, m2⟩, U, B, x10, x11, x12, x13, x14, x15, rfl⟩ := hI
    refine ⟨_, rfl, ?_⟩
    have hj1 := (List.getElem?_eq_some_iff.mp hj).1
    simp at hj1
    rw [List.getElem?_map, List.getElem?_range hj1] at hj
    cases hj
    simp [-List.getD_eq_getElem?_getD]
    generalize hx : fn_law_take _ _ = x
    obtain ⟨_, S9, rfl, ⟨⟨κ, rfl, lκ⟩, p9, f9, q9⟩⟩ := Ok.g hx (draw B.pool)
    have B9 := B.fr0 f9 p9
    have := deed_ok (ns := ns) (κ := κ) (x10 := some (.int j)) (x12 := x12) (x13 := x13) (x14 := x14) (x15 := x15) U B9 m1 m2 (by omega)
    simpa [DEEDK, -List.getD_eq_getElem?_getD] using this) ⟨50, 0, none, [], pres0, pres0, [], [], [], [], none, .lst pres0, [], 1, 2, 5, 4, 6, 7, 8, 9, ⟨by omega, by omega⟩, U6, B7, _, _, _, _, _, _, rfl⟩)
  clear hx
  obtain ⟨ρ, S20, rfl, m, num, root, P, pres, dur, ws, F, mine, hol, o, dv, hs, k, p, v, w, h, pd, mi, ho, ⟨m1, m2⟩, U, B, x10, x11, x12, x13, x14, x15, rfl⟩ := hz
  have wl := B.vc.dk.2
  rw [List.length_map] at wl
  have lm := B.vc.lm
  obtain ⟨S21, e21, h21, D21, v21⟩ := crash_ver (F := F) (cs := []) (f := dur) B.vc.dk.1 B.dS U.dl B.vc.ln h8 (by omega) List.nodup_nil (fun c hc => (nomatch hc)) (by omega) rfl U.mt (fun b hb => (U.fin b hb).2) U.flen (fun d hd => (U.dq d hd).1)
  rw [show encC [] = [] from rfl] at e21
  simp [B.vc.dk.1.ob, e21, -List.getD_eq_getElem?_getD]
  generalize hx : fn_law_is_version _ _ = x
  obtain ⟨_, S22, rfl, rfl, _⟩ := Ok.g hx v21
  simp
end G
open PySem PySem.W PyProof.Rows in
set_option maxRecDepth 100000 in
set_option maxHeartbeats 0 in
theorem PySem.Challenge.cw_sparedwork_k23_whole_versions_behind_cra_holds : PySem.Challenge.rw_sparedwork_k23_whole_versions_behind_cra.Holds := by
  w_on; o_law; k_head; (case hw => w_witness2)
  k_fill
  refine G.walk (l := PySem.Challenge.rw_sparedwork_k23_whole_versions_behind_cra) G.law_ok rfl rfl (fun w h Y => PySem.W.kIn_of Y) ?F
  case F =>
    intro w mg fa h KX NS hmg
    refine' G.all_mk KX NS hmg ?aC_WorkError ?aC_BadCount ?aC_BadBlock ?aC_BadPage ?aC_BadKept ?aC_NoMeta ?aC_Busy ?aC_Closed ?aC_NoSpace ?aC_Disk ?aC_Vault ?aC_Snapshot ?aC_Draft ?q_Disk ?q_Vault ?q_Snapshot ?q_Draft ?m1_Disk ?m2_Disk ?m1_Vault ?m2_Vault ?m1_Draft ?m2_Draft ?m1_Snapshot ?m2_Snapshot ?n_Disk_durable ?n_Disk_present ?n_Disk_waiting ?n_Draft_given ?n_Draft_is_closed ?n_Draft_vault ?n_Snapshot_is_closed ?n_Snapshot_number ?n_Snapshot_place ?n_Snapshot_top ?n_Vault_holders ?n_Vault_is_busy ?n_Vault_number ?n_Vault_place ?n_Vault_top ?x1_BadCount ?x2_BadCount ?x3_BadCount ?xf_BadCount_count ?x1_BadKept ?x2_BadKept ?x3_BadKept ?xf_BadKept_block ?x1_BadBlock ?x2_BadBlock ?x3_BadBlock ?xf_BadBlock_block ?x1_BadPage ?x2_BadPage ?x3_BadPage ?xf_BadPage_block ?x1_NoSpace ?x2_NoSpace ?x3_NoSpace ?xf_NoSpace_count ?z1_Busy ?z2_Busy ?z3_Busy ?z1_Closed ?z2_Closed ?z3_Closed ?z1_NoMeta ?z2_NoMeta ?z3_NoMeta ?xc_BadCount ?xd_BadCount_count ?xc_NoSpace ?xd_NoSpace_count ?kt_NoSpace_WorkError ?kt_NoSpace_BadCount ?kt_NoSpace_BadBlock ?kt_NoSpace_BadPage ?kt_NoSpace_BadKept ?kt_NoSpace_NoMeta ?kt_NoSpace_Busy ?kt_NoSpace_Closed ?kt_NoSpace_NoSpace ?a0 ?i0 ?l0 ?c0 ?k0 ?a1 ?l1 ?c1 ?k1 ?a2 ?i2 ?l2 ?c2 ?k2 ?a3 ?i3 ?l3 ?c3 ?k3 ?a4 ?i4 ?l4 ?c4 ?k4 ?a5 ?i5 ?l5 ?c5 ?k5 ?a6 ?i6 ?l6 ?c6 ?k6 ?a7 ?i7 ?l7 ?c7 ?k7 ?a8 ?i8 ?l8 ?c8 ?k8 ?a9 ?i9 ?l9 ?c9 ?k9 ?a10 ?i10 ?l10 ?c10 ?k10 ?a11 ?i11 ?l11 ?c11 ?k11 ?a12 ?i12 ?l12 ?c12 ?k12 ?a13 ?i13 ?l13 ?c13 ?k13 ?a14 ?l14 ?c14 ?k14 ?a15 ?i15 ?l15 ?c15 ?k15 ?a16 ?i16 ?l16 ?c16 ?k16 ?a17 ?i17 ?l17 ?c17 ?k17 ?a18 ?l18 ?c18 ?k18 ?a19 ?i19 ?l19 ?c19 ?k19 ?a20 ?i20 ?l20 ?c20 ?k20 ?a21 ?l21 ?c21 ?k21 ?a22 ?i22 ?l22 ?c22 ?k22 ?a23 ?i23 ?l23 ?c23 ?k23 ?a24 ?i24 ?l24 ?c24 ?k24 ?a25 ?i25 ?l25 ?c25 ?k25 ?a26 ?i26 ?l26 ?c26 ?k26 ?a27 ?i27 ?l27 ?c27 ?k27 ?a28 ?i28 ?l28 ?c28 ?k28 ?a29 ?i29 ?l29 ?c29 ?k29 ?a30 ?i30 ?l30 ?c30 ?k30 ?a31 ?l31 ?c31 ?k31 ?a32 ?l32 ?c32 ?k32 ?a33 ?l33 ?c33 ?k33 ?a34 ?l34 ?c34 ?k34 ?a35 ?l35 ?c35 ?k35 ?a36 ?i36 ?l36 ?c36 ?k36 ?a37 ?l37 ?c37 ?k37 ?a38 ?l38 ?c38 ?k38 ?a39 ?i39 ?l39 ?c39 ?k39 ?a40 ?l40 ?c40 ?k40 ?a41 ?i41 ?l41 ?c41 ?k41 ?a42 ?i42 ?l42 ?c42 ?k42 ?a43 ?l43 ?c43 ?k43 ?a44 ?l44 ?c44 ?k44 ?a45 ?l45 ?c45 ?k45 ?a46 ?l46 ?c46 ?k46 ?z_all ?z_bool ?z_dict ?z_int ?z_isinstance ?z_len ?z_list ?z_range ?z_sorted ?z_str ?z_tuple ?x_LEAST_BLOCKS ?v_LEAST_BLOCKS ?x_META ?v_META ?x_METAS ?v_METAS ?x_MOST_BLOCKS ?v_MOST_BLOCKS
    (case aC_WorkError => k_is)
    (case aC_BadCount => k_is)
    (case aC_BadBlock => k_is)
    (case aC_BadPage => k_is)
    (case aC_BadKept => k_is)
    (case aC_NoMeta => k_is)
    (case aC_Busy => k_is)
    (case aC_Closed => k_is)
    (case aC_NoSpace => k_is)
    (case aC_Disk => k_is)
    (case aC_Vault => k_is)
    (case aC_Snapshot => k_is)
    (case aC_Draft => k_is)
    (case q_Disk => kernel_rfl)
    (case q_Vault => kernel_rfl)
    (case q_Snapshot => kernel_rfl)
    (case q_Draft => kernel_rfl)
    (case m1_Disk => k_is)
    (case m2_Disk => k_is)
    (case m1_Vault => k_is)
    (case m2_Vault => k_is)
    (case m1_Draft => k_is)
    (case m2_Draft => k_is)
    (case m1_Snapshot => k_is)
    (case m2_Snapshot => k_is)
    (case n_Disk_durable => k_is)
    (case n_Disk_present => k_is)
    (case n_Disk_waiting => k_is)
    (case n_Draft_given => k_is)
    (case n_Draft_is_closed => k_is)
    (case n_Draft_vault => k_is)
    (case n_Snapshot_is_closed => k_is)
    (case n_Snapshot_number => k_is)
    (case n_Snapshot_place => k_is)
    (case n_Snapshot_top => k_is)
    (case n_Vault_holders => k_is)
    (case n_Vault_is_busy => k_is)
    (case n_Vault_number => k_is)
    (case n_Vault_place => k_is)
    (case n_Vault_top => k_is)
    (case x1_BadCount => k_is)
    (case x2_BadCount => kernel_rfl)
    (case x3_BadCount => kernel_rfl)
    (case xf_BadCount_count => k_is)
    (case x1_BadKept => k_is)
    (case x2_BadKept => kernel_rfl)
    (case x3_BadKept => kernel_rfl)
    (case xf_BadKept_block => k_is)
    (case x1_BadBlock => k_is)
    (case x2_BadBlock => kernel_rfl)
    (case x3_BadBlock => kernel_rfl)
    (case xf_BadBlock_block => k_is)
    (case x1_BadPage => k_is)
    (case x2_BadPage => kernel_rfl)
    (case x3_BadPage => kernel_rfl)
    (case xf_BadPage_block => k_is)
    (case x1_NoSpace => k_is)
    (case x2_NoSpace => kernel_rfl)
    (case x3_NoSpace => kernel_rfl)
    (case xf_NoSpace_count => k_is)
    (case z1_Busy => exact PySem.F.excBase_ValueError)
    (case z2_Busy => k_exc)
    (case z3_Busy => kernel_rfl)
    (case z1_Closed => exact PySem.F.excBase_ValueError)
    (case z2_Closed => k_exc)
    (case z3_Closed => kernel_rfl)
    (case z1_NoMeta => exact PySem.F.excBase_ValueError)
    (case z2_NoMeta => k_exc)
    (case z3_NoMeta => kernel_rfl)
    (case xc_BadCount => kernel_rfl)
    (case xd_BadCount_count => k_is)
    (case xc_NoSpace => kernel_rfl)
    (case xd_NoSpace_count => k_is)
    (case kt_NoSpace_WorkError => kernel_rfl)
    (case kt_NoSpace_BadCount => kernel_rfl)
    (case kt_NoSpace_BadBlock => kernel_rfl)
    (case kt_NoSpace_BadPage => kernel_rfl)
    (case kt_NoSpace_BadKept => kernel_rfl)
    (case kt_NoSpace_NoMeta => kernel_rfl)
    (case kt_NoSpace_Busy => kernel_rfl)
    (case kt_NoSpace_Closed => kernel_rfl)
    (case kt_NoSpace_NoSpace => kernel_rfl)
    (case a0 => k_is)
    (case i0 => k_is)
    (case l0 => k_is)
    (case c0 => k_is)
    (case k0 => k_is)
    (case a1 => k_is)
    (case l1 => k_is)
    (case c1 => k_is)
    (case k1 => k_is)
    (case a2 => k_is)
    (case i2 => k_is)
    (case l2 => k_is)
    (case c2 => k_is)
    (case k2 => k_is)
    (case a3 => k_is)
    (case i3 => k_is)
    (case l3 => k_is)
    (case c3 => k_is)
    (case k3 => k_is)
    (case a4 => k_is)
    (case i4 => k_is)
    (case l4 => k_is)
    (case c4 => k_is)
    (case k4 => k_is)
    (case a5 => k_is)
    (case i5 => k_is)
    (case l5 => k_is)
    (case c5 => k_is)
    (case k5 => k_is)
    (case a6 => k_is)
    (case i6 => k_is)
    (case l6 => k_is)
    (case c6 => k_is)
    (case k6 => k_is)
    (case a7 => k_is)
    (case i7 => k_is)
    (case l7 => k_is)
    (case c7 => k_is)
    (case k7 => k_is)
    (case a8 => k_is)
    (case i8 => k_is)
    (case l8 => k_is)
    (case c8 => k_is)
    (case k8 => k_is)
    (case a9 => k_is)
    (case i9 => k_is)
    (case l9 => k_is)
    (case c9 => k_is)
    (case k9 => k_is)
    (case a10 => k_is)
    (case i10 => k_is)
    (case l10 => k_is)
    (case c10 => k_is)
    (case k10 => k_is)
    (case a11 => k_is)
    (case i11 => k_is)
    (case l11 => k_is)
    (case c11 => k_is)
    (case k11 => k_is)
    (case a12 => k_is)
    (case i12 => k_is)
    (case l12 => k_is)
    (case c12 => k_is)
    (case k12 => k_is)
    (case a13 => k_is)
    (case i13 => k_is)
    (case l13 => k_is)
    (case c13 => k_is)
    (case k13 => k_is)
    (case a14 => k_is)
    (case l14 => k_is)
    (case c14 => k_is)
    (case k14 => k_is)
    (case a15 => k_is)
    (case i15 => k_is)
    (case l15 => k_is)
    (case c15 => k_is)
    (case k15 => k_is)
    (case a16 => k_is)
    (case i16 => k_is)
    (case l16 => k_is)
    (case c16 => k_is)
    (case k16 => k_is)
    (case a17 => k_is)
    (case i17 => k_is)
    (case l17 => k_is)
    (case c17 => k_is)
    (case k17 => k_is)
    (case a18 => k_is)
    (case l18 => k_is)
    (case c18 => k_is)
    (case k18 => k_is)
    (case a19 => k_is)
    (case i19 => k_is)
    (case l19 => k_is)
    (case c19 => k_is)
    (case k19 => k_is)
    (case a20 => k_is)
    (case i20 => k_is)
    (case l20 => k_is)
    (case c20 => k_is)
    (case k20 => k_is)
    (case a21 => k_is)
    (case l21 => k_is)
    (case c21 => k_is)
    (case k21 => k_is)
    (case a22 => k_is)
    (case i22 => k_is)
    (case l22 => k_is)
    (case c22 => k_is)
    (case k22 => k_is)
    (case a23 => k_is)
    (case i23 => k_is)
    (case l23 => k_is)
    (case c23 => k_is)
    (case k23 => k_is)
    (case a24 => k_is)
    (case i24 => k_is)
    (case l24 => k_is)
    (case c24 => k_is)
    (case k24 => k_is)
    (case a25 => k_is)
    (case i25 => k_is)
    (case l25 => k_is)
    (case c25 => k_is)
    (case k25 => k_is)
    (case a26 => k_is)
    (case i26 => k_is)
    (case l26 => k_is)
    (case c26 => k_is)
    (case k26 => k_is)
    (case a27 => k_is)
    (case i27 => k_is)
    (case l27 => k_is)
    (case c27 => k_is)
    (case k27 => k_is)
    (case a28 => k_is)
    (case i28 => k_is)
    (case l28 => k_is)
    (case c28 => k_is)
    (case k28 => k_is)
    (case a29 => k_is)
    (case i29 => k_is)
    (case l29 => k_is)
    (case c29 => k_is)
    (case k29 => k_is)
    (case a30 => k_is)
    (case i30 => k_is)
    (case l30 => k_is)
    (case c30 => k_is)
    (case k30 => k_is)
    (case a31 => k_is)
    (case l31 => k_is)
    (case c31 => k_is)
    (case k31 => k_is)
    (case a32 => k_is)
    (case l32 => k_is)
    (case c32 => k_is)
    (case k32 => k_is)
    (case a33 => k_is)
    (case l33 => k_is)
    (case c33 => k_is)
    (case k33 => k_is)
    (case a34 => k_is)
    (case l34 => k_is)
    (case c34 => k_is)
    (case k34 => k_is)
    (case a35 => k_is)
    (case l35 => k_is)
    (case c35 => k_is)
    (case k35 => k_is)
    (case a36 => k_is)
    (case i36 => k_is)
    (case l36 => k_is)
    (case c36 => k_is)
    (case k36 => k_is)
    (case a37 => k_is)
    (case l37 => k_is)
    (case c37 => k_is)
    (case k37 => k_is)
    (case a38 => k_is)
    (case l38 => k_is)
    (case c38 => k_is)
    (case k38 => k_is)
    (case a39 => k_is)
    (case i39 => k_is)
    (case l39 => k_is)
    (case c39 => k_is)
    (case k39 => k_is)
    (case a40 => k_is)
    (case l40 => k_is)
    (case c40 => k_is)
    (case k40 => k_is)
    (case a41 => k_is)
    (case i41 => k_is)
    (case l41 => k_is)
    (case c41 => k_is)
    (case k41 => k_is)
    (case a42 => k_is)
    (case i42 => k_is)
    (case l42 => k_is)
    (case c42 => k_is)
    (case k42 => k_is)
    (case a43 => k_is)
    (case l43 => k_is)
    (case c43 => k_is)
    (case k43 => k_is)
    (case a44 => k_is)
    (case l44 => k_is)
    (case c44 => k_is)
    (case k44 => k_is)
    (case a45 => k_is)
    (case l45 => k_is)
    (case c45 => k_is)
    (case k45 => k_is)
    (case a46 => k_is)
    (case l46 => k_is)
    (case c46 => k_is)
    (case k46 => k_is)
    (case z_all => k_is)
    (case z_bool => k_is)
    (case z_dict => k_is)
    (case z_int => k_is)
    (case z_isinstance => k_is)
    (case z_len => k_is)
    (case z_list => k_is)
    (case z_range => k_is)
    (case z_sorted => k_is)
    (case z_str => k_is)
    (case z_tuple => k_is)
    (case x_LEAST_BLOCKS => k_is)
    (case v_LEAST_BLOCKS => exact ⟨.int 8, ⟨_, rfl⟩, rfl⟩)
    (case x_META => k_is)
    (case v_META => exact ⟨.str "meta", ⟨_, rfl⟩, rfl⟩)
    (case x_METAS => k_is)
    (case v_METAS => exact ⟨.int 2, ⟨_, rfl⟩, rfl⟩)
    (case x_MOST_BLOCKS => k_is)
    (case v_MOST_BLOCKS => exact ⟨.int 400, ⟨_, rfl⟩, rfl⟩)
#print axioms PySem.Challenge.cw_sparedwork_k23_whole_versions_behind_cra_holds
