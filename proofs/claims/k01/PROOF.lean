import PyProof.Rows.All
import Wide.All
import OpenK.AllK
import Wide.FinOn
import HandS.ForMost
import HandS.ForExc
import HandS.Flow
import HandS.TupAny
import HandS.IsInst
import HandS.CallSlots
import HandS.Wide
import HandS.TupLe
import HandS.Replace
import HandS.Dict
import HandS.Text
import KE.GoesNew
import PySem.Challenge.RW_sparedwork_k01_values_names_and_paths
set_option Elab.async false
set_option linter.all false
set_option maxRecDepth 100000
set_option maxHeartbeats 4000000
set_option autoImplicit false
/-! The layer of shallow semantics: data D, a store of live objects, and for each construct a rule
    whose reading is a plain function of the slots and the store. -/
namespace G
open PySem L2

inductive D where
  | non
  | bl (b : Bool)
  | int (i : Int)
  | str (x : Str)
  | tup (xs : List D)
  | lst (xs : List D)
  | dct (kvs : List (Key × D))
  | ins (c : Str) (fs : List (Str × D))
  | ref (n : Nat)
  | scr (ns : List Int)

/-- a live object -/
inductive MO where
  | lst (xs : List D)
  | dct (kvs : List (Key × D))
  | ins (c : Str) (fs : List (Str × D))
  | dead
abbrev Store := List MO
/-- an exception in flight: its class, its fields -/
structure Exc where
  cls : Str
  fs : List (Str × D)
inductive Res (α : Type) where
  | ok (a : α) (S : Store)
  | exc (x : Exc) (S : Store)
  | stk
def Res.bind {α β : Type} (r : Res α) (f : α → Store → Res β) : Res β := match r with
  | .ok a S => f a S
  | .exc x S => .exc x S
  | .stk => .stk
/-- an equation that simp takes by its proof, not by unfolding -/
theorem nrfl {α : Sort _} {a b : α} (h : a = b) : a = b := h
@[simp] theorem bind_ok {α β : Type} {a : α} {S : Store} {f : α → Store → Res β} : (Res.ok a S).bind f = f a S := nrfl rfl
@[simp] theorem bind_exc {α β : Type} {x : Exc} {S : Store} {f : α → Store → Res β} : (Res.exc x S).bind f = .exc x S := nrfl rfl
@[simp] theorem bind_stk {α β : Type} {f : α → Store → Res β} : (Res.stk : Res α).bind f = .stk := nrfl rfl
abbrev Sl := List (Option D)
abbrev M (α : Type) := Sl → Store → Res α
/-- a world: the frozen objects, the hidden ones, where the live ones stand -/
structure Wd where
  G : Hp
  P : Hp
  ι : Nat → Addr
  n : Nat
structure Le (W W' : Wd) : Prop where
  g : ∀ a o, W.G a = some o → W'.G a = some o
  i : ∀ j, j < W.n → W'.ι j = W.ι j
  n : W.n ≤ W'.n
  p : W'.P = W.P
theorem Le.rf (W : Wd) : Le W W := ⟨fun _ _ h => h, fun _ _ => rfl, Nat.le_refl _, rfl⟩
theorem Le.tr {A B C : Wd} (x : Le A B) (y : Le B C) : Le A C :=
  ⟨fun a o h => y.g a o (x.g a o h), fun j h => (y.i j (Nat.lt_of_lt_of_le h x.n)).trans (x.i j h), Nat.le_trans x.n y.n, y.p.trans x.p⟩
/-- of what a value leans on -/
structure Ls (W W' : Wd) : Prop where
  g : ∀ a o, W.G a = some o → W'.G a = some o
  i : ∀ j, j < W.n → W'.ι j = W.ι j
  n : W.n ≤ W'.n
theorem Le.s {W W' : Wd} (l : Le W W') : Ls W W' := ⟨l.g, l.i, l.n⟩
theorem Ls.tr {A B C : Wd} (x : Ls A B) (y : Ls B C) : Ls A C :=
  ⟨fun a o h => y.g a o (x.g a o h), fun j h => (y.i j (Nat.lt_of_lt_of_le h x.n)).trans (x.i j h), Nat.le_trans x.n y.n⟩

section
variable (K : PySem.W.Frag) (cl : Str → Option Addr)
mutual
inductive Rep (W : Wd) : V → D → Prop
  | non : Rep W .non .non
  | bl (b : Bool) : Rep W (.bl b) (.bl b)
  | int (i : Int) : Rep W (.int i) (.int i)
  | str (x : Str) : Rep W (.str x) (.str x)
  | tup {a : Addr} {vs : List V} {ds : List D} : SqT K W.G a vs → Reps W vs ds → Rep W (.ref a) (.tup ds)
  | lst {a : Addr} {vs : List V} {ds : List D} : W.G a = some (.lst vs) → Reps W vs ds → Rep W (.ref a) (.lst ds)
  | scr {a : Addr} {ns : List Int} : SqL K W.G a (ns.map V.int) → Rep W (.ref a) (.scr ns)
  | dct {a : Addr} {vs : List (Key × V)} {ds : List (Key × D)} : W.G a = some (.dK vs) → RepK W vs ds → Rep W (.ref a) (.dct ds)
  | ins {a C dx : Addr} {c : Str} {vs : List (Str × V)} {ds : List (Str × D)} : W.G a = some (.ins C dx vs) → cl c = some C → RepF W vs ds → Rep W (.ref a) (.ins c ds)
  | ref {n : Nat} : n < W.n → Rep W (.ref (W.ι n)) (.ref n)
inductive Reps (W : Wd) : List V → List D → Prop
  | nil : Reps W [] []
  | cons {v : V} {d : D} {vs : List V} {ds : List D} : Rep W v d → Reps W vs ds → Reps W (v :: vs) (d :: ds)
inductive RepK (W : Wd) : List (Key × V) → List (Key × D) → Prop
  | nil : RepK W [] []
  | cons {k : Key} {v : V} {d : D} {vs : List (Key × V)} {ds : List (Key × D)} : Rep W v d → RepK W vs ds → RepK W ((k, v) :: vs) ((k, d) :: ds)
inductive RepF (W : Wd) : List (Str × V) → List (Str × D) → Prop
  | nil : RepF W [] []
  | cons {k : Str} {v : V} {d : D} {vs : List (Str × V)} {ds : List (Str × D)} : Rep W v d → RepF W vs ds → RepF W ((k, v) :: vs) ((k, d) :: ds)
end
end

section
variable {K : PySem.W.Frag} {cl : Str → Option Addr} {W W' : Wd}
theorem sqT_up {A B : Hp} {a : Addr} {xs : List V} (g : ∀ a o, A a = some o → B a = some o) (h : SqT K A a xs) : SqT K B a xs := by
  rcases h with (h | ⟨o, h⟩) | h
  · exact .inl (.inl (g _ _ h))
  · exact .inl (.inr ⟨o, g _ _ h⟩)
  · exact .inr h
theorem sqL_up {A B : Hp} {a : Addr} {xs : List V} (g : ∀ a o, A a = some o → B a = some o) (h : SqL K A a xs) : SqL K B a xs := by
  rcases h with (h | ⟨o, h⟩) | h
  · exact .inl (.inl (g _ _ h))
  · exact .inl (.inr ⟨o, g _ _ h⟩)
  · exact .inr h
mutual
theorem Rep.ups (l : Ls W W') : ∀ {v : V} {d : D}, Rep K cl W v d → Rep K cl W' v d
  | _, _, .non => .non
  | _, _, .bl b => .bl b
  | _, _, .int i => .int i
  | _, _, .str x => .str x
  | _, _, .tup h t => .tup (sqT_up l.g h) (Reps.ups l t)
  | _, _, .lst h t => .lst (l.g _ _ h) (Reps.ups l t)
  | _, _, .scr h => .scr (sqL_up l.g h)
  | _, _, .dct h t => .dct (l.g _ _ h) (RepK.ups l t)
  | _, _, .ins h c t => .ins (l.g _ _ h) c (RepF.ups l t)
  | _, _, .ref (n := n) h => by
    rw [← l.i n h]
    exact .ref (Nat.lt_of_lt_of_le h l.n)
theorem Reps.ups (l : Ls W W') : ∀ {v : List V} {d : List D}, Reps K cl W v d → Reps K cl W' v d
  | _, _, .nil => .nil
  | _, _, .cons h t => .cons (Rep.ups l h) (Reps.ups l t)
theorem RepK.ups (l : Ls W W') : ∀ {v : List (Key × V)} {d : List (Key × D)}, RepK K cl W v d → RepK K cl W' v d
  | _, _, .nil => .nil
  | _, _, .cons h t => .cons (Rep.ups l h) (RepK.ups l t)
theorem RepF.ups (l : Ls W W') : ∀ {v : List (Str × V)} {d : List (Str × D)}, RepF K cl W v d → RepF K cl W' v d
  | _, _, .nil => .nil
  | _, _, .cons h t => .cons (Rep.ups l h) (RepF.ups l t)
end
theorem Rep.up (l : Le W W') {v : V} {d : D} (h : Rep K cl W v d) : Rep K cl W' v d := h.ups l.s
theorem Reps.up (l : Le W W') {v : List V} {d : List D} (h : Reps K cl W v d) : Reps K cl W' v d := h.ups l.s
theorem RepK.up (l : Le W W') {v : List (Key × V)} {d : List (Key × D)} (h : RepK K cl W v d) : RepK K cl W' v d := h.ups l.s
theorem RepF.up (l : Le W W') {v : List (Str × V)} {d : List (Str × D)} (h : RepF K cl W v d) : RepF K cl W' v d := h.ups l.s
theorem Reps.len : ∀ {v : List V} {d : List D}, Reps K cl W v d → v.length = d.length
  | _, _, .nil => rfl
  | _, _, .cons _ t => by simp [Reps.len t]
theorem Reps.at : ∀ {v : List V} {d : List D} {i : Nat} {x : D}, Reps K cl W v d → d[i]? = some x → ∃ y, v[i]? = some y ∧ Rep K cl W y x
  | _, _, _, _, .nil, e => by simp at e
  | _, _, 0, _, .cons h _, e => by simp at e; subst e; exact ⟨_, rfl, h⟩
  | _, _, i + 1, x, .cons _ t, e => by
    obtain ⟨y, h1, h2⟩ := Reps.at (i := i) (x := x) t (by simpa using e)
    exact ⟨y, by simpa using h1, h2⟩
theorem Reps.at' : ∀ {v : List V} {d : List D} {i : Nat} {y : V}, Reps K cl W v d → v[i]? = some y → ∃ x, d[i]? = some x ∧ Rep K cl W y x
  | _, _, _, _, .nil, e => by simp at e
  | _, _, 0, _, .cons h _, e => by simp at e; subst e; exact ⟨_, rfl, h⟩
  | _, _, i + 1, x, .cons _ t, e => by
    obtain ⟨y, h1, h2⟩ := Reps.at' (i := i) (y := x) t (by simpa using e)
    exact ⟨y, by simpa using h1, h2⟩
theorem Reps.app : ∀ {v w : List V} {d e : List D}, Reps K cl W v d → Reps K cl W w e → Reps K cl W (v ++ w) (d ++ e)
  | _, _, _, _, .nil, q => q
  | _, _, _, _, .cons h t, q => .cons h (Reps.app t q)
theorem Reps.set {x : V} {y : D} (r : Rep K cl W x y) : ∀ {v : List V} {d : List D} (i : Nat), Reps K cl W v d → Reps K cl W (v.set i x) (d.set i y)
  | _, _, _, .nil => .nil
  | _, _, 0, .cons _ t => .cons r t
  | _, _, i + 1, .cons q t => .cons q (Reps.set r i t)
theorem Reps.take : ∀ {v : List V} {d : List D} (n : Nat), Reps K cl W v d → Reps K cl W (v.take n) (d.take n)
  | _, _, 0, _ => by simp; exact .nil
  | _, _, n + 1, .nil => by simp; exact .nil
  | _, _, n + 1, .cons h t => .cons h (Reps.take n t)
theorem Reps.drop : ∀ {v : List V} {d : List D} (n : Nat), Reps K cl W v d → Reps K cl W (v.drop n) (d.drop n)
  | _, _, 0, h => h
  | _, _, n + 1, .nil => by simp; exact .nil
  | _, _, n + 1, .cons h t => Reps.drop n t
theorem Reps.rev : ∀ {v : List V} {d : List D}, Reps K cl W v d → Reps K cl W v.reverse d.reverse
  | _, _, .nil => .nil
  | _, _, .cons h t => by
    rw [List.reverse_cons, List.reverse_cons]
    exact (Reps.rev t).app (.cons h .nil)
end

section
variable (K : PySem.W.Frag) (cl : Str → Option Addr)
def MRep (W : Wd) (H : Hp) (a : Addr) : MO → Prop
  | .lst ds => ∃ vs, H a = some (.lst vs) ∧ Reps K cl W vs ds
  | .dct ds => ∃ vs, H a = some (.dK vs) ∧ RepK K cl W vs ds
  | .ins c ds => ∃ C dx vs, cl c = some C ∧ H a = some (.ins C dx vs) ∧ RepF K cl W vs ds
  | .dead => True
structure R (W : Wd) (H : Hp) (S : Store) : Prop where
  n : W.n = S.length
  sub : ∀ a o, W.G a = some o → H a = some o
  live : ∀ (i : Nat) (mo : MO), S[i]? = some mo → mo ≠ .dead → W.G (W.ι i) = none ∧ MRep K cl W H (W.ι i) mo
  inj : ∀ (i j : Nat) (m m' : MO), S[i]? = some m → S[j]? = some m' → m ≠ .dead → m' ≠ .dead → W.ι i = W.ι j → i = j
  priv : ∀ a o, W.P a = some o → H a = some o ∧ W.G a = none ∧ ∀ (i : Nat) (mo : MO), S[i]? = some mo → mo ≠ .dead → W.ι i ≠ a
def XRep (W : Wd) (cls : Value) (dd : Option Addr) (x : Exc) : Prop :=
  ∃ C, cl x.cls = some C ∧ cls = .ref C ∧ ((x.fs = [] ∧ dd = none) ∨ ∃ d vs, dd = some d ∧ W.G d = some (.xd vs) ∧ RepF K cl W vs x.fs)
structure Envs (W : Wd) (σ : St) (ρ : Sl) : Prop where
  len : σ.length = ρ.length
  at' : ∀ (i : Nat) (d : D), ρ[i]? = some (some d) → ∃ v, σ[i]? = some (some v) ∧ Rep K cl W v d
end

section
variable {K : PySem.W.Frag} {cl : Str → Option Addr} {W W' : Wd} {H : Hp} {S : Store} {σ : St} {ρ : Sl}
theorem Envs.ups (l : Ls W W') (e : Envs K cl W σ ρ) : Envs K cl W' σ ρ := ⟨e.len, fun i d h => let ⟨v, h1, h2⟩ := e.at' i d h; ⟨v, h1, h2.ups l⟩⟩
theorem Envs.up (l : Le W W') (e : Envs K cl W σ ρ) : Envs K cl W' σ ρ := e.ups l.s
theorem Envs.set {v : V} {d : D} (e : Envs K cl W σ ρ) (i : Nat) (r : Rep K cl W v d) : Envs K cl W (σ.set i (some v)) (ρ.set i (some d)) := by
  refine ⟨by simpa using e.len, fun j x h => ?_⟩
  by_cases hj : i = j
  · subst hj
    by_cases hi : i < ρ.length
    · rw [List.getElem?_set_self hi] at h
      have h := Option.some.inj (Option.some.inj h)
      subst h
      exact ⟨v, List.getElem?_set_self (by rw [e.len]; exact hi), r⟩
    · rw [List.getElem?_eq_none (by simpa using hi)] at h
      cases h
  · rw [List.getElem?_set_ne hj] at h ⊢
    exact e.at' j x h
theorem Envs.unset (e : Envs K cl W σ ρ) (i : Nat) (o : Option V) : Envs K cl W (σ.set i o) (ρ.set i none) := by
  refine ⟨by simpa using e.len, fun j x h => ?_⟩
  by_cases hj : i = j
  · subst hj
    by_cases hi : i < ρ.length
    · rw [List.getElem?_set_self hi] at h
      cases h
    · rw [List.getElem?_eq_none (by simpa using hi)] at h
      cases h
  · rw [List.getElem?_set_ne hj] at h ⊢
    exact e.at' j x h
theorem MRep.ups {a : Addr} {mo : MO} (l : Ls W W') (h : MRep K cl W H a mo) : MRep K cl W' H a mo := by
  cases mo with
  | lst ds => obtain ⟨vs, h1, h2⟩ := h; exact ⟨vs, h1, h2.ups l⟩
  | dct ds => obtain ⟨vs, h1, h2⟩ := h; exact ⟨vs, h1, h2.ups l⟩
  | ins c ds => obtain ⟨C, dx, vs, h0, h1, h2⟩ := h; exact ⟨C, dx, vs, h0, h1, h2.ups l⟩
  | dead => trivial
theorem MRep.up {a : Addr} {mo : MO} (l : Le W W') (h : MRep K cl W H a mo) : MRep K cl W' H a mo := h.ups l.s
theorem MRep.some {a : Addr} {mo : MO} (h : MRep K cl W H a mo) (nd : mo ≠ .dead) : ∃ o, H a = some o := by
  cases mo with
  | lst ds => obtain ⟨vs, h1, h2⟩ := h; exact ⟨_, h1⟩
  | dct ds => obtain ⟨vs, h1, h2⟩ := h; exact ⟨_, h1⟩
  | ins c ds => obtain ⟨C, dx, vs, h0, h1, h2⟩ := h; exact ⟨_, h1⟩
  | dead => exact absurd rfl nd
theorem MRep.at {a : Addr} {mo : MO} {H' : Hp} (h : MRep K cl W H a mo) (e : H' a = H a) : MRep K cl W H' a mo := by
  cases mo with
  | lst ds => obtain ⟨vs, h1, h2⟩ := h; exact ⟨vs, e.trans h1, h2⟩
  | dct ds => obtain ⟨vs, h1, h2⟩ := h; exact ⟨vs, e.trans h1, h2⟩
  | ins c ds => obtain ⟨C, dx, vs, h0, h1, h2⟩ := h; exact ⟨C, dx, vs, h0, e.trans h1, h2⟩
  | dead => trivial

/-- a new object, known to nobody -/
theorem R.junk {p : Addr} {o : HO} (r : R K cl W H S) (hp : H p = none) : R K cl W (upd H p o) S := by
  refine ⟨r.n, fun a u h => ?_, fun i mo h nd => ?_, r.inj, fun a u h => ?_⟩
  · rw [upd_ne (ne_of_none (r.sub a u h) hp)]
    exact r.sub a u h
  · obtain ⟨h1, h2⟩ := r.live i mo h nd
    obtain ⟨u, hu⟩ := h2.some nd
    exact ⟨h1, h2.at (upd_ne (ne_of_none hu hp))⟩
  · obtain ⟨h1, h2, h3⟩ := r.priv a u h
    exact ⟨by rw [upd_ne (ne_of_none h1 hp)]; exact h1, h2, h3⟩
def Wd.fz (W : Wd) (p : Addr) (o : HO) : Wd := { W with G := upd W.G p o }
theorem Le.fz {p : Addr} {o : HO} (h : W.G p = none) : Le W (W.fz p o) := ⟨fun a u e => by
  show upd W.G p o a = some u
  rw [upd_ne (ne_of_none e h)]
  exact e, fun _ _ => rfl, Nat.le_refl _, rfl⟩
/-- a tracked object that is no live one is frozen -/
theorem R.fzAt {p : Addr} {o : HO} (r : R K cl W H S) (hp : H p = some o) (hg : W.G p = none) (nl : ∀ (i : Nat) (mo : MO), S[i]? = some mo → mo ≠ .dead → W.ι i ≠ p) (np : W.P p = none) : R K cl (W.fz p o) H S := by
  refine ⟨r.n, fun a u h => ?_, fun i mo h nd => ?_, r.inj, fun a u h => ?_⟩
  · by_cases e : a = p
    · subst e
      rw [show (W.fz a o).G a = some o from upd_same] at h
      exact hp.trans h
    · rw [show (W.fz p o).G a = W.G a from upd_ne e] at h
      exact r.sub a u h
  · obtain ⟨h1, h2⟩ := r.live i mo h nd
    exact ⟨(upd_ne (nl i mo h nd)).trans h1, h2.up (Le.fz hg)⟩
  · obtain ⟨h1, h2, h3⟩ := r.priv a u h
    exact ⟨h1, (upd_ne (ne_of_none h np)).trans h2, h3⟩
/-- a new frozen object -/
theorem R.fz {p : Addr} {o : HO} (r : R K cl W H S) (hp : H p = none) : R K cl (W.fz p o) (upd H p o) S ∧ Le W (W.fz p o) := by
  have hg : W.G p = none := by
    cases e : W.G p with
    | none => rfl
    | some u => rw [r.sub p u e] at hp; cases hp
  have hq : W.P p = none := by
    cases e : W.P p with
    | none => rfl
    | some u => rw [(r.priv p u e).1] at hp; cases hp
  refine ⟨(r.junk hp).fzAt upd_same hg (fun i mo h nd => ?_) hq, Le.fz hg⟩
  obtain ⟨u, hu⟩ := (r.live i mo h nd).2.some nd
  exact ne_of_none hu hp
def Wd.lv (W : Wd) (p : Addr) : Wd := { W with ι := fun j => if j = W.n then p else W.ι j, n := W.n + 1 }
theorem Le.lv (W : Wd) (p : Addr) : Le W (W.lv p) := ⟨fun _ _ h => h, fun j h => by
  show (if j = W.n then p else W.ι j) = W.ι j
  rw [if_neg (Nat.ne_of_lt h)], Nat.le_succ _, rfl⟩
theorem Wd.lv_at (W : Wd) (p : Addr) : (W.lv p).ι W.n = p := if_pos rfl
/-- a new live object -/
theorem R.new {p : Addr} {o : HO} {mo : MO} (r : R K cl W H S) (hp : H p = none) (hm : MRep K cl W (upd H p o) p mo) : R K cl (W.lv p) (upd H p o) (S ++ [mo]) := by
  have hg : W.G p = none := by
    cases e : W.G p with
    | none => rfl
    | some u => rw [r.sub p u e] at hp; cases hp
  have old : ∀ (i : Nat) (m : MO), (S ++ [mo])[i]? = some m → (i < S.length ∧ S[i]? = some m) ∨ (i = S.length ∧ m = mo) := fun i m h => by
    by_cases hi : i < S.length
    · rw [List.getElem?_append_left hi] at h
      exact .inl ⟨hi, h⟩
    · rw [List.getElem?_append_right (by omega)] at h
      have hk : i - S.length = 0 := by
        cases q : i - S.length with
        | zero => rfl
        | succ k => rw [q] at h; simp at h
      rw [hk] at h
      simp at h
      exact .inr ⟨by omega, h.symm⟩
  have ιo : ∀ i, i < S.length → (W.lv p).ι i = W.ι i := fun i h => (Le.lv W p).i i (by rw [r.n]; exact h)
  have ιn : (W.lv p).ι S.length = p := by rw [← r.n]; exact W.lv_at p
  refine ⟨?_, (r.junk hp).sub, fun i m h nd => ?_, fun i j m m' h h' nd nd' e => ?_, fun a u q => ?_⟩
  · show W.n + 1 = _
    rw [List.length_append, r.n]
    rfl
  · rcases old i m h with ⟨hi, h⟩ | ⟨rfl, rfl⟩
    · obtain ⟨h1, h2⟩ := (r.junk (o := o) hp).live i m h nd
      rw [ιo i hi]
      exact ⟨h1, h2.up (Le.lv W p)⟩
    · rw [ιn]
      exact ⟨hg, hm.up (Le.lv W p)⟩
  · rcases old i m h with ⟨hi, h⟩ | ⟨rfl, rfl⟩
    · obtain ⟨u, hu⟩ := (r.live i m h nd).2.some nd
      rcases old j m' h' with ⟨hj, h'⟩ | ⟨rfl, rfl⟩
      · rw [ιo i hi, ιo j hj] at e
        exact r.inj i j m m' h h' nd nd' e
      · rw [ιo i hi, ιn] at e
        exact absurd e (ne_of_none hu hp)
    · rcases old j m' h' with ⟨hj, h'⟩ | ⟨rfl, rfl⟩
      · obtain ⟨u, hu⟩ := (r.live j m' h' nd').2.some nd'
        rw [ιo j hj, ιn] at e
        exact absurd e.symm (ne_of_none hu hp)
      · rfl
  · obtain ⟨g1, g2, g3⟩ := (r.junk (o := o) hp).priv a u q
    refine ⟨g1, g2, fun i m h nd => ?_⟩
    rcases old i m h with ⟨hi, h⟩ | ⟨rfl, rfl⟩
    · rw [ιo i hi]
      exact g3 i m h nd
    · rw [ιn]
      exact (ne_of_none (r.priv a u q).1 hp).symm
/-- a live object is changed -/
theorem R.put {i : Nat} {o : HO} {m mo : MO} (r : R K cl W H S) (h : S[i]? = some m) (nd : m ≠ .dead) (hm : MRep K cl W (upd H (W.ι i) o) (W.ι i) mo) : R K cl W (upd H (W.ι i) o) (S.set i mo) := by
  obtain ⟨h1, h2⟩ := r.live i m h nd
  have hi : i < S.length := (List.getElem?_eq_some_iff.mp h).1
  have hi2 : ∀ (j : Nat) (k : MO), (S.set i mo)[j]? = some k → k ≠ .dead → ∃ m', S[j]? = some m' ∧ m' ≠ .dead := fun j k e nk => by
    by_cases hj : i = j
    · subst hj
      exact ⟨m, h, nd⟩
    · rw [List.getElem?_set_ne hj] at e
      exact ⟨k, e, nk⟩
  refine ⟨by rw [List.length_set]; exact r.n, fun a u e => ?_, fun j k e nk => ?_, fun j k m1 m2 e1 e2 n1 n2 q => ?_, fun a u q => ?_⟩
  · rw [upd_ne (ne_of_none e h1)]
    exact r.sub a u e
  · by_cases hj : i = j
    · subst hj
      rw [List.getElem?_set_self hi] at e
      cases e
      exact ⟨h1, hm⟩
    · rw [List.getElem?_set_ne hj] at e
      obtain ⟨g1, g2⟩ := r.live j k e nk
      exact ⟨g1, g2.at (upd_ne fun q => hj (r.inj i j m k h e nd nk q.symm))⟩
  · by_cases hj : i = j
    · by_cases hk : i = k
      · exact hj.symm.trans hk
      · rw [List.getElem?_set_ne hk] at e2
        subst hj
        exact r.inj i k m m2 h e2 nd n2 q
    · rw [List.getElem?_set_ne hj] at e1
      by_cases hk : i = k
      · subst hk
        exact r.inj j i m1 m e1 h n1 nd q
      · rw [List.getElem?_set_ne hk] at e2
        exact r.inj j k m1 m2 e1 e2 n1 n2 q
  · obtain ⟨g1, g2, g3⟩ := r.priv a u q
    refine ⟨by rw [upd_ne (fun z => g3 i m h nd z.symm)]; exact g1, g2, fun j k e nk => ?_⟩
    obtain ⟨m', e', n'⟩ := hi2 j k e nk
    exact g3 j m' e' n'
/-- a hidden object: made, changed, shown -/
def Wd.hid (W : Wd) (p : Addr) (o : HO) : Wd := { W with P := upd W.P p o }
theorem Ls.hid {p : Addr} {o : HO} : Ls W (W.hid p o) := ⟨fun _ _ h => h, fun _ _ => rfl, Nat.le_refl _⟩
theorem Ls.shw {p : Addr} {o : HO} : Ls (W.hid p o) W := ⟨fun _ _ h => h, fun _ _ => rfl, Nat.le_refl _⟩
theorem R.hide {p : Addr} {o : HO} (r : R K cl W H S) (hp : H p = none) : R K cl (W.hid p o) (upd H p o) S := by
  have r' := r.junk (o := o) hp
  have hg : W.G p = none := by
    cases e : W.G p with
    | none => rfl
    | some u => rw [r.sub p u e] at hp; cases hp
  refine ⟨r'.n, r'.sub, fun i mo h nd => ⟨(r'.live i mo h nd).1, (r'.live i mo h nd).2.ups (Ls.hid (p := p) (o := o))⟩, r'.inj, fun a u h => ?_⟩
  by_cases e : a = p
  · subst e
    rw [show (W.hid a o).P a = some o from upd_same] at h
    cases h
    refine ⟨upd_same, hg, fun i mo h nd => ?_⟩
    obtain ⟨u, hu⟩ := (r.live i mo h nd).2.some nd
    exact ne_of_none hu hp
  · rw [show (W.hid p o).P a = W.P a from upd_ne e] at h
    exact r'.priv a u h
theorem R.turn {p : Addr} {o o' : HO} (r : R K cl (W.hid p o) H S) : R K cl (W.hid p o') (upd H p o') S := by
  obtain ⟨h1, h2, h3⟩ := r.priv p o upd_same
  refine ⟨r.n, fun a u h => ?_, fun i mo h nd => ?_, r.inj, fun a u h => ?_⟩
  · rw [upd_ne (ne_of_none h h2)]
    exact r.sub a u h
  · obtain ⟨g1, g2⟩ := r.live i mo h nd
    exact ⟨g1, MRep.at (g2.ups (Ls.shw.tr Ls.hid)) (upd_ne (h3 i mo h nd))⟩
  · by_cases e : a = p
    · subst e
      rw [show (W.hid a o').P a = some o' from upd_same] at h
      cases h
      exact ⟨upd_same, h2, h3⟩
    · rw [show (W.hid p o').P a = W.P a from upd_ne e] at h
      obtain ⟨g1, g2, g3⟩ := r.priv a u (by rw [show (W.hid p o).P a = W.P a from upd_ne e]; exact h)
      exact ⟨by rw [upd_ne e]; exact g1, g2, g3⟩
theorem R.unhide {p : Addr} {o : HO} (r : R K cl (W.hid p o) H S) (hq : W.P p = none) : R K cl W H S ∧ H p = some o ∧ W.G p = none ∧ ∀ (i : Nat) (mo : MO), S[i]? = some mo → mo ≠ .dead → W.ι i ≠ p := by
  obtain ⟨h1, h2, h3⟩ := r.priv p o upd_same
  refine ⟨⟨r.n, r.sub, fun i mo h nd => ⟨(r.live i mo h nd).1, (r.live i mo h nd).2.ups (Ls.shw (p := p) (o := o))⟩, r.inj, fun a u h => ?_⟩, h1, h2, h3⟩
  exact r.priv a u (by rw [show (W.hid p o).P a = W.P a from upd_ne (ne_of_none h hq)]; exact h)
end

/-! ### readings -/
section
variable (K : PySem.W.Frag) (cl : Str → Option Addr)
def Post {α β : Type} (rel : Wd → β → α → Prop) (W : Wd) (r : Res α) (Q : β → Hp → Prop) (E : XK) : Prop := match r with
  | .ok d S => ∀ W' H' v, Le W W' → R K cl W' H' S → rel W' v d → Q v H'
  | .exc x S => ∀ W' H' c dd, Le W W' → R K cl W' H' S → XRep K cl W' c dd x → E c dd H'
  | .stk => False
def Tg {α β : Type} (rel : Wd → β → α → Prop) (E : WX) (m : M α) : St → Hp → (β → Hp → Prop) → Prop := fun σ H Q =>
  ∃ W ρ S, R K cl W H S ∧ Envs K cl W σ ρ ∧ Post K cl rel W (m ρ S) Q (fun c d H' => E c d σ H')
abbrev relB : Wd → Bool → Bool → Prop := fun _ b c => b = c
abbrev relO : Wd → Option Int → Option Int → Prop := fun _ b c => b = c
abbrev T (E : WX) (m : M D) : TE := Tg K cl (Rep K cl) E m
abbrev TB (E : WX) (m : M Bool) : TT := Tg K cl relB E m
abbrev TL (E : WX) (m : M (List D)) : TA := Tg K cl (Reps K cl) E m
abbrev TP (E : WX) (m : M (Option Int)) : TO := Tg K cl relO E m
end
section
variable {K : PySem.W.Frag} {cl : Str → Option Addr} {W W' : Wd} {H : Hp} {S : Store} {σ : St} {ρ : Sl} {α β γ δ : Type} {rel : Wd → β → α → Prop} {rel2 : Wd → δ → γ → Prop}
theorem Post.up {r : Res α} {Q : β → Hp → Prop} {E : XK} (l : Le W W') (p : Post K cl rel W r Q E) : Post K cl rel W' r Q E := by
  cases r with
  | ok d S => exact fun W2 H2 v l2 => p W2 H2 v (l.tr l2)
  | exc x S => exact fun W2 H2 c dd l2 => p W2 H2 c dd (l.tr l2)
  | stk => exact p
theorem Post.now {d : α} {Q : β → Hp → Prop} {E : XK} {v : β} (p : Post K cl rel W (.ok d S) Q E) (r : R K cl W H S) (h : rel W v d) : Q v H := p W H v (.rf W) r h
/-- the first part runs, then the rest -/
theorem step {m : M α} {f : α → Store → Res γ} {Q : δ → Hp → Prop} {Q1 : β → Hp → Prop} {E : WX} (hr : R K cl W H S) (he : Envs K cl W σ ρ) (p : Post K cl rel2 W ((m ρ S).bind f) Q (fun c d H' => E c d σ H'))
    (k : ∀ W' H' v d S', Le W W' → R K cl W' H' S' → Envs K cl W' σ ρ → rel W' v d → Post K cl rel2 W' (f d S') Q (fun c d H' => E c d σ H') → Q1 v H') : Tg K cl rel E m σ H Q1 := by
  refine ⟨W, ρ, S, hr, he, ?_⟩
  cases e : m ρ S with
  | ok d S1 =>
    rw [e] at p
    exact fun W1 H1 v l1 r1 q1 => k W1 H1 v d S1 l1 r1 (he.up l1) q1 (Post.up l1 p)
  | exc x S1 =>
    rw [e] at p
    exact p
  | stk =>
    rw [e] at p
    exact p.elim
end
section
variable {X : Cx}
theorem pe_imp {e : Expr} {t t' : TE} (h : PE X e t) (k : ∀ σ H Q, t' σ H Q → t σ H Q) : PE X e t' := ⟨fun pins s σ H Q I q => h.run pins s σ H Q I (k σ H Q q)⟩
theorem pt_imp {e : Expr} {t t' : TT} (h : PT X e t) (k : ∀ σ H Q, t' σ H Q → t σ H Q) : PT X e t' := ⟨fun pins s σ H Q I q => h.run pins s σ H Q I (k σ H Q q)⟩
theorem pw_imp {e : Expr} {t t' : TT} (h : PW X e t) (k : ∀ σ H Q, t' σ H Q → t σ H Q) : PW X e t' := ⟨fun wh pins s σ H Q I q => h.run wh pins s σ H Q I (k σ H Q q)⟩
theorem pa_imp {e : List Expr} {t t' : TA} (h : PA X e t) (k : ∀ σ H Q, t' σ H Q → t σ H Q) : PA X e t' := ⟨fun pos pins s σ H Q I q => h.run pos pins s σ H Q I (k σ H Q q)⟩
theorem po_imp {e : Option Expr} {t t' : TO} (h : PO X e t) (k : ∀ σ H Q, t' σ H Q → t σ H Q) : PO X e t' := ⟨fun pins s σ H Q I q => h.run pins s σ H Q I (k σ H Q q)⟩
theorem ps_imp {e : Stmt} {t t' : TS} (h : PS X e t) (k : ∀ D σ H, t' D σ H → t D σ H) : PS X e t' := ⟨fun pins s σ H D I q => h.run pins s σ H D I (k D σ H q)⟩
theorem pss_imp {e : List Stmt} {t t' : TS} (h : PSs X e t) (k : ∀ D σ H, t' D σ H → t D σ H) : PSs X e t' := ⟨fun pins s σ H D I q => h.run pins s σ H D I (k D σ H q)⟩
theorem pe_either {e : Expr} {t t' : TE} (h : PE X e t) (h' : PE X e t') : PE X e (fun σ H Q => t σ H Q ∨ t' σ H Q) := ⟨fun pins s σ H Q I q => q.elim (h.run pins s σ H Q I) (h'.run pins s σ H Q I)⟩
end
end G
namespace G
open PySem L2

/-! ### the combinators of expressions -/
def mVar (i : Nat) : M D := fun ρ S => match ρ[i]? with
  | some (some d) => .ok d S
  | _ => .stk
def mC (d : D) : M D := fun _ S => .ok d S
def mOp (g : D → D → Store → Res D) (a b : M D) : M D := fun ρ S => (a ρ S).bind fun x S1 => (b ρ S1).bind fun y S2 => g x y S2
def mUn (g : D → Store → Res D) (a : M D) : M D := fun ρ S => (a ρ S).bind fun x S1 => g x S1
def mNil : M (List D) := fun _ S => .ok [] S
def mCons (a : M D) (b : M (List D)) : M (List D) := fun ρ S => (a ρ S).bind fun x S1 => (b ρ S1).bind fun y S2 => .ok (x :: y) S2
def mFn (g : List D → Store → Res D) (a : M (List D)) : M D := fun ρ S => (a ρ S).bind fun x S1 => g x S1
def mIte (c : M Bool) (a b : M D) : M D := fun ρ S => (c ρ S).bind fun k S1 => if k = true then a ρ S1 else b ρ S1
/-- tests -/
def asB (d : D) (S : Store) : Res Bool := match d with
  | .bl b => .ok b S
  | _ => .stk
def mTest (a : M D) : M Bool := fun ρ S => (a ρ S).bind fun x S1 => asB x S1
def lsOf (S : Store) (d : D) : Option (List D) := match d with
  | .lst xs => some xs
  | .ref n => (match S[n]? with
    | some (.lst xs) => some xs
    | _ => none)
  | _ => none
def truD (d : D) (S : Store) : Res Bool := match d with
  | .non => .ok false S
  | .bl b => .ok b S
  | .int i => .ok (i != 0) S
  | .str y => if y.length ≤ sizeLine then .ok ((y.length : Int) != 0) S else .stk
  | .tup xs => .ok (!xs.isEmpty) S
  | .lst xs => .ok (!xs.isEmpty) S
  | .dct xs => .ok (!xs.isEmpty) S
  | .ins _ _ => .stk
  | .scr _ => .stk
  | .ref n => (match S[n]? with
    | some (.lst xs) => .ok (!xs.isEmpty) S
    | some (.dct xs) => .ok (!xs.isEmpty) S
    | _ => .stk)
def mTru (a : M D) : M Bool := fun ρ S => (a ρ S).bind fun x S1 => truD x S1
def mAnd (a b : M Bool) : M Bool := fun ρ S => (a ρ S).bind fun k S1 => if k = true then b ρ S1 else .ok false S1
def mOr (a b : M Bool) : M Bool := fun ρ S => (a ρ S).bind fun k S1 => if k = true then .ok true S1 else b ρ S1
def mNot (a : M Bool) : M Bool := fun ρ S => (a ρ S).bind fun k S1 => .ok (!k) S1
/-- values by truth -/
def mAndV (a b : M D) : M D := fun ρ S => (a ρ S).bind fun x S1 => (truD x S1).bind fun k S2 => if k = true then b ρ S2 else .ok x S2
def mOrV (a b : M D) : M D := fun ρ S => (a ρ S).bind fun x S1 => (truD x S1).bind fun k S2 => if k = true then .ok x S2 else b ρ S2
def mNotV (a : M D) : M D := fun ρ S => (a ρ S).bind fun x S1 => (truD x S1).bind fun k S2 => .ok (.bl (!k)) S2
def mChain (g g' : D → D → Store → Res D) (a b c : M D) : M D := fun ρ S => (a ρ S).bind fun x S1 => (b ρ S1).bind fun y S2 => (g x y S2).bind fun z S3 => (asB z S3).bind fun k S4 =>
  if k = true then (c ρ S4).bind fun w S5 => g' y w S5 else .ok (.bl false) S4
def mNoPart : M (Option Int) := fun _ S => .ok none S
def mPart (a : M D) : M (Option Int) := fun ρ S => (a ρ S).bind fun x S1 => match x with
  | .int i => .ok (some i) S1
  | _ => .stk
def mSl (g : D → Option Int → Option Int → Store → Res D) (a : M D) (l h : M (Option Int)) : M D := fun ρ S => (a ρ S).bind fun x S1 => (l ρ S1).bind fun lo S2 => (h ρ S2).bind fun hi S3 => g x lo hi S3
def tupD (xs : List D) (S : Store) : Res D := if xs.length ≤ sizeLine then .ok (.tup xs) S else .stk
def lstD (xs : List D) (S : Store) : Res D := if xs.length ≤ sizeLine then .ok (.lst xs) S else .stk
def lstL (xs : List D) (S : Store) : Res D := if xs.length ≤ sizeLine then .ok (.ref S.length) (S ++ [.lst xs]) else .stk

/-! ### soundness of operations by values -/
section
variable (K : PySem.W.Frag) (cl : Str → Option Addr)
def OpS (r : R2) (g : D → D → Store → Res D) : Prop := ∀ (W : Wd) (H : Hp) (S : Store) (x y : V) (dx dy : D) (Q : VK) (E : XK),
  R K cl W H S → Rep K cl W x dx → Rep K cl W y dy → Post K cl (Rep K cl) W (g dx dy S) Q E → r x y H Q
def UnS (r : V → Hp → VK → Prop) (g : D → Store → Res D) : Prop := ∀ (W : Wd) (H : Hp) (S : Store) (x : V) (dx : D) (Q : VK) (E : XK),
  R K cl W H S → Rep K cl W x dx → Post K cl (Rep K cl) W (g dx S) Q E → r x H Q
def FnS (r : List V → Hp → VK → Prop) (g : List D → Store → Res D) : Prop := ∀ (W : Wd) (H : Hp) (S : Store) (x : List V) (dx : List D) (Q : VK) (E : XK),
  R K cl W H S → Reps K cl W x dx → Post K cl (Rep K cl) W (g dx S) Q E → r x H Q
def MtS (r : V → List V → Hp → VK → Prop) (g : D → List D → Store → Res D) : Prop := ∀ (W : Wd) (H : Hp) (S : Store) (x : V) (dx : D) (y : List V) (dy : List D) (Q : VK) (E : XK),
  R K cl W H S → Rep K cl W x dx → Reps K cl W y dy → Post K cl (Rep K cl) W (g dx dy S) Q E → r x y H Q
def SlS (r : V → Option Int → Option Int → Hp → VK → Prop) (g : D → Option Int → Option Int → Store → Res D) : Prop := ∀ (W : Wd) (H : Hp) (S : Store) (x : V) (dx : D) (lo hi : Option Int) (Q : VK) (E : XK),
  R K cl W H S → Rep K cl W x dx → Post K cl (Rep K cl) W (g dx lo hi S) Q E → r x lo hi H Q
end

section
variable {X : Cx} {cl : Str → Option Addr} {E : WX} {a b c : Expr} {es : List Expr} {m m1 m2 m3 : M D} {ms : M (List D)} {mb mb2 : M Bool} {pos : Pos}
/-- the slots -/
theorem t_var (i : Nat) {x : Str} (hN : X.N[i]? = some x := by rfl) (hv : Vis X.env.scope x := by first | exact Or.inl rfl | exact Or.inr (Or.inl rfl) | exact Or.inr (Or.inr rfl))
    (hd : (x == ("__debug__" : Str)) = false := by decide) (hcd : (x == ("__classdict__" : Str)) = false := by decide) : PE X (.Name x pos) (T X.K cl E (mVar i)) :=
  pe_imp (pe_var hN hv hd hcd) fun σ H Q ⟨W, ρ, S, hr, he, p⟩ => by
    unfold mVar at p
    split at p
    · rename_i d e
      obtain ⟨v, h1, h2⟩ := he.at' i d e
      exact ⟨v, h1, p.now hr h2⟩
    · exact p.elim
theorem t_int {i : Int} {j : Nat} : PE X (.Constant (.int i) j pos) (T X.K cl E (mC (.int i))) := pe_imp pe_int fun σ H Q ⟨W, ρ, S, hr, he, p⟩ => p.now hr (.int i)
theorem t_bl {i : Bool} {j : Nat} : PE X (.Constant (.bool i) j pos) (T X.K cl E (mC (.bl i))) := pe_imp pe_bl fun σ H Q ⟨W, ρ, S, hr, he, p⟩ => p.now hr (.bl i)
theorem t_str {i : Str} {j : Nat} : PE X (.Constant (.str i) j pos) (T X.K cl E (mC (.str i))) := pe_imp pe_str fun σ H Q ⟨W, ρ, S, hr, he, p⟩ => p.now hr (.str i)
theorem t_non {j : Nat} : PE X (.Constant .none j pos) (T X.K cl E (mC .non)) := pe_imp pe_non fun σ H Q ⟨W, ρ, S, hr, he, p⟩ => p.now hr .non
/-- a constant of the module -/
theorem t_glob {x : Str} {v : V} {u : Value} {d : D} (hm : X.mg x = some u) (r : RelV v u) (rp : ∀ W, Rep X.K cl W v d) (hg : Gl X x := by rfl) (hd : (x == ("__debug__" : Str)) = false := by decide) :
    PE X (.Name x pos) (T X.K cl E (mC d)) := pe_imp (pe_glob hg hm r hd) fun σ H Q ⟨W, ρ, S, hr, he, p⟩ => p.now hr (rp W)
theorem t_op {op : Operator} {r : R2} {g : D → D → Store → Res D} (ho : OpR X (binaryOp op) r) (hs : OpS X.K cl r g) (ha : PE X a (T X.K cl E m1)) (hb : PE X b (T X.K cl E m2)) :
    PE X (.BinOp a op b pos) (T X.K cl E (mOp g m1 m2)) :=
  pe_imp (pe_op ho ha hb) fun σ H Q ⟨W, ρ, S, hr, he, p⟩ => step hr he p fun W1 H1 x dx S1 l1 r1 e1 rx p1 => step r1 e1 p1 fun W2 H2 y dy S2 l2 r2 e2 ry p2 =>
    hs _ _ _ _ _ _ _ _ _ r2 (rx.up l2) ry p2
theorem t_cmp {op : CmpOp} {r : R2} {g : D → D → Store → Res D} (ho : OpR X (compareOp op) r) (hs : OpS X.K cl r g) (ha : PE X a (T X.K cl E m1)) (hb : PE X b (T X.K cl E m2))
    (hm : behindInMarks op b = false := by first | exact nomark _ | rfl) : PE X (.Compare a [op] [b] pos) (T X.K cl E (mOp g m1 m2)) :=
  pe_imp (pe_cmpR ho ha hb hm) fun σ H Q ⟨W, ρ, S, hr, he, p⟩ => step hr he p fun W1 H1 x dx S1 l1 r1 e1 rx p1 => step r1 e1 p1 fun W2 H2 y dy S2 l2 r2 e2 ry p2 =>
    hs _ _ _ _ _ _ _ _ _ r2 (rx.up l2) ry p2
theorem post_asB {d : D} {S : Store} {W : Wd} {Q : Bool → Hp → Prop} {E : XK} {K : PySem.W.Frag} (p : Post K cl relB W (asB d S) Q E) : ∃ k, d = .bl k := by
  cases d <;> first | exact ⟨_, rfl⟩ | exact p.elim
/-- a result, its bool read off -/
theorem post_test {K : PySem.W.Frag} {W : Wd} {r : Res D} {Q : Bool → Hp → Prop} {E : XK} (p : Post K cl relB W (r.bind fun x S1 => asB x S1) Q E) : Post K cl (Rep K cl) W r (fun x H' => ∃ k, x = .bl k ∧ Q k H') E := by
  cases r with
  | ok d S =>
    intro W' H' v l r' rep
    obtain ⟨k, rfl⟩ := post_asB p
    cases rep
    exact ⟨k, rfl, p W' H' k l r' rfl⟩
  | exc x S => exact p
  | stk => exact p
theorem tt_cmp {op : CmpOp} {r : R2} {g : D → D → Store → Res D} (ho : OpR X (compareOp op) r) (hs : OpS X.K cl r g) (ha : PE X a (T X.K cl E m1)) (hb : PE X b (T X.K cl E m2))
    (hm : behindInMarks op b = false := by first | exact nomark _ | rfl) : PT X (.Compare a [op] [b] pos) (TB X.K cl E (mTest (mOp g m1 m2))) :=
  pt_imp (pt_cmpR ho ha hb hm) fun σ H Q ⟨W, ρ, S, hr, he, p⟩ => by
    have p : Post X.K cl (Rep X.K cl) W (mOp g m1 m2 ρ S) _ _ := post_test p
    exact step hr he p fun W1 H1 x dx S1 l1 r1 e1 rx p1 => step r1 e1 p1 fun W2 H2 y dy S2 l2 r2 e2 ry p2 => hs _ _ _ _ _ _ _ _ _ r2 (rx.up l2) ry p2
theorem t_chain {op op' : CmpOp} {r r' : R2} {g g' : D → D → Store → Res D} (ho : OpR X (compareOp op) r) (hs : OpS X.K cl r g) (ho' : OpR X (compareOp op') r') (hs' : OpS X.K cl r' g')
    (ha : PE X a (T X.K cl E m1)) (hb : PE X b (T X.K cl E m2)) (hc : PE X c (T X.K cl E m3)) (hm : lastMarks [op, op'] [b, c] = false := by with_unfolding_all rfl) :
    PE X (.Compare a [op, op'] [b, c] pos) (T X.K cl E (mChain g g' m1 m2 m3)) :=
  pe_imp (pe_chain ho ho' ha hb hc hm) fun σ H Q ⟨W, ρ, S, hr, he, p⟩ => step hr he p fun W1 H1 x dx S1 l1 r1 e1 rx p1 => step r1 e1 p1 fun W2 H2 y dy S2 l2 r2 e2 ry p2 => by
    cases e : g dx dy S2 with
    | stk => rw [e] at p2; exact p2.elim
    | exc q S3 =>
      rw [e] at p2
      refine hs W2 H2 S2 x y dx dy _ (fun c d H' => E c d σ H') r2 (rx.up l2) ry ?_
      rw [e]
      exact p2
    | ok z S3 =>
      rw [e] at p2
      refine hs W2 H2 S2 x y dx dy _ (fun _ _ _ => True) r2 (rx.up l2) ry ?_
      rw [e]
      intro W3 H3 v l3 r3 rep
      cases z with
      | bl k =>
        cases rep
        refine ⟨k, rfl, ?_⟩
        cases k with
        | true =>
          show T X.K cl E m3 σ H3 _
          exact step r3 (e2.up l3) (p2.up l3) fun W4 H4 w dw S4 l4 r4 e4 rw' p4 => hs' _ _ _ _ _ _ _ _ _ r4 (ry.up (l3.tr l4)) rw' p4
        | false => exact Post.now (p2.up l3) r3 (.bl false)
      | _ => exact p2.elim
theorem tt_chain {op op' : CmpOp} {r r' : R2} {g g' : D → D → Store → Res D} (ho : OpR X (compareOp op) r) (hs : OpS X.K cl r g) (ho' : OpR X (compareOp op') r') (hs' : OpS X.K cl r' g')
    (ha : PE X a (T X.K cl E m1)) (hb : PE X b (T X.K cl E m2)) (hc : PE X c (T X.K cl E m3)) (hm : lastMarks [op, op'] [b, c] = false := by with_unfolding_all rfl) :
    PT X (.Compare a [op, op'] [b, c] pos) (TB X.K cl E (mTest (mChain g g' m1 m2 m3))) :=
  pt_imp (pt_chain ho ho' ha hb hc hm) fun σ H Q ⟨W, ρ, S, hr, he, p⟩ => by
    have p : Post X.K cl (Rep X.K cl) W (mChain g g' m1 m2 m3 ρ S) (fun x H' => ∃ k, x = V.bl k ∧ Q k H') _ := post_test p
    exact step hr he p fun W1 H1 x dx S1 l1 r1 e1 rx p1 => step r1 e1 p1 fun W2 H2 y dy S2 l2 r2 e2 ry p2 => by
      cases e : g dx dy S2 with
      | stk => rw [e] at p2; exact p2.elim
      | exc q S3 =>
        rw [e] at p2
        refine hs W2 H2 S2 x y dx dy _ (fun c d H' => E c d σ H') r2 (rx.up l2) ry ?_
        rw [e]
        exact p2
      | ok z S3 =>
        rw [e] at p2
        refine hs W2 H2 S2 x y dx dy _ (fun _ _ _ => True) r2 (rx.up l2) ry ?_
        rw [e]
        intro W3 H3 v l3 r3 rep
        cases z with
        | bl k =>
          cases rep
          refine ⟨k, rfl, ?_⟩
          cases k with
          | true =>
            show T X.K cl E m3 σ H3 _
            exact step r3 (e2.up l3) (p2.up l3) fun W4 H4 w dw S4 l4 r4 e4 rw' p4 => hs' _ _ _ _ _ _ _ _ _ r4 (ry.up (l3.tr l4)) rw' p4
          | false => exact Post.now (p2.up l3) r3 (.bl false)
        | _ => exact p2.elim
theorem tru_of {K : PySem.W.Frag} {W : Wd} {H : Hp} {S : Store} {x : V} {d : D} {γ δ : Type} {rel2 : Wd → δ → γ → Prop} {f : Bool → Store → Res γ} {Q : δ → Hp → Prop} {E : XK} (r : R K cl W H S) (rx : Rep K cl W x d) (p : Post K cl rel2 W ((truD d S).bind f) Q E) :
    ∃ k, TruV K x H k ∧ Post K cl rel2 W (f k S) Q E := by
  cases rx with
  | non => exact ⟨false, rfl, p⟩
  | bl b => exact ⟨b, rfl, p⟩
  | int i => exact ⟨_, rfl, p⟩
  | str y =>
    unfold truD at p
    dsimp only at p
    by_cases hy : y.length ≤ sizeLine
    · rw [if_pos hy] at p
      exact ⟨_, ⟨hy, rfl⟩, p⟩
    · rw [if_neg hy] at p
      exact p.elim
  | tup h t => exact ⟨_, .inr (.inl ⟨_, sqT_up r.sub h, rfl⟩), by cases t <;> exact p⟩
  | lst h t => exact ⟨_, .inl ⟨_, SqL.of (r.sub _ _ h), rfl⟩, by cases t <;> exact p⟩
  | scr h => exact p.elim
  | dct h t => exact ⟨_, .inr (.inr ⟨_, r.sub _ _ h, rfl⟩), by cases t <;> exact p⟩
  | ins h c t => exact p.elim
  | ref hn =>
    rename_i n
    unfold truD at p
    dsimp only at p
    cases e : S[n]? with
    | none => simp only [e] at p; exact p.elim
    | some mo =>
      simp only [e] at p
      cases mo with
      | lst xs =>
        obtain ⟨_, vs, h1, h2⟩ := r.live n _ e (by intro q; cases q)
        exact ⟨_, .inl ⟨vs, SqL.of h1, rfl⟩, by cases h2 <;> exact p⟩
      | dct xs =>
        obtain ⟨_, vs, h1, h2⟩ := r.live n _ e (by intro q; cases q)
        exact ⟨_, .inr (.inr ⟨vs, h1, rfl⟩), by cases h2 <;> exact p⟩
      | ins c fs => exact p.elim
      | dead => exact p.elim
theorem tt_tru (ha : PE X a (T X.K cl E m)) (he : ∀ whole, isTrue a X.env whole = (do let v ← whole; standAt a.pos; holding [v] (truthy v)) := by intro _; rfl) : PT X a (TB X.K cl E (mTru m)) :=
  pt_imp (pt_truth ha he) fun σ H Q ⟨W, ρ, S, hr, he, p⟩ => step hr he p fun W1 H1 x dx S1 l1 r1 e1 rx p1 => by
    have p1 : Post X.K cl relB W1 ((truD dx S1).bind fun k S => .ok k S) Q (fun c d H' => E c d σ H') := by cases q : truD dx S1 <;> (rw [q] at p1; exact p1)
    obtain ⟨k, h, p2⟩ := tru_of r1 rx p1
    exact ⟨k, h, p2.now r1 rfl⟩
theorem ite_of {K : PySem.W.Frag} {W : Wd} {H : Hp} {S : Store} {k : Bool} {A B : Prop} (h1 : k = true → A) (h2 : k = false → B) : if k = true then A else B := by
  cases k
  · exact h2 rfl
  · exact h1 rfl
theorem tw_and1 (ha : PT X a (TB X.K cl E mb)) : PW X (.BoolOp .And [a] pos) (TB X.K cl E mb) := pw_and1 ha
theorem tw_or1 (ha : PT X a (TB X.K cl E mb)) : PW X (.BoolOp .Or [a] pos) (TB X.K cl E mb) := pw_or1 ha
theorem tw_and {rest : List Expr} (ha : PT X a (TB X.K cl E mb)) (hb : PW X (.BoolOp .And (b :: rest) pos) (TB X.K cl E mb2)) : PW X (.BoolOp .And (a :: b :: rest) pos) (TB X.K cl E (mAnd mb mb2)) :=
  pw_imp (pw_and ha hb) fun σ H Q ⟨W, ρ, S, hr, he, p⟩ => step hr he p fun W1 H1 x dx S1 l1 r1 e1 rx p1 => by
    obtain rfl : x = dx := rx
    cases x with
    | true => exact ⟨W1, ρ, S1, r1, e1, p1⟩
    | false => exact p1.now r1 rfl
theorem tw_or {rest : List Expr} (ha : PT X a (TB X.K cl E mb)) (hb : PW X (.BoolOp .Or (b :: rest) pos) (TB X.K cl E mb2)) : PW X (.BoolOp .Or (a :: b :: rest) pos) (TB X.K cl E (mOr mb mb2)) :=
  pw_imp (pw_or ha hb) fun σ H Q ⟨W, ρ, S, hr, he, p⟩ => step hr he p fun W1 H1 x dx S1 l1 r1 e1 rx p1 => by
    obtain rfl : x = dx := rx
    cases x with
    | true => exact p1.now r1 rfl
    | false => exact ⟨W1, ρ, S1, r1, e1, p1⟩
theorem tt_not (ha : PT X a (TB X.K cl E mb)) : PT X (.UnaryOp .Not a pos) (TB X.K cl E (mNot mb)) :=
  pt_imp (pt_not ha) fun σ H Q ⟨W, ρ, S, hr, he, p⟩ => step hr he p fun W1 H1 x dx S1 l1 r1 e1 rx p1 => by
    obtain rfl : x = dx := rx
    exact p1.now r1 rfl
theorem t_one {op : BoolOp} (ha : PE X a (T X.K cl E m)) : PE X (.BoolOp op [a] pos) (T X.K cl E m) := pe_one ha
theorem t_and {rest : List Expr} (ha : PE X a (T X.K cl E m1)) (hb : PE X (.BoolOp .And (b :: rest) pos) (T X.K cl E m2)) : PE X (.BoolOp .And (a :: b :: rest) pos) (T X.K cl E (mAndV m1 m2)) :=
  pe_imp (pe_andT ha hb) fun σ H Q ⟨W, ρ, S, hr, he, p⟩ => step hr he p fun W1 H1 x dx S1 l1 r1 e1 rx p1 => by
    obtain ⟨k, h, p2⟩ := tru_of r1 rx p1
    refine ⟨k, h, ?_⟩
    cases k with
    | true => exact ⟨W1, ρ, S1, r1, e1, p2⟩
    | false => exact p2.now r1 rx
theorem t_or {rest : List Expr} (ha : PE X a (T X.K cl E m1)) (hb : PE X (.BoolOp .Or (b :: rest) pos) (T X.K cl E m2)) : PE X (.BoolOp .Or (a :: b :: rest) pos) (T X.K cl E (mOrV m1 m2)) :=
  pe_imp (pe_orT ha hb) fun σ H Q ⟨W, ρ, S, hr, he, p⟩ => step hr he p fun W1 H1 x dx S1 l1 r1 e1 rx p1 => by
    obtain ⟨k, h, p2⟩ := tru_of r1 rx p1
    refine ⟨k, h, ?_⟩
    cases k with
    | true => exact p2.now r1 rx
    | false => exact ⟨W1, ρ, S1, r1, e1, p2⟩
theorem t_not (ha : PE X a (T X.K cl E m)) : PE X (.UnaryOp .Not a pos) (T X.K cl E (mNotV m)) :=
  pe_imp (pe_notT ha) fun σ H Q ⟨W, ρ, S, hr, he, p⟩ => step hr he p fun W1 H1 x dx S1 l1 r1 e1 rx p1 => by
    obtain ⟨k, h, p2⟩ := tru_of r1 rx p1
    exact ⟨k, h, p2.now r1 (.bl _)⟩
theorem t_ite (hc : PT X c (TB X.K cl E mb)) (ha : PE X a (T X.K cl E m1)) (hb : PE X b (T X.K cl E m2)) : PE X (.IfExp c a b pos) (T X.K cl E (mIte mb m1 m2)) :=
  pe_imp (pe_ifExp hc ha hb) fun σ H Q ⟨W, ρ, S, hr, he, p⟩ => step hr he p fun W1 H1 x dx S1 l1 r1 e1 rx p1 => by
    obtain rfl : x = dx := rx
    cases x with
    | true => exact ⟨W1, ρ, S1, r1, e1, p1⟩
    | false => exact ⟨W1, ρ, S1, r1, e1, p1⟩
/-- argument lists -/
theorem ta_nil : PA X [] (TL X.K cl E mNil) := pa_imp pa_nil fun σ H Q ⟨W, ρ, S, hr, he, p⟩ => p.now hr .nil
theorem ta_cons (ha : PE X a (T X.K cl E m)) (hb : PA X es (TL X.K cl E ms)) (hs : starEach (a :: es) X.env = (false, eval a X.env) :: starEach es X.env := by rfl) : PA X (a :: es) (TL X.K cl E (mCons m ms)) :=
  pa_imp (pa_cons ha hb hs) fun σ H Q ⟨W, ρ, S, hr, he, p⟩ => step hr he p fun W1 H1 x dx S1 l1 r1 e1 rx p1 => step r1 e1 p1 fun W2 H2 y dy S2 l2 r2 e2 ry p2 => p2.now r2 (.cons (rx.up l2) ry)
theorem t_tup {x1 : _} (h : PA X es (TL X.K cl E ms)) : PE X (.Tuple es x1 pos) (T X.K cl E (mFn tupD ms)) :=
  pe_imp (pe_tup h) fun σ H Q ⟨W, ρ, S, hr, he, p⟩ => step hr he p fun W1 H1 x dx S1 l1 r1 e1 rx p1 => by
    unfold tupD at p1
    by_cases hz : dx.length ≤ sizeLine
    · rw [if_pos hz] at p1
      refine ⟨by rw [rx.len]; exact hz, fun q hq => ?_⟩
      obtain ⟨r2, l2⟩ := r1.fz (o := .tup x) hq
      exact p1 _ _ _ l2 r2 (.tup (SqT.of upd_same) (rx.up l2))
    · rw [if_neg hz] at p1
      exact p1.elim
theorem t_lst (h : PA X es (TL X.K cl E ms)) : PE X (.List es pos) (T X.K cl E (mFn lstD ms)) :=
  pe_imp (pe_lst h) fun σ H Q ⟨W, ρ, S, hr, he, p⟩ => step hr he p fun W1 H1 x dx S1 l1 r1 e1 rx p1 => by
    unfold lstD at p1
    by_cases hz : dx.length ≤ sizeLine
    · rw [if_pos hz] at p1
      refine ⟨by rw [rx.len]; exact hz, fun q hq => ?_⟩
      obtain ⟨r2, l2⟩ := r1.fz (o := .lst x) hq
      exact p1 _ _ _ l2 r2 (.lst upd_same (rx.up l2))
    · rw [if_neg hz] at p1
      exact p1.elim
/-- a list that will change -/
theorem t_lstL (h : PA X es (TL X.K cl E ms)) : PE X (.List es pos) (T X.K cl E (mFn lstL ms)) :=
  pe_imp (pe_lst h) fun σ H Q ⟨W, ρ, S, hr, he, p⟩ => step hr he p fun W1 H1 x dx S1 l1 r1 e1 rx p1 => by
    unfold lstL at p1
    by_cases hz : dx.length ≤ sizeLine
    · rw [if_pos hz] at p1
      refine ⟨by rw [rx.len]; exact hz, fun q hq => ?_⟩
      refine p1 (W1.lv q) _ _ (Le.lv W1 q) (r1.new hq ⟨x, upd_same, rx⟩) ?_
      have e : (W1.lv q).ι S1.length = q := by rw [← r1.n]; exact W1.lv_at q
      have z := Rep.ref (K := X.K) (cl := cl) (W := W1.lv q) (n := S1.length) (by show _ < W1.n + 1; rw [r1.n]; exact Nat.lt_succ_self _)
      rw [e] at z
      exact z
    · rw [if_neg hz] at p1
      exact p1.elim
theorem tp_none : PO X none (TP X.K cl E mNoPart) := po_imp po_none fun σ H Q ⟨W, ρ, S, hr, he, p⟩ => p.now hr rfl
theorem tp_some (h : PE X a (T X.K cl E m)) : PO X (some a) (TP X.K cl E (mPart m)) := po_imp (po_some h) fun σ H Q ⟨W, ρ, S, hr, he, p⟩ => step hr he p fun W1 H1 x dx S1 l1 r1 e1 rx p1 => by
  cases rx with
  | int i => exact ⟨i, rfl, p1.now r1 rfl⟩
  | _ => exact p1.elim
theorem t_sl {r : V → Option Int → Option Int → Hp → VK → Prop} {g : D → Option Int → Option Int → Store → Res D} {lo hi : Option Expr} {ml mh : M (Option Int)} {p2 : Pos} (hr : SlR X r) (hs : SlS X.K cl r g)
    (ha : PE X a (T X.K cl E m)) (hl : PO X lo (TP X.K cl E ml)) (hh : PO X hi (TP X.K cl E mh)) : PE X (.Subscript a (.Slice lo hi none p2) pos) (T X.K cl E (mSl g m ml mh)) :=
  pe_imp (pe_slice hr ha hl hh) fun σ H Q ⟨W, ρ, S, hr, he, p⟩ => step hr he p fun W1 H1 x dx S1 l1 r1 e1 rx p1 => step r1 e1 p1 fun W2 H2 y dy S2 l2 r2 e2 ry p2 => step r2 e2 p2 fun W3 H3 z dz S3 l3 r3 e3 rz p3 => by
    obtain rfl : y = dy := ry
    obtain rfl : z = dz := rz
    exact hs _ _ _ _ _ _ _ _ _ r3 (rx.up (l2.tr l3)) p3
theorem t_ix {r : R2} {g : D → D → Store → Res D} (ho : IxR X r) (hs : OpS X.K cl r g) (ha : PE X a (T X.K cl E m1)) (hb : PE X b (T X.K cl E m2)) (hp : PlainIx b := by exact fun _ _ => rfl) : PE X (.Subscript a b pos) (T X.K cl E (mOp g m1 m2)) :=
  pe_imp (pe_ix ho ha hb hp) fun σ H Q ⟨W, ρ, S, hr, he, p⟩ => step hr he p fun W1 H1 x dx S1 l1 r1 e1 rx p1 => step r1 e1 p1 fun W2 H2 y dy S2 l2 r2 e2 ry p2 => hs _ _ _ _ _ _ _ _ _ r2 (rx.up l2) ry p2
theorem t_un {op : UnaryOp} {r : V → Hp → VK → Prop} {g : D → Store → Res D} (ho : UnR X (unaryOp op) r) (hs : UnS X.K cl r g) (ha : PE X a (T X.K cl E m)) (hn : op ≠ .Not := by decide) : PE X (.UnaryOp op a pos) (T X.K cl E (mUn g m)) :=
  pe_imp (pe_un ho ha) fun σ H Q ⟨W, ρ, S, hr, he, p⟩ => step hr he p fun W1 H1 x dx S1 l1 r1 e1 rx p1 => hs _ _ _ _ _ _ _ r1 rx p1
end
end G
namespace G
open PySem L2

section
variable {X : Cx}
theorem opr_or {f : Value → Value → Sem Value} {r r' : R2} (h : OpR X f r) (h' : OpR X f r') : OpR X f (fun x y H Q => r x y H Q ∨ r' x y H Q) := fun pins s σ H x y v u Q I rx ry q =>
  q.elim (h pins s σ H x y v u Q I rx ry) (h' pins s σ H x y v u Q I rx ry)
theorem cr_or {f : Value} {r r' : List V → Hp → VK → Prop} (h : CallR X f r) (h' : CallR X f r') : CallR X f (fun x H Q => r x H Q ∨ r' x H Q) := fun pins s σ H x v Q I rx q =>
  q.elim (h pins s σ H x v Q I rx) (h' pins s σ H x v Q I rx)
theorem mt_or {f : String} {r r' : V → List V → Hp → VK → Prop} (h : MtR X f r) (h' : MtR X f r') : MtR X f (fun x y H Q => r x y H Q ∨ r' x y H Q) := fun pins s σ H x y v u Q I rx ry q =>
  q.elim (h pins s σ H x y v u Q I rx ry) (h' pins s σ H x y v u Q I rx ry)
end

def ofO (o : Option D) (S : Store) : Res D := match o with
  | some d => .ok d S
  | none => .stk
def ofB (o : Option Bool) (S : Store) : Res D := match o with
  | some d => .ok (.bl d) S
  | none => .stk

section
variable {K : PySem.W.Frag} {cl : Str → Option Addr} {W : Wd} {H : Hp} {S : Store}
/-- what is read as a list -/
theorem ls_of {v : V} {d : D} {xs : List D} (r : R K cl W H S) (h : Rep K cl W v d) (e : lsOf S d = some xs) : ∃ a vs, v = .ref a ∧ H a = some (.lst vs) ∧ Reps K cl W vs xs := by
  cases h with
  | lst g t =>
    have e := Option.some.inj e
    subst e
    exact ⟨_, _, rfl, r.sub _ _ g, t⟩
  | ref hn =>
    rename_i n
    unfold lsOf at e
    dsimp only at e
    cases q : S[n]? with
    | none => rw [q] at e; cases e
    | some mo =>
      rw [q] at e
      cases mo with
      | lst ys =>
        have e := Option.some.inj e
        subst e
        obtain ⟨_, vs, h1, h2⟩ := r.live n _ q (by intro z; cases z)
        exact ⟨_, vs, rfl, h1, h2⟩
      | _ => cases e
  | _ => cases e
theorem newT {vs : List V} {ds : List D} {Q : VK} {E : XK} (r : R K cl W H S) (t : Reps K cl W vs ds) (p : Post K cl (Rep K cl) W (.ok (.tup ds) S) Q E) : ∀ q, H q = none → Q (.ref q) (upd H q (.tup vs)) := fun q hq =>
  let ⟨r2, l2⟩ := r.fz (o := .tup vs) hq
  p _ _ _ l2 r2 (.tup (SqT.of upd_same) (t.up l2))
theorem newL {vs : List V} {ds : List D} {Q : VK} {E : XK} (r : R K cl W H S) (t : Reps K cl W vs ds) (p : Post K cl (Rep K cl) W (.ok (.lst ds) S) Q E) : ∀ q, H q = none → Q (.ref q) (upd H q (.lst vs)) := fun q hq =>
  let ⟨r2, l2⟩ := r.fz (o := .lst vs) hq
  p _ _ _ l2 r2 (.lst upd_same (t.up l2))
theorem newLv {vs : List V} {ds : List D} {Q : VK} {E : XK} (r : R K cl W H S) (t : Reps K cl W vs ds) (p : Post K cl (Rep K cl) W (.ok (.ref S.length) (S ++ [.lst ds])) Q E) : ∀ q, H q = none → Q (.ref q) (upd H q (.lst vs)) := fun q hq => by
  refine p (W.lv q) _ _ (Le.lv W q) (r.new hq ⟨vs, upd_same, t⟩) ?_
  have e : (W.lv q).ι S.length = q := by rw [← r.n]; exact W.lv_at q
  have z := Rep.ref (K := K) (cl := cl) (W := W.lv q) (n := S.length) (by show _ < W.n + 1; rw [r.n]; exact Nat.lt_succ_self _)
  rw [e] at z
  exact z
theorem atI_rep {vs : List V} {ds : List D} {i : Int} {d : D} (t : Reps K cl W vs ds) (h : atI ds i = some d) : ∃ v, atI vs i = some v ∧ Rep K cl W v d := by
  unfold atI at h ⊢
  rw [t.len]
  cases e : ixN ds.length i with
  | none => rw [e] at h; cases h
  | some j =>
    rw [e] at h
    exact t.at h
theorem atI_map {α β : Type} (f : α → β) {xs : List α} {i : Int} {x : α} (h : atI xs i = some x) : atI (xs.map f) i = some (f x) := by
  unfold atI at h ⊢
  rw [List.length_map]
  cases e : ixN xs.length i with
  | none => rw [e] at h; cases h
  | some j =>
    rw [e] at h
    have h : xs[j]? = some x := h
    show (xs.map f)[j]? = some (f x)
    rw [List.getElem?_map, h]
    rfl
end

/-! ### arithmetic -/
def addD (a b : D) (S : Store) : Res D := match a, b with
  | .int i, .int j => .ok (.int (i + j)) S
  | .str x, .str y => if x.length + y.length ≤ sizeLine then .ok (.str (x ++ y)) S else .stk
  | .tup x, .tup y => if x.length + y.length ≤ sizeLine then .ok (.tup (x ++ y)) S else .stk
  | a, b => (match lsOf S a, lsOf S b with
    | some x, some y => if x.length + y.length ≤ sizeLine then .ok (.lst (x ++ y)) S else .stk
    | _, _ => .stk)
def rAddA (K : PySem.W.Frag) : R2 := fun x y H Q => rI0 (fun i j => .int (i + j)) x y H Q ∨ (∃ i j, x = .str i ∧ y = .str j ∧ i.length + j.length ≤ sizeLine ∧ Q (.str (i ++ j)) H) ∨ rCatA K x y H Q ∨ rCat x y H Q
theorem op_addA {X : Cx} : OpR X (binaryOp .Add) (rAddA X.K) := opr_or op_add (opr_or op_add_str (opr_or op_catA op_cat))
theorem addL_s {K : PySem.W.Frag} {cl : Str → Option Addr} {W : Wd} {H : Hp} {S : Store} {x y : V} {a b : D} {Q : VK} {E : XK} (r : R K cl W H S) (rx : Rep K cl W x a) (ry : Rep K cl W y b)
    (p : Post K cl (Rep K cl) W (match lsOf S a, lsOf S b with
    | some x, some y => if x.length + y.length ≤ sizeLine then .ok (.lst (x ++ y)) S else .stk
    | _, _ => .stk) Q E) : rCat x y H Q := by
  cases e1 : lsOf S a with
  | none => rw [e1] at p; exact p.elim
  | some xs =>
    cases e2 : lsOf S b with
    | none => rw [e1, e2] at p; exact p.elim
    | some ys =>
      rw [e1, e2] at p
      dsimp only at p
      obtain ⟨l1, vs1, rfl, h1, t1⟩ := ls_of r rx e1
      obtain ⟨l2, vs2, rfl, h2, t2⟩ := ls_of r ry e2
      by_cases hz : xs.length + ys.length ≤ sizeLine
      · rw [if_pos hz] at p
        exact ⟨_, _, _, _, rfl, rfl, h1, h2, by rw [t1.len, t2.len]; exact hz, newL r (t1.app t2) p⟩
      · rw [if_neg hz] at p
        exact p.elim
theorem add_s {K : PySem.W.Frag} {cl : Str → Option Addr} : OpS K cl (rAddA K) addD := by
  intro W H S x y a b Q E r rx ry p
  unfold addD at p
  split at p
  · cases rx; cases ry
    exact .inl ⟨_, _, rfl, rfl, p.now r (.int _)⟩
  · cases rx; cases ry
    split at p
    · rename_i hz
      exact .inr (.inl ⟨_, _, rfl, rfl, hz, p.now r (.str _)⟩)
    · exact p.elim
  · cases rx with | tup h1 t1 =>
    cases ry with | tup h2 t2 =>
    split at p
    · rename_i hz
      refine .inr (.inr (.inl ⟨_, _, _, _, rfl, rfl, sqT_up r.sub h1, sqT_up r.sub h2, by rw [t1.len, t2.len]; exact hz, fun e => ?_, fun _ e => ?_, fun _ _ => newT r (t1.app t2) p⟩))
      · subst e
        cases t1
        exact p.now r (.tup h2 t2)
      · subst e
        cases t2
        rw [List.append_nil] at p
        exact p.now r (.tup h1 t1)
    · exact p.elim
  · exact .inr (.inr (.inr (addL_s r rx ry p)))
def subD (a b : D) (S : Store) : Res D := match a, b with
  | .int i, .int j => .ok (.int (i - j)) S
  | _, _ => .stk
theorem sub_s {K : PySem.W.Frag} {cl : Str → Option Addr} : OpS K cl (rI0 fun i j => .int (i - j)) subD := by
  intro W H S x y a b Q E r rx ry p
  unfold subD at p
  split at p
  · cases rx; cases ry
    exact ⟨_, _, rfl, rfl, p.now r (.int _)⟩
  · exact p.elim
def sm64 (i : Int) : Bool := decide (-18446744073709551616 < i) && decide (i < 18446744073709551616)
theorem sm64_of {i : Int} (h : sm64 i = true) : -(2 ^ 64) < i ∧ i < 2 ^ 64 := by
  unfold sm64 at h
  rw [Bool.and_eq_true, decide_eq_true_eq, decide_eq_true_eq] at h
  omega
/-- within the bounds of a range -/
def smR (i : Int) : Bool := decide (-4611686018427387904 ≤ i) && decide (i < 4611686018427387904)
theorem smR_of {i : Int} (h : smR i = true) : -(2 ^ 62) ≤ i ∧ i < 2 ^ 62 := by
  unfold smR at h
  rw [Bool.and_eq_true, decide_eq_true_eq, decide_eq_true_eq] at h
  omega
theorem smR_nat {n : Nat} (h : n ≤ 1000000) : smR (n : Int) = true := by
  unfold smR
  rw [Bool.and_eq_true, decide_eq_true_eq, decide_eq_true_eq]
  omega
theorem smR_int {i : Int} (h : 0 ≤ i) (h1 : i ≤ 1000000) : smR i = true := by
  unfold smR
  rw [Bool.and_eq_true, decide_eq_true_eq, decide_eq_true_eq]
  omega
def mulD (a b : D) (S : Store) : Res D := match a, b with
  | .int i, .int j => if (sm64 i || sm64 j) = true then .ok (.int (i * j)) S else .stk
  | a, .int k => (match lsOf S a with
    | some xs => if 0 ≤ k ∧ smR k = true ∧ xs.length * k.toNat ≤ sizeLine then .ok (.lst (List.replicate k.toNat xs).flatten) S else .stk
    | none => .stk)
  | _, _ => .stk
def rMulA : R2 := fun x y H Q => rI CMul (fun i j => .int (i * j)) x y H Q ∨ rRep x y H Q
theorem op_mulA {X : Cx} : OpR X (binaryOp .Mult) rMulA := opr_or op_mul op_rep
theorem Reps.rep {K : PySem.W.Frag} {cl : Str → Option Addr} {W : Wd} {vs : List V} {ds : List D} (t : Reps K cl W vs ds) : ∀ n : Nat, Reps K cl W (List.replicate n vs).flatten (List.replicate n ds).flatten
  | 0 => .nil
  | n + 1 => by
    rw [List.replicate_succ, List.replicate_succ, List.flatten_cons, List.flatten_cons]
    exact t.app (Reps.rep t n)
theorem mul_s {K : PySem.W.Frag} {cl : Str → Option Addr} : OpS K cl rMulA mulD := by
  intro W H S x y a b Q E r rx ry p
  unfold mulD at p
  split at p
  · cases rx; cases ry
    split at p
    · rename_i hz
      refine .inl ⟨_, _, rfl, rfl, ?_, p.now r (.int _)⟩
      rcases Bool.or_eq_true _ _ |>.mp hz with h | h
      · exact .inl (sm64_of h)
      · exact .inr (sm64_of h)
    · exact p.elim
  · rename_i k _
    cases ry
    split at p
    · rename_i xs e1
      obtain ⟨l1, vs1, rfl, h1, t1⟩ := ls_of r rx e1
      split at p
      · rename_i hz
        exact .inr ⟨_, _, _, rfl, rfl, h1, by have := (smR_of hz.2.1).1; omega, by have := (smR_of hz.2.1).2; omega, by rw [t1.len]; exact hz.2.2, newL r (t1.rep _) p⟩
      · exact p.elim
    · exact p.elim
  · exact p.elim
def fdivD (a b : D) (S : Store) : Res D := match a, b with
  | .int i, .int j => if 0 < j ∧ j.natAbs.log2 < 9000 then .ok (.int (i / j)) S else .stk
  | _, _ => .stk
theorem fdiv_s {K : PySem.W.Frag} {cl : Str → Option Addr} : OpS K cl (rI CDivW fun i j => .int (i / j)) fdivD := by
  intro W H S x y a b Q E r rx ry p
  unfold fdivD at p
  split at p
  · cases rx; cases ry
    split at p
    · rename_i hz
      exact ⟨_, _, rfl, rfl, hz, p.now r (.int _)⟩
    · exact p.elim
  · exact p.elim
def modD (a b : D) (S : Store) : Res D := match a, b with
  | .int i, .int j => if 0 < j then .ok (.int (i % j)) S else .stk
  | _, _ => .stk
theorem mod_s {K : PySem.W.Frag} {cl : Str → Option Addr} : OpS K cl (rI (fun _ j => 0 < j) fun i j => .int (i % j)) modD := by
  intro W H S x y a b Q E r rx ry p
  unfold modD at p
  split at p
  · cases rx; cases ry
    split at p
    · rename_i hz
      exact ⟨_, _, rfl, rfl, hz, p.now r (.int _)⟩
    · exact p.elim
  · exact p.elim
def powD (a b : D) (S : Store) : Res D := match a, b with
  | .int i, .int j => if 0 ≤ j ∧ j ≤ 1000000 ∧ i.natAbs < 2 ^ 64 then .ok (.int (i ^ j.toNat)) S else .stk
  | _, _ => .stk
theorem pow_s {K : PySem.W.Frag} {cl : Str → Option Addr} : OpS K cl (rI CPow fun i j => .int (i ^ j.toNat)) powD := by
  intro W H S x y a b Q E r rx ry p
  unfold powD at p
  split at p
  · cases rx; cases ry
    split at p
    · rename_i hz
      exact ⟨_, _, rfl, rfl, hz, p.now r (.int _)⟩
    · exact p.elim
  · exact p.elim
def negD (a : D) (S : Store) : Res D := match a with
  | .int i => .ok (.int (-i)) S
  | _ => .stk
theorem neg_s {K : PySem.W.Frag} {cl : Str → Option Addr} : UnS K cl (rU fun i => .int (-i)) negD := by
  intro W H S x a Q E r rx p
  unfold negD at p
  split at p
  · cases rx
    exact ⟨_, rfl, p.now r (.int _)⟩
  · exact p.elim

/-! ### comparisons -/
def scV : D → Option V
  | .non => some .non
  | .bl b => some (.bl b)
  | .int i => some (.int i)
  | .str x => some (.str x)
  | _ => none
def scVs : List D → Option (List V)
  | [] => some []
  | d :: ds => (match scV d, scVs ds with
    | some v, some vs => some (v :: vs)
    | _, _ => none)
mutual
def toPy : D → Option PyData
  | .non => some .none
  | .bl b => some (.bool b)
  | .int i => some (.int i)
  | .str x => some (.str x)
  | .tup xs => (toPys xs).map PyData.tuple
  | .lst xs => (toPys xs).map PyData.list
  | .dct _ => none
  | .ins _ _ => none
  | .ref _ => none
  | .scr _ => none
def toPys : List D → Option (List PyData)
  | [] => some []
  | d :: ds => (match toPy d, toPys ds with
    | some v, some vs => some (v :: vs)
    | _, _ => none)
end
def toPyS (S : Store) (d : D) : Option PyData := match d with
  | .ref n => (match S[n]? with
    | some (.lst xs) => (toPys xs).map PyData.list
    | _ => none)
  | d => toPy d
section
variable {K : PySem.W.Frag} {cl : Str → Option Addr} {W : Wd} {H : Hp} {S : Store}
theorem sc_of {v w : V} {d : D} (h : Rep K cl W v d) (e : scV d = some w) : v = w := by
  cases h <;> first | exact Option.some.inj e | cases e
theorem sc_flat {w : V} {d : D} (e : scV d = some w) : flatV w = true := by
  cases d <;> first | (have e := Option.some.inj e; subst e; rfl) | cases e
theorem scs_of : ∀ {vs ws : List V} {ds : List D}, Reps K cl W vs ds → scVs ds = some ws → vs = ws ∧ ws.all flatV = true
  | _, _, _, .nil, e => by
    have e := Option.some.inj e
    subst e
    exact ⟨rfl, rfl⟩
  | _, _, _, .cons (d := d) (ds := ds) h t, e => by
    unfold scVs at e
    cases e1 : scV d with
    | none => rw [e1] at e; cases e
    | some v =>
      cases e2 : scVs ds with
      | none => rw [e1, e2] at e; cases e
      | some vs =>
        rw [e1, e2] at e
        have e := Option.some.inj e
        subst e
        obtain ⟨h1, h2⟩ := scs_of t e2
        exact ⟨by rw [sc_of h e1, h1], by rw [List.all_cons, sc_flat e1, h2]; rfl⟩
mutual
theorem dp_of (r : ∀ a o, W.G a = some o → H a = some o) : ∀ {v : V} {d : D} {q : PyData}, Rep K cl W v d → toPy d = some q → Dp K H v q
  | _, _, _, .non, e => by cases e; exact .non
  | _, _, _, .bl b, e => by cases e; exact .bl b
  | _, _, _, .int b, e => by cases e; exact .int b
  | _, _, _, .str b, e => by cases e; exact .str b
  | _, _, _, .tup (ds := ds) h t, e => by
    unfold toPy at e
    cases e1 : toPys ds with
    | none => rw [e1] at e; cases e
    | some qs =>
      rw [e1] at e
      cases e
      exact .tup (sqT_up r h) (dps_of r t e1)
  | _, _, _, .lst (ds := ds) h t, e => by
    unfold toPy at e
    cases e1 : toPys ds with
    | none => rw [e1] at e; cases e
    | some qs =>
      rw [e1] at e
      cases e
      exact .lst (SqL.of (r _ _ h)) (dps_of r t e1)
  | _, _, _, .dct _ _, e => by cases e
  | _, _, _, .ins _ _ _, e => by cases e
  | _, _, _, .ref _, e => by cases e
  | _, _, _, .scr _, e => by cases e
theorem dps_of (r : ∀ a o, W.G a = some o → H a = some o) : ∀ {v : List V} {d : List D} {q : List PyData}, Reps K cl W v d → toPys d = some q → DpAll K H v q
  | _, _, _, .nil, e => by cases e; exact .nil
  | _, _, _, .cons (d := d) (ds := ds) h t, e => by
    unfold toPys at e
    cases e1 : toPy d with
    | none => rw [e1] at e; cases e
    | some v =>
      cases e2 : toPys ds with
      | none => rw [e1, e2] at e; cases e
      | some vs =>
        rw [e1, e2] at e
        cases e
        exact .cons (dp_of r h e1) (dps_of r t e2)
end
theorem dpS_of {v : V} {d : D} {q : PyData} (r : R K cl W H S) (h : Rep K cl W v d) (e : toPyS S d = some q) : Dp K H v q := by
  cases d with
  | ref n =>
    unfold toPyS at e
    dsimp only at e
    cases q1 : S[n]? with
    | none => rw [q1] at e; cases e
    | some mo =>
      rw [q1] at e
      cases mo with
      | lst ys =>
        cases h with | ref hn =>
        obtain ⟨_, vs, h1, h2⟩ := r.live n _ q1 (by intro z; cases z)
        cases e1 : toPys ys with
        | none => simp only [e1] at e; cases e
        | some qs =>
          simp only [e1] at e
          cases e
          exact .lst (SqL.of h1) (dps_of r.sub h2 e1)
      | _ => cases e
  | _ => exact dp_of r.sub h e
end
def eqB (S : Store) (a b : D) : Option Bool := match scV a, scV b with
  | some x, some y => if scal x y = true then some (decide (x = y)) else some (eqV x y)
  | _, _ => (match toPyS S a, toPyS S b with
    | some p, some q => if (SeqAt.shaped p && SeqAt.shaped q) = true then some (PyData.eqv p q) else none
    | _, _ => none)
def eqD (a b : D) (S : Store) : Res D := ofB (eqB S a b) S
def neD (a b : D) (S : Store) : Res D := ofB ((eqB S a b).map not) S
def rEqA (K : PySem.W.Frag) : R2 := fun x y H Q => rEq x y H Q ∨ rEqD K x y H Q
def rNeA (K : PySem.W.Frag) : R2 := fun x y H Q => rNe x y H Q ∨ rNeD K x y H Q
theorem op_eqA {X : Cx} {k : Nat} (hr : Room k X.A) : OpR X (compareOp .Eq) (rEqA X.K) := opr_or op_eq (op_eqD hr.units)
theorem op_neA {X : Cx} {k : Nat} (hr : Room k X.A) : OpR X (compareOp .NotEq) (rNeA X.K) := opr_or op_ne (op_neD hr.units)
section
variable {K : PySem.W.Frag} {cl : Str → Option Addr} {W : Wd} {H : Hp} {S : Store}
theorem eq_cases {x y : V} {a b : D} {k : Bool} (r : R K cl W H S) (rx : Rep K cl W x a) (ry : Rep K cl W y b) (e : eqB S a b = some k) :
    (scal x y = true ∧ k = decide (x = y)) ∨ ∃ d e, Dp K H x d ∧ Dp K H y e ∧ SeqAt.shaped d = true ∧ SeqAt.shaped e = true ∧ k = PyData.eqv d e := by
  unfold eqB at e
  split at e
  · rename_i u w e1 e2
    have h1 := sc_of rx e1
    have h2 := sc_of ry e2
    subst h1 h2
    split at e
    · rename_i hs
      exact .inl ⟨hs, (Option.some.inj e).symm⟩
    · rename_i hs
      right
      cases rx <;> first | (cases e1; done) | (cases ry <;> first | (cases e2; done) | (exfalso; exact hs rfl) | exact ⟨_, _, .bl _, .int _, rfl, rfl, (Option.some.inj e).symm⟩ | exact ⟨_, _, .int _, .bl _, rfl, rfl, (Option.some.inj e).symm⟩)
  · split at e
    · rename_i p q e1 e2
      split at e
      · rename_i hs
        rw [Bool.and_eq_true] at hs
        exact .inr ⟨p, q, dpS_of r rx e1, dpS_of r ry e2, hs.1, hs.2, (Option.some.inj e).symm⟩
      · cases e
    · cases e
theorem eq_s : OpS K cl (rEqA K) eqD := by
  intro W H S x y a b Q E r rx ry p
  unfold eqD at p
  cases e : eqB S a b with
  | none => rw [e] at p; exact p.elim
  | some k =>
    rw [e] at p
    have q : Q (.bl k) H := p.now r (.bl k)
    rcases eq_cases r rx ry e with ⟨h, rfl⟩ | ⟨d', e', h1, h2, h3, h4, rfl⟩
    · exact .inl ⟨h, q⟩
    · exact .inr ⟨d', e', h1, h2, h3, h4, q⟩
theorem ne_s : OpS K cl (rNeA K) neD := by
  intro W H S x y a b Q E r rx ry p
  unfold neD at p
  cases e : eqB S a b with
  | none => rw [e] at p; exact p.elim
  | some k =>
    rw [e] at p
    have q : Q (.bl (!k)) H := p.now r (.bl _)
    rcases eq_cases r rx ry e with ⟨h, rfl⟩ | ⟨d', e', h1, h2, h3, h4, rfl⟩
    · exact .inl ⟨h, q⟩
    · exact .inr ⟨d', e', h1, h2, h3, h4, q⟩
end
def ltD (a b : D) (S : Store) : Res D := match a, b with
  | .int i, .int j => .ok (.bl (decide (i < j))) S
  | .str x, .str y => .ok (.bl (decide (x.cps.toList < y.cps.toList))) S
  | _, _ => .stk
def rLtA : R2 := fun x y H Q => rI0 (fun i j => .bl (decide (i < j))) x y H Q ∨ (∃ i j, x = .str i ∧ y = .str j ∧ Q (.bl (decide (i.cps.toList < j.cps.toList))) H)
theorem op_ltA {X : Cx} : OpR X (compareOp .Lt) rLtA := opr_or op_lt op_lt_str
theorem lt_s {K : PySem.W.Frag} {cl : Str → Option Addr} : OpS K cl rLtA ltD := by
  intro W H S x y a b Q E r rx ry p
  unfold ltD at p
  split at p
  · cases rx; cases ry
    exact .inl ⟨_, _, rfl, rfl, p.now r (.bl _)⟩
  · cases rx; cases ry
    exact .inr ⟨_, _, rfl, rfl, p.now r (.bl _)⟩
  · exact p.elim
def leD (a b : D) (S : Store) : Res D := match a, b with
  | .int i, .int j => .ok (.bl (decide (i ≤ j))) S
  | .str x, .str y => .ok (.bl (!decide (y.cps.toList < x.cps.toList))) S
  | _, _ => .stk
def rLeA : R2 := fun x y H Q => rI0 (fun i j => .bl (decide (i ≤ j))) x y H Q ∨ (∃ i j, x = .str i ∧ y = .str j ∧ Q (.bl (!decide (j.cps.toList < i.cps.toList))) H)
theorem op_leA {X : Cx} : OpR X (compareOp .LtE) rLeA := opr_or op_le op_le_str
theorem le_s {K : PySem.W.Frag} {cl : Str → Option Addr} : OpS K cl rLeA leD := by
  intro W H S x y a b Q E r rx ry p
  unfold leD at p
  split at p
  · cases rx; cases ry
    exact .inl ⟨_, _, rfl, rfl, p.now r (.bl _)⟩
  · cases rx; cases ry
    exact .inr ⟨_, _, rfl, rfl, p.now r (.bl _)⟩
  · exact p.elim
def gtD (a b : D) (S : Store) : Res D := match a, b with
  | .int i, .int j => .ok (.bl (decide (j < i))) S
  | _, _ => .stk
theorem gt_s {K : PySem.W.Frag} {cl : Str → Option Addr} : OpS K cl (rI0 fun i j => .bl (decide (j < i))) gtD := by
  intro W H S x y a b Q E r rx ry p
  unfold gtD at p
  split at p
  · cases rx; cases ry
    exact ⟨_, _, rfl, rfl, p.now r (.bl _)⟩
  · exact p.elim
def geD (a b : D) (S : Store) : Res D := match a, b with
  | .int i, .int j => .ok (.bl (decide (j ≤ i))) S
  | _, _ => .stk
theorem ge_s {K : PySem.W.Frag} {cl : Str → Option Addr} : OpS K cl (rI0 fun i j => .bl (decide (j ≤ i))) geD := by
  intro W H S x y a b Q E r rx ry p
  unfold geD at p
  split at p
  · cases rx; cases ry
    exact ⟨_, _, rfl, rfl, p.now r (.bl _)⟩
  · exact p.elim
/-- is None, is not None -/
def isNb : D → Bool
  | .non => true
  | _ => false
def isND (a b : D) (S : Store) : Res D := match a, b with
  | a, .non => .ok (.bl (isNb a)) S
  | .bl x, .bl y => .ok (.bl (decide (x = y))) S
  | _, _ => .stk
def notND (a b : D) (S : Store) : Res D := match a, b with
  | a, .non => .ok (.bl (!isNb a)) S
  | .bl x, .bl y => .ok (.bl (!decide (x = y))) S
  | _, _ => .stk
def rIsA : R2 := fun x y H Q => (y = .non ∧ Q (.bl (decide (x = .non))) H) ∨ (∃ a b, x = .bl a ∧ y = .bl b ∧ Q (.bl (decide (a = b))) H)
def rNotA : R2 := fun x y H Q => (y = .non ∧ Q (.bl (!decide (x = .non))) H) ∨ (∃ a b, x = .bl a ∧ y = .bl b ∧ Q (.bl (!decide (a = b))) H)
theorem op_isA {X : Cx} : OpR X (compareOp .Is) rIsA := opr_or op_isN op_is_bl
theorem op_notA {X : Cx} : OpR X (compareOp .IsNot) rNotA := opr_or op_notN op_isnot_bl
theorem isN_rep {K : PySem.W.Frag} {cl : Str → Option Addr} {W : Wd} {x : V} {a : D} (rx : Rep K cl W x a) : decide (x = .non) = isNb a := by
  cases rx <;> first | rfl | exact decide_eq_false (by intro z; cases z)
theorem isN_s {K : PySem.W.Frag} {cl : Str → Option Addr} : OpS K cl rIsA isND := by
  intro W H S x y a b Q E r rx ry p
  unfold isND at p
  split at p
  · cases ry
    exact .inl ⟨rfl, by rw [isN_rep rx]; exact p.now r (.bl _)⟩
  · cases rx; cases ry
    exact .inr ⟨_, _, rfl, rfl, p.now r (.bl _)⟩
  · exact p.elim
theorem notN_s {K : PySem.W.Frag} {cl : Str → Option Addr} : OpS K cl rNotA notND := by
  intro W H S x y a b Q E r rx ry p
  unfold notND at p
  split at p
  · cases ry
    exact .inl ⟨rfl, by rw [isN_rep rx]; exact p.now r (.bl _)⟩
  · cases rx; cases ry
    exact .inr ⟨_, _, rfl, rfl, p.now r (.bl _)⟩
  · exact p.elim
/-- in: flat items; one sign of a text -/
def inB (S : Store) (x y : D) : Option Bool := match y with
  | .str z => (match x with
    | .str ⟨⟨[c]⟩⟩ => some (decide (c ∈ z.cps.toList))
    | _ => none)
  | .tup ds => (match scV x, scVs ds with
    | some v, some vs => some (inV v vs)
    | _, _ => none)
  | y => (match lsOf S y with
    | some ds => (match scV x, scVs ds with
      | some v, some vs => some (inV v vs)
      | _, _ => none)
    | none => none)
def inD (a b : D) (S : Store) : Res D := ofB (inB S a b) S
def notInD (a b : D) (S : Store) : Res D := ofB ((inB S a b).map not) S
def rInA (K : PySem.W.Frag) : R2 := fun x y H Q => (∃ (c : Nat) (z : Str), x = .str ⟨#[c]⟩ ∧ y = .str z ∧ Q (.bl (decide (c ∈ z.cps.toList))) H) ∨ rIn K false x y H Q
def rNotInA (K : PySem.W.Frag) : R2 := fun x y H Q => (∃ (c : Nat) (z : Str), x = .str ⟨#[c]⟩ ∧ y = .str z ∧ Q (.bl (!decide (c ∈ z.cps.toList))) H) ∨ rIn K true x y H Q
theorem op_inA {X : Cx} : OpR X (compareOp .In) (rInA X.K) := opr_or op_in_sign op_in_seq
theorem op_notInA {X : Cx} : OpR X (compareOp .NotIn) (rNotInA X.K) := opr_or op_notIn_sign op_notIn_seq
theorem in_cases {K : PySem.W.Frag} {cl : Str → Option Addr} {W : Wd} {H : Hp} {S : Store} {x y : V} {a b : D} {k : Bool} (r : R K cl W H S) (rx : Rep K cl W x a) (ry : Rep K cl W y b) (e : inB S a b = some k) :
    (∃ (c : Nat) (z : Str), x = .str ⟨#[c]⟩ ∧ y = .str z ∧ k = decide (c ∈ z.cps.toList)) ∨ ∃ p xs, y = .ref p ∧ (SqL K H p xs ∨ SqT K H p xs) ∧ flatV x = true ∧ xs.all flatV = true ∧ k = inV x xs := by
  unfold inB at e
  split at e
  · cases ry
    split at e
    · cases rx
      exact .inl ⟨_, _, rfl, rfl, (Option.some.inj e).symm⟩
    · cases e
  · cases ry with | tup h t =>
    split at e
    · rename_i v vs e1 e2
      obtain ⟨rfl, h2⟩ := scs_of t e2
      obtain rfl := sc_of rx e1
      exact .inr ⟨_, _, rfl, .inr (sqT_up r.sub h), sc_flat e1, h2, (Option.some.inj e).symm⟩
    · cases e
  · split at e
    · rename_i ds e0
      obtain ⟨p, us, rfl, h, t⟩ := ls_of r ry e0
      split at e
      · rename_i v vs e1 e2
        obtain ⟨rfl, h2⟩ := scs_of t e2
        obtain rfl := sc_of rx e1
        exact .inr ⟨_, _, rfl, .inl (SqL.of h), sc_flat e1, h2, (Option.some.inj e).symm⟩
      · cases e
    · cases e
theorem in_s {K : PySem.W.Frag} {cl : Str → Option Addr} : OpS K cl (rInA K) inD := by
  intro W H S x y a b Q E r rx ry p
  unfold inD at p
  cases e : inB S a b with
  | none => rw [e] at p; exact p.elim
  | some k =>
    rw [e] at p
    have q : Q (.bl k) H := p.now r (.bl k)
    rcases in_cases r rx ry e with ⟨c, z, h1, h2, rfl⟩ | ⟨u, xs, h1, h2, h3, h4, rfl⟩
    · exact .inl ⟨c, z, h1, h2, q⟩
    · exact .inr ⟨u, xs, h1, h2, h3, h4, q⟩
theorem notIn_s {K : PySem.W.Frag} {cl : Str → Option Addr} : OpS K cl (rNotInA K) notInD := by
  intro W H S x y a b Q E r rx ry p
  unfold notInD at p
  cases e : inB S a b with
  | none => rw [e] at p; exact p.elim
  | some k =>
    rw [e] at p
    have q : Q (.bl (!k)) H := p.now r (.bl _)
    rcases in_cases r rx ry e with ⟨c, z, h1, h2, rfl⟩ | ⟨u, xs, h1, h2, h3, h4, rfl⟩
    · exact .inl ⟨c, z, h1, h2, q⟩
    · exact .inr ⟨u, xs, h1, h2, h3, h4, q⟩

/-! ### subscripts -/
def ixO (S : Store) (a b : D) : Option D := match a, b with
  | .tup ds, .int i => atI ds i
  | .str z, .int i => if z.length ≤ sizeLine then (atI z.cps.toList i).map (fun c => .str ⟨#[c]⟩) else none
  | .scr ns, .int i => (atI ns i).map D.int
  | a, .int i => (match lsOf S a with
    | some ds => atI ds i
    | none => none)
  | _, _ => none
def ixD (a b : D) (S : Store) : Res D := ofO (ixO S a b) S
theorem ix_s {K : PySem.W.Frag} {cl : Str → Option Addr} : OpS K cl (rIx K) ixD := by
  intro W H S x y a b Q E r rx ry p
  unfold ixD at p
  cases e : ixO S a b with
  | none => rw [e] at p; exact p.elim
  | some d =>
    rw [e] at p
    unfold ixO at e
    split at e
    · cases ry
      cases rx with | tup h t =>
      obtain ⟨v, h1, h2⟩ := atI_rep t e
      exact .inr (.inl ⟨_, _, _, v, rfl, rfl, sqT_up r.sub h, h1, p.now r h2⟩)
    · cases ry; cases rx
      split at e
      · rename_i hz
        cases q : atI _ _ with
        | none => rw [q] at e; cases e
        | some c =>
          rw [q] at e
          cases e
          exact .inr (.inr ⟨_, _, c, rfl, rfl, hz, q, p.now r (.str _)⟩)
      · cases e
    · cases ry
      cases rx with | scr h =>
      cases q : atI _ _ with
      | none => rw [q] at e; cases e
      | some c =>
        rw [q] at e
        cases e
        exact .inl ⟨_, _, _, _, rfl, rfl, sqL_up r.sub h, atI_map V.int q, p.now r (.int _)⟩
    · cases ry
      split at e
      · rename_i ds e0
        obtain ⟨p', us, rfl, h, t⟩ := ls_of r rx e0
        obtain ⟨v, h1, h2⟩ := atI_rep t e
        exact .inl ⟨_, _, _, v, rfl, rfl, SqL.of h, h1, p.now r h2⟩
      · cases e
    · cases e
theorem ints_rep {K : PySem.W.Frag} {cl : Str → Option Addr} {W : Wd} : ∀ ns : List Int, Reps K cl W (ns.map V.int) (ns.map D.int)
  | [] => .nil
  | n :: ns => .cons (.int n) (ints_rep ns)
def cutD (xs : List D) (lo hi : Option Int) : List D := (xs.drop (HT.sIx xs.length 0 lo)).take (HT.sIx xs.length xs.length hi - HT.sIx xs.length 0 lo)
theorem cut_rep {K : PySem.W.Frag} {cl : Str → Option Addr} {W : Wd} {vs : List V} {ds : List D} (t : Reps K cl W vs ds) (lo hi : Option Int) : Reps K cl W (cutV vs lo hi) (cutD ds lo hi) := by
  unfold cutV cutD
  rw [t.len]
  exact (t.drop _).take _
def slD (a : D) (lo hi : Option Int) (S : Store) : Res D := match a with
  | .tup ds => .ok (.tup (cutD ds lo hi)) S
  | .str z => if z.length ≤ sizeLine then .ok (.str (cutS z lo hi)) S else .stk
  | .scr ns => .ok (.lst (cutD (ns.map D.int) lo hi)) S
  | a => (match lsOf S a with
    | some ds => .ok (.lst (cutD ds lo hi)) S
    | none => .stk)
def rSlAll (K : PySem.W.Frag) : V → Option Int → Option Int → Hp → VK → Prop := fun x lo hi H Q => rSlA K x lo hi H Q ∨ rSlS x lo hi H Q ∨ rSlL K x lo hi H Q
theorem sl_all {X : Cx} : SlR X (rSlAll X.K) := sl_tupA.or (sl_str.or sl_list)
theorem cut_all {xs : List D} {lo hi : Option Int} (h : HT.sIx xs.length 0 lo = 0 ∧ HT.sIx xs.length xs.length hi = xs.length) : cutD xs lo hi = xs := by
  unfold cutD
  rw [h.1, h.2]
  simp
theorem sl_s {K : PySem.W.Frag} {cl : Str → Option Addr} : SlS K cl (rSlAll K) slD := by
  intro W H S x a lo hi Q E r rx p
  unfold slD at p
  split at p
  · cases rx with | tup h t =>
    refine .inl ⟨_, _, rfl, sqT_up r.sub h, fun e => ?_, fun _ => newT r (cut_rep t lo hi) p⟩
    rw [t.len] at e
    rw [cut_all e] at p
    exact p.now r (.tup h t)
  · cases rx
    split at p
    · rename_i hz
      exact .inr (.inl ⟨_, rfl, hz, p.now r (.str _)⟩)
    · exact p.elim
  · cases rx with | scr h =>
    exact .inr (.inr ⟨_, _, rfl, sqL_up r.sub h, newL r (cut_rep (ints_rep _) lo hi) p⟩)
  · split at p
    · rename_i ds e0
      obtain ⟨p', us, rfl, h, t⟩ := ls_of r rx e0
      exact .inr (.inr ⟨_, _, rfl, SqL.of h, newL r (cut_rep t lo hi) p⟩)
    · exact p.elim

/-! ### built-ins by values -/
def lenO (S : Store) (d : D) : Option Nat := match d with
  | .str y => if y.length ≤ sizeLine then some y.length else none
  | .tup ds => some ds.length
  | .scr ns => some ns.length
  | d => (match lsOf S d with
    | some ds => some ds.length
    | none => none)
def lenD (as : List D) (S : Store) : Res D := match as with
  | [d] => ofO ((lenO S d).map fun n => .int n) S
  | _ => .stk
theorem len_s {K : PySem.W.Frag} {cl : Str → Option Addr} : FnS K cl (fun xs H Q => ∃ x n, xs = [x] ∧ LenV K x H n ∧ Q (.int n) H) lenD := by
  intro W H S x a Q E r rx p
  unfold lenD at p
  split at p
  · rename_i d
    cases rx with | cons rx rn =>
    cases rn
    cases e : lenO S d with
    | none => rw [e] at p; exact p.elim
    | some n =>
      rw [e] at p
      refine ⟨_, n, rfl, ?_, p.now r (.int _)⟩
      unfold lenO at e
      split at e
      · cases rx
        split at e
        · rename_i hz
          exact ⟨hz, (Option.some.inj e).symm⟩
        · cases e
      · cases rx with | tup h t =>
        exact .inr ⟨_, sqT_up r.sub h, by rw [t.len]; exact (Option.some.inj e).symm⟩
      · cases rx with | scr h =>
        exact .inl ⟨_, sqL_up r.sub h, by rw [List.length_map]; exact (Option.some.inj e).symm⟩
      · split at e
        · rename_i ds e0
          obtain ⟨p', us, rfl, h, t⟩ := ls_of r rx e0
          exact .inl ⟨_, SqL.of h, by rw [t.len]; exact (Option.some.inj e).symm⟩
        · cases e
  · exact p.elim
def intD (as : List D) (S : Store) : Res D := match as with
  | [.int i] => .ok (.int i) S
  | [.bl k] => .ok (.int (if k then 1 else 0)) S
  | _ => .stk
theorem int_s {K : PySem.W.Frag} {cl : Str → Option Addr} : FnS K cl (fun xs H Q => (∃ i, xs = [.int i] ∧ Q (.int i) H) ∨ ∃ k, xs = [.bl k] ∧ Q (.int (if k then 1 else 0)) H) intD := by
  intro W H S x a Q E r rx p
  unfold intD at p
  split at p
  · cases rx with | cons rx rn =>
    cases rn; cases rx
    exact .inl ⟨_, rfl, p.now r (.int _)⟩
  · cases rx with | cons rx rn =>
    cases rn; cases rx
    exact .inr ⟨_, rfl, p.now r (.int _)⟩
  · exact p.elim
def boolD (as : List D) (S : Store) : Res D := match as with
  | [.int i] => .ok (.bl (i != 0)) S
  | [.bl k] => .ok (.bl k) S
  | _ => .stk
theorem bool_s {K : PySem.W.Frag} {cl : Str → Option Addr} : FnS K cl (fun xs H Q => (∃ i, xs = [.int i] ∧ Q (.bl (i != 0)) H) ∨ ∃ k, xs = [.bl k] ∧ Q (.bl k) H) boolD := by
  intro W H S x a Q E r rx p
  unfold boolD at p
  split at p
  · cases rx with | cons rx rn =>
    cases rn; cases rx
    exact .inl ⟨_, rfl, p.now r (.bl _)⟩
  · cases rx with | cons rx rn =>
    cases rn; cases rx
    exact .inr ⟨_, rfl, p.now r (.bl _)⟩
  · exact p.elim
/-- the items of a list or tuple -/
def sqOf (S : Store) (d : D) : Option (List D) := match d with
  | .tup ds => some ds
  | d => lsOf S d
theorem sq_of' {K : PySem.W.Frag} {cl : Str → Option Addr} {W : Wd} {H : Hp} {S : Store} {v : V} {d : D} {xs : List D} (r : R K cl W H S) (h : Rep K cl W v d) (e : sqOf S d = some xs) :
    ∃ a vs, v = .ref a ∧ (SqL K H a vs ∨ SqT K H a vs) ∧ Reps K cl W vs xs := by
  unfold sqOf at e
  split at e
  · cases h with | tup h t =>
    cases e
    exact ⟨_, _, rfl, .inr (sqT_up r.sub h), t⟩
  · obtain ⟨p', us, rfl, h, t⟩ := ls_of r h e
    exact ⟨_, _, rfl, .inl (SqL.of h), t⟩
def tupleD (as : List D) (S : Store) : Res D := match as with
  | [d] => ofO ((sqOf S d).map D.tup) S
  | _ => .stk
theorem tuple_s {K : PySem.W.Frag} {cl : Str → Option Addr} : FnS K cl (fun xs H Q => ∃ p ys, xs = [.ref p] ∧ ((SqL K H p ys ∧ ∀ l, H l = none → Q (.ref l) (upd H l (.tup ys))) ∨ (SqT K H p ys ∧ Q (.ref p) H))) tupleD := by
  intro W H S x a Q E r rx p
  unfold tupleD at p
  split at p
  · rename_i d
    cases rx with | cons rx rn =>
    cases rn
    cases e : sqOf S d with
    | none => rw [e] at p; exact p.elim
    | some ds =>
      rw [e] at p
      unfold sqOf at e
      split at e
      · cases rx with | tup h t =>
        cases e
        exact ⟨_, _, rfl, .inr ⟨sqT_up r.sub h, p.now r (.tup h t)⟩⟩
      · obtain ⟨p', us, rfl, h, t⟩ := ls_of r rx e
        exact ⟨_, _, rfl, .inl ⟨SqL.of h, newT r t p⟩⟩
  · exact p.elim
def listD (as : List D) (S : Store) : Res D := match as with
  | [d] => ofO ((sqOf S d).map D.lst) S
  | _ => .stk
def listL (as : List D) (S : Store) : Res D := match as with
  | [d] => (match sqOf S d with
    | some xs => .ok (.ref S.length) (S ++ [.lst xs])
    | none => .stk)
  | _ => .stk
theorem list_s {K : PySem.W.Frag} {cl : Str → Option Addr} : FnS K cl (fun xs H Q => ∃ p ys, xs = [.ref p] ∧ (SqL K H p ys ∨ SqT K H p ys) ∧ ∀ l, H l = none → Q (.ref l) (upd H l (.lst ys))) listD := by
  intro W H S x a Q E r rx p
  unfold listD at p
  split at p
  · rename_i d
    cases rx with | cons rx rn =>
    cases rn
    cases e : sqOf S d with
    | none => rw [e] at p; exact p.elim
    | some ds =>
      rw [e] at p
      obtain ⟨a, vs, rfl, h, t⟩ := sq_of' r rx e
      exact ⟨_, _, rfl, h, newL r t p⟩
  · exact p.elim
theorem listL_s {K : PySem.W.Frag} {cl : Str → Option Addr} : FnS K cl (fun xs H Q => ∃ p ys, xs = [.ref p] ∧ (SqL K H p ys ∨ SqT K H p ys) ∧ ∀ l, H l = none → Q (.ref l) (upd H l (.lst ys))) listL := by
  intro W H S x a Q E r rx p
  unfold listL at p
  split at p
  · rename_i d
    cases rx with | cons rx rn =>
    cases rn
    cases e : sqOf S d with
    | none => rw [e] at p; exact p.elim
    | some ds =>
      rw [e] at p
      obtain ⟨a, vs, rfl, h, t⟩ := sq_of' r rx e
      exact ⟨_, _, rfl, h, newLv r t p⟩
  · exact p.elim
/-- all, any of a list of flags -/
def blO : D → Option Bool
  | .bl b => some b
  | _ => none
def blsO : List D → Option (List Bool)
  | [] => some []
  | d :: ds => (match blO d, blsO ds with
    | some b, some bs => some (b :: bs)
    | _, _ => none)
theorem bls_of {K : PySem.W.Frag} {cl : Str → Option Addr} {W : Wd} : ∀ {vs : List V} {ds : List D} {bs : List Bool}, Reps K cl W vs ds → blsO ds = some bs → vs = bs.map V.bl
  | _, _, _, .nil, e => by cases e; rfl
  | _, _, _, .cons (d := d) (ds := ds) h t, e => by
    unfold blsO at e
    cases e1 : blO d with
    | none => rw [e1] at e; cases e
    | some v =>
      cases e2 : blsO ds with
      | none => rw [e1, e2] at e; cases e
      | some vs =>
        rw [e1, e2] at e
        cases e
        rw [bls_of t e2]
        cases h <;> first | (cases e1; rfl) | cases e1
def allD (as : List D) (S : Store) : Res D := match as with
  | [d] => ofO (((lsOf S d).bind blsO).map fun bs => .bl (bs.all id)) S
  | _ => .stk
def anyD (as : List D) (S : Store) : Res D := match as with
  | [d] => ofO (((lsOf S d).bind blsO).map fun bs => .bl (bs.any id)) S
  | _ => .stk
theorem all_s {K : PySem.W.Frag} {cl : Str → Option Addr} : FnS K cl (rAll K) allD := by
  intro W H S x a Q E r rx p
  unfold allD at p
  split at p
  · rename_i d
    cases rx with | cons rx rn =>
    cases rn
    cases e : lsOf S d with
    | none => rw [e] at p; exact p.elim
    | some ds =>
      cases e2 : blsO ds with
      | none => simp only [e, e2, Option.bind] at p; exact p.elim
      | some bs =>
        simp only [e, e2, Option.bind] at p
        obtain ⟨a, vs, rfl, h, t⟩ := ls_of r rx e
        rw [bls_of t e2] at h
        exact ⟨_, bs, rfl, SqL.of h, p.now r (.bl _)⟩
  · exact p.elim
theorem any_s {K : PySem.W.Frag} {cl : Str → Option Addr} : FnS K cl (rAny K) anyD := by
  intro W H S x a Q E r rx p
  unfold anyD at p
  split at p
  · rename_i d
    cases rx with | cons rx rn =>
    cases rn
    cases e : lsOf S d with
    | none => rw [e] at p; exact p.elim
    | some ds =>
      cases e2 : blsO ds with
      | none => simp only [e, e2, Option.bind] at p; exact p.elim
      | some bs =>
        simp only [e, e2, Option.bind] at p
        obtain ⟨a, vs, rfl, h, t⟩ := ls_of r rx e
        rw [bls_of t e2] at h
        exact ⟨_, bs, rfl, SqL.of h, p.now r (.bl _)⟩
  · exact p.elim
section
variable {X : Cx} {cl : Str → Option Addr} {E : WX} {ms : M (List D)} {pos p : Pos} {x : Str} {e : Expr} {es : List Expr} {id T' : String} {r : List V → Hp → VK → Prop} {g : List D → Store → Res D}
theorem t_callB (hc : CallR X (.builtin id) r) (hs : FnS X.K cl r g) (hm : X.mg x = none) (hv : bootBuiltins x = some (.builtin id)) (ha : PA X (e :: es) (TL X.K cl E ms)) (hg : Gl X x := by rfl) (hn : x ≠ "__name__" := by decide) (hdb : (x == ("__debug__" : Str)) = false := by decide)
    (he : starEach (e :: es) X.env = (false, eval e X.env) :: starEach es X.env := by rfl) (hpl : (backTo pos (starEach es X.env)).any (·.1) = false := by rfl) : PE X (.Call (.Name x p) (e :: es) [] pos) (T X.K cl E (mFn g ms)) :=
  pe_imp (pe_callB hc hg hm hv ha hn hdb he hpl) fun σ H Q ⟨W, ρ, S, hr, he, p⟩ => step hr he p fun W1 H1 x dx S1 l1 r1 e1 rx p1 => hs _ _ _ _ _ _ _ r1 rx p1
theorem t_callTy (hc : CallR X (.type T') r) (hs : FnS X.K cl r g) (hm : X.mg x = none) (hv : bootBuiltins x = some (.type T')) (ha : PA X (e :: es) (TL X.K cl E ms)) (hg : Gl X x := by rfl) (hn : x ≠ "__name__" := by decide) (hdb : (x == ("__debug__" : Str)) = false := by decide)
    (he : starEach (e :: es) X.env = (false, eval e X.env) :: starEach es X.env := by rfl) (hpl : (backTo pos (starEach es X.env)).any (·.1) = false := by rfl) : PE X (.Call (.Name x p) (e :: es) [] pos) (T X.K cl E (mFn g ms)) :=
  pe_imp (pe_callTy hc hg hm hv ha hn hdb he hpl) fun σ H Q ⟨W, ρ, S, hr, he, p⟩ => step hr he p fun W1 H1 x dx S1 l1 r1 e1 rx p1 => hs _ _ _ _ _ _ _ r1 rx p1
end
end G
namespace G
open PySem L2

inductive Out where
  | nx (ρ : Sl) (S : Store)
  | rt (d : D) (S : Store)
  | bk (ρ : Sl) (S : Store)
  | ct (ρ : Sl) (S : Store)
  | exc (x : Exc) (ρ : Sl) (S : Store)
  | stk
abbrev MS := Sl → Store → Out
def sB {α : Type} (r : Res α) (ρ : Sl) (f : α → Store → Out) : Out := match r with
  | .ok a S => f a S
  | .exc x S => .exc x ρ S
  | .stk => .stk
@[simp] theorem sB_ok {α : Type} {a : α} {S : Store} {ρ : Sl} {f : α → Store → Out} : sB (.ok a S) ρ f = f a S := nrfl rfl
@[simp] theorem sB_exc {α : Type} {a : Exc} {S : Store} {ρ : Sl} {f : α → Store → Out} : sB (.exc a S) ρ f = .exc a ρ S := nrfl rfl
@[simp] theorem sB_stk {α : Type} {ρ : Sl} {f : α → Store → Out} : sB .stk ρ f = .stk := nrfl rfl
section
variable (K : PySem.W.Frag) (cl : Str → Option Addr)
def PostS (W : Wd) (o : Out) (A : Ends) (E : WX) : Prop := match o with
  | .nx ρ S => ∀ W' H' σ, Le W W' → R K cl W' H' S → Envs K cl W' σ ρ → A.nx σ H'
  | .rt d S => ∀ W' H' v, Le W W' → R K cl W' H' S → Rep K cl W' v d → A.rt v H'
  | .bk ρ S => ∀ W' H' σ, Le W W' → R K cl W' H' S → Envs K cl W' σ ρ → A.bk σ H'
  | .ct ρ S => ∀ W' H' σ, Le W W' → R K cl W' H' S → Envs K cl W' σ ρ → A.ct σ H'
  | .exc x ρ S => ∀ W' H' σ c dd, Le W W' → R K cl W' H' S → Envs K cl W' σ ρ → XRep K cl W' c dd x → E c dd σ H'
  | .stk => False
def Ts (E : WX) (m : MS) : TS := fun A σ H => ∃ W ρ S, R K cl W H S ∧ Envs K cl W σ ρ ∧ PostS K cl W (m ρ S) A E
/-- a target: names -/
abbrev Pt := D → Sl → Option Sl
/-- two rows of slots that are alike but at sl -/
def Off (sl : List Nat) (σ σ' : St) : Prop := σ.length = σ'.length ∧ ∀ i : Nat, i ∉ sl → σ'[i]? = σ[i]?
def Tp (sl : List Nat) (p : Pt) : TG := fun v σ H Q => ∃ W ρ S d ρ', R K cl W H S ∧ Envs K cl W σ ρ ∧ Rep K cl W v d ∧ p d ρ = some ρ' ∧ ∀ σ', Envs K cl W σ' ρ' → Off sl σ σ' → Q σ' H
def Tps (sl : List Nat) (p : List D → Sl → Option Sl) : TGs := fun v σ H Q => ∃ W ρ S d ρ', R K cl W H S ∧ Envs K cl W σ ρ ∧ Reps K cl W v d ∧ p d ρ = some ρ' ∧ ∀ σ', Envs K cl W σ' ρ' → Off sl σ σ' → Q σ' H
end
def ptN (i : Nat) : Pt := fun d ρ => some (ρ.set i (some d))
def ptT (p : List D → Sl → Option Sl) : Pt := fun d ρ => match d with
  | .tup ds => p ds ρ
  | _ => none
def psN : List D → Sl → Option Sl := fun d ρ => match d with
  | [] => some ρ
  | _ => none
def psC (p : Pt) (q : List D → Sl → Option Sl) : List D → Sl → Option Sl := fun d ρ => match d with
  | x :: xs => (match p x ρ with
    | some ρ' => q xs ρ'
    | none => none)
  | [] => none

/-! ### the combinators of statements -/
def sPass : MS := fun ρ S => .nx ρ S
def sBrk : MS := fun ρ S => .bk ρ S
def sCt : MS := fun ρ S => .ct ρ S
def sSet (i : Nat) (m : M D) : MS := fun ρ S => sB (m ρ S) ρ fun d S1 => .nx (ρ.set i (some d)) S1
def sAsg (p : Pt) (m : M D) : MS := fun ρ S => sB (m ρ S) ρ fun d S1 => match p d ρ with
  | some ρ' => .nx ρ' S1
  | none => .stk
def sExpr (m : M D) : MS := fun ρ S => sB (m ρ S) ρ fun _ S1 => .nx ρ S1
def sRet (m : M D) : MS := fun ρ S => sB (m ρ S) ρ fun d S1 => .rt d S1
def sRetN : MS := fun _ S => .rt .non S
def sIf (c : M Bool) (a b : MS) : MS := fun ρ S => sB (c ρ S) ρ fun k S1 => if k = true then a ρ S1 else b ρ S1
def sSeq (a b : MS) : MS := fun ρ S => match a ρ S with
  | .nx ρ1 S1 => b ρ1 S1
  | o => o
def sAug (i : Nat) (g : D → D → Store → Res D) (m : M D) : MS := fun ρ S => match ρ[i]? with
  | some (some x) => sB (m ρ S) ρ fun y S1 => sB (g x y S1) ρ fun z S2 => .nx (ρ.set i (some z)) S2
  | _ => .stk
/-- o[i] = e, a list -/
def putD (o i v : D) (S : Store) : Option Store := match o, i with
  | .ref n, .int k => (match S[n]? with
    | some (.lst xs) => (match ixN xs.length k with
      | some j => some (S.set n (.lst (xs.set j v)))
      | none => none)
    | _ => none)
  | _, _ => none
def sPut (o i e : M D) : MS := fun ρ S => sB (e ρ S) ρ fun v S1 => sB (o ρ S1) ρ fun x S2 => sB (i ρ S2) ρ fun y S3 => match putD x y v S3 with
  | some S4 => .nx ρ S4
  | none => .stk
structure Itb where
  xs : List D
  lv : Option Nat
/-- what is walked stands as it was -/
def Grd (it : Itb) (S : Store) : Prop := match it.lv with
  | none => True
  | some n => S[n]? = some (.lst it.xs)
open Classical in
noncomputable def forL (it : Itb) (p : Pt) (b : MS) : List D → MS
  | [], ρ, S => if Grd it S then .nx ρ S else .stk
  | d :: ds, ρ, S => if Grd it S then (match p d ρ with
    | some ρ1 => (match b ρ1 S with
      | .nx ρ2 S2 => forL it p b ds ρ2 S2
      | .ct ρ2 S2 => forL it p b ds ρ2 S2
      | .bk ρ2 S2 => .nx ρ2 S2
      | .rt v S2 => .rt v S2
      | .exc x ρ2 S2 => .exc x ρ2 S2
      | .stk => .stk)
    | none => .stk) else .stk
noncomputable def sFor (m : M Itb) (p : Pt) (b : MS) : MS := fun ρ S => sB (m ρ S) ρ fun it S1 => forL it p b it.xs ρ S1
def whileF (c : M Bool) (b : MS) : Nat → MS
  | 0, _, _ => .stk
  | n + 1, ρ, S => sB (c ρ S) ρ fun k S1 => if k = true then (match b ρ S1 with
      | .nx ρ2 S2 => whileF c b n ρ2 S2
      | .ct ρ2 S2 => whileF c b n ρ2 S2
      | .bk ρ2 S2 => .nx ρ2 S2
      | .rt v S2 => .rt v S2
      | .exc x ρ2 S2 => .exc x ρ2 S2
      | .stk => .stk) else .nx ρ S1
/-- the slots of a comprehension's own names forgotten -/
def wipeD (ρ : Sl) : List Nat → Sl
  | [] => ρ
  | v :: vs => (wipeD ρ vs).set v none
def Res.nox {α : Type} (r : Res α) : Res α := match r with
  | .ok a S => .ok a S
  | _ => .stk
@[simp] theorem nox_ok {α : Type} {a : α} {S : Store} : (Res.ok a S).nox = .ok a S := nrfl rfl
@[simp] theorem nox_exc {α : Type} {a : Exc} {S : Store} : (Res.exc a S : Res α).nox = .stk := nrfl rfl
@[simp] theorem nox_stk {α : Type} : (Res.stk : Res α).nox = .stk := nrfl rfl
open Classical in
noncomputable def compL (it : Itb) (p : Pt) (t : M Bool) (e : M D) (ρ : Sl) : List D → Nat → Store → Res (List D)
  | [], _, S => if Grd it S then .ok [] S else .stk
  | d :: ds, n, S => if Grd it S then (match p d ρ with
    | some ρ1 => (t ρ1 S).nox.bind fun k S1 => if k = true then (e ρ1 S1).nox.bind fun x S2 => if n < sizeLine then (compL it p t e ρ ds (n + 1) S2).bind fun xs S3 => .ok (x :: xs) S3 else .stk
        else compL it p t e ρ ds n S1
    | none => .stk) else .stk
noncomputable def mComp (m : M Itb) (p : Pt) (t : M Bool) (e : M D) (vs : List Nat) (mk : List D → Store → Res D) : M D := fun ρ S => (m ρ S).bind fun it S1 => (compL it p t e (wipeD ρ vs) it.xs 0 S1).bind fun xs S2 => mk xs S2
def mYes : M Bool := fun _ S => .ok true S
def frzD (xs : List D) (S : Store) : Res D := .ok (.lst xs) S
def lvD (xs : List D) (S : Store) : Res D := .ok (.ref S.length) (S ++ [.lst xs])

section
variable {K : PySem.W.Frag} {cl : Str → Option Addr} {W W' : Wd} {H : Hp} {S : Store} {σ : St} {ρ : Sl} {α β : Type} {rel : Wd → β → α → Prop} {A : Ends} {E : WX}
theorem PostS.up {o : Out} (l : Le W W') (p : PostS K cl W o A E) : PostS K cl W' o A E := by
  cases o with
  | nx ρ S => exact fun W2 H2 v l2 => p W2 H2 v (l.tr l2)
  | rt ρ S => exact fun W2 H2 v l2 => p W2 H2 v (l.tr l2)
  | bk ρ S => exact fun W2 H2 v l2 => p W2 H2 v (l.tr l2)
  | ct ρ S => exact fun W2 H2 v l2 => p W2 H2 v (l.tr l2)
  | exc x ρ S => exact fun W2 H2 v c dd l2 => p W2 H2 v c dd (l.tr l2)
  | stk => exact p
theorem stepS {m : M α} {f : α → Store → Out} {Q1 : β → Hp → Prop} (hr : R K cl W H S) (he : Envs K cl W σ ρ) (p : PostS K cl W (sB (m ρ S) ρ f) A E)
    (k : ∀ W' H' v d S', Le W W' → R K cl W' H' S' → Envs K cl W' σ ρ → rel W' v d → PostS K cl W' (f d S') A E → Q1 v H') : Tg K cl rel E m σ H Q1 := by
  refine ⟨W, ρ, S, hr, he, ?_⟩
  cases e : m ρ S with
  | ok d S1 =>
    rw [e] at p
    exact fun W1 H1 v l1 r1 q1 => k W1 H1 v d S1 l1 r1 (he.up l1) q1 (PostS.up l1 p)
  | exc x S1 =>
    rw [e] at p
    exact fun W1 H1 c dd l1 r1 x1 => p W1 H1 σ c dd l1 r1 (he.up l1) x1
  | stk =>
    rw [e] at p
    exact p.elim
end
section
variable {X : Cx} {cl : Str → Option Addr} {E : WX} {e tg : Expr} {es : List Expr} {m m1 m2 m3 : M D} {mb : M Bool} {s1 s2 : MS} {st : Stmt} {sts : List Stmt} {pos pos' : Pos}
theorem s_nil : PSs X [] (Ts X.K cl E sPass) := pss_imp pss_nil fun A σ H ⟨W, ρ, S, hr, he, p⟩ => p W H σ (.rf W) hr he
theorem s_one (h : PS X st (Ts X.K cl E s1)) : PSs X [st] (Ts X.K cl E s1) := pss_one h
theorem s_cons (h : PS X st (Ts X.K cl E s1)) (h2 : PSs X sts (Ts X.K cl E s2)) : PSs X (st :: sts) (Ts X.K cl E (sSeq s1 s2)) :=
  pss_imp (pss_cons h h2) fun A σ H ⟨W, ρ, S, hr, he, p⟩ => by
    refine ⟨W, ρ, S, hr, he, ?_⟩
    unfold sSeq at p
    cases q : s1 ρ S with
    | nx ρ1 S1 =>
      rw [q] at p
      exact fun W1 H1 σ1 l1 r1 e1 => ⟨W1, ρ1, S1, r1, e1, PostS.up l1 p⟩
    | rt d S1 => rw [q] at p; exact p
    | bk d S1 => rw [q] at p; exact p
    | ct d S1 => rw [q] at p; exact p
    | exc x d S1 => rw [q] at p; exact p
    | stk => rw [q] at p; exact p
theorem s_pass : PS X (.Pass pos) (Ts X.K cl E sPass) := ps_imp ps_pass fun A σ H ⟨W, ρ, S, hr, he, p⟩ => p W H σ (.rf W) hr he
theorem s_break : PS X (.Break pos) (Ts X.K cl E sBrk) := ps_imp ps_break fun A σ H ⟨W, ρ, S, hr, he, p⟩ => p W H σ (.rf W) hr he
theorem s_continue : PS X (.Continue pos) (Ts X.K cl E sCt) := ps_imp ps_continue fun A σ H ⟨W, ρ, S, hr, he, p⟩ => p W H σ (.rf W) hr he
theorem s_expr (h : PE X e (T X.K cl E m)) (hs : swapsWith e none pos.line X.env = pure false := by rfl) : PS X (.Expr e pos) (Ts X.K cl E (sExpr m)) :=
  ps_imp (ps_expr h hs) fun A σ H ⟨W, ρ, S, hr, he, p⟩ => stepS hr he p fun W1 H1 v d S1 l1 r1 e1 rv p1 => p1 W1 H1 σ (.rf W1) r1 e1
theorem s_ret (h : PE X e (T X.K cl E m)) : PS X (.Return (some e) pos) (Ts X.K cl E (sRet m)) :=
  ps_imp (ps_ret h) fun A σ H ⟨W, ρ, S, hr, he, p⟩ => stepS hr he p fun W1 H1 v d S1 l1 r1 e1 rv p1 => p1 W1 H1 v (.rf W1) r1 rv
theorem s_retN : PS X (.Return none pos) (Ts X.K cl E sRetN) := ps_imp ps_retN fun A σ H ⟨W, ρ, S, hr, he, p⟩ => p W H _ (.rf W) hr .non
theorem s_if {c : Expr} {a b : List Stmt} (hc : PT X c (TB X.K cl E mb)) (ha : PSs X a (Ts X.K cl E s1)) (hb : PSs X b (Ts X.K cl E s2)) : PS X (.If c a b pos) (Ts X.K cl E (sIf mb s1 s2)) :=
  ps_imp (ps_if hc ha hb) fun A σ H ⟨W, ρ, S, hr, he, p⟩ => stepS hr he p fun W1 H1 v d S1 l1 r1 e1 rv p1 => by
    obtain rfl : v = d := rv
    cases v with
    | true => exact ⟨W1, ρ, S1, r1, e1, p1⟩
    | false => exact ⟨W1, ρ, S1, r1, e1, p1⟩
theorem s_set (i : Nat) {x : Str} (hN : X.N.Nodup) (he : PE X e (T X.K cl E m)) (hi : X.N[i]? = some x := by rfl) (hx : Loc X.env.scope x := by first | exact Or.inl rfl | exact Or.inr rfl)
    (hs : swapsWith e (some (.Name x pos')) pos.line X.env = pure false := by rfl) (hf : X.fn x = true ∨ X.env.scope.names.lookup x = some .local := by first | exact .inl rfl | exact .inr rfl) :
    PS X (.Assign [.Name x pos'] e pos) (Ts X.K cl E (sSet i m)) :=
  ps_imp (ps_set hN hi hx he hs hf) fun A σ H ⟨W, ρ, S, hr, he, p⟩ => stepS hr he p fun W1 H1 v d S1 l1 r1 e1 rv p1 => p1 W1 H1 _ (.rf W1) r1 (e1.set i rv)
/-- targets -/
theorem g_name (i : Nat) {x : Str} (hN : X.N.Nodup) (hi : X.N[i]? = some x := by rfl) (hx : Loc X.env.scope x := by first | exact Or.inl rfl | exact Or.inr rfl)
    (hf : X.fn x = true ∨ X.env.scope.names.lookup x = some .local := by first | exact .inl rfl | exact .inr rfl) : PG X (.Name x pos) (Tp X.K cl [i] (ptN i)) :=
  ⟨fun pins s σ H v u Q I r ⟨W, ρ, S, d, ρ', hr, he, rv, ep, q⟩ => (pg_name hN hi hx hf).run pins s σ H v u Q I r (by
    cases ep
    exact q _ (he.set i rv) ⟨by simp, fun j hj => List.getElem?_set_ne (fun z => hj (by simp [z]))⟩)⟩
theorem Off.rf (σ : St) : Off [] σ σ := ⟨rfl, fun _ _ => rfl⟩
theorem Off.tr {a b : List Nat} {σ σ1 σ2 : St} (x : Off a σ σ1) (y : Off b σ1 σ2) : Off (a ++ b) σ σ2 := ⟨x.1.trans y.1, fun i hi => by
  rw [List.mem_append, not_or] at hi
  exact (y.2 i hi.2).trans (x.2 i hi.1)⟩
theorem gs_nil : PGs X [] (Tps X.K cl [] psN) := ⟨fun pins s σ H v u Q I r ⟨W, ρ, S, d, ρ', hr, he, rv, ep, q⟩ => pgs_nil.run pins s σ H v u Q I r (by
    cases rv with
    | nil =>
      cases ep
      exact ⟨rfl, q _ he (.rf _)⟩
    | cons _ _ => cases ep)⟩
theorem gs_cons {a b : List Nat} {p : Pt} {ps : List D → Sl → Option Sl} (h1 : PG X e (Tp X.K cl a p)) (h2 : PGs X es (Tps X.K cl b ps)) (hs : (assignEach (e :: es) X.env).map (·.2) = assign e X.env :: (assignEach es X.env).map (·.2) := by rfl) :
    PGs X (e :: es) (Tps X.K cl (a ++ b) (psC p ps)) := ⟨fun pins s σ H v u Q I r ⟨W, ρ, S, d, ρ', hr, he, rv, ep, q⟩ => (pgs_cons h1 h2 hs).run pins s σ H v u Q I r (by
    cases rv with
    | nil => cases ep
    | @cons x dx vs ds r1 r2 =>
      unfold psC at ep
      cases e1 : p dx ρ with
      | none => simp only [e1] at ep; cases ep
      | some ρ1 =>
        simp only [e1] at ep
        exact ⟨_, _, rfl, W, ρ, S, dx, ρ1, hr, he, r1, e1, fun σ1 he1 o1 => ⟨W, ρ1, S, ds, ρ', hr, he1, r2, ep, fun σ2 he2 o2 => q σ2 he2 (o1.tr o2)⟩⟩)⟩
theorem g_tup {k n : Nat} {a : List Nat} {ps : List D → Sl → Option Sl} (hc : X.calm = true) (h : PGs X es (Tps X.K cl a ps)) (hl : ∀ ds ρ ρ', ps ds ρ = some ρ' → ds.length = n)
    (hn : (assignEach es X.env).length = n := by rfl) (hst : (assignEach es X.env).findIdx? (·.1) = none := by rfl) : PG X (.Tuple es k pos) (Tp X.K cl a (ptT ps)) :=
  ⟨fun pins s σ H v u Q I r ⟨W, ρ, S, d, ρ', hr, he, rv, ep, q⟩ => (pg_tup hc h hn hst).run pins s σ H v u Q I r (by
    cases rv with
    | tup h1 t =>
      exact ⟨_, _, rfl, sqT_up hr.sub h1, by rw [t.len]; exact hl _ _ _ ep, W, ρ, S, _, ρ', hr, he, t, ep, q⟩
    | _ => cases ep)⟩
theorem ps_len0 : ∀ ds ρ ρ', psN ds ρ = some ρ' → ds.length = 0 := fun ds ρ ρ' h => by
  cases ds with
  | nil => rfl
  | cons _ _ => cases h
theorem ps_lenS {n : Nat} {p : Pt} {ps : List D → Sl → Option Sl} (hl : ∀ ds ρ ρ', ps ds ρ = some ρ' → ds.length = n) : ∀ ds ρ ρ', psC p ps ds ρ = some ρ' → ds.length = n + 1 := fun ds ρ ρ' h => by
  cases ds with
  | nil => cases h
  | cons d ds =>
    unfold psC at h
    cases e1 : p d ρ with
    | none => simp only [e1] at h; cases h
    | some ρ1 =>
      simp only [e1] at h
      rw [List.length_cons, hl _ _ _ h]
theorem s_asg {a : List Nat} {p : Pt} (he : PE X e (T X.K cl E m)) (hg : PG X tg (Tp X.K cl a p)) (hs : swapsWithSole [tg] e pos.line X.env = pure false := by rfl) (hw : swappedStores [tg] e X.env = pure none := by rfl) (h1 : (assignEach [tg] X.env).map (·.2) = [assign tg X.env] := by rfl) :
    PS X (.Assign [tg] e pos) (Ts X.K cl E (sAsg p m)) :=
  ps_imp (ps_asg he hg hs hw h1) fun A σ H ⟨W, ρ, S, hr, he, q⟩ => stepS hr he q fun W1 H1 v d S1 l1 r1 e1 rv p1 => by
    cases e2 : p d ρ with
    | none => simp only [e2] at p1; exact p1.elim
    | some ρ1 =>
      simp only [e2] at p1
      exact ⟨W1, ρ, S1, d, ρ1, r1, e1, rv, e2, fun σ1 he1 _ => p1 W1 H1 σ1 (.rf W1) r1 he1⟩
/-- x op= e, by a rule on values -/
theorem s_aug (i : Nat) {x : Str} {op : Operator} {r : TIp} {g : D → D → Store → Res D} (hN : X.N.Nodup) (ho : PIp X op r) (hg : OpS X.K cl r g) (he : PE X e (T X.K cl E m)) (hi : X.N[i]? = some x := by rfl) (hx : Loc X.env.scope x := by first | exact Or.inl rfl | exact Or.inr rfl)
    (hf : X.fn x = true ∨ X.env.scope.names.lookup x = some .local := by first | exact .inl rfl | exact .inr rfl) : PS X (.AugAssign (.Name x pos') op e pos) (Ts X.K cl E (sAug i g m)) :=
  ps_imp (ps_aug hN hi hx he ho hf) fun A σ H ⟨W, ρ, S, hr, he, p⟩ => by
    unfold sAug at p
    split at p
    · rename_i dx ex
      obtain ⟨v, h1, h2⟩ := he.at' i dx ex
      refine ⟨v, h1, stepS hr he p fun W1 H1 y dy S1 l1 r1 e1 ry p1 => ?_⟩
      refine hg W1 H1 S1 v y dx dy _ (fun c d H' => E c d σ H') r1 (h2.up l1) ry ?_
      cases q : g dx dy S1 with
      | ok z S2 =>
        rw [q] at p1
        exact fun W2 H2 w l2 r2 rw' => p1 W2 H2 _ l2 r2 ((e1.up l2).set i rw')
      | exc z S2 =>
        rw [q] at p1
        exact fun W2 H2 c dd l2 r2 x2 => p1 W2 H2 σ c dd l2 r2 (e1.up l2) x2
      | stk =>
        rw [q] at p1
        exact p1.elim
    · exact p.elim
theorem ip_addI {X : Cx} : PIp X .Add (rI0 fun i j => .int (i + j)) := fun pins s σ H x y v u Q I rx ry h => ip_add pins s σ H x y v u Q I rx ry h
theorem ip_subI {X : Cx} : PIp X .Sub (rI0 fun i j => .int (i - j)) := fun pins s σ H x y v u Q I rx ry h => ip_sub pins s σ H x y v u Q I rx ry h
def addI (a b : D) (S : Store) : Res D := match a, b with
  | .int i, .int j => .ok (.int (i + j)) S
  | _, _ => .stk
theorem addI_s {K : PySem.W.Frag} {cl : Str → Option Addr} : OpS K cl (rI0 fun i j => .int (i + j)) addI := by
  intro W H S x y a b Q E r rx ry p
  unfold addI at p
  split at p
  · cases rx; cases ry
    exact ⟨_, _, rfl, rfl, p.now r (.int _)⟩
  · exact p.elim
theorem s_put {o i : Expr} {tpos : Pos} (ho : PE X o (T X.K cl E m1)) (hi : PE X i (T X.K cl E m2)) (he : PE X e (T X.K cl E m3))
    (hs : swapsWithSole [.Subscript o i tpos] e pos.line X.env = pure false := by rfl) (hw : swappedStores [.Subscript o i tpos] e X.env = pure none := by rfl)
    (ha : ∀ v, assign (.Subscript o i tpos) X.env v = (do
      let a ← holding [v] (eval o X.env)
      let b ← holding [v, a] (eval i X.env)
      standAt tpos
      holding [v, a, b] (setItem a b v)
      release [v, a, b] []) := by intro _; rfl) : PS X (.Assign [.Subscript o i tpos] e pos) (Ts X.K cl E (sPut m1 m2 m3)) :=
  ps_imp (ps_asg he (pg_sub ho hi set_list ha) hs hw) fun A σ H ⟨W, ρ, S, hr, he, p⟩ => stepS hr he p fun W1 H1 v dv S1 l1 r1 e1 rv p1 =>
    stepS r1 e1 p1 fun W2 H2 x dx S2 l2 r2 e2 rx p2 => stepS r2 e2 p2 fun W3 H3 y dy S3 l3 r3 e3 ry p3 => by
      cases q : putD dx dy dv S3 with
      | none => simp only [q] at p3; exact p3.elim
      | some S4 =>
        simp only [q] at p3
        unfold putD at q
        split at q
        · rename_i n k
          cases ry
          cases (rx.up l3) with | ref hn =>
          split at q
          · rename_i xs e4
            split at q
            · rename_i j ej
              cases q
              obtain ⟨_, vs, h1, h2⟩ := r3.live n _ e4 (by intro z; cases z)
              have rv' := rv.up (l2.tr l3)
              refine ⟨_, _, _, j, rfl, rfl, h1, by rw [h2.len]; exact ej, ?_⟩
              exact p3 W3 _ σ (.rf W3) (r3.put e4 (by intro z; cases z) ⟨_, upd_same, Reps.set rv' j h2⟩) e3
            · cases q
          · cases q
        · cases q

/-! ### loops -/
section
variable (K : PySem.W.Frag) (cl : Str → Option Addr)
def ItS (W0 : Wd) (J : It) (it : Itb) : Prop := ∀ W H S, Ls W0 W → R K cl W H S → Grd it S →
  (∀ (i : Nat) (d : D), it.xs[i]? = some d → J.go i H ∧ ∀ x H', J.yld i H x H' → ∃ W', Le W W' ∧ R K cl W' H' S ∧ Rep K cl W' x d) ∧ J.stop it.xs.length H
abbrev TIt (E : WX) (m : M Itb) : TI := Tg K cl (ItS K cl) E m
end
theorem pi_imp {iter : Expr} {t t' : TI} (h : PI X tg iter t) (k : ∀ σ H Q, t' σ H Q → t σ H Q) : PI X tg iter t' := ⟨fun pins s σ H Q I q => h.run pins s σ H Q I (k σ H Q q)⟩
theorem pi_either {iter : Expr} {t t' : TI} (h : PI X tg iter t) (h' : PI X tg iter t') : PI X tg iter (fun σ H Q => t σ H Q ∨ t' σ H Q) := ⟨fun pins s σ H Q I q => q.elim (h.run pins s σ H Q I) (h'.run pins s σ H Q I)⟩
theorem s_for {iter : Expr} {body : List Stmt} {mi : M Itb} {a : List Nat} {p : Pt} (hp : PassesOwn (model X.prog X.w) X.A X.env X.xe) (hc : X.calm = true) (hi : PI X tg iter (TIt X.K cl E mi)) (hg : PG X tg (Tp X.K cl a p)) (hb : PSs X body (Ts X.K cl E s1))
    (hs : ∀ x, foldedSetIterable iter X.env x = pure x := by intro _; rfl) : PS X (.For tg iter body [] pos) (Ts X.K cl E (sFor mi p s1)) :=
  ps_imp (ps_for hp hc hi hg hb hs) fun A σ H ⟨W, ρ, S, hr, he, q⟩ => stepS hr he q fun W1 H1 J it S1 l1 r1 e1 hJ p1 => by
    refine ⟨fun i m σ' H' => m = it.xs.length - i ∧ i ≤ it.xs.length ∧ ∃ W' ρ' S', Le W1 W' ∧ R X.K cl W' H' S' ∧ Envs X.K cl W' σ' ρ' ∧ PostS X.K cl W' (forL it p s1 (it.xs.drop i) ρ' S') A E,
      ⟨_, rfl, Nat.zero_le _, W1, ρ, S1, .rf W1, r1, e1, p1⟩, ?_⟩
    rintro i m σ2 H2 ⟨rfl, hi, W2, ρ2, S2, l2, r2, e2, p2⟩
    by_cases hlt : i < it.xs.length
    · have ed : it.xs.drop i = it.xs[i] :: it.xs.drop (i + 1) := List.drop_eq_getElem_cons hlt
      have ei : it.xs[i]? = some it.xs[i] := List.getElem?_eq_getElem hlt
      generalize hd : it.xs[i] = d at ed ei
      rw [ed] at p2
      unfold forL at p2
      by_cases hG : Grd it S2
      · rw [if_pos hG] at p2
        obtain ⟨g1, _⟩ := hJ W2 H2 S2 l2.s r2 hG
        obtain ⟨go, yld⟩ := g1 i d ei
        refine .inr ⟨go, fun σ' H' => ∃ W' ρ' S', Le W1 W' ∧ R X.K cl W' H' S' ∧ Envs X.K cl W' σ' ρ' ∧ PostS X.K cl W' (forL it p s1 (it.xs.drop (i + 1)) ρ' S') A E, fun σ' H' n => ⟨it.xs.length - (i + 1), by omega, rfl, hlt, n⟩, fun x H3 y => ?_⟩
        obtain ⟨W3, l3, r3, rx⟩ := yld x H3 y
        cases e4 : p d ρ2 with
        | none => simp only [e4] at p2; exact p2.elim
        | some ρ3 =>
          simp only [e4] at p2
          refine ⟨W3, ρ2, S2, d, ρ3, r3, e2.up l3, rx, e4, fun σ3 e3 _ => ⟨W3, ρ3, S2, r3, e3, ?_⟩⟩
          cases q5 : s1 ρ3 S2 with
          | nx ρ5 S5 =>
            simp only [q5] at p2
            exact fun W5 H5 σ5 l5 r5 e5 => ⟨W5, ρ5, S5, (l2.tr l3).tr l5, r5, e5, p2.up (l3.tr l5)⟩
          | ct ρ5 S5 =>
            simp only [q5] at p2
            exact fun W5 H5 σ5 l5 r5 e5 => ⟨W5, ρ5, S5, (l2.tr l3).tr l5, r5, e5, p2.up (l3.tr l5)⟩
          | bk ρ5 S5 =>
            simp only [q5] at p2
            exact fun W5 H5 σ5 l5 r5 e5 => p2 W5 H5 σ5 (l3.tr l5) r5 e5
          | rt v S5 =>
            simp only [q5] at p2
            exact fun W5 H5 v5 l5 r5 e5 => p2 W5 H5 v5 (l3.tr l5) r5 e5
          | exc v ρ5 S5 =>
            simp only [q5] at p2
            exact fun W5 H5 v5 c dd l5 r5 e5 => p2 W5 H5 v5 c dd (l3.tr l5) r5 e5
          | stk =>
            simp only [q5] at p2
            exact p2.elim
      · rw [if_neg hG] at p2
        exact p2.elim
    · have ei : i = it.xs.length := by omega
      subst ei
      rw [List.drop_length] at p2
      unfold forL at p2
      by_cases hG : Grd it S2
      · rw [if_pos hG] at p2
        exact .inl ⟨(hJ W2 H2 S2 l2.s r2 hG).2, p2 W2 H2 σ2 (.rf W2) r2 e2⟩
      · rw [if_neg hG] at p2
        exact p2.elim
theorem s_while (n : Nat) {c : Expr} {body : List Stmt} (hp : PassesOwn (model X.prog X.w) X.A X.env X.xe) (hc : PT X c (TB X.K cl E mb)) (hb : PSs X body (Ts X.K cl E s1)) : PS X (.While c body [] pos) (Ts X.K cl E (whileF mb s1 n)) :=
  ps_imp (ps_while hp hc hb) fun A σ H ⟨W, ρ, S, hr, he, q⟩ => by
    refine ⟨fun m σ' H' => ∃ W' ρ' S', R X.K cl W' H' S' ∧ Envs X.K cl W' σ' ρ' ∧ PostS X.K cl W' (whileF mb s1 m ρ' S') A E, ⟨n, W, ρ, S, hr, he, q⟩, ?_⟩
    rintro m σ2 H2 ⟨W2, ρ2, S2, r2, e2, p2⟩
    cases m with
    | zero => exact p2.elim
    | succ m =>
      refine stepS r2 e2 p2 fun W3 H3 v d S3 l3 r3 e3 rv p3 => ?_
      obtain rfl : v = d := rv
      cases v with
      | false => exact p3 W3 H3 σ2 (.rf W3) r3 e3
      | true =>
        refine ⟨fun σ' H' => ∃ W' ρ' S', R X.K cl W' H' S' ∧ Envs X.K cl W' σ' ρ' ∧ PostS X.K cl W' (whileF mb s1 m ρ' S') A E, fun σ' H' n => ⟨m, Nat.lt_succ_self _, n⟩, W3, ρ2, S3, r3, e3, ?_⟩
        simp only [if_true] at p3
        cases q5 : s1 ρ2 S3 with
        | nx ρ5 S5 =>
          simp only [q5] at p3
          exact fun W5 H5 σ5 l5 r5 e5 => ⟨W5, ρ5, S5, r5, e5, p3.up l5⟩
        | ct ρ5 S5 =>
          simp only [q5] at p3
          exact fun W5 H5 σ5 l5 r5 e5 => ⟨W5, ρ5, S5, r5, e5, p3.up l5⟩
        | bk ρ5 S5 =>
          simp only [q5] at p3
          exact p3
        | rt v S5 =>
          simp only [q5] at p3
          exact p3
        | exc v ρ5 S5 =>
          simp only [q5] at p3
          exact p3
        | stk =>
          simp only [q5] at p3
          exact p3.elim
end
end G
namespace G
open PySem L2
section
variable {K : PySem.W.Frag} {cl : Str → Option Addr} {W W' : Wd} {H : Hp} {S : Store} {σ : St} {ρ : Sl}
/-- an object that nobody knows becomes a live one -/
theorem R.lvAt {p : Addr} {o : HO} {mo : MO} (r : R K cl W H S) (hp : H p = some o) (hg : W.G p = none) (nl : ∀ (i : Nat) (m : MO), S[i]? = some m → m ≠ .dead → W.ι i ≠ p) (np : W.P p = none) (hm : MRep K cl W H p mo) : R K cl (W.lv p) H (S ++ [mo]) := by
  have old : ∀ (i : Nat) (m : MO), (S ++ [mo])[i]? = some m → (i < S.length ∧ S[i]? = some m) ∨ (i = S.length ∧ m = mo) := fun i m h => by
    by_cases hi : i < S.length
    · rw [List.getElem?_append_left hi] at h
      exact .inl ⟨hi, h⟩
    · rw [List.getElem?_append_right (by omega)] at h
      have hk : i - S.length = 0 := by
        cases q : i - S.length with
        | zero => rfl
        | succ k => rw [q] at h; simp at h
      rw [hk] at h
      simp at h
      exact .inr ⟨by omega, h.symm⟩
  have ιo : ∀ i, i < S.length → (W.lv p).ι i = W.ι i := fun i h => (Le.lv W p).i i (by rw [r.n]; exact h)
  have ιn : (W.lv p).ι S.length = p := by rw [← r.n]; exact W.lv_at p
  refine ⟨?_, r.sub, fun i m h nd => ?_, fun i j m m' h h' nd nd' e => ?_, fun a u q => ?_⟩
  · show W.n + 1 = _
    rw [List.length_append, r.n]
    rfl
  · rcases old i m h with ⟨hi, h⟩ | ⟨rfl, rfl⟩
    · obtain ⟨h1, h2⟩ := r.live i m h nd
      rw [ιo i hi]
      exact ⟨h1, h2.up (Le.lv W p)⟩
    · rw [ιn]
      exact ⟨hg, hm.up (Le.lv W p)⟩
  · rcases old i m h with ⟨hi, h0⟩ | ⟨rfl, rfl⟩
    · rcases old j m' h' with ⟨hj, h1⟩ | ⟨rfl, rfl⟩
      · rw [ιo i hi, ιo j hj] at e
        exact r.inj i j m m' h0 h1 nd nd' e
      · rw [ιo i hi, ιn] at e
        exact absurd e (nl i m h0 nd)
    · rcases old j m' h' with ⟨hj, h1⟩ | ⟨rfl, rfl⟩
      · rw [ιo j hj, ιn] at e
        exact absurd e.symm (nl j m' h1 nd')
      · rfl
  · obtain ⟨g1, g2, g3⟩ := r.priv a u q
    refine ⟨g1, g2, fun i m h nd => ?_⟩
    rcases old i m h with ⟨hi, h⟩ | ⟨rfl, rfl⟩
    · rw [ιo i hi]
      exact g3 i m h nd
    · rw [ιn]
      exact (ne_of_none q np).symm
theorem rep_lv {p : Addr} (r : R K cl W H S) : Rep K cl (W.lv p) (.ref p) (.ref S.length) := by
  have e : (W.lv p).ι S.length = p := by rw [← r.n]; exact W.lv_at p
  have z := Rep.ref (K := K) (cl := cl) (W := W.lv p) (n := S.length) (by show _ < W.n + 1; rw [r.n]; exact Nat.lt_succ_self _)
  rw [e] at z
  exact z
/-- how a list that was just filled goes on -/
def MkS (K : PySem.W.Frag) (cl : Str → Option Addr) (mk : List D → Store → Res D) : Prop := ∀ (W : Wd) (H : Hp) (S : Store) (a : Addr) (vs : List V) (ds : List D) (Q : VK) (E : XK),
  R K cl W H S → H a = some (.lst vs) → W.G a = none → (∀ (i : Nat) (m : MO), S[i]? = some m → m ≠ .dead → W.ι i ≠ a) → W.P a = none → Reps K cl W vs ds → Post K cl (Rep K cl) W (mk ds S) Q E → Q (.ref a) H
theorem frz_s : MkS K cl frzD := fun W H S a vs ds Q E r ha hg nl np t p => p (W.fz a (.lst vs)) H _ (Le.fz hg) (r.fzAt ha hg nl np) (.lst upd_same (t.up (Le.fz hg)))
theorem lv_s : MkS K cl lvD := fun W H S a vs ds Q E r ha hg nl np t p => p (W.lv a) H _ (Le.lv W a) (r.lvAt ha hg nl np ⟨vs, ha, t⟩) (rep_lv r)
theorem Envs.wipe (e : Envs K cl W σ ρ) : ∀ vs : List Nat, Envs K cl W (L2.wipe σ vs) (wipeD ρ vs)
  | [] => e
  | v :: vs => (Envs.wipe e vs).unset v none
theorem wipe_ext {σ σ' : St} : ∀ {vs : List Nat}, σ.length = σ'.length → (∀ i : Nat, i ∉ vs → σ'[i]? = σ[i]?) → L2.wipe σ' vs = L2.wipe σ vs := fun {vs} hl h => by
  have at' : ∀ (vs : List Nat) (σ : St) (i : Nat), (L2.wipe σ vs)[i]? = if i ∈ vs then (if i < σ.length then some none else none) else σ[i]? := by
    intro vs
    induction vs with
    | nil => intro σ i; simp [L2.wipe]
    | cons v vs ih =>
      intro σ i
      unfold L2.wipe
      by_cases hv : v = i
      · subst hv
        rw [if_pos (by simp)]
        by_cases hi : v < σ.length
        · rw [List.getElem?_set_self (by rw [wipe_length]; exact hi), if_pos hi]
        · rw [List.getElem?_eq_none (by rw [List.length_set, wipe_length]; omega), if_neg hi]
      · rw [List.getElem?_set_ne hv, ih]
        have e : (i ∈ v :: vs) ↔ i ∈ vs := by simp [Ne.symm hv, fun z : i = v => hv z.symm]
        by_cases q : i ∈ vs
        · rw [if_pos q, if_pos (e.mpr q)]
        · rw [if_neg q, if_neg (fun z => q (e.mp z))]
  apply List.ext_getElem?
  intro i
  rw [at', at']
  by_cases q : i ∈ vs
  · rw [if_pos q, if_pos q, hl]
  · rw [if_neg q, if_neg q]
    exact h i q
def Wd.out (W : Wd) (P : Hp) : Wd := { W with P := P }
theorem Ls.out {P : Hp} : Ls W (W.out P) := ⟨fun _ _ h => h, fun _ _ => rfl, Nat.le_refl _⟩
end
abbrev F0 : WX := fun _ _ _ _ => False
section
variable {X : Cx} {cl : Str → Option Addr} {E : WX} {elt tg iter : Expr} {ifs : List Expr} {scope : Scope} {own : List (Str × Nat)} {pos : Pos} {mi : M Itb} {a : List Nat} {p : Pt} {mt : M Bool} {me : M D} {mk : List D → Store → Res D}
theorem tts_nil : PTs X [] (TB X.K cl E mYes) := ⟨fun pins s σ H Q I h => pts_nil.run pins s σ H Q I (by
  obtain ⟨W, ρ, S, hr, he, p⟩ := h
  exact p.now hr rfl)⟩
theorem tts_one {c : Expr} (h : PT X c (TB X.K cl E mt)) : PTs X [c] (TB X.K cl E mt) := pts_one h
/-- the reading of a comprehension -/
theorem lc_read {K : PySem.W.Frag} {σ : St} {H : Hp} {Q : VK} {vs : List Nat} (hk : MkS K cl mk) (ha : ∀ i ∈ a, i ∈ vs) (h : T K cl E (mComp mi p mt me vs mk) σ H Q) :
    tLc (TIt K cl E mi) (Tp K cl a p) (TB K cl F0 mt) (T K cl F0 me) vs σ H Q := by
  obtain ⟨W, ρ, S, hr, he, q⟩ := h
  refine step hr he q fun W1 H1 J it S1 l1 r1 e1 hJ p1 => ?_
  intro Dl hD
  have np : W1.P Dl = none := by
    cases e : W1.P Dl with
    | none => rfl
    | some u => rw [(r1.priv Dl u e).1] at hD; cases hD
  refine ⟨fun i m H' => m = it.xs.length - i ∧ i ≤ it.xs.length ∧ ∃ W' S' acc dacc, Le W1 W' ∧ R K cl (W'.hid Dl (.lst acc)) H' S' ∧ Reps K cl W' acc dacc ∧
      Post K cl (Rep K cl) W' ((compL it p mt me (wipeD ρ vs) (it.xs.drop i) dacc.length S').bind fun xs S2 => mk (dacc ++ xs) S2) Q (fun c d H' => E c d σ H'),
    ⟨_, rfl, Nat.zero_le _, W1, S1, [], [], .rf W1, r1.hide hD, .nil, p1⟩, ?_⟩
  rintro i m H2 ⟨rfl, hi, W2, S2, acc, dacc, l2, r2, t2, p2⟩
  by_cases hlt : i < it.xs.length
  · have ed : it.xs.drop i = it.xs[i] :: it.xs.drop (i + 1) := List.drop_eq_getElem_cons hlt
    have ei : it.xs[i]? = some it.xs[i] := List.getElem?_eq_getElem hlt
    generalize hd : it.xs[i] = d at ed ei
    rw [ed] at p2
    unfold compL at p2
    by_cases hG : Grd it S2
    · rw [if_pos hG] at p2
      obtain ⟨g1, _⟩ := hJ (W2.hid Dl (.lst acc)) H2 S2 (l2.s.tr Ls.hid) r2 hG
      obtain ⟨go, yld⟩ := g1 i d ei
      refine .inr ⟨go, fun H' => ∃ W' S' acc dacc, Le W1 W' ∧ R K cl (W'.hid Dl (.lst acc)) H' S' ∧ Reps K cl W' acc dacc ∧
          Post K cl (Rep K cl) W' ((compL it p mt me (wipeD ρ vs) (it.xs.drop (i + 1)) dacc.length S').bind fun xs S2 => mk (dacc ++ xs) S2) Q (fun c d H' => E c d σ H'), fun H' n => ⟨it.xs.length - (i + 1), by omega, rfl, hlt, n⟩, fun x H3 y => ?_⟩
      obtain ⟨W3, l3, r3, rx⟩ := yld x H3 y
      have back : ∀ W4 : Wd, Le (W2.hid Dl (.lst acc)) W4 → W4 = (W4.out W1.P).hid Dl (.lst acc) ∧ Le W2 (W4.out W1.P) := fun W4 l4 => by
        have eP : W4.P = upd W1.P Dl (.lst acc) := by rw [l4.p]; show upd W2.P Dl _ = _; rw [l2.p]
        refine ⟨?_, ⟨l4.g, l4.i, l4.n, l2.p.symm⟩⟩
        cases W4
        simp only [Wd.out, Wd.hid] at eP ⊢
        rw [eP]
      cases e4 : p d (wipeD ρ vs) with
      | none => simp only [e4] at p2; exact p2.elim
      | some ρ3 =>
        simp only [e4] at p2
        have ev : Envs K cl W3 (L2.wipe σ vs) (wipeD ρ vs) := ((e1.up l2).wipe vs).ups (Ls.hid.tr l3.s)
        refine ⟨W3, wipeD ρ vs, S2, d, ρ3, r3, ev, rx, e4, fun σ3 e3 off => ⟨?_, W3, ρ3, S2, r3, e3, ?_⟩⟩
        · have hw : L2.wipe σ3 vs = L2.wipe (L2.wipe σ vs) vs := wipe_ext off.1 fun j hj => off.2 j fun z => hj (ha j z)
          have hw2 : L2.wipe (L2.wipe σ vs) vs = L2.wipe σ vs := wipe_ext (wipe_length σ vs).symm fun j hj => by
            have : ∀ (vs : List Nat), j ∉ vs → (L2.wipe σ vs)[j]? = σ[j]? := by
              intro vs
              induction vs with
              | nil => intro _; rfl
              | cons v vs ih =>
                intro hj
                unfold L2.wipe
                rw [List.getElem?_set_ne (fun z => hj (by simp [z])), ih fun z => hj (by simp [z])]
            exact this vs hj
          exact hw.trans hw2
        · cases e5 : mt ρ3 S2 with
          | stk => rw [e5] at p2; exact p2.elim
          | exc z S5 => rw [e5] at p2; exact p2.elim
          | ok k S5 =>
            rw [e5] at p2
            intro W5 H5 b l5 r5 eb
            obtain rfl : b = k := eb
            cases b with
            | false =>
              obtain ⟨eq5, le5⟩ := back W5 (l3.tr l5)
              rw [eq5] at r5
              exact ⟨W5.out W1.P, S5, acc, dacc, l2.tr le5, r5, t2.up le5, Post.up le5 p2⟩
            | true =>
              refine ⟨W5, ρ3, S5, r5, e3.up l5, ?_⟩
              cases e6 : me ρ3 S5 with
              | stk => simp only [nox_ok, bind_ok, if_true, e6] at p2; exact p2.elim
              | exc z S6 => simp only [nox_ok, bind_ok, if_true, e6] at p2; exact p2.elim
              | ok dy S6 =>
                simp only [nox_ok, bind_ok, if_true, e6] at p2
                intro W6 H6 y6 l6 r6 ry
                obtain ⟨eq6, le6⟩ := back W6 ((l3.tr l5).tr l6)
                have r7 := r6
                rw [eq6] at r7
                by_cases hz : dacc.length < sizeLine
                · rw [if_pos hz] at p2
                  refine ⟨acc, (r7.priv Dl _ upd_same).1, by rw [t2.len]; exact hz, W6.out W1.P, S6, acc ++ [y6], dacc ++ [dy], l2.tr le6, r7.turn, (t2.up le6).app (.cons ?_ .nil), ?_⟩
                  · exact ry.ups Ls.out
                  · rw [List.length_append]
                    have p3 := Post.up le6 p2
                    revert p3
                    show _ → Post K cl (Rep K cl) _ ((compL it p mt me (wipeD ρ vs) (it.xs.drop (i + 1)) (dacc.length + 1) S6).bind fun xs S2 => mk (dacc ++ [dy] ++ xs) S2) _ _
                    cases compL it p mt me (wipeD ρ vs) (it.xs.drop (i + 1)) (dacc.length + 1) S6 with
                    | stk => exact fun z => z
                    | exc z S7 => exact fun z => z
                    | ok xs S7 =>
                      intro z
                      simp only [bind_ok] at z ⊢
                      rw [List.append_assoc]
                      exact z
                · rw [if_neg hz] at p2
                  exact p2.elim
    · rw [if_neg hG] at p2
      exact p2.elim
  · have ei : i = it.xs.length := by omega
    subst ei
    rw [List.drop_length] at p2
    unfold compL at p2
    by_cases hG : Grd it S2
    · rw [if_pos hG] at p2
      obtain ⟨g1, g2⟩ := hJ (W2.hid Dl (.lst acc)) H2 S2 (l2.s.tr Ls.hid) r2 hG
      have np2 : W2.P Dl = none := by rw [l2.p]; exact np
      obtain ⟨r3, h3, h4, h5⟩ := r2.unhide np2
      have p3 : Post K cl (Rep K cl) W2 (mk (dacc ++ []) S2) Q (fun c d H' => E c d σ H') := p2
      rw [List.append_nil] at p3
      exact .inl ⟨g2, hk W2 H2 S2 Dl acc dacc Q _ r3 h3 h4 h5 np2 t2 p3⟩
    · rw [if_neg hG] at p2
      exact p2.elim
theorem t_lc (own : List (Str × Nat)) (hk : MkS X.K cl mk) (hc : X.calm = true) (hN : X.N.Nodup) (hi : PI X tg iter (TIt X.K cl E mi)) (ok : BlkOk X.N X.env.scope scope own)
    (hg : ∀ (s : Shared) (H : Hp) (C : Addr) (ce : List (Str × Addr)) (fp : List Addr), PG (X.blk s H scope (compEnvC scope ce C X.env) fp) tg (Tp X.K cl a p))
    (ht : ∀ (s : Shared) (H : Hp) (C : Addr) (ce : List (Str × Addr)) (fp : List Addr), PTs (X.blk s H scope (compEnvC scope ce C X.env) fp) ifs (TB X.K cl F0 mt))
    (he : ∀ (s : Shared) (H : Hp) (C : Addr) (ce : List (Str × Addr)) (fp : List Addr), PE (X.blk s H scope (compEnvC scope ce C X.env) fp) elt (T X.K cl F0 me))
    (ha : ∀ i ∈ a, i ∈ own.map (·.2) := by decide) (hs : ∀ x, foldedSetIterable iter X.env x = pure x := by intro _; rfl) :
    PE X (.ListComp elt [⟨tg, iter, ifs, 0⟩] scope pos) (T X.K cl E (mComp mi p mt me (own.map (·.2)) mk)) :=
  pe_imp (pe_lc hc hN hi ok hg ht he hs) fun σ H Q h => lc_read hk ha h
/-- name = [..] on one line -/
theorem s_setLc (i : Nat) {y : Str} {py spos : Pos} (own : List (Str × Nat)) (hk : MkS X.K cl mk) (hc : X.calm = true) (hN : X.N.Nodup) (hi : PI X tg iter (TIt X.K cl E mi)) (ok : BlkOk X.N X.env.scope scope own)
    (hg : ∀ (s : Shared) (H : Hp) (C : Addr) (ce : List (Str × Addr)) (fp : List Addr), PG (X.blk s H scope (compEnvC scope ce C X.env) fp) tg (Tp X.K cl a p))
    (ht : ∀ (s : Shared) (H : Hp) (C : Addr) (ce : List (Str × Addr)) (fp : List Addr), PTs (X.blk s H scope (compEnvC scope ce C X.env) fp) ifs (TB X.K cl F0 mt))
    (he : ∀ (s : Shared) (H : Hp) (C : Addr) (ce : List (Str × Addr)) (fp : List Addr), PE (X.blk s H scope (compEnvC scope ce C X.env) fp) elt (T X.K cl F0 me))
    (hsw : swapsWith (.ListComp elt [⟨tg, iter, ifs, 0⟩] scope pos) (some (.Name y py)) spos.line X.env = pure true)
    (hy : X.N[i]? = some y := by rfl) (hyl : X.env.scope.names.lookup y = some .local := by rfl)
    (ha : ∀ i ∈ a, i ∈ own.map (·.2) := by decide) (hs : ∀ x, foldedSetIterable iter X.env x = pure x := by intro _; rfl) :
    PS X (.Assign [.Name y py] (.ListComp elt [⟨tg, iter, ifs, 0⟩] scope pos) spos) (Ts X.K cl E (sSet i (mComp mi p mt me (own.map (·.2)) mk))) :=
  ps_imp (ps_setLc hc hN hy hyl hsw hi ok hg ht he hs) fun A σ H ⟨W, ρ, S, hr, en, q⟩ => by
    refine lc_read hk ha ?_
    exact stepS hr en q fun W1 H1 v d S1 l1 r1 e1 rv p1 => p1 W1 H1 _ (.rf W1) r1 (e1.set i rv)

/-! ### what is walked -/
def itD (d : D) (S : Store) : Res Itb := match d with
  | .tup ds => .ok ⟨ds, none⟩ S
  | .lst ds => .ok ⟨ds, none⟩ S
  | .str z => .ok ⟨z.cps.toList.map fun c => .str ⟨#[c]⟩, none⟩ S
  | .ref n => (match S[n]? with
    | some (.lst ds) => .ok ⟨ds, some n⟩ S
    | _ => .stk)
  | _ => .stk
def mIt (m : M D) : M Itb := fun ρ S => (m ρ S).bind fun d S1 => itD d S1
theorem its_list {K : PySem.W.Frag} {W0 : Wd} {b : Addr} {it : Itb} (h : ∀ W H S, Ls W0 W → R K cl W H S → Grd it S → ∃ vs, SqL K H b vs ∧ (∀ ws, SqL K H b ws → ws = vs) ∧ Reps K cl W vs it.xs) : ItS K cl W0 (Itl K b) it := fun W H S l r g => by
  obtain ⟨vs, h1, h3, h2⟩ := h W H S l r g
  refine ⟨fun i d e => ?_, ⟨vs, h1, by rw [h2.len]; exact Nat.le_refl _⟩⟩
  obtain ⟨v, q1, q2⟩ := h2.at e
  refine ⟨⟨vs, v, h1, q1⟩, fun x H' ⟨eH, hx⟩ => ⟨W, .rf W, eH ▸ r, ?_⟩⟩
  have := hx vs h1
  rw [q1] at this
  cases this
  exact q2
theorem its_tup {K : PySem.W.Frag} {W0 : Wd} {b : Addr} {it : Itb} (h : ∀ W H S, Ls W0 W → R K cl W H S → Grd it S → ∃ vs, SqT K H b vs ∧ Reps K cl W vs it.xs) : ItS K cl W0 (Itt K b) it := fun W H S l r g => by
  obtain ⟨vs, h1, h2⟩ := h W H S l r g
  refine ⟨fun i d e => ?_, ⟨vs, h1, by rw [h2.len]; exact Nat.le_refl _⟩⟩
  obtain ⟨v, q1, q2⟩ := h2.at e
  refine ⟨⟨vs, v, h1, q1⟩, fun x H' ⟨eH, hx⟩ => ⟨W, .rf W, eH ▸ r, ?_⟩⟩
  have := hx vs h1
  rw [q1] at this
  cases this
  exact q2
theorem i_seq {m : M D} {e : Expr} (h : PE X e (T X.K cl E m)) : PI X tg e (TIt X.K cl E (mIt m)) :=
  pi_imp (pi_either (pi_tup h) (pi_either (pi_list h) (pi_str h))) fun σ H Q ⟨W, ρ, S, hr, he, q⟩ => by
    cases e0 : m ρ S with
    | stk => unfold mIt at q; rw [e0] at q; exact q.elim
    | exc x S1 =>
      unfold mIt at q
      rw [e0] at q
      refine .inl ⟨W, ρ, S, hr, he, ?_⟩
      rw [e0]
      exact q
    | ok d S1 =>
      unfold mIt at q
      rw [e0] at q
      replace q : Post X.K cl (ItS X.K cl) W (itD d S1) Q (fun c d H' => E c d σ H') := q
      unfold itD at q
      split at q
      · refine .inl ⟨W, ρ, S, hr, he, ?_⟩
        rw [e0]
        intro W1 H1 v l1 r1 rv
        cases rv with | tup h1 t =>
        refine ⟨_, rfl, ⟨_, sqT_up r1.sub h1⟩, q W1 H1 _ l1 r1 (its_tup fun W2 H2 S2 l2 r2 _ => ⟨_, sqT_up r2.sub (sqT_up l2.g h1), t.ups l2⟩)⟩
      · refine .inr (.inl ⟨W, ρ, S, hr, he, ?_⟩)
        rw [e0]
        intro W1 H1 v l1 r1 rv
        cases rv with | lst h1 t =>
        refine ⟨_, rfl, ⟨_, SqL.of (r1.sub _ _ h1)⟩, q W1 H1 _ l1 r1 ?_⟩
        intro W2 H2 S2 l2 r2 _
        have h2 := r2.sub _ _ (l2.g _ _ h1)
        refine ⟨fun i d e => ?_, ⟨_, SqL.of h2, by rw [t.len]; exact Nat.le_refl _⟩⟩
        obtain ⟨v, q1, q2⟩ := (t.ups l2).at e
        refine ⟨⟨_, v, SqL.of h2, q1⟩, fun x H' ⟨eH, hx⟩ => ⟨W2, .rf W2, eH ▸ r2, ?_⟩⟩
        have := hx _ (SqL.of h2)
        rw [q1] at this
        cases this
        exact q2
      · rename_i z
        refine .inr (.inr ⟨W, ρ, S, hr, he, ?_⟩)
        rw [e0]
        intro W1 H1 v l1 r1 rv
        cases rv
        refine ⟨_, rfl, q W1 H1 _ l1 r1 ?_⟩
        intro W2 H2 S2 l2 r2 _
        refine ⟨fun i d e => ?_, by show _ ≤ _; simp⟩
        rw [List.getElem?_map] at e
        cases ec : z.cps.toList[i]? with
        | none => rw [ec] at e; cases e
        | some c =>
          rw [ec] at e
          cases e
          refine ⟨?_, fun x H' ⟨eH, c', ec', ex⟩ => ⟨W2, .rf W2, eH ▸ r2, ?_⟩⟩
          · have := (List.getElem?_eq_some_iff.mp ec).1
            show i < z.cps.size
            simpa using this
          · rw [Array.getElem?_toList] at ec
            rw [ec] at ec'
            cases ec'
            rw [ex]
            exact .str _
      · rename_i n
        split at q
        · rename_i ds e1
          refine .inr (.inl ⟨W, ρ, S, hr, he, ?_⟩)
          rw [e0]
          intro W1 H1 v l1 r1 rv
          cases rv with | ref hn =>
          obtain ⟨g0, vs, h1, t⟩ := r1.live n _ e1 (by intro z; cases z)
          refine ⟨_, rfl, ⟨_, SqL.of h1⟩, q W1 H1 _ l1 r1 ?_⟩
          intro W2 H2 S2 l2 r2 hg
          have hg : S2[n]? = some (.lst ds) := hg
          obtain ⟨_, ws, h2, t2⟩ := r2.live n _ hg (by intro z; cases z)
          have ea : W2.ι n = W1.ι n := l2.i n hn
          rw [ea] at h2
          refine ⟨fun i d e => ?_, ⟨_, SqL.of h2, by rw [t2.len]; exact Nat.le_refl _⟩⟩
          obtain ⟨v, q1, q2⟩ := t2.at e
          refine ⟨⟨_, v, SqL.of h2, q1⟩, fun x H' ⟨eH, hx⟩ => ⟨W2, .rf W2, eH ▸ r2, ?_⟩⟩
          have := hx _ (SqL.of h2)
          rw [q1] at this
          cases this
          exact q2
        · exact q.elim
      · exact q.elim
def rng1 (as : List D) (S : Store) : Res Itb := match as with
  | [.int n] => if smR n = true then .ok ⟨(List.range n.toNat).map fun i => .int (i : Nat), none⟩ S else .stk
  | _ => .stk
def rng2 (as : List D) (S : Store) : Res Itb := match as with
  | [.int a, .int n] => if smR a = true ∧ smR n = true then .ok ⟨(List.range (n - a).toNat).map fun i => .int (a + (i : Nat)), none⟩ S else .stk
  | _ => .stk
def mRng (f : List D → Store → Res Itb) (m : M (List D)) : M Itb := fun ρ S => (m ρ S).bind fun d S1 => f d S1
theorem its_rng {K : PySem.W.Frag} {W0 : Wd} {lo : Int} {n : Nat} {xs : List D} (hx : xs = (List.range n).map fun i => D.int (lo + (i : Nat))) : ItS K cl W0 (Itr lo n) ⟨xs, none⟩ := fun W H S l r g => by
  subst hx
  refine ⟨fun i d e => ?_, by show n ≤ _; simp⟩
  have e : ((List.range n).map fun i => D.int (lo + (i : Nat)))[i]? = some d := e
  rw [List.getElem?_map] at e
  cases q : (List.range n)[i]? with
  | none => rw [q] at e; cases e
  | some j =>
    rw [q] at e
    cases e
    have hi : i < n := by have := (List.getElem?_eq_some_iff.mp q).1; simpa using this
    have hj : j = i := by rw [List.getElem?_range hi] at q; exact (Option.some.inj q).symm
    subst hj
    refine ⟨hi, fun x H' ⟨eH, ex⟩ => ⟨W, .rf W, eH ▸ r, ?_⟩⟩
    rw [ex]
    exact .int _
theorem i_range1 {e : Expr} {ms : M (List D)} {p pos : Pos} (hm : X.mg "range" = none) (ha : PA X [e] (TL X.K cl E ms)) (hg : Gl X "range" := by rfl) (hs : starEach [e] X.env = [(false, eval e X.env)] := by rfl) :
    PI X tg (.Call (.Name "range" p) [e] [] pos) (TIt X.K cl E (mRng rng1 ms)) :=
  pi_imp (pi_range1 hg hm ha hs) fun σ H Q ⟨W, ρ, S, hr, he, q⟩ => step hr he q fun W1 H1 x dx S1 l1 r1 e1 rx p1 => by
    unfold rng1 at p1
    split at p1
    · rename_i n
      cases rx with | cons ra rn =>
      cases rn; cases ra
      split at p1
      · rename_i hz
        refine ⟨n, rfl, (smR_of hz).1, (smR_of hz).2, p1.now r1 (its_rng ?_)⟩
        simp
      · exact p1.elim
    · exact p1.elim
theorem i_range2 {e e2 : Expr} {ms : M (List D)} {p pos : Pos} (hm : X.mg "range" = none) (ha : PA X [e, e2] (TL X.K cl E ms)) (hg : Gl X "range" := by rfl) (hs : starEach [e, e2] X.env = [(false, eval e X.env), (false, eval e2 X.env)] := by rfl)
    (hs2 : starEach [e2] X.env = [(false, eval e2 X.env)] := by rfl) : PI X tg (.Call (.Name "range" p) [e, e2] [] pos) (TIt X.K cl E (mRng rng2 ms)) :=
  pi_imp (pi_range2 hg hm ha hs hs2) fun σ H Q ⟨W, ρ, S, hr, he, q⟩ => step hr he q fun W1 H1 x dx S1 l1 r1 e1 rx p1 => by
    unfold rng2 at p1
    split at p1
    · rename_i b n
      cases rx with | cons ra rn =>
      cases rn with | cons rb rn =>
      cases rn; cases ra; cases rb
      split at p1
      · rename_i hz
        exact ⟨b, n, rfl, ⟨(smR_of hz.1).1, (smR_of hz.1).2, (smR_of hz.2).1, (smR_of hz.2).2⟩, p1.now r1 (its_rng rfl)⟩
      · exact p1.elim
    · exact p1.elim
end

/-! ### calls of defs -/
def ar (n : Nat) (g : List D → Store → Res D) (ds : List D) (S : Store) : Res D := if ds.length = n then g ds S else .stk
def spOf (K : PySem.W.Frag) (cl : Str → Option Addr) (n : Nat) (g : List D → Store → Res D) : Sp := fun vs H Q E => ∃ W S ds, R K cl W H S ∧ Reps K cl W vs ds ∧ Post K cl (Rep K cl) W (ar n g ds S) Q E
def startD (n : Nat) (ds : List D) : Sl := ds.map some ++ List.replicate (n - ds.length) none
def runB (n : Nat) (m : MS) (ds : List D) (S : Store) : Res D := match m (startD n ds) S with
  | .nx _ S => .ok .non S
  | .rt d S => .ok d S
  | .exc x _ S => .exc x S
  | .bk _ _ => .stk
  | .ct _ _ => .stk
  | .stk => .stk
theorem spOf_len {K : PySem.W.Frag} {cl : Str → Option Addr} {n : Nat} {g : List D → Store → Res D} {vs : List V} {H : Hp} {Q : VK} {E : XK} (h : spOf K cl n g vs H Q E) : vs.length = n := by
  obtain ⟨W, S, ds, r, t, p⟩ := h
  unfold ar at p
  by_cases hn : ds.length = n
  · rw [t.len]
    exact hn
  · rw [if_neg hn] at p
    exact p.elim
theorem spOf_imp {K : PySem.W.Frag} {cl : Str → Option Addr} {n : Nat} {g g' : List D → Store → Res D} (hg : ∀ ds S, ds.length = n → g' ds S = .stk ∨ g' ds S = g ds S) {vs : List V} {H : Hp} {Q : VK} {E : XK} (h : spOf K cl n g' vs H Q E) : spOf K cl n g vs H Q E := by
  obtain ⟨W, S, ds, r, t, p⟩ := h
  refine ⟨W, S, ds, r, t, ?_⟩
  unfold ar at p ⊢
  by_cases hn : ds.length = n
  · rw [if_pos hn] at p ⊢
    rcases hg ds S hn with e | e
    · rw [e] at p
      exact p.elim
    · rw [e] at p
      exact p
  · rw [if_neg hn] at p
    exact p.elim
theorem envs_start {K : PySem.W.Frag} {cl : Str → Option Addr} {W : Wd} {N : List Str} {vs : List V} {ds : List D} (t : Reps K cl W vs ds) : Envs K cl W (L2.start N vs) (startD N.length ds) := by
  unfold L2.start startD
  refine ⟨by simp [t.len], fun i d h => ?_⟩
  by_cases hi : i < ds.length
  · rw [List.getElem?_append_left (by simpa using hi), List.getElem?_map] at h
    cases e : ds[i]? with
    | none => rw [e] at h; cases h
    | some x =>
      rw [e] at h
      cases h
      obtain ⟨v, h1, h2⟩ := t.at e
      refine ⟨v, ?_, h2⟩
      rw [List.getElem?_append_left (by rw [List.length_map, t.len]; exact hi), List.getElem?_map, h1]
      rfl
  · rw [List.getElem?_append_right (by simpa using hi), List.getElem?_replicate] at h
    split at h <;> cases h
section
variable {P : Program} {w : World} {K : PySem.W.Frag} {mg : Str → Option Value} {base : Heap} {cl : Str → Option Addr}
/-- a def, by the semantics of its body -/
theorem fn_sem {x qual : Str} {st : Stmt} {f : Addr} {fd : FuncData} {N ps : List Str} {k n : Nat} {m : MS} (F : Fun K x qual st f fd) (Sc : FnScope N ps (defScope st)) (hn : ps.length = n)
    (body : ∀ (cdv : Value) (A : Around) (outer : List Env) (s : Shared) (H : Hp) (E : XK), Room k (A.deeper (PyProof.Rows.envOfC qual (defScope st) s.heap.objs.size f cdv)) →
      PSs (cxOf (L2.CX P w) P w K mg base N qual (defScope st) f cdv A outer s H E) (defBody st) (Ts K cl (fun c d _ H => E c d H) m)) : FnOk P w K mg base (L2.CX P w) (k + 1) f fd ps (spOf K cl n (runB N.length m)) := by
  refine F.okX Sc (fun vs H Q E h => by rw [spOf_len h, hn]) fun cdv A outer s H vs Q E hr h => ⟨_, body cdv A outer s H E hr, ?_⟩
  obtain ⟨W, S, ds, r, t, p⟩ := h
  refine ⟨W, startD N.length ds, S, r, envs_start t, ?_⟩
  unfold ar at p
  by_cases hn : ds.length = n
  · rw [if_pos hn] at p
    unfold runB at p
    cases e : m (startD N.length ds) S with
    | nx ρ S1 =>
      simp only [e] at p
      exact fun W1 H1 σ l1 r1 e1 => p W1 H1 _ l1 r1 .non
    | rt d S1 => simp only [e] at p; exact p
    | bk ρ S1 => simp only [e] at p; exact p.elim
    | ct ρ S1 => simp only [e] at p; exact p.elim
    | exc x ρ S1 =>
      simp only [e] at p
      exact fun W1 H1 σ c dd l1 r1 e1 x1 => p W1 H1 c dd l1 r1 x1
    | stk => simp only [e] at p; exact p.elim
  · rw [if_neg hn] at p
    exact p.elim
theorem fn_stk {f : Addr} {fd : FuncData} {ps : List Str} {n : Nat} : FnOk P w K mg base (L2.CX P w) 0 f fd ps (spOf K cl n fun _ _ => .stk) := by
  have no : ∀ {vs : List V} {H : Hp} {Q : VK} {E : XK}, spOf K cl n (fun _ _ => .stk) vs H Q E → False := fun h => by
    obtain ⟨W, S, ds, r, t, p⟩ := h
    unfold ar at p
    split at p <;> exact p
  exact ⟨fun vs H Q E h => (no h).elim, fun A outer s H args us vs Q E hr e0 hb r hs => (no hs).elim⟩
end
section
variable {X : Cx} {cl : Str → Option Addr} {E : WX} {k n : Nat} {f : Addr} {fd : FuncData} {ps : List Str} {g : List D → Store → Res D} {x : Str} {p pos : Pos} {e : Expr} {es : List Expr} {ms : M (List D)}
theorem t_call (F : FnOk X.prog X.w X.K X.mg X.base (L2.CX X.prog X.w) k f fd ps (spOf X.K cl n g)) (hr : Room k X.A) (hm : X.mg x = some (.ref f)) (hk : PySem.W.keepIn X.K (.ref f) = true) (hb : Binds X.K fd ps []) (tk : Takes X E)
    (ha : PA X (e :: es) (TL X.K cl E ms)) (hg : Gl X x := by rfl) (hdb : (x == ("__debug__" : Str)) = false := by decide) (he : starEach (e :: es) X.env = (false, eval e X.env) :: starEach es X.env := by rfl) (hpl : (backTo pos (starEach es X.env)).any (·.1) = false := by rfl) :
    PE X (.Call (.Name x p) (e :: es) [] pos) (T X.K cl E (mFn (ar n g) ms)) :=
  pe_imp (pe_callS F hr hg hm hk hb (fun σ => passAt tk σ) ha hdb he hpl) fun σ H Q ⟨W, ρ, S, hr, he, q⟩ => step hr he q fun W1 H1 x dx S1 l1 r1 e1 rx p1 => ⟨W1, S1, dx, r1, rx, p1⟩
end
end G
namespace G
open PySem L2
abbrev wFuel : Nat := 1000000
def mStk : M D := fun _ _ => .stk
def sStk : MS := fun _ _ => .stk
theorem bt_len : bootBuiltins "len" = some (.builtin "len") := by decide +kernel
theorem bt_all : bootBuiltins "all" = some (.builtin "all") := by decide +kernel
theorem bt_any : bootBuiltins "any" = some (.builtin "any") := by decide +kernel
theorem bt_isinstance : bootBuiltins "isinstance" = some (.builtin "isinstance") := by decide +kernel
theorem bt_int : bootBuiltins "int" = some (.type "int") := by decide +kernel
theorem bt_bool : bootBuiltins "bool" = some (.type "bool") := by decide +kernel
theorem bt_str : bootBuiltins "str" = some (.type "str") := by decide +kernel
theorem bt_list : bootBuiltins "list" = some (.type "list") := by decide +kernel
theorem bt_tuple : bootBuiltins "tuple" = some (.type "tuple") := by decide +kernel
theorem bt_dict : bootBuiltins "dict" = some (.type "dict") := by decide +kernel
section
variable {X : Cx} {cl : Str → Option Addr} {E : WX} {e : Expr} {st : Stmt} {sts : List Stmt} {pos : Pos}
/-- what is never come to -/
theorem t_stk : PE X e (T X.K cl E mStk) := ⟨fun _ _ _ _ _ _ ⟨_, _, _, _, _, p⟩ => p.elim⟩
theorem s_stk : PS X st (Ts X.K cl E sStk) := ⟨fun _ _ _ _ _ _ ⟨_, _, _, _, _, p⟩ => p.elim⟩
theorem ss_stk : PSs X sts (Ts X.K cl E sStk) := ⟨fun _ _ _ _ _ _ ⟨_, _, _, _, _, p⟩ => p.elim⟩
/-- a constant of the module, as the top left it -/
def GlobIs (K : PySem.W.Frag) (cl : Str → Option Addr) (mg : Str → Option Value) (x : Str) (d : D) : Prop := ∃ u v, mg x = some u ∧ RelV v u ∧ ∀ W, Rep K cl W v d
theorem t_glob' {x : Str} {d : D} (h : GlobIs X.K cl X.mg x d) (hg : Gl X x := by rfl) (hd : (x == ("__debug__" : Str)) = false := by decide) : PE X (.Name x pos) (T X.K cl E (mC d)) := by
  obtain ⟨u, v, hm, r, rp⟩ := h
  exact t_glob hm r rp hg hd
end
/-- a def of the module, by its semantics -/
structure Fn (P : Program) (w : World) (K : PySem.W.Frag) (mg : Str → Option Value) (base : Heap) (cl : Str → Option Addr) (x : Str) (k n : Nat) (g : List D → Store → Res D) : Prop where
  ex : ∃ f fd ps, FnOk P w K mg base (L2.CX P w) k f fd ps (spOf K cl n g) ∧ mg x = some (.ref f) ∧ PySem.W.keepIn K (.ref f) = true ∧ Binds K fd ps []
section
variable {X : Cx} {cl : Str → Option Addr} {E : WX} {k n : Nat} {g : List D → Store → Res D} {x : Str} {p pos : Pos} {e : Expr} {es : List Expr} {ms : M (List D)}
theorem t_callF (F : Fn X.prog X.w X.K X.mg X.base cl x k n g) (hr : Room k X.A) (tk : Takes X E) (ha : PA X (e :: es) (TL X.K cl E ms)) (hg : Gl X x := by rfl) (hdb : (x == ("__debug__" : Str)) = false := by decide)
    (he : starEach (e :: es) X.env = (false, eval e X.env) :: starEach es X.env := by rfl) (hpl : (backTo pos (starEach es X.env)).any (·.1) = false := by rfl) :
    PE X (.Call (.Name x p) (e :: es) [] pos) (T X.K cl E (mFn (ar n g) ms)) := by
  obtain ⟨f, fd, ps, h1, h2, h3, h4⟩ := F.ex
  exact t_call h1 hr h2 h3 h4 tk ha hg hdb he hpl
theorem t_callF0 (F : Fn X.prog X.w X.K X.mg X.base cl x k n g) (hr : Room k X.A) (tk : Takes X E) (hg : Gl X x := by rfl) (hdb : (x == ("__debug__" : Str)) = false := by decide) :
    PE X (.Call (.Name x p) [] [] pos) (T X.K cl E (mFn (ar n g) mNil)) := by
  obtain ⟨f, fd, ps, h1, h2, h3, h4⟩ := F.ex
  refine ⟨fun pins s σ H Q I ⟨W, ρ, S, hr', he', q⟩ => ?_⟩
  have hsp : spOf X.K cl n g [] H Q (WE E σ) := ⟨W, S, [], hr', .nil, q⟩
  refine wpAny_Call_Name_kw (ld_glob I hg h2 (PySem.W.callWith_K0 I.kIn h3 ?_) hdb)
  exact run_fnS (us := []) (vs := []) h1 hr h4 (passAt tk σ) I .nil hsp
end

/-! ### isinstance -/
inductive Kd where
  | non | bl | int | str | tup | lst | dct
def kd (S : Store) (d : D) : Option Kd := match d with
  | .non => some .non
  | .bl _ => some .bl
  | .int _ => some .int
  | .str _ => some .str
  | .tup _ => some .tup
  | .lst _ => some .lst
  | .dct _ => some .dct
  | .ref n => (match S[n]? with
    | some (.lst _) => some .lst
    | some (.dct _) => some .dct
    | _ => none)
  | _ => none
def Kd.ty : Kd → String
  | .non => "NoneType" | .bl => "bool" | .int => "int" | .str => "str" | .tup => "tuple" | .lst => "list" | .dct => "dict"
def isiD (f : Kd → Bool) (d : D) (S : Store) : Res D := ofB ((kd S d).map f) S
def k_int : Kd → Bool
  | .int => true | .bl => true | _ => false
def k_bool : Kd → Bool
  | .bl => true | _ => false
def k_str : Kd → Bool
  | .str => true | _ => false
def k_list : Kd → Bool
  | .lst => true | _ => false
def k_tuple : Kd → Bool
  | .tup => true | _ => false
def k_dict : Kd → Bool
  | .dct => true | _ => false
def k_list_tuple : Kd → Bool
  | .lst => true | .tup => true | _ => false
def IsK (T : String) (f : Kd → Bool) : Prop := ∀ k : Kd, kitB k.ty T = some (f k)
theorem is_int : IsK "int" k_int := fun k => by cases k <;> decide +kernel
theorem is_bool : IsK "bool" k_bool := fun k => by cases k <;> decide +kernel
theorem is_str : IsK "str" k_str := fun k => by cases k <;> decide +kernel
theorem is_list : IsK "list" k_list := fun k => by cases k <;> decide +kernel
theorem is_tuple : IsK "tuple" k_tuple := fun k => by cases k <;> decide +kernel
theorem is_dict : IsK "dict" k_dict := fun k => by cases k <;> decide +kernel
theorem kd_of {K : PySem.W.Frag} {cl : Str → Option Addr} {W : Wd} {H : Hp} {S : Store} {x : V} {d : D} {k : Kd} (r : R K cl W H S) (rx : Rep K cl W x d) (e : kd S d = some k) : TyX K H x (.type k.ty) := by
  cases rx with
  | non => cases e; exact .base .non
  | bl b => cases e; exact .base (.bl b)
  | int b => cases e; exact .base (.int b)
  | str b => cases e; exact .base (.str b)
  | tup h t =>
    cases e
    rcases h with (h | ⟨o, h⟩) | h
    · exact .base (.tup (r.sub _ _ h))
    · exact .fTuple (r.sub _ _ h)
    · obtain ⟨o, _, _, hk, hc, _⟩ := h
      exact .kTuple hk hc
  | lst h t => cases e; exact .base (.lst (r.sub _ _ h))
  | dct h t => cases e; exact .base (.dK (r.sub _ _ h))
  | ins h c t => cases e
  | scr h => cases e
  | @ref n hn =>
    unfold kd at e
    dsimp only at e
    cases q : S[n]? with
    | none => rw [q] at e; cases e
    | some mo =>
      rw [q] at e
      cases mo with
      | lst ys =>
        cases e
        obtain ⟨_, vs, h1, h2⟩ := r.live n _ q (by intro z; cases z)
        exact .base (.lst h1)
      | dct ys =>
        cases e
        obtain ⟨_, vs, h1, h2⟩ := r.live n _ q (by intro z; cases z)
        exact .base (.dK h1)
      | ins c fs => cases e
      | dead => cases e
section
variable {X : Cx} {cl : Str → Option Addr} {E : WX} {a b : Expr} {m : M D} {p p2 pos : Pos} {x : Str} {T' : String} {f : Kd → Bool}
theorem t_isi (hk : IsK T' f) (hm : X.mg "isinstance" = none) (hm2 : X.mg x = none) (hv : bootBuiltins x = some (.type T')) (ha : PE X a (T X.K cl E m)) (hg : Gl X "isinstance" := by rfl) (hg2 : Gl X x := by rfl) (hn : x ≠ "__name__" := by decide) (hdb : (x == ("__debug__" : Str)) = false := by decide)
    (hs : starEach [.Name x p2] X.env = (false, eval (.Name x p2) X.env) :: starEach [] X.env := by rfl)
    (he : starEach [a, .Name x p2] X.env = (false, eval a X.env) :: starEach [.Name x p2] X.env := by rfl) (hpl : (backTo pos (starEach [.Name x p2] X.env)).any (·.1) = false := by rfl) :
    PE X (.Call (.Name "isinstance" p) [a, .Name x p2] [] pos) (T X.K cl E (mUn (isiD f) m)) :=
  pe_imp (pe_callB call_isi hg hm bt_isinstance (pa_cons ha (pa_cons (pe_bltn (v := .ty T') hg2 hm2 hv rfl hn hdb) pa_nil hs) he) (by decide) (by decide) he hpl) fun σ H Q ⟨W, ρ, S, hr, en, q⟩ =>
    step hr en q fun W1 H1 v d S1 l1 r1 e1 rv p1 => by
      unfold isiD at p1
      cases e2 : kd S1 d with
      | none => rw [e2] at p1; exact p1.elim
      | some k =>
        rw [e2] at p1
        exact ⟨v, .ty T', _, _, f k, rfl, .ty T', kd_of r1 rv e2, kit_ty (hk k), p1.now r1 (.bl _)⟩
end

/-! ### methods of built-in types -/
def tyD (T : String) (S : Store) (d : D) : Bool := match d with
  | .str _ => T == "str"
  | .lst _ => T == "list"
  | .ref n => (match S[n]? with
    | some (.lst _) => T == "list"
    | some (.dct _) => T == "dict"
    | _ => false)
  | .dct _ => T == "dict"
  | _ => false
def mMt (T : String) (g : D → List D → Store → Res D) (o : M D) (a : M (List D)) : M D := fun ρ S => (o ρ S).bind fun x S1 => if tyD T S1 x = true then (a ρ S1).bind fun y S2 => g x y S2 else .stk
theorem tyV_of {K : PySem.W.Frag} {cl : Str → Option Addr} {W : Wd} {H : Hp} {S : Store} {x : V} {d : D} {T : String} (r : R K cl W H S) (rx : Rep K cl W x d) (e : tyD T S d = true) : tyV K T x H := by
  cases rx with
  | str z => exact beq_iff_eq.mp e
  | lst h t => exact .inl ⟨beq_iff_eq.mp e, _, SqL.of (r.sub _ _ h)⟩
  | dct h t => exact .inr (.inr (.inl ⟨beq_iff_eq.mp e, .inl ⟨_, r.sub _ _ h⟩⟩))
  | @ref n hn =>
    unfold tyD at e
    dsimp only at e
    cases q : S[n]? with
    | none => rw [q] at e; cases e
    | some mo =>
      rw [q] at e
      cases mo with
      | lst ys =>
        obtain ⟨_, vs, h1, h2⟩ := r.live n _ q (by intro z; cases z)
        exact .inl ⟨beq_iff_eq.mp e, _, SqL.of h1⟩
      | dct ys =>
        obtain ⟨_, vs, h1, h2⟩ := r.live n _ q (by intro z; cases z)
        exact .inr (.inr (.inl ⟨beq_iff_eq.mp e, .inl ⟨_, h1⟩⟩))
      | ins c fs => cases e
      | dead => cases e
  | _ => cases e
section
variable {X : Cx} {cl : Str → Option Addr} {E : WX} {o e : Expr} {es : List Expr} {m : M D} {ms : M (List D)} {name : Str} {apos cpos : Pos} {T' id : String} {r : V → List V → Hp → VK → Prop} {g : D → List D → Store → Res D}
theorem t_bm (pa : PlainAttrs T') (slot : Slot T' name id) (hty : typeOf (.builtin id) = pure (.type "method_descriptor")) (hm : MtR X id r) (hs : MtS X.K cl r g) (ho : PE X o (T X.K cl E m)) (ha : PA X (e :: es) (TL X.K cl E ms))
    (hbase : attributeBase o name X.env (eval o X.env) = eval o X.env := by rfl)
    (hfew : ((backTo cpos (starEach (e :: es) X.env)).all (fun x => !x.1) && (backToKw cpos (keywordEach [] X.env)).all (fun x => x.1.isSome) && decide ((e :: es).length + ([] : List Keyword).length + (if ([] : List Keyword).isEmpty then 0 else 1) < 30)) = true := by rfl)
    (hline : (apos.endLine == cpos.line) = true := by rfl) (hse : starEach (e :: es) X.env = (false, eval e X.env) :: starEach es X.env := by rfl) (hpl : (backTo cpos (starEach es X.env)).any (·.1) = false := by rfl) :
    PE X (.Call (.Attribute o name apos) (e :: es) [] cpos) (T X.K cl E (mMt T' g m ms)) :=
  pe_imp (pe_bm pa slot hty hm ho ha hbase hfew hline hse hpl) fun σ H Q ⟨W, ρ, S, hr, en, q⟩ => step hr en q fun W1 H1 v d S1 l1 r1 e1 rv p1 => by
    by_cases ht : tyD T' S1 d = true
    · rw [if_pos ht] at p1
      exact ⟨tyV_of r1 rv ht, step r1 e1 p1 fun W2 H2 ys ds S2 l2 r2 e2 ry p2 => hs _ _ _ _ _ _ _ _ _ r2 (rv.up l2) ry p2⟩
    · rw [if_neg ht] at p1
      exact p1.elim
theorem t_bm0 (pa : PlainAttrs T') (slot : Slot T' name id) (hty : typeOf (.builtin id) = pure (.type "method_descriptor")) (hm : MtR X id r) (hs : MtS X.K cl r g) (ho : PE X o (T X.K cl E m))
    (hbase : attributeBase o name X.env (eval o X.env) = eval o X.env := by rfl) (hline : (apos.endLine == cpos.line) = true := by rfl) :
    PE X (.Call (.Attribute o name apos) [] [] cpos) (T X.K cl E (mMt T' g m mNil)) :=
  pe_imp (pe_bm0 pa slot hty hm ho hbase hline) fun σ H Q ⟨W, ρ, S, hr, en, q⟩ => step hr en q fun W1 H1 v d S1 l1 r1 e1 rv p1 => by
    by_cases ht : tyD T' S1 d = true
    · rw [if_pos ht] at p1
      exact ⟨tyV_of r1 rv ht, hs _ _ _ _ _ _ _ _ _ r1 rv .nil p1⟩
    · rw [if_neg ht] at p1
      exact p1.elim
end
/-- sep.join -/
def stO : D → Option Str
  | .str b => some b
  | _ => none
def stsO : List D → Option (List Str)
  | [] => some []
  | d :: ds => (match stO d, stsO ds with
    | some b, some bs => some (b :: bs)
    | _, _ => none)
theorem sts_of {K : PySem.W.Frag} {cl : Str → Option Addr} {W : Wd} : ∀ {vs : List V} {ds : List D} {bs : List Str}, Reps K cl W vs ds → stsO ds = some bs → vs = bs.map V.str
  | _, _, _, .nil, e => by cases e; rfl
  | _, _, _, .cons (d := d) (ds := ds) h t, e => by
    unfold stsO at e
    cases e1 : stO d with
    | none => rw [e1] at e; cases e
    | some v =>
      cases e2 : stsO ds with
      | none => rw [e1, e2] at e; cases e
      | some vs =>
        rw [e1, e2] at e
        cases e
        rw [sts_of t e2]
        cases h <;> first | (cases e1; rfl) | cases e1
def joinD (x : D) (ys : List D) (S : Store) : Res D := match x, ys with
  | .str a, [y] => (match (sqOf S y).bind stsO with
    | some bs => if (bs.map (·.length)).sum + bs.length * a.length ≤ 16777216 then .ok (.str (Txt.join a bs)) S else .stk
    | none => .stk)
  | _, _ => .stk
theorem join_s {K : PySem.W.Frag} {cl : Str → Option Addr} : MtS K cl (fun x xs H Q => ∃ a p, ∃ ys : List Str, x = .str a ∧ xs = [.ref p] ∧ (SqL K H p (ys.map V.str) ∨ SqT K H p (ys.map V.str)) ∧
    (ys.map (·.length)).sum + ys.length * a.length ≤ 16777216 ∧ Q (.str (Txt.join a ys)) H) joinD := by
  intro W H S x a y b Q E r rx ry p
  unfold joinD at p
  split at p
  · rename_i z d
    cases rx
    cases ry with | cons ry rn =>
    cases rn
    split at p
    · rename_i bs eb
      cases e1 : sqOf S d with
      | none => rw [e1] at eb; cases eb
      | some ds =>
        rw [e1] at eb
        obtain ⟨q, vs, rfl, h, t⟩ := sq_of' r ry e1
        have ev := sts_of t (show stsO ds = some bs from eb)
        subst ev
        split at p
        · rename_i hz
          exact ⟨_, _, bs, rfl, rfl, h, hz, p.now r (.str _)⟩
        · exact p.elim
    · exact p.elim
  · exact p.elim
/-- append -/
def appD (x : D) (ys : List D) (S : Store) : Res D := match x, ys with
  | .ref n, [y] => (match S[n]? with
    | some (.lst xs) => if xs.length < sizeLine then .ok .non (S.set n (.lst (xs ++ [y]))) else .stk
    | _ => .stk)
  | _, _ => .stk
theorem app_s {K : PySem.W.Frag} {cl : Str → Option Addr} : MtS K cl rAppend appD := by
  intro W H S x a y b Q E r rx ry p
  unfold appD at p
  split at p
  · rename_i n d
    cases rx with | ref hn =>
    cases ry with | cons ry rn =>
    cases rn
    split at p
    · rename_i xs e1
      obtain ⟨_, vs, h1, h2⟩ := r.live n _ e1 (by intro z; cases z)
      split at p
      · rename_i hz
        exact ⟨_, vs, _, rfl, rfl, h1, by rw [h2.len]; exact hz, p W _ _ (.rf W) (r.put e1 (by intro z; cases z) ⟨_, upd_same, h2.app (.cons ry .nil)⟩) .non⟩
      · exact p.elim
    · exact p.elim
  · exact p.elim
section
variable {X : Cx} {cl : Str → Option Addr} {E : WX} {o e a b : Expr} {es : List Expr} {m : M D} {ms : M (List D)} {px py pt pt2 pos : Pos} {kt k2 : Nat}
/-- x, y = a, b -/
def sPar (i j : Nat) (a : M (List D)) : MS := fun ρ S => sB (a ρ S) ρ fun ds S1 => match ds with
  | [v, w] => .nx ((ρ.set i (some v)).set j (some w)) S1
  | _ => .stk
end
end G
/-! zip of two and three lists or tuples, enumerate: over the walks that tell the new tuple -/
namespace G
open PySem L2
/-- rows of n new tuples, as long as the sources stand -/
def Jt (n : Nat) (row : Nat → List V) (Sd : Hp → Prop) : It :=
  ⟨fun i H => i < n ∧ Sd H, fun i H v H' => ∃ a, v = .ref a ∧ H a = none ∧ H' = upd H a (.tup (row i)), fun i H => i = n ∧ Sd H⟩
theorem turn_of {P : Program} {w : World} {K : PySem.W.Frag} {elts : List Expr} {kk : Nat} {tpos : Pos} {fp : List Addr} {I : Addr} {n : Nat} {row : Nat → List V} {Sd : Hp → Prop} {tn : Nat → Heap → Prop}
    (mem : I ∈ fp) (obj : ∀ i h, tn i h → ∀ b ∈ fp, ∃ o, h.get? b = some o ∧ ∀ v, o.data ≠ .cell v)
    (keep : ∀ i h h', tn i h → (∀ b ∈ fp, ∀ o, h.get? b = some o → h'.get? b = some o) → tn i h') (small : ∀ i, (row i).length ≤ sizeLine)
    (src : ∀ (X : Cx) (pins : List (Addr × Obj)) (σ : L2.St) (H : Hp) (s : Shared), X.prog = P → X.w = w → X.K = K → X.calm = true → Inv X pins σ H s → Sd H → (∀ b ∈ fp, H b = none) →
      ∃ fp' wr Y Q, GoesN P w X.A (.Tuple elts kk tpos) I fp' wr n Y Q ∧ (∀ b ∈ wr, b ∈ fp) ∧ (∀ i, tn i s.heap → Q i s.heap) ∧ (∀ i h', Q i h' → tn i h') ∧
        ∀ i h v h', i < n → Y i h v h' → ∃ a us, v = .ref a ∧ h.objs.size ≤ a ∧ Vals (row i) us ∧ h'.IsTuple a us.toArray)
    (self : ∀ (A : Around) (i : Nat) (s : Shared) (Q : Value → Shared → Prop) (E : Value → Shared → Prop), tn i s.heap → Q (.ref I) s → wpAny (model P w) A (pyIter (.ref I)) Q E s) :
    Turn P w K (.Tuple elts kk tpos) (Jt n row Sd) fp I tn where
  mem := mem
  obj := obj
  keep := keep
  self := self
  item := by
    intro X hP hw hK hc i pins s σ H E J hf st hg
    obtain ⟨hi, sd⟩ := hg
    obtain ⟨fp', wr, Y, Q, W, hsub, h1, h2, h3⟩ := src X pins σ H s hP hw hK hc J sd fun b hb => (hf b hb).1
    refine W.goes i s _ E hi (h1 i st) fun v h' tk hY st' hk htk => ?_
    obtain ⟨a, us, rfl, hn, rv, ht⟩ := h3 i s.heap v h' hi hY
    have free : H a = none := J.hok.fresh hn
    have isT : ObjOk X.prog X.w (upd H a (.tup (row i))) h' a (.tup (row i)) := ⟨small i, us, rv, ht⟩
    have J' := J.turnedNew (t' := tk) (ch := fp) (fun b o hb e => hk b o (fun z => hb (hsub b z)) e) hf hn isT
    refine ⟨.ref a, _, J', rfl, ⟨a, rfl, free, rfl⟩, h2 _ _ st', fun b hb => ?_⟩
    obtain ⟨o, ho, _⟩ := obj i s.heap st b hb
    rw [upd_ne (Nat.ne_of_lt (Nat.lt_of_lt_of_le (Heap.lt_size ho) hn))]
    exact (hf b hb).1
  done := by
    intro X hP hw hK hc i pins s σ H E J hf st hg
    obtain ⟨rfl, sd⟩ := hg
    obtain ⟨fp', wr, Y, Q, W, hsub, h1, h2, h3⟩ := src X pins σ H s hP hw hK hc J sd fun b hb => (hf b hb).1
    exact W.stops s (fun s1 => Inv X pins σ H s1) E (h1 _ st) fun h' tk hk htk => J.turnedL (t' := tk) (ch := fp) (fun b o hb e => hk b o (fun z => hb (hsub b z)) e) hf

/-! a source: a tuple (true) or a list (false) -/
def SqK (k : Bool) (K : PySem.W.Frag) (H : Hp) (a : Addr) (xs : List V) : Prop := if k = true then SqT K H a xs else SqL K H a xs
def ItK (k : Bool) (h : Heap) (it a : Addr) (i : Nat) : Prop := if k = true then h.IsTupleIter it a i else h.IsListIter it a i
def HsK (k : Bool) (h : Heap) (a : Addr) (its : Array Value) : Prop := if k = true then h.IsTuple a its else h.IsList a its
def itO (k : Bool) (l : Addr) : Obj := { cls := .type (if k then "tuple_iterator" else "list_iterator"), data := .fields #[.ref l, .int 0 0] }
theorem drawsK (k : Bool) {prog : Program} {w : World} {A : Around} (hh : A.handled = none) (it t : Addr) (hne : t ≠ it) (its : Array Value) :
    Draws prog w A it [it, t] its.size (fun i v => its[i]? = some v) (fun i h => ItK k h it t i ∧ HsK k h t its) := by
  cases k
  · exact Draws.list hh it t hne its
  · exact Draws.tuple hh it t hne its
theorem beginsK (k : Bool) (l : Addr) (its : Array Value) : Begins (.ref l) (itO k l) fun h => HsK k h l its := by
  cases k
  · exact begins_list l its
  · exact begins_tuple l its
theorem itK_at {k : Bool} {h h' : Heap} {it a : Addr} {i : Nat} (x : ItK k h it a i) (e : ∀ o, h.get? it = some o → h'.get? it = some o) : ItK k h' it a i := by
  cases k
  · exact Heap.IsListIter.at x e
  · exact Heap.IsTupleIter.at x e
theorem itK_obj {k : Bool} {h : Heap} {it a : Addr} {i : Nat} (x : ItK k h it a i) : ∃ o, h.get? it = some o ∧ ∀ v, o.data ≠ .cell v := by
  cases k
  · obtain ⟨o, e, _, d⟩ := (show h.IsListIter it a i from x)
    exact ⟨o, e, fun v q => by rw [d] at q; cases q⟩
  · obtain ⟨o, e, _, d⟩ := (show h.IsTupleIter it a i from x)
    exact ⟨o, e, fun v q => by rw [d] at q; cases q⟩
theorem itK_new {k : Bool} {h : Heap} {it l : Addr} (e : h.get? it = some (itO k l)) : ItK k h it l 0 := by
  cases k
  · exact ⟨_, e, rfl, rfl⟩
  · exact ⟨_, e, rfl, rfl⟩
theorem sqK_up {k : Bool} {K : PySem.W.Frag} {A B : Hp} {a : Addr} {xs : List V} (g : ∀ a o, A a = some o → B a = some o) (h : SqK k K A a xs) : SqK k K B a xs := by
  cases k
  · exact sqL_up g h
  · exact sqT_up g h
theorem inv_K {X : Cx} {pins : List (Addr × Obj)} {σ : L2.St} {H : Hp} {s : Shared} {k : Bool} {a : Addr} {xs : List V} (J : Inv X pins σ H s) (h : SqK k X.K H a xs) : ∃ us : List Value, Vals xs us ∧ HsK k s.heap a us.toArray ∧ a < s.heap.objs.size := by
  cases k
  · obtain ⟨us, rv, p, _⟩ := J.list h
    exact ⟨us, rv, p.isList, p.lt⟩
  · obtain ⟨us, rv, p, _⟩ := J.tuple h
    obtain ⟨o, e, _⟩ := id p
    exact ⟨us, rv, p, Heap.lt_size e⟩
theorem vals_at {xs : List V} {us : List Value} {i : Nat} {x : V} {u : Value} (r : Vals xs us) (h : xs[i]? = some x) (e : us.toArray[i]? = some u) : RelV x u := by
  obtain ⟨u', h1, h2⟩ := r.get h
  have e : us[i]? = some u := by simpa using e
  rw [h1] at e
  cases e
  exact h2
def rowAt (ls : List (List V)) (i : Nat) : List V := ls.map fun xs => xs[i]?.getD .non
theorem fp_ok {X : Cx} {pins : List (Addr × Obj)} {σ : L2.St} {H : Hp} {s : Shared} (J : Inv X pins σ H s) {fp : List Addr} (h : ∀ b ∈ fp, s.heap.objs.size ≤ b) : ∀ b ∈ fp, FpOk X pins H b := fun b hb => J.fpOk (h b hb) (J.hok.fresh (h b hb))
def tn3 (k1 k2 k3 : Bool) (z ti tt i1 i2 i3 a b c : Addr) (i : Nat) (h : Heap) : Prop :=
  IsZip h z ti tt .none ∧ IsTupOf3 h ti (.ref i1) (.ref i2) (.ref i3) ∧ (∃ x y u, IsTupOf3 h tt x y u) ∧ ItK k1 h i1 a i ∧ ItK k2 h i2 b i ∧ ItK k3 h i3 c i
def tn2 (k1 k2 : Bool) (z ti tt i1 i2 a b : Addr) (i : Nat) (h : Heap) : Prop :=
  IsZip h z ti tt .none ∧ IsTupOf2 h ti (.ref i1) (.ref i2) ∧ (∃ x y, IsTupOf2 h tt x y) ∧ ItK k1 h i1 a i ∧ ItK k2 h i2 b i
theorem turn_zip3 {P : Program} {w : World} {K : PySem.W.Frag} {elts : List Expr} {kk : Nat} {tpos : Pos} {k1 k2 k3 : Bool} {N : Nat} {a b c : Addr} {xs ys zs : List V} (ha : a < N) (hb : b < N) (hc : c < N) :
    Turn P w K (.Tuple elts kk tpos) (Jt (min (min xs.length ys.length) zs.length) (rowAt [xs, ys, zs]) fun H => SqK k1 K H a xs ∧ SqK k2 K H b ys ∧ SqK k3 K H c zs) [N + 5, N + 3, N + 4, N, N + 1, N + 2] (N + 5) (tn3 k1 k2 k3 (N + 5) (N + 3) (N + 4) N (N + 1) (N + 2) a b c) := by
  refine turn_of (by simp) (fun i h st q hq => ?_) (fun i h h' st kp => ?_) (fun i => by show 3 ≤ sizeLine; decide) (fun X pins σ H s hP hw hK hcm J sd fr => ?_) (fun A i s Q E st q => wpAny_pyIter_zip st.1 q)
  · obtain ⟨hz, hTI, ⟨x, y, u, hTO⟩, h1, h2, h3⟩ := st
    simp only [List.mem_cons, List.not_mem_nil, or_false] at hq
    rcases hq with rfl | rfl | rfl | rfl | rfl | rfl
    · exact ⟨_, hz, fun v z => nomatch z⟩
    · exact ⟨_, hTI, fun v z => nomatch z⟩
    · exact ⟨_, hTO, fun v z => nomatch z⟩
    · exact itK_obj h1
    · exact itK_obj h2
    · exact itK_obj h3
  · obtain ⟨hz, hTI, ⟨x, y, u, hTO⟩, h1, h2, h3⟩ := st
    exact ⟨kp _ (by simp) _ hz, kp _ (by simp) _ hTI, ⟨x, y, u, kp _ (by simp) _ hTO⟩, itK_at h1 (kp _ (by simp)), itK_at h2 (kp _ (by simp)), itK_at h3 (kp _ (by simp))⟩
  · subst hP hw hK
    obtain ⟨s1, s2, s3⟩ := sd
    obtain ⟨u1, v1, q1, _⟩ := inv_K J s1
    obtain ⟨u2, v2, q2, _⟩ := inv_K J s2
    obtain ⟨u3, v3, q3, _⟩ := inv_K J s3
    have hh := J.ok.hd hcm
    have fst : ∀ d, d < N → ∀ e ∈ [d], e < N := fun d hd e he => by simp at he; omega
    have W := GoesN.zip3 (prog := X.prog) (w := X.w) (A := X.A) (elts := elts) (x1 := kk) (pos := tpos) (zip_sep3 (N := N) (fst a ha) (fst b hb) (fst c hc)) (drawsK k1 (A := X.A.in1) hh N a (Nat.ne_of_lt ha) u1.toArray) (drawsK k2 (A := X.A.in1) hh (N + 1) b (Nat.ne_of_lt (Nat.lt_of_lt_of_le hb (Nat.le_add_right _ _))) u2.toArray) (drawsK k3 (A := X.A.in1) hh (N + 2) c (Nat.ne_of_lt (Nat.lt_of_lt_of_le hc (Nat.le_add_right _ _))) u3.toArray)
    have en : min (min u1.toArray.size u2.toArray.size) u3.toArray.size = min (min xs.length ys.length) zs.length := by simp [v1.length, v2.length, v3.length]
    rw [en] at W
    refine ⟨_, _, _, _, W, ?_, fun i st => ?_, fun i h' st => ?_, fun i h v h' hi hY => ?_⟩
    · intro q hq
      simp only [List.mem_cons, List.not_mem_nil, or_false] at hq ⊢
      rcases hq with e | e | e | e | e <;> simp [e]
    · obtain ⟨hz, hTI, hTO, h1, h2, h3⟩ := st
      exact ⟨hz, hTI, hTO, ⟨h1, q1⟩, ⟨h2, q2⟩, ⟨h3, q3⟩⟩
    · obtain ⟨hz, hTI, hTO, h1, h2, h3⟩ := st
      exact ⟨hz, hTI, hTO, h1.1, h2.1, h3.1⟩
    · obtain ⟨t, x, y, u, rfl, hn, hx, hy, hu, ht⟩ := hY
      have g1 : xs[i]? = some (xs[i]?.getD .non) := by rw [List.getElem?_eq_getElem (by omega : i < xs.length)]; rfl
      have g2 : ys[i]? = some (ys[i]?.getD .non) := by rw [List.getElem?_eq_getElem (by omega : i < ys.length)]; rfl
      have g3 : zs[i]? = some (zs[i]?.getD .non) := by rw [List.getElem?_eq_getElem (by omega : i < zs.length)]; rfl
      exact ⟨t, [x, y, u], rfl, hn, .cons (vals_at v1 g1 hx) (.cons (vals_at v2 g2 hy) (.cons (vals_at v3 g3 hu) .nil)), ht⟩
theorem turn_zip2 {P : Program} {w : World} {K : PySem.W.Frag} {elts : List Expr} {kk : Nat} {tpos : Pos} {k1 k2 : Bool} {N : Nat} {a b : Addr} {xs ys : List V} (ha : a < N) (hb : b < N) :
    Turn P w K (.Tuple elts kk tpos) (Jt (min xs.length ys.length) (rowAt [xs, ys]) fun H => SqK k1 K H a xs ∧ SqK k2 K H b ys) [N + 4, N + 2, N + 3, N, N + 1] (N + 4) (tn2 k1 k2 (N + 4) (N + 2) (N + 3) N (N + 1) a b) := by
  refine turn_of (by simp) (fun i h st q hq => ?_) (fun i h h' st kp => ?_) (fun i => by show 2 ≤ sizeLine; decide) (fun X pins σ H s hP hw hK hcm J sd fr => ?_) (fun A i s Q E st q => wpAny_pyIter_zip st.1 q)
  · obtain ⟨hz, hTI, ⟨x, y, hTO⟩, h1, h2⟩ := st
    simp only [List.mem_cons, List.not_mem_nil, or_false] at hq
    rcases hq with rfl | rfl | rfl | rfl | rfl
    · exact ⟨_, hz, fun v z => nomatch z⟩
    · exact ⟨_, hTI, fun v z => nomatch z⟩
    · exact ⟨_, hTO, fun v z => nomatch z⟩
    · exact itK_obj h1
    · exact itK_obj h2
  · obtain ⟨hz, hTI, ⟨x, y, hTO⟩, h1, h2⟩ := st
    exact ⟨kp _ (by simp) _ hz, kp _ (by simp) _ hTI, ⟨x, y, kp _ (by simp) _ hTO⟩, itK_at h1 (kp _ (by simp)), itK_at h2 (kp _ (by simp))⟩
  · subst hP hw hK
    obtain ⟨s1, s2⟩ := sd
    obtain ⟨u1, v1, q1, _⟩ := inv_K J s1
    obtain ⟨u2, v2, q2, _⟩ := inv_K J s2
    have hh := J.ok.hd hcm
    have fst : ∀ d, d < N → ∀ e ∈ [d], e < N := fun d hd e he => by simp at he; omega
    have W := GoesN.zip2 (prog := X.prog) (w := X.w) (A := X.A) (elts := elts) (x1 := kk) (pos := tpos) (zip_sep2 (N := N) (fst a ha) (fst b hb)) (drawsK k1 (A := X.A.in1) hh N a (Nat.ne_of_lt ha) u1.toArray) (drawsK k2 (A := X.A.in1) hh (N + 1) b (Nat.ne_of_lt (Nat.lt_of_lt_of_le hb (Nat.le_add_right _ _))) u2.toArray)
    have en : min u1.toArray.size u2.toArray.size = min xs.length ys.length := by simp [v1.length, v2.length]
    rw [en] at W
    refine ⟨_, _, _, _, W, ?_, fun i st => ?_, fun i h' st => ?_, fun i h v h' hi hY => ?_⟩
    · intro q hq
      simp only [List.mem_cons, List.not_mem_nil, or_false] at hq ⊢
      rcases hq with e | e | e | e <;> simp [e]
    · obtain ⟨hz, hTI, hTO, h1, h2⟩ := st
      exact ⟨hz, hTI, hTO, ⟨h1, q1⟩, ⟨h2, q2⟩⟩
    · obtain ⟨hz, hTI, hTO, h1, h2⟩ := st
      exact ⟨hz, hTI, hTO, h1.1, h2.1⟩
    · obtain ⟨t, x, y, rfl, hn, hx, hy, ht⟩ := hY
      have g1 : xs[i]? = some (xs[i]?.getD .non) := by rw [List.getElem?_eq_getElem (by omega : i < xs.length)]; rfl
      have g2 : ys[i]? = some (ys[i]?.getD .non) := by rw [List.getElem?_eq_getElem (by omega : i < ys.length)]; rfl
      exact ⟨t, [x, y], rfl, hn, .cons (vals_at v1 g1 hx) (.cons (vals_at v2 g2 hy) .nil), ht⟩
/-- the walked things as they begin -/
def iZ3 (K : PySem.W.Frag) (ta : TA) : TI := fun σ H R => ta σ H fun vs H1 => ∃ k1 k2 k3 a b c xs ys zs, vs = [.ref a, .ref b, .ref c] ∧ SqK k1 K H1 a xs ∧ SqK k2 K H1 b ys ∧ SqK k3 K H1 c zs ∧
  R (Jt (min (min xs.length ys.length) zs.length) (rowAt [xs, ys, zs]) fun H => SqK k1 K H a xs ∧ SqK k2 K H b ys ∧ SqK k3 K H c zs) H1
def iZ2 (K : PySem.W.Frag) (ta : TA) : TI := fun σ H R => ta σ H fun vs H1 => ∃ k1 k2 a b xs ys, vs = [.ref a, .ref b] ∧ SqK k1 K H1 a xs ∧ SqK k2 K H1 b ys ∧
  R (Jt (min xs.length ys.length) (rowAt [xs, ys]) fun H => SqK k1 K H a xs ∧ SqK k2 K H b ys) H1
theorem pi_z3 {X : Cx} {e e2 e3 : Expr} {ta : TA} {p pos tpos : Pos} {elts : List Expr} {kk : Nat} (hg : Gl X "zip") (hm : X.mg "zip" = none) (ha : PA X [e, e2, e3] ta)
    (hs : starEach [e, e2, e3] X.env = (false, eval e X.env) :: starEach [e2, e3] X.env) (hpl : (backTo pos (starEach [e2, e3] X.env)).any (·.1) = false) :
    PI X (.Tuple elts kk tpos) (.Call (.Name "zip" p) [e, e2, e3] [] pos) (iZ3 X.K ta) := by
  refine ⟨fun pins s σ H Q J h => ?_⟩
  refine PyProof.Rows.Call_ (ld_blt J hg hm PyProof.Rows.boot_zip (PyProof.Rows.callWith_type1 (thn (ha.run pos pins s σ H _ J h) fun us s1 ⟨vs, H1, J1, r1, q1⟩ => ?_) hs hpl))
  obtain ⟨k1, k2, k3, a, b, c, xs, ys, zs, rfl, w1, w2, w3, q⟩ := q1
  cases r1 with | cons r r' =>
  cases r' with | cons r2 r' =>
  cases r' with | cons r3 r' =>
  cases r'; cases r; cases r2; cases r3
  obtain ⟨u1, v1, p1, t1⟩ := inv_K J1 w1
  obtain ⟨u2, v2, p2, t2⟩ := inv_K J1 w2
  obtain ⟨u3, v3, p3, t3⟩ := inv_K J1 w3
  refine zip_begins3 (beginsK k1 a u1.toArray) (beginsK k2 b u2.toArray) (beginsK k3 c u3.toArray) p1 p2 p3 fun h' hz hTI hTO o1 o2 o3 hsz hk => wpAny_pyIter_zip hz ?_
  have J2 : Inv X pins σ H1 { s1 with heap := h' } := J1.kept (t' := s1.toks) hk
  refine ⟨s1.heap.objs.size + 5, _, _, _, H1, rfl, J2, turn_zip3 (N := s1.heap.objs.size) t1 t2 t3, ⟨hz, hTI, ⟨_, _, _, hTO⟩, itK_new o1, itK_new o2, itK_new o3⟩, fp_ok J1 (fun q hq => ?_), q⟩
  simp only [List.mem_cons, List.not_mem_nil, or_false] at hq
  rcases hq with e | e | e | e | e | e <;> rw [e] <;> first | exact Nat.le_add_right _ _ | exact Nat.le_refl _
theorem pi_z2 {X : Cx} {e e2 : Expr} {ta : TA} {p pos tpos : Pos} {elts : List Expr} {kk : Nat} (hg : Gl X "zip") (hm : X.mg "zip" = none) (ha : PA X [e, e2] ta)
    (hs : starEach [e, e2] X.env = (false, eval e X.env) :: starEach [e2] X.env) (hpl : (backTo pos (starEach [e2] X.env)).any (·.1) = false) :
    PI X (.Tuple elts kk tpos) (.Call (.Name "zip" p) [e, e2] [] pos) (iZ2 X.K ta) := by
  refine ⟨fun pins s σ H Q J h => ?_⟩
  refine PyProof.Rows.Call_ (ld_blt J hg hm PyProof.Rows.boot_zip (PyProof.Rows.callWith_type1 (thn (ha.run pos pins s σ H _ J h) fun us s1 ⟨vs, H1, J1, r1, q1⟩ => ?_) hs hpl))
  obtain ⟨k1, k2, a, b, xs, ys, rfl, w1, w2, q⟩ := q1
  cases r1 with | cons r r' =>
  cases r' with | cons r2 r' =>
  cases r'; cases r; cases r2
  obtain ⟨u1, v1, p1, t1⟩ := inv_K J1 w1
  obtain ⟨u2, v2, p2, t2⟩ := inv_K J1 w2
  refine zip_begins2 (beginsK k1 a u1.toArray) (beginsK k2 b u2.toArray) p1 p2 fun h' hz hTI hTO o1 o2 hsz hk => wpAny_pyIter_zip hz ?_
  have J2 : Inv X pins σ H1 { s1 with heap := h' } := J1.kept (t' := s1.toks) hk
  refine ⟨s1.heap.objs.size + 4, _, _, _, H1, rfl, J2, turn_zip2 (N := s1.heap.objs.size) t1 t2, ⟨hz, hTI, ⟨_, _, hTO⟩, itK_new o1, itK_new o2⟩, fp_ok J1 (fun q hq => ?_), q⟩
  simp only [List.mem_cons, List.not_mem_nil, or_false] at hq
  rcases hq with e | e | e | e | e <;> rw [e] <;> first | exact Nat.le_add_right _ _ | exact Nat.le_refl _
/-- frozen lists and tuples -/
def frzOf (d : D) : Option (List D) := match d with
  | .tup ds => some ds
  | .lst ds => some ds
  | _ => none
theorem frz_of {K : PySem.W.Frag} {cl : Str → Option Addr} {W : Wd} {x : V} {d : D} {ds : List D} (h : Rep K cl W x d) (e : frzOf d = some ds) : ∃ k a vs, x = .ref a ∧ SqK k K W.G a vs ∧ Reps K cl W vs ds := by
  cases h <;> first | (cases e; done) | skip
  · rename_i hq t
    cases e
    exact ⟨true, _, _, rfl, hq, t⟩
  · rename_i hq t
    cases e
    exact ⟨false, _, _, rfl, SqL.of hq, t⟩
def zipRow (ls : List (List D)) (i : Nat) : D := .tup (ls.map fun xs => xs[i]?.getD .non)
theorem row_rep {K : PySem.W.Frag} {cl : Str → Option Addr} {W : Wd} {i : Nat} {xs : List V} {ds : List D} (t : Reps K cl W xs ds) (h : i < ds.length) : Rep K cl W (xs[i]?.getD .non) (ds[i]?.getD .non) := by
  obtain ⟨v, h1, h2⟩ := t.at (List.getElem?_eq_getElem h)
  rw [h1, List.getElem?_eq_getElem h]
  exact h2
def zip3 (as : List D) (S : Store) : Res Itb := match as with
  | [a, b, c] => (match frzOf a, frzOf b, frzOf c with
    | some x, some y, some z => .ok ⟨(List.range (min (min x.length y.length) z.length)).map (zipRow [x, y, z]), none⟩ S
    | _, _, _ => .stk)
  | _ => .stk
def zip2 (as : List D) (S : Store) : Res Itb := match as with
  | [a, b] => (match frzOf a, frzOf b with
    | some x, some y => .ok ⟨(List.range (min x.length y.length)).map (zipRow [x, y]), none⟩ S
    | _, _ => .stk)
  | _ => .stk
theorem its_row {K : PySem.W.Frag} {cl : Str → Option Addr} {W0 : Wd} {n : Nat} {row : Nat → List V} {Sd : Hp → Prop} {f : Nat → List D} (hs : ∀ W H S, Ls W0 W → R K cl W H S → Sd H) (hr : ∀ i, i < n → Reps K cl W0 (row i) (f i)) :
    ItS K cl W0 (Jt n row Sd) ⟨(List.range n).map fun i => .tup (f i), none⟩ := fun W H S l r g => by
  refine ⟨fun i d e => ?_, ?_⟩
  · have e : ((List.range n).map fun i => D.tup (f i))[i]? = some d := e
    rw [List.getElem?_map] at e
    cases q : (List.range n)[i]? with
    | none => rw [q] at e; cases e
    | some j =>
      rw [q] at e
      cases e
      have hi : i < n := by have := (List.getElem?_eq_some_iff.mp q).1; simpa using this
      have hj : j = i := by rw [List.getElem?_range hi] at q; exact (Option.some.inj q).symm
      subst hj
      refine ⟨⟨hi, hs W H S l r⟩, fun x H' ⟨a, ex, ha, eH⟩ => ?_⟩
      subst ex eH
      obtain ⟨r2, l2⟩ := r.fz (o := .tup (row j)) ha
      exact ⟨_, l2, r2, .tup (SqT.of upd_same) (((hr j hi).ups l).up l2)⟩
  · show _ = n ∧ Sd H
    exact ⟨by simp, hs W H S l r⟩
section
variable {X : Cx} {cl : Str → Option Addr} {E : WX} {e e2 e3 : Expr} {ms : M (List D)} {p pos tpos : Pos} {elts : List Expr} {kk : Nat}
theorem i_zip3 (hm : X.mg "zip" = none) (ha : PA X [e, e2, e3] (TL X.K cl E ms)) (hg : Gl X "zip" := by rfl)
    (hs : starEach [e, e2, e3] X.env = (false, eval e X.env) :: starEach [e2, e3] X.env := by rfl) (hpl : (backTo pos (starEach [e2, e3] X.env)).any (·.1) = false := by rfl) :
    PI X (.Tuple elts kk tpos) (.Call (.Name "zip" p) [e, e2, e3] [] pos) (TIt X.K cl E (mRng zip3 ms)) :=
  pi_imp (pi_z3 hg hm ha hs hpl) fun σ H Q ⟨W, ρ, S, hr, he, q⟩ => step hr he q fun W1 H1 x dx S1 l1 r1 e1 rx p1 => by
    unfold zip3 at p1
    split at p1
    · cases rx with | cons ra rn =>
      cases rn with | cons rb rn =>
      cases rn with | cons rc rn =>
      cases rn
      split at p1
      · rename_i x y z ea eb ec
        obtain ⟨k1, a, xs, rfl, s1, t1⟩ := frz_of ra ea
        obtain ⟨k2, b, ys, rfl, s2, t2⟩ := frz_of rb eb
        obtain ⟨k3, c, zs, rfl, s3, t3⟩ := frz_of rc ec
        refine ⟨k1, k2, k3, a, b, c, xs, ys, zs, rfl, sqK_up r1.sub s1, sqK_up r1.sub s2, sqK_up r1.sub s3, p1.now r1 ?_⟩
        rw [t1.len, t2.len, t3.len]
        refine its_row (fun W H S l r => ⟨sqK_up r.sub (sqK_up l.g s1), sqK_up r.sub (sqK_up l.g s2), sqK_up r.sub (sqK_up l.g s3)⟩) fun i hi => ?_
        exact .cons (row_rep t1 (by omega)) (.cons (row_rep t2 (by omega)) (.cons (row_rep t3 (by omega)) .nil))
      · exact p1.elim
    · exact p1.elim
theorem i_zip2 (hm : X.mg "zip" = none) (ha : PA X [e, e2] (TL X.K cl E ms)) (hg : Gl X "zip" := by rfl)
    (hs : starEach [e, e2] X.env = (false, eval e X.env) :: starEach [e2] X.env := by rfl) (hpl : (backTo pos (starEach [e2] X.env)).any (·.1) = false := by rfl) :
    PI X (.Tuple elts kk tpos) (.Call (.Name "zip" p) [e, e2] [] pos) (TIt X.K cl E (mRng zip2 ms)) :=
  pi_imp (pi_z2 hg hm ha hs hpl) fun σ H Q ⟨W, ρ, S, hr, he, q⟩ => step hr he q fun W1 H1 x dx S1 l1 r1 e1 rx p1 => by
    unfold zip2 at p1
    split at p1
    · cases rx with | cons ra rn =>
      cases rn with | cons rb rn =>
      cases rn
      split at p1
      · rename_i x y ea eb
        obtain ⟨k1, a, xs, rfl, s1, t1⟩ := frz_of ra ea
        obtain ⟨k2, b, ys, rfl, s2, t2⟩ := frz_of rb eb
        refine ⟨k1, k2, a, b, xs, ys, rfl, sqK_up r1.sub s1, sqK_up r1.sub s2, p1.now r1 ?_⟩
        rw [t1.len, t2.len]
        refine its_row (fun W H S l r => ⟨sqK_up r.sub (sqK_up l.g s1), sqK_up r.sub (sqK_up l.g s2)⟩) fun i hi => ?_
        exact .cons (row_rep t1 (by omega)) (.cons (row_rep t2 (by omega)) .nil)
      · exact p1.elim
    · exact p1.elim
end
end G
/-! running the semantics by simp: from the left, never under a continuation -/
namespace G
open PySem L2
def oB (o : Out) (f : Sl → Store → Out) : Out := match o with
  | .nx ρ S => f ρ S
  | o => o
def fB (o : Out) (f : Sl → Store → Out) : Out := match o with
  | .nx ρ S => f ρ S
  | .ct ρ S => f ρ S
  | .bk ρ S => .nx ρ S
  | .rt d S => .rt d S
  | .exc x ρ S => .exc x ρ S
  | .stk => .stk
def rB (o : Out) : Res D := match o with
  | .nx _ S => .ok .non S
  | .rt d S => .ok d S
  | .exc x _ S => .exc x S
  | .bk _ _ => .stk
  | .ct _ _ => .stk
  | .stk => .stk
def vO (o : Option (Option D)) (S : Store) : Res D := match o with
  | some (some d) => .ok d S
  | _ => .stk
def pO (o : Option Sl) (S : Store) : Out := match o with
  | some ρ => .nx ρ S
  | none => .stk
def qO (o : Option Store) (ρ : Sl) : Out := match o with
  | some S => .nx ρ S
  | none => .stk
def gO (o : Option (Option D)) (f : D → Out) : Out := match o with
  | some (some d) => f d
  | _ => .stk
def prO (d : D) (S : Store) : Res (Option Int) := match d with
  | .int i => .ok (some i) S
  | _ => .stk
/-! the continuations, by name -/
section
variable (ρ : Sl)
def kOp (g : D → D → Store → Res D) (b : M D) (x : D) (S : Store) : Res D := (b ρ S).bind (g x)
def kC (x : D) (y : List D) (S : Store) : Res (List D) := .ok (x :: y) S
def kCons (b : M (List D)) (x : D) (S : Store) : Res (List D) := (b ρ S).bind (kC x)
def kIte (a b : M D) (k : Bool) (S : Store) : Res D := if k = true then a ρ S else b ρ S
def kAnd (b : M Bool) (k : Bool) (S : Store) : Res Bool := if k = true then b ρ S else .ok false S
def kOr (b : M Bool) (k : Bool) (S : Store) : Res Bool := if k = true then .ok true S else b ρ S
def kNot (k : Bool) (S : Store) : Res Bool := .ok (!k) S
def kAndV2 (b : M D) (x : D) (k : Bool) (S : Store) : Res D := if k = true then b ρ S else .ok x S
def kAndV (b : M D) (x : D) (S : Store) : Res D := (truD x S).bind (kAndV2 ρ b x)
def kOrV2 (b : M D) (x : D) (k : Bool) (S : Store) : Res D := if k = true then .ok x S else b ρ S
def kOrV (b : M D) (x : D) (S : Store) : Res D := (truD x S).bind (kOrV2 ρ b x)
def kNotV2 (k : Bool) (S : Store) : Res D := .ok (.bl (!k)) S
def kNotV (x : D) (S : Store) : Res D := (truD x S).bind kNotV2
def kCh4 (g' : D → D → Store → Res D) (c : M D) (y : D) (k : Bool) (S : Store) : Res D := if k = true then (c ρ S).bind (g' y) else .ok (.bl false) S
def kCh3 (g' : D → D → Store → Res D) (c : M D) (y z : D) (S : Store) : Res D := (asB z S).bind (kCh4 ρ g' c y)
def kCh2 (g g' : D → D → Store → Res D) (c : M D) (x y : D) (S : Store) : Res D := (g x y S).bind (kCh3 ρ g' c y)
def kCh (g g' : D → D → Store → Res D) (b c : M D) (x : D) (S : Store) : Res D := (b ρ S).bind (kCh2 ρ g g' c x)
def kSl2 (g : D → Option Int → Option Int → Store → Res D) (h : M (Option Int)) (x : D) (lo : Option Int) (S : Store) : Res D := (h ρ S).bind (g x lo)
def kSl (g : D → Option Int → Option Int → Store → Res D) (l h : M (Option Int)) (x : D) (S : Store) : Res D := (l ρ S).bind (kSl2 ρ g h x)
def kMt (t : String) (g : D → List D → Store → Res D) (a : M (List D)) (x : D) (S : Store) : Res D := if tyD t S x = true then (a ρ S).bind (g x) else .stk
noncomputable def kComp (p : Pt) (t : M Bool) (e : M D) (vs : List Nat) (mk : List D → Store → Res D) (it : Itb) (S : Store) : Res D := (compL it p t e (wipeD ρ vs) it.xs 0 S).bind mk
def kSet (n : Nat) (d : D) (S : Store) : Out := .nx (ρ.set n (some d)) S
def kAsg (p : Pt) (d : D) (S : Store) : Out := pO (p d ρ) S
def kExpr (_ : D) (S : Store) : Out := .nx ρ S
def kIf (a b : MS) (k : Bool) (S : Store) : Out := if k = true then a ρ S else b ρ S
def kAug2 (n : Nat) (g : D → D → Store → Res D) (x y : D) (S : Store) : Out := sB (g x y S) ρ (kSet ρ n)
def kAug (n : Nat) (g : D → D → Store → Res D) (m : M D) (S : Store) (x : D) : Out := sB (m ρ S) ρ (kAug2 ρ n g x)
def kPut3 (v x y : D) (S : Store) : Out := qO (putD x y v S) ρ
def kPut2 (i : M D) (v x : D) (S : Store) : Out := sB (i ρ S) ρ (kPut3 ρ v x)
def kPut (o i : M D) (v : D) (S : Store) : Out := sB (o ρ S) ρ (kPut2 ρ i v)
noncomputable def kFor (p : Pt) (b : MS) (it : Itb) (S : Store) : Out := forL it p b it.xs ρ S
def kWh (c : M Bool) (b : MS) (n : Nat) (k : Bool) (S : Store) : Out := if k = true then fB (b ρ S) (whileF c b n) else .nx ρ S
def kCp3 (x : D) (xs : List D) (S : Store) : Res (List D) := .ok (x :: xs) S
noncomputable def kCp2 (it : Itb) (p : Pt) (t : M Bool) (e : M D) (ds : List D) (n : Nat) (x : D) (S : Store) : Res (List D) := if n < sizeLine then (compL it p t e ρ ds (n + 1) S).bind (kCp3 x) else .stk
noncomputable def kCp (it : Itb) (p : Pt) (t : M Bool) (e : M D) (ds : List D) (n : Nat) (ρ1 : Sl) (k : Bool) (S : Store) : Res (List D) := if k = true then (e ρ1 S).nox.bind (kCp2 ρ it p t e ds n) else compL it p t e ρ ds n S
end
def rtO (d : D) (S : Store) : Out := .rt d S
section
variable {α β : Type} {ρ : Sl} {S S1 : Store} {d x y z : D} {ds es : List D} {i j : Int} {n : Nat}
@[simp] theorem oB_nx {f : Sl → Store → Out} : oB (.nx ρ S) f = f ρ S := nrfl rfl
@[simp] theorem oB_rt {f : Sl → Store → Out} : oB (.rt d S) f = .rt d S := nrfl rfl
@[simp] theorem oB_bk {f : Sl → Store → Out} : oB (.bk ρ S) f = .bk ρ S := nrfl rfl
@[simp] theorem oB_ct {f : Sl → Store → Out} : oB (.ct ρ S) f = .ct ρ S := nrfl rfl
@[simp] theorem oB_exc {f : Sl → Store → Out} {x : Exc} : oB (.exc x ρ S) f = .exc x ρ S := nrfl rfl
@[simp] theorem oB_stk {f : Sl → Store → Out} : oB .stk f = .stk := nrfl rfl
@[simp] theorem fB_nx {f : Sl → Store → Out} : fB (.nx ρ S) f = f ρ S := nrfl rfl
@[simp] theorem fB_ct {f : Sl → Store → Out} : fB (.ct ρ S) f = f ρ S := nrfl rfl
@[simp] theorem fB_bk {f : Sl → Store → Out} : fB (.bk ρ S) f = .nx ρ S := nrfl rfl
@[simp] theorem fB_rt {f : Sl → Store → Out} : fB (.rt d S) f = .rt d S := nrfl rfl
@[simp] theorem fB_exc {f : Sl → Store → Out} {x : Exc} : fB (.exc x ρ S) f = .exc x ρ S := nrfl rfl
@[simp] theorem fB_stk {f : Sl → Store → Out} : fB .stk f = .stk := nrfl rfl
@[simp] theorem rB_nx : rB (.nx ρ S) = .ok .non S := nrfl rfl
@[simp] theorem rB_rt : rB (.rt d S) = .ok d S := nrfl rfl
@[simp] theorem rB_exc {x : Exc} : rB (.exc x ρ S) = .exc x S := nrfl rfl
@[simp] theorem rB_stk : rB .stk = .stk := nrfl rfl
@[simp] theorem vO_some : vO (some (some d)) S = .ok d S := nrfl rfl
@[simp] theorem pO_some : pO (some ρ) S = .nx ρ S := nrfl rfl
@[simp] theorem qO_some : qO (some S) ρ = .nx ρ S := nrfl rfl
@[simp] theorem gO_some {f : D → Out} : gO (some (some d)) f = f d := nrfl rfl
@[simp] theorem prO_int : prO (.int i) S = .ok (some i) S := nrfl rfl
@[simp] theorem rtO_eq : rtO d S = .rt d S := nrfl rfl
@[simp] theorem e_var : mVar n ρ S = vO ρ[n]? S := by
  unfold mVar vO
  rfl
@[simp] theorem e_c : mC d ρ S = .ok d S := nrfl rfl
@[simp] theorem e_op {g : D → D → Store → Res D} {a b : M D} : mOp g a b ρ S = (a ρ S).bind (kOp ρ g b) := nrfl rfl
@[simp] theorem e_op2 {g : D → D → Store → Res D} {b : M D} : kOp ρ g b x S = (b ρ S).bind (g x) := nrfl rfl
@[simp] theorem e_un {g : D → Store → Res D} {a : M D} : mUn g a ρ S = (a ρ S).bind g := nrfl rfl
@[simp] theorem e_nil : mNil ρ S = .ok [] S := nrfl rfl
@[simp] theorem e_cons {a : M D} {b : M (List D)} : mCons a b ρ S = (a ρ S).bind (kCons ρ b) := nrfl rfl
@[simp] theorem e_cons2 {b : M (List D)} : kCons ρ b x S = (b ρ S).bind (kC x) := nrfl rfl
@[simp] theorem e_cons3 : kC x ds S = .ok (x :: ds) S := nrfl rfl
@[simp] theorem e_fn {g : List D → Store → Res D} {a : M (List D)} : mFn g a ρ S = (a ρ S).bind g := nrfl rfl
@[simp] theorem e_ite {c : M Bool} {a b : M D} : mIte c a b ρ S = (c ρ S).bind (kIte ρ a b) := nrfl rfl
@[simp] theorem e_ite2 {a b : M D} {k : Bool} : kIte ρ a b k S = if k = true then a ρ S else b ρ S := nrfl rfl
@[simp] theorem e_asB {b : Bool} : asB (.bl b) S = .ok b S := nrfl rfl
@[simp] theorem e_test {a : M D} : mTest a ρ S = (a ρ S).bind asB := nrfl rfl
@[simp] theorem e_tru {a : M D} : mTru a ρ S = (a ρ S).bind truD := nrfl rfl
@[simp] theorem e_and {a b : M Bool} : mAnd a b ρ S = (a ρ S).bind (kAnd ρ b) := nrfl rfl
@[simp] theorem e_and2 {b : M Bool} {k : Bool} : kAnd ρ b k S = if k = true then b ρ S else .ok false S := nrfl rfl
@[simp] theorem e_or {a b : M Bool} : mOr a b ρ S = (a ρ S).bind (kOr ρ b) := nrfl rfl
@[simp] theorem e_or2 {b : M Bool} {k : Bool} : kOr ρ b k S = if k = true then .ok true S else b ρ S := nrfl rfl
@[simp] theorem e_not {a : M Bool} : mNot a ρ S = (a ρ S).bind kNot := nrfl rfl
@[simp] theorem e_not2 {k : Bool} : kNot k S = .ok (!k) S := nrfl rfl
@[simp] theorem e_andV {a b : M D} : mAndV a b ρ S = (a ρ S).bind (kAndV ρ b) := nrfl rfl
@[simp] theorem e_andV2 {b : M D} : kAndV ρ b x S = (truD x S).bind (kAndV2 ρ b x) := nrfl rfl
@[simp] theorem e_andV3 {b : M D} {k : Bool} : kAndV2 ρ b x k S = if k = true then b ρ S else .ok x S := nrfl rfl
@[simp] theorem e_orV {a b : M D} : mOrV a b ρ S = (a ρ S).bind (kOrV ρ b) := nrfl rfl
@[simp] theorem e_orV2 {b : M D} : kOrV ρ b x S = (truD x S).bind (kOrV2 ρ b x) := nrfl rfl
@[simp] theorem e_orV3 {b : M D} {k : Bool} : kOrV2 ρ b x k S = if k = true then .ok x S else b ρ S := nrfl rfl
@[simp] theorem e_notV {a : M D} : mNotV a ρ S = (a ρ S).bind kNotV := nrfl rfl
@[simp] theorem e_notV2 : kNotV x S = (truD x S).bind kNotV2 := nrfl rfl
@[simp] theorem e_notV3 {k : Bool} : kNotV2 k S = .ok (.bl (!k)) S := nrfl rfl
@[simp] theorem e_chain {g g' : D → D → Store → Res D} {a b c : M D} : mChain g g' a b c ρ S = (a ρ S).bind (kCh ρ g g' b c) := nrfl rfl
@[simp] theorem e_chain2 {g g' : D → D → Store → Res D} {b c : M D} : kCh ρ g g' b c x S = (b ρ S).bind (kCh2 ρ g g' c x) := nrfl rfl
@[simp] theorem e_chain3 {g g' : D → D → Store → Res D} {c : M D} : kCh2 ρ g g' c x y S = (g x y S).bind (kCh3 ρ g' c y) := nrfl rfl
@[simp] theorem e_chain4 {g' : D → D → Store → Res D} {c : M D} : kCh3 ρ g' c y z S = (asB z S).bind (kCh4 ρ g' c y) := nrfl rfl
@[simp] theorem e_chain5 {g' : D → D → Store → Res D} {c : M D} {k : Bool} : kCh4 ρ g' c y k S = if k = true then (c ρ S).bind (g' y) else .ok (.bl false) S := nrfl rfl
@[simp] theorem e_noPart : mNoPart ρ S = .ok none S := nrfl rfl
@[simp] theorem e_part {a : M D} : mPart a ρ S = (a ρ S).bind prO := by
  unfold mPart
  rfl
@[simp] theorem e_sl {g : D → Option Int → Option Int → Store → Res D} {a : M D} {l h : M (Option Int)} : mSl g a l h ρ S = (a ρ S).bind (kSl ρ g l h) := nrfl rfl
@[simp] theorem e_sl2 {g : D → Option Int → Option Int → Store → Res D} {l h : M (Option Int)} : kSl ρ g l h x S = (l ρ S).bind (kSl2 ρ g h x) := nrfl rfl
@[simp] theorem e_sl3 {g : D → Option Int → Option Int → Store → Res D} {h : M (Option Int)} {lo : Option Int} : kSl2 ρ g h x lo S = (h ρ S).bind (g x lo) := nrfl rfl
@[simp] theorem e_mt {t : String} {g : D → List D → Store → Res D} {o : M D} {a : M (List D)} : mMt t g o a ρ S = (o ρ S).bind (kMt ρ t g a) := nrfl rfl
@[simp] theorem e_mt2 {t : String} {g : D → List D → Store → Res D} {a : M (List D)} : kMt ρ t g a x S = if tyD t S x = true then (a ρ S).bind (g x) else .stk := nrfl rfl
@[simp] theorem e_rng {f : List D → Store → Res Itb} {m : M (List D)} : mRng f m ρ S = (m ρ S).bind f := nrfl rfl
@[simp] theorem e_it {m : M D} : mIt m ρ S = (m ρ S).bind itD := nrfl rfl
@[simp] theorem e_yes : mYes ρ S = .ok true S := nrfl rfl
@[simp] theorem e_stk : mStk ρ S = .stk := nrfl rfl
@[simp] theorem e_comp {m : M Itb} {p : Pt} {t : M Bool} {e : M D} {vs : List Nat} {mk : List D → Store → Res D} : mComp m p t e vs mk ρ S = (m ρ S).bind (kComp ρ p t e vs mk) := nrfl rfl
@[simp] theorem e_comp2 {p : Pt} {t : M Bool} {e : M D} {vs : List Nat} {mk : List D → Store → Res D} {it : Itb} : kComp ρ p t e vs mk it S = (compL it p t e (wipeD ρ vs) it.xs 0 S).bind mk := nrfl rfl
@[simp] theorem e_ar {g : List D → Store → Res D} : ar n g ds S = if ds.length = n then g ds S else .stk := nrfl rfl
theorem run_eq {m : MS} : runB n m ds S = rB (m (startD n ds) S) := by
  unfold runB rB
  rfl
@[simp] theorem e_frz : frzD ds S = .ok (.lst ds) S := nrfl rfl
@[simp] theorem e_lv : lvD ds S = .ok (.ref S.length) (S ++ [.lst ds]) := nrfl rfl
/-! statements -/
@[simp] theorem x_pass : sPass ρ S = .nx ρ S := nrfl rfl
@[simp] theorem x_brk : sBrk ρ S = .bk ρ S := nrfl rfl
@[simp] theorem x_ct : sCt ρ S = .ct ρ S := nrfl rfl
@[simp] theorem x_stk : sStk ρ S = .stk := nrfl rfl
@[simp] theorem x_set {m : M D} : sSet n m ρ S = sB (m ρ S) ρ (kSet ρ n) := nrfl rfl
@[simp] theorem x_set2 : kSet ρ n d S = .nx (ρ.set n (some d)) S := nrfl rfl
@[simp] theorem x_asg {p : Pt} {m : M D} : sAsg p m ρ S = sB (m ρ S) ρ (kAsg ρ p) := by
  unfold sAsg
  rfl
@[simp] theorem x_asg2 {p : Pt} : kAsg ρ p d S = pO (p d ρ) S := nrfl rfl
@[simp] theorem x_expr {m : M D} : sExpr m ρ S = sB (m ρ S) ρ (kExpr ρ) := nrfl rfl
@[simp] theorem x_expr2 : kExpr ρ d S = .nx ρ S := nrfl rfl
@[simp] theorem x_ret {m : M D} : sRet m ρ S = sB (m ρ S) ρ rtO := nrfl rfl
@[simp] theorem x_retN : sRetN ρ S = .rt .non S := nrfl rfl
@[simp] theorem x_if {c : M Bool} {a b : MS} : sIf c a b ρ S = sB (c ρ S) ρ (kIf ρ a b) := nrfl rfl
@[simp] theorem x_if2 {a b : MS} {k : Bool} : kIf ρ a b k S = if k = true then a ρ S else b ρ S := nrfl rfl
@[simp] theorem x_seq {a b : MS} : sSeq a b ρ S = oB (a ρ S) b := by
  unfold sSeq oB
  rfl
@[simp] theorem x_aug {g : D → D → Store → Res D} {m : M D} : sAug n g m ρ S = gO ρ[n]? (kAug ρ n g m S) := by
  unfold sAug gO
  rfl
@[simp] theorem x_aug2 {g : D → D → Store → Res D} {m : M D} : kAug ρ n g m S x = sB (m ρ S) ρ (kAug2 ρ n g x) := nrfl rfl
@[simp] theorem x_aug3 {g : D → D → Store → Res D} : kAug2 ρ n g x y S = sB (g x y S) ρ (kSet ρ n) := nrfl rfl
@[simp] theorem x_put {o i e : M D} : sPut o i e ρ S = sB (e ρ S) ρ (kPut ρ o i) := by
  unfold sPut
  rfl
@[simp] theorem x_put2 {o i : M D} : kPut ρ o i d S = sB (o ρ S) ρ (kPut2 ρ i d) := nrfl rfl
@[simp] theorem x_put3 {i : M D} : kPut2 ρ i d x S = sB (i ρ S) ρ (kPut3 ρ d x) := nrfl rfl
@[simp] theorem x_put4 : kPut3 ρ d x y S = qO (putD x y d S) ρ := nrfl rfl
@[simp] theorem x_for {m : M Itb} {p : Pt} {b : MS} : sFor m p b ρ S = sB (m ρ S) ρ (kFor ρ p b) := nrfl rfl
@[simp] theorem x_for2 {p : Pt} {b : MS} {it : Itb} : kFor ρ p b it S = forL it p b it.xs ρ S := nrfl rfl
theorem x_wh {c : M Bool} {b : MS} : whileF c b (n + 1) ρ S = sB (c ρ S) ρ (kWh ρ c b n) := nrfl rfl
@[simp] theorem x_wh2 {c : M Bool} {b : MS} {k : Bool} : kWh ρ c b n k S = if k = true then fB (b ρ S) (whileF c b n) else .nx ρ S := nrfl rfl
@[simp] theorem p_n : ptN n d ρ = some (ρ.set n (some d)) := nrfl rfl
@[simp] theorem p_t {p : List D → Sl → Option Sl} : ptT p (.tup ds) ρ = p ds ρ := nrfl rfl
@[simp] theorem p_nil : psN [] ρ = some ρ := nrfl rfl
@[simp] theorem p_cons {p : Pt} {q : List D → Sl → Option Sl} : psC p q (d :: ds) ρ = (p d ρ).bind (q ds) := by
  show (match p d ρ with | some ρ' => q ds ρ' | none => none) = _
  cases p d ρ <;> rfl
theorem for_nilG {it : Itb} {p : Pt} {b : MS} (hg : Grd it S) : forL it p b [] ρ S = .nx ρ S := by
  unfold forL
  exact if_pos hg
theorem for_consG {it : Itb} {p : Pt} {b : MS} {ρ1 : Sl} (hg : Grd it S) (h : p d ρ = some ρ1) : forL it p b (d :: ds) ρ S = fB (b ρ1 S) (forL it p b ds) := by
  rw [forL.eq_2, if_pos hg, h]
  unfold fB
  rfl
/-- a loop that changes slots alone -/
theorem for_all {it : Itb} {p : Pt} {b : MS} (hg : Grd it S) (Q : Sl → Prop) : ∀ (ds : List D) (ρ : Sl), (∀ d ∈ ds, ∀ ρ, Q ρ → ∃ ρ1 ρ2, p d ρ = some ρ1 ∧ (b ρ1 S = .nx ρ2 S ∨ b ρ1 S = .ct ρ2 S) ∧ Q ρ2) → Q ρ → ∃ ρ', forL it p b ds ρ S = .nx ρ' S ∧ Q ρ' := by
  intro ds
  induction ds with
  | nil => intro ρ _ q; exact ⟨ρ, for_nilG hg, q⟩
  | cons d ds ih =>
    intro ρ h q
    obtain ⟨ρ1, ρ2, hp, hb, q2⟩ := h d (by simp) ρ q
    obtain ⟨ρ3, e3, q3⟩ := ih ρ2 (fun d hd => h d (by simp [hd])) q2
    refine ⟨ρ3, ?_, q3⟩
    rw [for_consG hg hp]
    rcases hb with hb | hb <;> rw [hb]
    · rw [fB_nx, e3]
    · rw [fB_ct, e3]
theorem for_nil {xs : List D} {p : Pt} {b : MS} : forL ⟨xs, none⟩ p b [] ρ S = .nx ρ S := by
  unfold forL
  exact if_pos trivial
theorem for_cons {xs : List D} {p : Pt} {b : MS} {ρ1 : Sl} (h : p d ρ = some ρ1) : forL ⟨xs, none⟩ p b (d :: ds) ρ S = fB (b ρ1 S) (forL ⟨xs, none⟩ p b ds) := by
  rw [forL.eq_2, if_pos (show Grd ⟨xs, none⟩ S from trivial), h]
  unfold fB
  rfl
theorem comp_nil {xs : List D} {p : Pt} {t : M Bool} {e : M D} : compL ⟨xs, none⟩ p t e ρ [] n S = .ok [] S := by
  unfold compL
  exact if_pos trivial
theorem comp_cons {xs : List D} {p : Pt} {t : M Bool} {e : M D} {ρ1 : Sl} (h : p d ρ = some ρ1) : compL ⟨xs, none⟩ p t e ρ (d :: ds) n S = (t ρ1 S).nox.bind (kCp ρ ⟨xs, none⟩ p t e ds n ρ1) := by
  rw [compL.eq_2, if_pos (show Grd ⟨xs, none⟩ S from trivial), h]
  rfl
@[simp] theorem c_cp {it : Itb} {p : Pt} {t : M Bool} {e : M D} {ρ1 : Sl} {k : Bool} : kCp ρ it p t e ds n ρ1 k S = if k = true then (e ρ1 S).nox.bind (kCp2 ρ it p t e ds n) else compL it p t e ρ ds n S := nrfl rfl
@[simp] theorem c_cp2 {it : Itb} {p : Pt} {t : M Bool} {e : M D} : kCp2 ρ it p t e ds n x S = if n < sizeLine then (compL it p t e ρ ds (n + 1) S).bind (kCp3 x) else .stk := nrfl rfl
@[simp] theorem c_cp3 : kCp3 x ds S = .ok (x :: ds) S := nrfl rfl
/-! values -/
@[simp] theorem r_some : ofO (some d) S = .ok d S := nrfl rfl
@[simp] theorem r_bl {b : Bool} : ofB (some b) S = .ok (.bl b) S := nrfl rfl
@[simp] theorem v_ls : lsOf S (.lst ds) = some ds := nrfl rfl
@[simp] theorem v_sq : sqOf S (.tup ds) = some ds := nrfl rfl
@[simp] theorem v_sq' : sqOf S (.lst ds) = some ds := nrfl rfl
@[simp] theorem v_add : addD (.int i) (.int j) S = .ok (.int (i + j)) S := nrfl rfl
@[simp] theorem v_addS {a b : Str} : addD (.str a) (.str b) S = if a.length + b.length ≤ sizeLine then .ok (.str (a ++ b)) S else .stk := nrfl rfl
@[simp] theorem v_addT : addD (.tup ds) (.tup es) S = if ds.length + es.length ≤ sizeLine then .ok (.tup (ds ++ es)) S else .stk := nrfl rfl
@[simp] theorem v_addL : addD (.lst ds) (.lst es) S = if ds.length + es.length ≤ sizeLine then .ok (.lst (ds ++ es)) S else .stk := nrfl rfl
@[simp] theorem v_addI : addI (.int i) (.int j) S = .ok (.int (i + j)) S := nrfl rfl
@[simp] theorem v_sub : subD (.int i) (.int j) S = .ok (.int (i - j)) S := nrfl rfl
@[simp] theorem v_mul : mulD (.int i) (.int j) S = if (sm64 i || sm64 j) = true then .ok (.int (i * j)) S else .stk := nrfl rfl
@[simp] theorem v_mulL : mulD (.lst ds) (.int j) S = if 0 ≤ j ∧ smR j = true ∧ ds.length * j.toNat ≤ sizeLine then .ok (.lst (List.replicate j.toNat ds).flatten) S else .stk := nrfl rfl
@[simp] theorem v_fdiv : fdivD (.int i) (.int j) S = if 0 < j ∧ j.natAbs.log2 < 9000 then .ok (.int (i / j)) S else .stk := nrfl rfl
@[simp] theorem v_mod : modD (.int i) (.int j) S = if 0 < j then .ok (.int (i % j)) S else .stk := nrfl rfl
@[simp] theorem v_pow : powD (.int i) (.int j) S = if 0 ≤ j ∧ j ≤ 1000000 ∧ i.natAbs < 2 ^ 64 then .ok (.int (i ^ j.toNat)) S else .stk := nrfl rfl
@[simp] theorem v_neg : negD (.int i) S = .ok (.int (-i)) S := nrfl rfl
@[simp] theorem v_eq : eqD x y S = ofB (eqB S x y) S := nrfl rfl
@[simp] theorem v_ne : neD x y S = ofB ((eqB S x y).map not) S := nrfl rfl
@[simp] theorem q_int : eqB S (.int i) (.int j) = some (decide (i = j)) := by
  show some (decide (V.int i = V.int j)) = _
  simp
@[simp] theorem q_str {a b : Str} : eqB S (.str a) (.str b) = some (decide (a = b)) := by
  show some (decide (V.str a = V.str b)) = _
  simp
@[simp] theorem q_bl {a b : Bool} : eqB S (.bl a) (.bl b) = some (decide (a = b)) := by
  show some (decide (V.bl a = V.bl b)) = _
  simp
@[simp] theorem q_nn : eqB S .non .non = some true := nrfl rfl
@[simp] theorem q_ni : eqB S .non (.int i) = some false := nrfl rfl
@[simp] theorem q_in : eqB S (.int i) .non = some false := nrfl rfl
@[simp] theorem q_ns {a : Str} : eqB S .non (.str a) = some false := nrfl rfl
@[simp] theorem q_sn {a : Str} : eqB S (.str a) .non = some false := nrfl rfl
@[simp] theorem v_lt : ltD (.int i) (.int j) S = .ok (.bl (decide (i < j))) S := nrfl rfl
@[simp] theorem v_ltS {a b : Str} : ltD (.str a) (.str b) S = .ok (.bl (decide (a.cps.toList < b.cps.toList))) S := nrfl rfl
@[simp] theorem v_le : leD (.int i) (.int j) S = .ok (.bl (decide (i ≤ j))) S := nrfl rfl
@[simp] theorem v_gt : gtD (.int i) (.int j) S = .ok (.bl (decide (j < i))) S := nrfl rfl
@[simp] theorem v_ge : geD (.int i) (.int j) S = .ok (.bl (decide (j ≤ i))) S := nrfl rfl
@[simp] theorem v_isN : isND x .non S = .ok (.bl (isNb x)) S := nrfl (by cases x <;> rfl)
@[simp] theorem v_isB {a b : Bool} : isND (.bl a) (.bl b) S = .ok (.bl (decide (a = b))) S := nrfl rfl
@[simp] theorem v_notB {a b : Bool} : notND (.bl a) (.bl b) S = .ok (.bl (!decide (a = b))) S := nrfl rfl
@[simp] theorem v_notN : notND x .non S = .ok (.bl (!isNb x)) S := nrfl (by cases x <;> rfl)
@[simp] theorem n_non : isNb .non = true := nrfl rfl
@[simp] theorem n_int : isNb (.int i) = false := nrfl rfl
@[simp] theorem n_str {a : Str} : isNb (.str a) = false := nrfl rfl
@[simp] theorem n_bl {a : Bool} : isNb (.bl a) = false := nrfl rfl
@[simp] theorem n_tup : isNb (.tup ds) = false := nrfl rfl
@[simp] theorem n_lst : isNb (.lst ds) = false := nrfl rfl
@[simp] theorem n_ref : isNb (.ref n) = false := nrfl rfl
@[simp] theorem t_bl' {b : Bool} : truD (.bl b) S = .ok b S := nrfl rfl
@[simp] theorem t_non' : truD .non S = .ok false S := nrfl rfl
@[simp] theorem t_int' : truD (.int i) S = .ok (i != 0) S := nrfl rfl
@[simp] theorem t_tup' : truD (.tup ds) S = .ok (!ds.isEmpty) S := nrfl rfl
@[simp] theorem t_lst' : truD (.lst ds) S = .ok (!ds.isEmpty) S := nrfl rfl
@[simp] theorem v_ix : ixD x y S = ofO (ixO S x y) S := nrfl rfl
@[simp] theorem i_tup : ixO S (.tup ds) (.int i) = atI ds i := nrfl rfl
@[simp] theorem i_lst : ixO S (.lst ds) (.int i) = atI ds i := nrfl rfl
@[simp] theorem i_scr {ns : List Int} : ixO S (.scr ns) (.int i) = (atI ns i).map D.int := nrfl rfl
@[simp] theorem i_str {a : Str} : ixO S (.str a) (.int i) = if a.length ≤ sizeLine then (atI a.cps.toList i).map (fun c => .str ⟨#[c]⟩) else none := nrfl rfl
/-- the store by its own names -/
def sg (S : Store) (n : Nat) : Option MO := S[n]?
def sp (S : Store) (n : Nat) (m : MO) : Store := S.set n m
@[simp] theorem sp_len {m : MO} : (sp S n m).length = S.length := List.length_set
@[simp] theorem sg_sp {m : MO} (h : n < S.length) : sg (sp S n m) n = some m := List.getElem?_set_self h
theorem sg_ne {m : MO} {k : Nat} (h : n ≠ k) : sg (sp S n m) k = sg S k := List.getElem?_set_ne h
@[simp] theorem sp_sp {m m' : MO} : sp (sp S n m) n m' = sp S n m' := List.set_set ..
theorem sg_lt {m : MO} (h : sg S n = some m) : n < S.length := (List.getElem?_eq_some_iff.mp h).1
def rI (o : Option MO) (i : Int) : Option D := match o with
  | some (.lst ds) => atI ds i
  | _ => none
@[simp] theorem rI_some : rI (some (.lst ds)) i = atI ds i := nrfl rfl
@[simp] theorem i_ref' : ixO S (.ref n) (.int i) = rI (sg S n) i := by
  show (match lsOf S (.ref n) with | some ds => atI ds i | none => none) = _
  unfold lsOf rI sg
  dsimp only
  cases S[n]? with
  | none => rfl
  | some mo => cases mo <;> rfl
def rP (o : Option MO) (n : Nat) (i : Int) (x : D) (S : Store) : Option Store := match o with
  | some (.lst ds) => (match ixN ds.length i with
    | some k => some (sp S n (.lst (ds.set k x)))
    | none => none)
  | _ => none
theorem rP_some {k : Nat} (hk : ixN ds.length i = some k) : rP (some (.lst ds)) n i x S = some (sp S n (.lst (ds.set k x))) := by
  unfold rP
  simp only [hk]
def tyO (t : String) (o : Option MO) : Bool := match o with
  | some (.lst _) => t == "list"
  | some (.dct _) => t == "dict"
  | _ => false
@[simp] theorem tyO_lst {t : String} : tyO t (some (.lst ds)) = (t == "list") := nrfl rfl
@[simp] theorem ty_ref {t : String} : tyD t S (.ref n) = tyO t (sg S n) := by
  unfold tyD tyO sg
  rfl
@[simp] theorem ty_str {t : String} {a : Str} : tyD t S (.str a) = (t == "str") := nrfl rfl
@[simp] theorem ty_lst {t : String} : tyD t S (.lst ds) = (t == "list") := nrfl rfl
def rA (o : Option MO) (n : Nat) (y : D) (S : Store) : Res D := match o with
  | some (.lst xs) => if xs.length < sizeLine then .ok .non (sp S n (.lst (xs ++ [y]))) else .stk
  | _ => .stk
@[simp] theorem rA_some {xs : List D} : rA (some (.lst xs)) n y S = if xs.length < sizeLine then .ok .non (sp S n (.lst (xs ++ [y]))) else .stk := nrfl rfl
@[simp] theorem app_ref : appD (.ref n) [y] S = rA (sg S n) n y S := by
  unfold appD rA sg sp
  rfl
def rW (o : Option MO) (n : Nat) (S : Store) : Res Itb := match o with
  | some (.lst xs) => .ok ⟨xs, some n⟩ S
  | _ => .stk
@[simp] theorem rW_some {xs : List D} : rW (some (.lst xs)) n S = .ok ⟨xs, some n⟩ S := nrfl rfl
@[simp] theorem w_ref' : itD (.ref n) S = rW (sg S n) n S := by
  unfold itD rW sg
  rfl
@[simp] theorem put_ref' : putD (.ref n) (.int i) x S = rP (sg S n) n i x S := by
  unfold putD rP sg sp
  rfl
theorem i_ref (h : S[n]? = some (.lst ds)) : ixO S (.ref n) (.int i) = atI ds i := by
  show (match lsOf S (.ref n) with | some ds => atI ds i | none => none) = _
  unfold lsOf
  simp only [h]
theorem put_ref (h : S[n]? = some (.lst ds)) {k : Nat} (hk : ixN ds.length i = some k) : putD (.ref n) (.int i) x S = some (S.set n (.lst (ds.set k x))) := by
  unfold putD
  simp only [h, hk]
@[simp] theorem v_sl {lo hi : Option Int} : slD (.tup ds) lo hi S = .ok (.tup (cutD ds lo hi)) S := nrfl rfl
@[simp] theorem v_len : lenD [x] S = ofO ((lenO S x).map fun n => .int n) S := nrfl rfl
@[simp] theorem l_tup : lenO S (.tup ds) = some ds.length := nrfl rfl
@[simp] theorem l_lst : lenO S (.lst ds) = some ds.length := nrfl rfl
@[simp] theorem l_scr {ns : List Int} : lenO S (.scr ns) = some ns.length := nrfl rfl
@[simp] theorem l_str {a : Str} : lenO S (.str a) = if a.length ≤ sizeLine then some a.length else none := nrfl rfl
theorem l_ref (h : S[n]? = some (.lst ds)) : lenO S (.ref n) = some ds.length := by
  show (match lsOf S (.ref n) with | some ds => some ds.length | none => none) = _
  unfold lsOf
  simp only [h]
@[simp] theorem v_int : intD [.int i] S = .ok (.int i) S := nrfl rfl
@[simp] theorem v_bool {b : Bool} : boolD [.bl b] S = .ok (.bl b) S := nrfl rfl
@[simp] theorem v_tupleL : tupleD [.lst ds] S = .ok (.tup ds) S := nrfl rfl
@[simp] theorem v_tupleT : tupleD [.tup ds] S = .ok (.tup ds) S := nrfl rfl
@[simp] theorem v_listL : listD [.lst ds] S = .ok (.lst ds) S := nrfl rfl
@[simp] theorem v_listT : listD [.tup ds] S = .ok (.lst ds) S := nrfl rfl
@[simp] theorem v_tupD : tupD ds S = if ds.length ≤ sizeLine then .ok (.tup ds) S else .stk := nrfl rfl
@[simp] theorem v_lstD : lstD ds S = if ds.length ≤ sizeLine then .ok (.lst ds) S else .stk := nrfl rfl
@[simp] theorem v_lstL : lstL ds S = if ds.length ≤ sizeLine then .ok (.ref S.length) (S ++ [.lst ds]) else .stk := nrfl rfl
@[simp] theorem w_tup : itD (.tup ds) S = .ok ⟨ds, none⟩ S := nrfl rfl
@[simp] theorem w_lst : itD (.lst ds) S = .ok ⟨ds, none⟩ S := nrfl rfl
theorem w_ref (h : S[n]? = some (.lst ds)) : itD (.ref n) S = .ok ⟨ds, some n⟩ S := by
  unfold itD
  simp only [h]
@[simp] theorem w_str {a : Str} : itD (.str a) S = .ok ⟨a.cps.toList.map fun c => .str ⟨#[c]⟩, none⟩ S := nrfl rfl
@[simp] theorem w_r1 : rng1 [.int i] S = if smR i = true then .ok ⟨(List.range i.toNat).map fun k => .int (k : Nat), none⟩ S else .stk := nrfl rfl
@[simp] theorem w_r2 : rng2 [.int i, .int j] S = if smR i = true ∧ smR j = true then .ok ⟨(List.range (j - i).toNat).map fun k => .int (i + (k : Nat)), none⟩ S else .stk := nrfl rfl
@[simp] theorem w_isi {f : Kd → Bool} : isiD f x S = ofB ((kd S x).map f) S := nrfl rfl
@[simp] theorem k_bl' {b : Bool} : kd S (.bl b) = some .bl := nrfl rfl
@[simp] theorem k_int' : kd S (.int i) = some .int := nrfl rfl
@[simp] theorem k_str' {a : Str} : kd S (.str a) = some .str := nrfl rfl
@[simp] theorem k_non' : kd S .non = some .non := nrfl rfl
@[simp] theorem k_tup' : kd S (.tup ds) = some .tup := nrfl rfl
@[simp] theorem k_lst' : kd S (.lst ds) = some .lst := nrfl rfl
end
end G
namespace G
open PySem L2
/-! ### texts: split, index; range with a step; a new dict; lists joined to a live one -/
theorem strs_rep {K : PySem.W.Frag} {cl : Str → Option Addr} {W : Wd} : ∀ ns : List Str, Reps K cl W (ns.map V.str) (ns.map D.str)
  | [] => .nil
  | n :: ns => .cons (.str n) (strs_rep ns)
def splitD (x : D) (ys : List D) (S : Store) : Res D := match x, ys with
  | .str a, [.str b] => if (b.length == 0) = false ∧ a.length + 2 ≤ sizeLine then .ok (.lst ((Txt.split a b).map D.str)) S else .stk
  | _, _ => .stk
theorem split_s {K : PySem.W.Frag} {cl : Str → Option Addr} : MtS K cl (fun x xs H Q => ∃ a b, x = .str a ∧ xs = [.str b] ∧ (b.length == 0) = false ∧ a.length + 2 ≤ sizeLine ∧ rNewStrs (Txt.split a b) H Q) splitD := by
  intro W H S x a y b Q E r rx ry p
  unfold splitD at p
  split at p
  · cases rx
    cases ry with | cons ry rn =>
    cases rn; cases ry
    split at p
    · rename_i hz
      exact ⟨_, _, rfl, rfl, hz.1, hz.2, newL r (strs_rep _) p⟩
    · exact p.elim
  · exact p.elim
def indexD (x : D) (ys : List D) (S : Store) : Res D := match x, ys with
  | .str a, [.str b] => (match Builtin.Str.occurrences a b 0 a.length 1 with
    | i :: _ => .ok (.int (i : Nat)) S
    | [] => .stk)
  | _, _ => .stk
theorem index_s {K : PySem.W.Frag} {cl : Str → Option Addr} : MtS K cl (fun x xs H Q => ∃ a b i rest, x = .str a ∧ xs = [.str b] ∧ Builtin.Str.occurrences a b 0 a.length 1 = i :: rest ∧ Q (.int (i : Nat)) H) indexD := by
  intro W H S x a y b Q E r rx ry p
  unfold indexD at p
  split at p
  · cases rx
    cases ry with | cons ry rn =>
    cases rn; cases ry
    split at p
    · rename_i e
      exact ⟨_, _, _, _, rfl, rfl, e, p.now r (.int _)⟩
    · exact p.elim
  · exact p.elim
section
variable {X : Cx} {tg : Expr} {cl : Str → Option Addr} {E : WX}
def rng3 (as : List D) (S : Store) : Res Itb := match as with
  | [.int a, .int n, .int c] => if c = -1 ∧ smR a = true ∧ smR n = true then .ok ⟨(List.range (a - n).toNat).map fun i => .int (a - (i : Nat)), none⟩ S else .stk
  | _ => .stk
theorem its_rngC {K : PySem.W.Frag} {W0 : Wd} {lo c : Int} {n : Nat} {xs : List D} (hx : xs = (List.range n).map fun i => D.int (lo + (i : Nat) * c)) : ItS K cl W0 (Itc lo c n) ⟨xs, none⟩ := fun W H S l r g => by
  subst hx
  refine ⟨fun i d e => ?_, by show n ≤ _; simp⟩
  have e : ((List.range n).map fun i => D.int (lo + (i : Nat) * c))[i]? = some d := e
  rw [List.getElem?_map] at e
  cases q : (List.range n)[i]? with
  | none => rw [q] at e; cases e
  | some j =>
    rw [q] at e
    cases e
    have hi : i < n := by have := (List.getElem?_eq_some_iff.mp q).1; simpa using this
    have hj : j = i := by rw [List.getElem?_range hi] at q; exact (Option.some.inj q).symm
    subst hj
    refine ⟨hi, fun x H' ⟨eH, ex⟩ => ⟨W, .rf W, eH ▸ r, ?_⟩⟩
    rw [ex]
    exact .int _
theorem i_range3 {e e2 e3 : Expr} {ms : M (List D)} {p pos : Pos} (hm : X.mg "range" = none) (ha : PA X [e, e2, e3] (TL X.K cl E ms)) (hg : Gl X "range" := by rfl) (hs : starEach [e, e2, e3] X.env = (false, eval e X.env) :: starEach [e2, e3] X.env := by rfl)
    (hpl : (backTo pos (starEach [e2, e3] X.env)).any (·.1) = false := by rfl) : PI X tg (.Call (.Name "range" p) [e, e2, e3] [] pos) (TIt X.K cl E (mRng rng3 ms)) :=
  pi_imp (pi_range3 hg hm ha hs hpl) fun σ H Q ⟨W, ρ, S, hr, he, q⟩ => step hr he q fun W1 H1 x dx S1 l1 r1 e1 rx p1 => by
    unfold rng3 at p1
    split at p1
    · rename_i b n c
      cases rx with | cons ra rn =>
      cases rn with | cons rb rn =>
      cases rn with | cons rc rn =>
      cases rn; cases ra; cases rb; cases rc
      split at p1
      · rename_i hz
        obtain ⟨rfl, h1, h2⟩ := hz
        refine ⟨b, n, -1, _, rfl, RgC.neg (smR_of h1).1 (smR_of h1).2 (smR_of h2).1 (smR_of h2).2, p1.now r1 (its_rngC ?_)⟩
        congr 1
        funext i
        congr 1
        omega
      · exact p1.elim
    · exact p1.elim
theorem t_dict0 {pos : Pos} : PE X (.Dict [] [] pos) (T X.K cl E (mC (.dct []))) :=
  pe_imp pe_dnewK fun σ H Q ⟨W, ρ, S, hr, he, q⟩ p hp => by
    obtain ⟨r2, l2⟩ := hr.fz (o := .dK []) hp
    exact q _ _ _ l2 r2 (.dct upd_same .nil)
end
/-! a tuple of the module -/
def absD : V → Option D
  | .non => some .non
  | .bl b => some (.bl b)
  | .int i => some (.int i)
  | .str s => some (.str s)
  | _ => none
theorem abs_rep {K : PySem.W.Frag} {cl : Str → Option Addr} {W : Wd} {v : V} {d : D} (h : absD v = some d) : Rep K cl W v d := by
  cases v <;> cases h <;> constructor
inductive AbsL : List Value → List D → Prop
  | nil : AbsL [] []
  | cons {u : Value} {d : D} {us : List Value} {ds : List D} : (∃ v, RelV v u ∧ absD v = some d) → AbsL us ds → AbsL (u :: us) (d :: ds)
theorem AbsL.get {K : PySem.W.Frag} {cl : Str → Option Addr} {W : Wd} : ∀ {us : List Value} {ds : List D}, AbsL us ds → ∃ vs, Vals vs us ∧ Reps K cl W vs ds
  | _, _, .nil => ⟨[], .nil, .nil⟩
  | _, _, .cons ⟨v, h1, h2⟩ t => let ⟨vs, q1, q2⟩ := t.get; ⟨v :: vs, .cons h1 q1, .cons (abs_rep h2) q2⟩
theorem AbsL.str {s : Str} {n : Tok} {us : List Value} {ds : List D} (t : AbsL us ds) : AbsL (.str s n :: us) (.str s :: ds) := .cons ⟨.str s, ⟨n, rfl⟩, rfl⟩ t

/-! ### a call that leaves no objects behind: what is answered is frozen, new objects are forgotten -/
mutual
def belD (n : Nat) : D → Bool
  | .tup xs => belL n xs
  | .lst xs => belL n xs
  | .dct xs => belK n xs
  | .ins _ xs => belF n xs
  | .ref m => decide (m < n)
  | _ => true
def belL (n : Nat) : List D → Bool
  | [] => true
  | d :: ds => belD n d && belL n ds
def belK (n : Nat) : List (Key × D) → Bool
  | [] => true
  | (_, d) :: ds => belD n d && belK n ds
def belF (n : Nat) : List (Str × D) → Bool
  | [] => true
  | (_, d) :: ds => belD n d && belF n ds
end
def belM (n : Nat) : MO → Bool
  | .lst xs => belL n xs
  | .dct xs => belK n xs
  | .ins _ xs => belF n xs
  | .dead => true
def topF (n : Nat) (d : D) (S : Store) : D × Store := match d with
  | .ref m => if n ≤ m then (match S[m]? with
    | some (.lst xs) => (.lst xs, S.set m .dead)
    | _ => (.ref m, S)) else (.ref m, S)
  | d => (d, S)
def clE (n : Nat) (r : Res D) : Res D := match r with
  | .ok d S => if belD n (topF n d S).1 = true ∧ ((topF n d S).2.take n).all (belM n) = true then .ok (topF n d S).1 ((topF n d S).2.take n) else .stk
  | .exc x S => if belF n x.fs = true ∧ (S.take n).all (belM n) = true then .exc x (S.take n) else .stk
  | .stk => .stk
def cln (g : List D → Store → Res D) (ds : List D) (S : Store) : Res D := clE S.length (g ds S)
section
variable {K : PySem.W.Frag} {cl : Str → Option Addr} {W W' : Wd} {H : Hp} {S : Store} {n : Nat}
def Wd.cut (W : Wd) (n : Nat) : Wd := { W with n := n }
mutual
theorem Rep.cut : ∀ {v : V} {d : D}, Rep K cl W v d → belD n d = true → Rep K cl (W.cut n) v d
  | _, _, .non, _ => .non
  | _, _, .bl b, _ => .bl b
  | _, _, .int i, _ => .int i
  | _, _, .str x, _ => .str x
  | _, _, .tup h t, e => .tup h (Reps.cut t e)
  | _, _, .lst h t, e => .lst h (Reps.cut t e)
  | _, _, .scr h, _ => .scr h
  | _, _, .dct h t, e => .dct h (RepK.cut t e)
  | _, _, .ins h c t, e => .ins h c (RepF.cut t e)
  | _, _, .ref (n := m) h, e => .ref (W := W.cut n) (of_decide_eq_true e)
theorem Reps.cut : ∀ {v : List V} {d : List D}, Reps K cl W v d → belL n d = true → Reps K cl (W.cut n) v d
  | _, _, .nil, _ => .nil
  | _, _, .cons h t, e => .cons (Rep.cut h (Bool.and_eq_true_iff.mp e).1) (Reps.cut t (Bool.and_eq_true_iff.mp e).2)
theorem RepK.cut : ∀ {v : List (Key × V)} {d : List (Key × D)}, RepK K cl W v d → belK n d = true → RepK K cl (W.cut n) v d
  | _, _, .nil, _ => .nil
  | _, _, .cons h t, e => .cons (Rep.cut h (Bool.and_eq_true_iff.mp e).1) (RepK.cut t (Bool.and_eq_true_iff.mp e).2)
theorem RepF.cut : ∀ {v : List (Str × V)} {d : List (Str × D)}, RepF K cl W v d → belF n d = true → RepF K cl (W.cut n) v d
  | _, _, .nil, _ => .nil
  | _, _, .cons h t, e => .cons (Rep.cut h (Bool.and_eq_true_iff.mp e).1) (RepF.cut t (Bool.and_eq_true_iff.mp e).2)
end
theorem MRep.cut {a : Addr} {mo : MO} (h : MRep K cl W H a mo) (e : belM n mo = true) : MRep K cl (W.cut n) H a mo := by
  cases mo with
  | lst ds => obtain ⟨vs, h1, h2⟩ := h; exact ⟨vs, h1, h2.cut e⟩
  | dct ds => obtain ⟨vs, h1, h2⟩ := h; exact ⟨vs, h1, h2.cut e⟩
  | ins c ds => obtain ⟨C, dx, vs, h0, h1, h2⟩ := h; exact ⟨C, dx, vs, h0, h1, h2.cut e⟩
  | dead => trivial
theorem take_some {i : Nat} {mo : MO} (h : (S.take n)[i]? = some mo) : S[i]? = some mo := by
  rw [List.getElem?_take] at h
  split at h
  · exact h
  · cases h
theorem R.cut (r : R K cl W H S) (hn : n ≤ S.length) (hb : (S.take n).all (belM n) = true) : R K cl (W.cut n) H (S.take n) := by
  refine ⟨?_, r.sub, fun i mo h nd => ?_, fun i j m m' h h' nd nd' e => ?_, fun a o h => ?_⟩
  · show n = _
    rw [List.length_take]
    omega
  · obtain ⟨h1, h2⟩ := r.live i mo (take_some h) nd
    exact ⟨h1, h2.cut (List.all_eq_true.mp hb mo (List.mem_of_getElem? h))⟩
  · exact r.inj i j m m' (take_some h) (take_some h') nd nd' e
  · obtain ⟨h1, h2, h3⟩ := r.priv a o h
    exact ⟨h1, h2, fun i mo h nd => h3 i mo (take_some h) nd⟩
theorem Le.cut {W0 : Wd} (l : Le W0 W) : Le W0 (W.cut W0.n) := ⟨l.g, l.i, Nat.le_refl _, l.p⟩
theorem set_live {m i : Nat} {mo : MO} (h : (S.set m .dead)[i]? = some mo) (nd : mo ≠ .dead) : S[i]? = some mo ∧ i ≠ m := by
  by_cases e : m = i
  · subst e
    by_cases hm : m < S.length
    · rw [List.getElem?_set_self hm] at h
      exact absurd (Option.some.inj h).symm nd
    · rw [List.getElem?_eq_none (by simpa using hm)] at h
      cases h
  · rw [List.getElem?_set_ne e] at h
    exact ⟨h, fun q => e q.symm⟩
theorem R.kill (r : R K cl W H S) (m : Nat) : R K cl W H (S.set m .dead) := by
  refine ⟨by simpa using r.n, r.sub, fun i mo h nd => r.live i mo (set_live h nd).1 nd, fun i j m m' h h' nd nd' e => r.inj i j m m' (set_live h nd).1 (set_live h' nd').1 nd nd' e, fun a o h => ?_⟩
  obtain ⟨h1, h2, h3⟩ := r.priv a o h
  exact ⟨h1, h2, fun i mo h nd => h3 i mo (set_live h nd).1 nd⟩
theorem R.freeze {m : Nat} {xs : List D} (r : R K cl W H S) (e : S[m]? = some (.lst xs)) : ∃ W', Le W W' ∧ R K cl W' H (S.set m .dead) ∧ Rep K cl W' (.ref (W.ι m)) (.lst xs) := by
  have nd : MO.lst xs ≠ .dead := by intro z; cases z
  obtain ⟨g0, vs, h1, t⟩ := r.live m _ e nd
  refine ⟨W.fz (W.ι m) (.lst vs), Le.fz g0, (r.kill m).fzAt h1 g0 (fun i mo h ndi q => ?_) ?_, .lst upd_same (t.up (Le.fz g0))⟩
  · obtain ⟨h', hne⟩ := set_live h ndi
    exact hne (r.inj i m mo _ h' e ndi nd q)
  · cases q : W.P (W.ι m) with
    | none => rfl
    | some o => exact absurd rfl ((r.priv _ _ q).2.2 m _ e nd)
theorem top_ok {d : D} {v : V} (r : R K cl W H S) (rv : Rep K cl W v d) : ∃ W', Le W W' ∧ R K cl W' H (topF n d S).2 ∧ Rep K cl W' v (topF n d S).1 := by
  unfold topF
  split
  · rename_i m
    split
    · split
      · rename_i xs e
        cases rv
        exact r.freeze e
      · exact ⟨W, .rf W, r, rv⟩
    · exact ⟨W, .rf W, r, rv⟩
  · exact ⟨W, .rf W, r, rv⟩
theorem top_len {d : D} : (topF n d S).2.length = S.length := by
  unfold topF
  split
  · split
    · split
      · simp
      · rfl
    · rfl
  · rfl
theorem cln_post {g : List D → Store → Res D} {ds : List D} {Q : VK} {E : XK} (r : R K cl W H S) (p : Post K cl (Rep K cl) W (cln g ds S) Q E) : Post K cl (Rep K cl) W (g ds S) Q E := by
  unfold cln at p
  have en := r.n
  cases e : g ds S with
  | stk => rw [e] at p; exact p
  | ok d S1 =>
    rw [e] at p
    unfold clE at p
    dsimp only at p
    split at p
    · rename_i hz
      intro W1 H1 v l1 r1 rv
      obtain ⟨W2, l2, r2, rv2⟩ := top_ok (n := S.length) r1 rv
      have hl : S.length ≤ (topF S.length d S1).2.length := by
        rw [top_len, ← r1.n, ← en]
        exact l1.n
      have q := p (W2.cut S.length) H1 v (by rw [← en]; exact (l1.tr l2).cut) (r2.cut hl hz.2) (rv2.cut hz.1)
      exact q
    · exact p.elim
  | exc x S1 =>
    rw [e] at p
    unfold clE at p
    dsimp only at p
    split at p
    · rename_i hz
      intro W1 H1 c dd l1 r1 rx
      have hl : S.length ≤ S1.length := by
        rw [← r1.n, ← en]
        exact l1.n
      refine p (W1.cut S.length) H1 c dd (by rw [← en]; exact l1.cut) (r1.cut hl hz.2) ?_
      obtain ⟨C, q1, q2, q3⟩ := rx
      refine ⟨C, q1, q2, ?_⟩
      rcases q3 with q3 | ⟨a, vs, q3, q4, q5⟩
      · exact .inl q3
      · exact .inr ⟨a, vs, q3, q4, q5.cut hz.1⟩
    · exact p.elim
end
theorem spOf_cln {K : PySem.W.Frag} {cl : Str → Option Addr} {n : Nat} {g : List D → Store → Res D} {vs : List V} {H : Hp} {Q : VK} {E : XK} (h : spOf K cl n (cln g) vs H Q E) : spOf K cl n g vs H Q E := by
  obtain ⟨W, S, ds, r, t, p⟩ := h
  refine ⟨W, S, ds, r, t, ?_⟩
  unfold ar at p ⊢
  split at p
  · rename_i e
    rw [if_pos e]
    exact cln_post r p
  · exact p.elim
/-- lists joined to a live one -/
def addLv (a b : D) (S : Store) : Res D := match lsOf S a, lsOf S b with
  | some x, some y => if x.length + y.length ≤ sizeLine then .ok (.ref S.length) (S ++ [.lst (x ++ y)]) else .stk
  | _, _ => .stk
theorem addLv_s {K : PySem.W.Frag} {cl : Str → Option Addr} : OpS K cl (rAddA K) addLv := by
  intro W H S x y a b Q E r rx ry p
  unfold addLv at p
  cases e1 : lsOf S a with
  | none => rw [e1] at p; exact p.elim
  | some xs =>
    cases e2 : lsOf S b with
    | none => rw [e1, e2] at p; exact p.elim
    | some ys =>
      rw [e1, e2] at p
      dsimp only at p
      obtain ⟨l1, vs1, rfl, h1, t1⟩ := ls_of r rx e1
      obtain ⟨l2, vs2, rfl, h2, t2⟩ := ls_of r ry e2
      by_cases hz : xs.length + ys.length ≤ sizeLine
      · rw [if_pos hz] at p
        exact .inr (.inr (.inr ⟨_, _, _, _, rfl, rfl, h1, h2, by rw [t1.len, t2.len]; exact hz, newLv r (t1.app t2) p⟩))
      · rw [if_neg hz] at p
        exact p.elim
theorem glob_sc {K : PySem.W.Frag} {cl : Str → Option Addr} {mg : Str → Option Value} {x : Str} {u : Value} {d : D} (h : mg x = some u) (r : ∃ v, RelV v u ∧ absD v = some d) : GlobIs K cl mg x d := by
  obtain ⟨v, h1, h2⟩ := r
  exact ⟨u, v, h, h1, fun W => abs_rep h2⟩
theorem glob_tup {K : PySem.W.Frag} {cl : Str → Option Addr} {mg : Str → Option Value} {x : Str} {p : Addr} {od : Option Addr} {its : Array Value} {n : Nat} {sl : Array (Option Value)} {ds : List D} (h : mg x = some (.ref p))
    (hk : K.lookup p = some ⟨.type "tuple", od, .seq its n, sl⟩) (t : AbsL its.toList ds) (hz : its.size ≤ sizeLine) : GlobIs K cl mg x (.tup ds) := by
  refine ⟨_, .ref p, h, rfl, fun W => ?_⟩
  obtain ⟨vs, h1, h2⟩ := t.get (K := K) (cl := cl) (W := W)
  exact .tup (.inr ⟨_, its, n, hk, rfl, rfl, hz, h1⟩) h2
theorem fn_cln {P : Program} {w : World} {K : PySem.W.Frag} {mg : Str → Option Value} {base : Heap} {cl : Str → Option Addr} {k n : Nat} {f : Addr} {fd : FuncData} {ps : List Str} {g : List D → Store → Res D} (F : FnOk P w K mg base (L2.CX P w) k f fd ps (spOf K cl n g)) :
    FnOk P w K mg base (L2.CX P w) k f fd ps (spOf K cl n (cln g)) := F.imp fun _ _ _ _ h => spOf_cln h
end G
namespace G
open PySem L2
/-! ### plain helps -/
@[simp] theorem v_intB {k : Bool} {S : Store} : intD [.bl k] S = .ok (.int (if k = true then 1 else 0)) S := nrfl rfl
@[simp] theorem v_slL {ds : List D} {S : Store} {lo hi : Option Int} : slD (.lst ds) lo hi S = .ok (.lst (cutD ds lo hi)) S := nrfl rfl
@[simp] theorem v_slS {z : Str} {S : Store} {lo hi : Option Int} : slD (.str z) lo hi S = if z.length ≤ sizeLine then .ok (.str (cutS z lo hi)) S else .stk := nrfl rfl
@[simp] theorem v_slC {ns : List Int} {S : Store} {lo hi : Option Int} : slD (.scr ns) lo hi S = .ok (.lst (cutD (ns.map D.int) lo hi)) S := nrfl rfl
@[simp] theorem v_r3 {i j k : Int} {S : Store} : rng3 [.int i, .int j, .int k] S = if k = -1 ∧ smR i = true ∧ smR j = true then .ok ⟨(List.range (i - j).toNat).map fun k => .int (i - (k : Nat)), none⟩ S else .stk := nrfl rfl
@[simp] theorem v_leS {x y : Str} {S : Store} : leD (.str x) (.str y) S = .ok (.bl (!decide (y.cps.toList < x.cps.toList))) S := nrfl rfl
@[simp] theorem v_addLv {x y : List D} {S : Store} : addLv (.lst x) (.lst y) S = if x.length + y.length ≤ sizeLine then .ok (.ref S.length) (S ++ [.lst (x ++ y)]) else .stk := nrfl rfl
theorem sm_of {i : Int} (h0 : 0 ≤ i) (h1 : i < 4294967296) : sm64 i = true := by
  unfold sm64
  simp
  omega
theorem sm_mod {x : Int} (k : Int) (h0 : 0 < k) (h1 : k < 4294967296) : sm64 (x % k) = true := sm_of (Int.emod_nonneg _ (by omega)) (Int.lt_trans (Int.emod_lt_of_pos _ h0) h1)
theorem sz {n : Nat} (h : n ≤ 100000) : n ≤ sizeLine := Nat.le_trans h (by decide)
theorem szl {n : Nat} (h : n < 100000) : n < sizeLine := Nat.lt_of_lt_of_le h (by decide)
theorem atI_lt {α : Type} {xs : List α} {r : Int} (h0 : 0 ≤ r) (h1 : r < xs.length) : ∃ x, atI xs r = some x ∧ x ∈ xs := by
  obtain ⟨k, rfl⟩ := Int.eq_ofNat_of_zero_le h0
  have hk : k < xs.length := by omega
  exact ⟨xs[k], atI_nat (List.getElem?_eq_getElem hk), List.getElem_mem hk⟩
/-- the store but for the object at n is S0 -/
structure AtP (P : MO → Prop) (n : Nat) (S0 S : Store) : Prop where
  lt : n < S0.length
  ex : ∃ m, P m ∧ S = sp S0 n m
theorem AtP.get {P : MO → Prop} {n : Nat} {S0 S : Store} (h : AtP P n S0 S) : ∃ m, P m ∧ sg S n = some m := by
  obtain ⟨hl, m, hp, rfl⟩ := h
  exact ⟨m, hp, sg_sp hl⟩
theorem AtP.put {P : MO → Prop} {n : Nat} {S0 S : Store} {m : MO} (h : AtP P n S0 S) (hm : P m) : AtP P n S0 (sp S n m) := by
  obtain ⟨hl, m', hp, rfl⟩ := h
  exact ⟨hl, m, hm, by rw [sp_sp]⟩
theorem AtP.len {P : MO → Prop} {n : Nat} {S0 S : Store} (h : AtP P n S0 S) : S.length = S0.length := by
  obtain ⟨hl, m', hp, rfl⟩ := h
  exact sp_len
/-- a comprehension whose element goes on with the state -/
theorem comp_each {all : List D} {p : Pt} {e : M D} {ρ : Sl} (I : Store → Prop) (Q : D → Prop) : ∀ (xs : List D) (k : Nat) (S : Store),
    (∀ d ∈ xs, ∃ ρ1, p d ρ = some ρ1 ∧ ∀ S, I S → ∃ y S', e ρ1 S = .ok y S' ∧ I S' ∧ Q y) → I S → k + xs.length ≤ sizeLine →
    ∃ ys S', compL ⟨all, none⟩ p mYes e ρ xs k S = .ok ys S' ∧ ys.length = xs.length ∧ (∀ y ∈ ys, Q y) ∧ I S' := by
  intro xs
  induction xs with
  | nil => intro k S _ hI _; exact ⟨[], S, comp_nil, rfl, fun y h => (nomatch h), hI⟩
  | cons d xs ih =>
    intro k S h hI hk
    obtain ⟨ρ1, hp, he⟩ := h d (by simp)
    obtain ⟨y, S1, e1, I1, q1⟩ := he S hI
    rw [List.length_cons] at hk
    obtain ⟨ys, S2, e2, l2, q2, I2⟩ := ih (k + 1) S1 (fun d hd => h d (by simp [hd])) I1 (by omega)
    refine ⟨y :: ys, S2, ?_, by simp [l2], fun z hz => ?_, I2⟩
    · rw [comp_cons hp]
      have hk' : k < sizeLine := by omega
      simp [e1, hk', e2]
    · rcases List.mem_cons.mp hz with rfl | hz
      · exact q1
      · exact q2 z hz
/-- a comprehension of a plain function -/
theorem comp_fun {all : List D} {p : Pt} {e : M D} {ρ : Sl} {S : Store} (f : D → D) : ∀ (xs : List D) (k : Nat),
    (∀ d ∈ xs, ∃ ρ1, p d ρ = some ρ1 ∧ e ρ1 S = .ok (f d) S) → k + xs.length ≤ sizeLine →
    compL ⟨all, none⟩ p mYes e ρ xs k S = .ok (xs.map f) S := by
  intro xs
  induction xs with
  | nil => intro k _ _; exact comp_nil
  | cons d xs ih =>
    intro k h hk
    obtain ⟨ρ1, hp, he⟩ := h d (by simp)
    rw [List.length_cons] at hk
    have e2 := ih (k + 1) (fun d hd => h d (by simp [hd])) (by omega)
    rw [comp_cons hp]
    have hk' : k < sizeLine := by omega
    simp [he, hk', e2]
theorem comp_map {α : Type} {all : List D} {p : Pt} {e : M D} {ρ : Sl} {S : Store} (g f : α → D) : ∀ (xs : List α) (k : Nat),
    (∀ d ∈ xs, ∃ ρ1, p (g d) ρ = some ρ1 ∧ e ρ1 S = .ok (f d) S) → k + xs.length ≤ sizeLine →
    compL ⟨all, none⟩ p mYes e ρ (xs.map g) k S = .ok (xs.map f) S := by
  intro xs
  induction xs with
  | nil => intro k _ _; exact comp_nil
  | cons d xs ih =>
    intro k h hk
    obtain ⟨ρ1, hp, he⟩ := h d (by simp)
    rw [List.length_cons] at hk
    have e2 := ih (k + 1) (fun d hd => h d (by simp [hd])) (by omega)
    rw [List.map_cons, comp_cons hp]
    have hk' : k < sizeLine := by omega
    simp [he, hk', e2]
theorem bls_map {α : Type} (f : α → Bool) : ∀ l : List α, blsO (l.map fun x => .bl (f x)) = some (l.map f)
  | [] => rfl
  | x :: l => by
    rw [List.map_cons, List.map_cons]
    unfold blsO
    rw [bls_map f l]
    rfl
theorem all_bl {α : Type} {S : Store} (f : α → Bool) (l : List α) : allD [.lst (l.map fun x => .bl (f x))] S = .ok (.bl (l.all f)) S := by
  show ofO ((blsO (l.map fun x => .bl (f x))).map fun bs => D.bl (bs.all id)) S = _
  rw [bls_map]
  show Res.ok (D.bl ((l.map f).all id)) S = _
  rw [List.all_map]
  rfl
/-- a loop that goes through, with the state -/
theorem for_inv {all : List D} {p : Pt} {b : MS} (I : Sl → Store → Prop) : ∀ (ds : List D) (ρ : Sl) (S : Store),
    (∀ d ∈ ds, ∀ ρ S, I ρ S → ∃ ρ1 ρ2 S2, p d ρ = some ρ1 ∧ (b ρ1 S = .nx ρ2 S2 ∨ b ρ1 S = .ct ρ2 S2) ∧ I ρ2 S2) → I ρ S →
    ∃ ρ' S', forL ⟨all, none⟩ p b ds ρ S = .nx ρ' S' ∧ I ρ' S' := by
  intro ds
  induction ds with
  | nil => intro ρ S _ q; exact ⟨ρ, S, for_nil, q⟩
  | cons d ds ih =>
    intro ρ S h q
    obtain ⟨ρ1, ρ2, S2, hp, hb, q2⟩ := h d (by simp) ρ S q
    obtain ⟨ρ3, S3, e3, q3⟩ := ih ρ2 S2 (fun d hd => h d (by simp [hd])) q2
    refine ⟨ρ3, S3, ?_, q3⟩
    rw [for_cons hp]
    rcases hb with hb | hb <;> rw [hb]
    · rw [fB_nx, e3]
    · rw [fB_ct, e3]
/-- a loop that goes through, counted -/
theorem for_cnt {all : List D} {p : Pt} {b : MS} (N : Nat) (I : Nat → Sl → Store → Prop) : ∀ (ds : List D) (k : Nat) (ρ : Sl) (S : Store), k + ds.length ≤ N →
    (∀ k, k < N → ∀ d ∈ ds, ∀ ρ S, I k ρ S → ∃ ρ1 ρ2 S2, p d ρ = some ρ1 ∧ (b ρ1 S = .nx ρ2 S2 ∨ b ρ1 S = .ct ρ2 S2) ∧ I (k + 1) ρ2 S2) → I k ρ S →
    ∃ ρ' S', forL ⟨all, none⟩ p b ds ρ S = .nx ρ' S' ∧ I (k + ds.length) ρ' S' := by
  intro ds
  induction ds with
  | nil => intro k ρ S _ _ q; exact ⟨ρ, S, for_nil, q⟩
  | cons d ds ih =>
    intro k ρ S hN h q
    rw [List.length_cons] at hN
    obtain ⟨ρ1, ρ2, S2, hp, hb, q2⟩ := h k (by omega) d (by simp) ρ S q
    obtain ⟨ρ3, S3, e3, q3⟩ := ih (k + 1) ρ2 S2 (by omega) (fun k hk d hd => h k hk d (by simp [hd])) q2
    refine ⟨ρ3, S3, ?_, by rw [List.length_cons, Nat.add_comm ds.length 1, ← Nat.add_assoc]; exact q3⟩
    rw [for_cons hp]
    rcases hb with hb | hb <;> rw [hb]
    · rw [fB_nx, e3]
    · rw [fB_ct, e3]
/-- slices, lengths of a live list -/
def rSl (o : Option MO) (lo hi : Option Int) (S : Store) : Res D := match o with
  | some (.lst ds) => .ok (.lst (cutD ds lo hi)) S
  | _ => .stk
@[simp] theorem rSl_some {ds : List D} {lo hi : Option Int} {S : Store} : rSl (some (.lst ds)) lo hi S = .ok (.lst (cutD ds lo hi)) S := nrfl rfl
@[simp] theorem v_slR {n : Nat} {S : Store} {lo hi : Option Int} : slD (.ref n) lo hi S = rSl (sg S n) lo hi S := by
  show (match lsOf S (.ref n) with | some ds => Res.ok (D.lst (cutD ds lo hi)) S | none => Res.stk) = _
  unfold lsOf rSl sg
  dsimp only
  cases S[n]? with
  | none => rfl
  | some mo => cases mo <;> rfl
/-- calls that leave nothing behind -/
theorem cln_ok {g : List D → Store → Res D} {ds : List D} {S S' T : Store} {d d' : D} (e : g ds S = .ok d S') (h1 : topF S.length d S' = (d', T)) (h2 : belD S.length d' = true) (h3 : (T.take S.length).all (belM S.length) = true) :
    cln g ds S = .ok d' (T.take S.length) := by
  unfold cln clE
  rw [e]
  dsimp only
  rw [h1]
  exact if_pos ⟨h2, h3⟩
theorem topF_ref {n m : Nat} {S : Store} {xs : List D} (h : n ≤ m) (e : sg S m = some (.lst xs)) : topF n (.ref m) S = (.lst xs, sp S m .dead) := by
  unfold topF
  dsimp only
  rw [if_pos h, show S[m]? = some (.lst xs) from e]
  rfl
def Wf (S : Store) : Prop := S.all (belM S.length) = true
theorem take_sp {S : Store} {n k : Nat} {m : MO} : (sp S n m).take k = sp (S.take k) n m := List.take_set
theorem take_sp_ge {S : Store} {n k : Nat} {m : MO} (h : k ≤ n) : (sp S n m).take k = S.take k := List.take_set_of_le h
theorem Wf.sp {S : Store} {n : Nat} {m : MO} (h : Wf S) (hm : belM S.length m = true) : Wf (sp S n m) := by
  unfold Wf
  rw [sp_len]
  refine List.all_eq_true.mpr fun x hx => ?_
  rcases List.mem_or_eq_of_mem_set hx with hx | rfl
  · exact List.all_eq_true.mp h x hx
  · exact hm
theorem bel_strs {n : Nat} : ∀ l : List Str, belL n (l.map D.str) = true
  | [] => rfl
  | _ :: l => by
    show (true && belL n (l.map D.str)) = true
    rw [bel_strs l]
    rfl
/-! texts -/
def cs (t : Str) : List Nat := t.cps.toList
def ofC (l : List Nat) : Str := ⟨⟨l⟩⟩
theorem ofC_cs (t : Str) : ofC (cs t) = t := rfl
theorem cs_ofC (l : List Nat) : cs (ofC l) = l := rfl
theorem len_cs (t : Str) : t.length = (cs t).length := rfl
theorem cs_app (x y : Str) : cs (x ++ y) = cs x ++ cs y := by
  show (x.cps ++ y.cps).toList = _
  exact Array.toList_append
theorem str_eq {x y : Str} : x = y ↔ cs x = cs y := ⟨fun h => h ▸ rfl, fun h => by rw [← ofC_cs x, ← ofC_cs y, h]⟩
theorem join_ones (l : List Nat) : cs (Txt.join "" (l.map fun c => (⟨#[c]⟩ : Str))) = l := by
  show (Txt.join "" (l.map fun c => (⟨#[c]⟩ : Str))).cps.toList = l
  rw [TL.join_eq]
  have h := TL.tl_join ("" : Str) (l.map fun c => (⟨#[c]⟩ : Str))
  have e : (TL.tl ("" : Str)) = [] := rfl
  rw [e] at h
  refine h.trans ?_
  clear h e
  induction l with
  | nil => rfl
  | cons c l ih =>
    cases l with
    | nil => rfl
    | cons d l =>
      show [c] ++ ([] ++ TL.joinL [] (List.map TL.tl (List.map (fun c => (⟨#[c]⟩ : Str)) (d :: l)))) = _
      rw [ih]
      rfl
def OneIn (P : Nat → Prop) (d : D) : Prop := ∃ c : Nat, d = .str ⟨#[c]⟩ ∧ P c
theorem ones_sts {P : Nat → Prop} : ∀ {ys : List D}, (∀ y ∈ ys, OneIn P y) → ∃ l : List Nat, stsO ys = some (l.map fun c => (⟨#[c]⟩ : Str)) ∧ l.length = ys.length ∧ ∀ c ∈ l, P c
  | [], _ => ⟨[], rfl, rfl, fun c h => nomatch h⟩
  | y :: ys, h => by
    obtain ⟨c, rfl, hc⟩ := h y (by simp)
    obtain ⟨l, e, hl, hcs⟩ := ones_sts (ys := ys) fun z hz => h z (by simp [hz])
    refine ⟨c :: l, ?_, by simp [hl], fun d hd => ?_⟩
    · unfold stsO
      rw [e]
      rfl
    · rcases List.mem_cons.mp hd with rfl | hd
      · exact hc
      · exact hcs d hd
theorem ones_sum (l : List Nat) : (l.map ((fun x : Str => x.length) ∘ fun c => (⟨#[c]⟩ : Str))).sum = l.length := by
  induction l with
  | nil => rfl
  | cons c l ih => rw [List.map_cons, List.sum_cons, ih]; show 1 + _ = _; rw [List.length_cons]; omega
end G
namespace G
open PySem L2
def top (i : Nat) : Stmt := PySem.Challenge.pw_sparedwork_k01_values_names_and_paths.main.body.getD i (.Pass ⟨0, 0, 0, 0⟩)
def c_CHARS : D := .str " !\"#$&'()*+,-./0123456789:;<=>?@ABCDEFGHIJKLMNOPQRSTUVWXYZ[\\]^_`abcdefghijklmnopqrstuvwxyz{|}~"
def c_DIGITS : D := .str "0123456789"
def c_KEPT_WORDS : D := .tup [.str "and", .str "or", .str "not", .str "sure", .str "in", .str "is", .str "empty", .str "begins", .str "always", .str "never", .str "unsure"]
def c_LETTERS : D := .str "abcdefghijklmnopqrstuvwxyz"
def c_MOST_PIECES : D := .int 4
def c_SLOT_NUMBERS : D := .tup [.str "1", .str "2", .str "3"]
structure Gb (K : PySem.W.Frag) (cl : Str → Option Addr) (mg : Str → Option Value) : Prop where
  b_all : mg "all" = none
  b_bool : mg "bool" = none
  b_int : mg "int" = none
  b_isinstance : mg "isinstance" = none
  b_len : mg "len" = none
  b_range : mg "range" = none
  b_str : mg "str" = none
  g_CHARS : GlobIs K cl mg "CHARS" c_CHARS
  g_DIGITS : GlobIs K cl mg "DIGITS" c_DIGITS
  g_KEPT_WORDS : GlobIs K cl mg "KEPT_WORDS" c_KEPT_WORDS
  g_LETTERS : GlobIs K cl mg "LETTERS" c_LETTERS
  g_MOST_PIECES : GlobIs K cl mg "MOST_PIECES" c_MOST_PIECES
  g_SLOT_NUMBERS : GlobIs K cl mg "SLOT_NUMBERS" c_SLOT_NUMBERS
section
variable {P : Program} {w : World} {K : PySem.W.Frag} {mg : Str → Option Value} {base : Heap} {cl : Str → Option Addr}
abbrev s_law_draw : Stmt := (top 17)
theorem sc_law_draw : FnScope ["_law_well", "_law_many", "_law_number", "_law_found"] ["_law_well", "_law_many"] (defScope s_law_draw) :=
  ⟨rfl, rfl, rfl, by decide +kernel, rfl, by decide +kernel, by decide +kernel⟩
noncomputable def sem_law_draw : MS :=
  (sSeq (sIf (mTest (mOp gtD (mOp ixD (mVar 0) (mC (.int 0))) (mC (.int 0))))
  (sSeq (sSet 3 (mOp modD (mFn intD (mCons (mOp ixD (mVar 0) (mC (.int 0))) mNil)) (mVar 1)))
  (sSeq (sPut (mVar 0) (mC (.int 0)) (mOp fdivD (mOp ixD (mVar 0) (mC (.int 0))) (mVar 1)))
  (sRet (mVar 3))))
  sPass)
  (sSeq (sPut (mVar 0) (mC (.int 2)) (mOp addD (mOp ixD (mVar 0) (mC (.int 2))) (mC (.int 1))))
  (sSeq (sSet 2 (mOp modD (mFn intD (mCons (mOp mulD (mOp addD (mOp addD (mOp ixD (mVar 0) (mC (.int 1))) (mOp mulD (mC (.int 104729)) (mOp ixD (mVar 0) (mC (.int 2))))) (mC (.int 11))) (mC (.int 48271))) mNil)) (mC (.int 2147483647))))
  (sSeq (sSet 2 (mOp modD (mFn intD (mCons (mOp mulD (mVar 2) (mOp addD (mOp addD (mOp fdivD (mVar 2) (mC (.int 1009))) (mC (.int 69621))) (mOp ixD (mVar 0) (mC (.int 2))))) mNil)) (mC (.int 2147483587))))
  (sRet (mOp modD (mFn intD (mCons (mOp fdivD (mOp modD (mFn intD (mCons (mOp mulD (mVar 2) (mOp addD (mOp fdivD (mVar 2) (mC (.int 2003))) (mC (.int 40692)))) mNil)) (mC (.int 2147483563))) (mC (.int 3))) mNil)) (mVar 1)))))))
noncomputable def fn_law_draw : List D → Store → Res D := runB 4 sem_law_draw
theorem ok_law_draw {f : Addr} {fd : FuncData} (F : Fun K "_law_draw" "_law_draw" s_law_draw f fd) (T : Gb K cl mg) :
    FnOk P w K mg base (L2.CX P w) 1 f fd ["_law_well", "_law_many"] (spOf K cl 2 fn_law_draw) :=
  fn_sem F sc_law_draw rfl fun cdv A outer s H E hr =>
  (s_cons (s_if (tt_cmp op_gt gt_s (t_ix ix_seq ix_s (t_var 0) t_int) t_int)
  (s_cons (s_set 3 sc_law_draw.nd (t_op op_mod mod_s (t_callTy (call_int1) int_s T.b_int bt_int (ta_cons (t_ix ix_seq ix_s (t_var 0) t_int) ta_nil)) (t_var 1)))
  (s_cons (s_put (t_var 0) t_int (t_op op_fdivW fdiv_s (t_ix ix_seq ix_s (t_var 0) t_int) (t_var 1)))
  (s_one (s_ret (t_var 3)))))
  s_nil)
  (s_cons (s_put (t_var 0) t_int (t_op op_addA add_s (t_ix ix_seq ix_s (t_var 0) t_int) t_int))
  (s_cons (s_set 2 sc_law_draw.nd (t_op op_mod mod_s (t_callTy (call_int1) int_s T.b_int bt_int (ta_cons (t_op op_mulA mul_s (t_op op_addA add_s (t_op op_addA add_s (t_ix ix_seq ix_s (t_var 0) t_int) (t_op op_mulA mul_s t_int (t_ix ix_seq ix_s (t_var 0) t_int))) t_int) t_int) ta_nil)) t_int))
  (s_cons (s_set 2 sc_law_draw.nd (t_op op_mod mod_s (t_callTy (call_int1) int_s T.b_int bt_int (ta_cons (t_op op_mulA mul_s (t_var 2) (t_op op_addA add_s (t_op op_addA add_s (t_op op_fdivW fdiv_s (t_var 2) t_int) t_int) (t_ix ix_seq ix_s (t_var 0) t_int))) ta_nil)) t_int))
  (s_one (s_ret (t_op op_mod mod_s (t_callTy (call_int1) int_s T.b_int bt_int (ta_cons (t_op op_fdivW fdiv_s (t_op op_mod mod_s (t_callTy (call_int1) int_s T.b_int bt_int (ta_cons (t_op op_mulA mul_s (t_var 2) (t_op op_addA add_s (t_op op_fdivW fdiv_s (t_var 2) t_int) t_int)) ta_nil)) t_int) t_int) ta_nil)) (t_var 1))))))))
theorem mk_law_draw {f : Addr} {fd : FuncData} (F : Fun K "_law_draw" "_law_draw" s_law_draw f fd) (hm : mg "_law_draw" = some (.ref f)) (T : Gb K cl mg) : Fn P w K mg base cl "_law_draw" 1 2 fn_law_draw :=
  ⟨f, fd, ["_law_well", "_law_many"], ok_law_draw F T, hm, F.kp, (F.binds (ps := ["_law_well", "_law_many"]) fun _ _ _ _ _ _ us hl => match us, hl with | [_, _], _ => rfl)⟩
abbrev s_law_is : Stmt := (top 30)
theorem sc_law_is : FnScope ["_law_told", "_law_due"] ["_law_told", "_law_due"] (defScope s_law_is) :=
  ⟨rfl, rfl, rfl, by decide +kernel, rfl, by decide +kernel, by decide +kernel⟩
noncomputable def sem_law_is : MS :=
  (sRet (mAndV (mUn (isiD k_bool) (mVar 0)) (mOp eqD (mVar 0) (mVar 1))))
noncomputable def fn_law_is : List D → Store → Res D := runB 2 sem_law_is
theorem ok_law_is {f : Addr} {fd : FuncData} (F : Fun K "_law_is" "_law_is" s_law_is f fd) (T : Gb K cl mg) :
    FnOk P w K mg base (L2.CX P w) 1 f fd ["_law_told", "_law_due"] (spOf K cl 2 fn_law_is) :=
  fn_sem F sc_law_is rfl fun cdv A outer s H E hr =>
  (s_one (s_ret (t_and (t_isi is_bool T.b_isinstance T.b_bool bt_bool (t_var 0)) (t_one (t_cmp (op_eqA hr) eq_s (t_var 0) (t_var 1))))))
theorem mk_law_is {f : Addr} {fd : FuncData} (F : Fun K "_law_is" "_law_is" s_law_is f fd) (hm : mg "_law_is" = some (.ref f)) (T : Gb K cl mg) : Fn P w K mg base cl "_law_is" 1 2 fn_law_is :=
  ⟨f, fd, ["_law_told", "_law_due"], ok_law_is F T, hm, F.kp, (F.binds (ps := ["_law_told", "_law_due"]) fun _ _ _ _ _ _ us hl => match us, hl with | [_, _], _ => rfl)⟩
abbrev s_law_kept : Stmt := (top 25)
theorem sc_law_kept : FnScope [] [] (defScope s_law_kept) :=
  ⟨rfl, rfl, rfl, by decide +kernel, rfl, by decide +kernel, by decide +kernel⟩
noncomputable def sem_law_kept : MS :=
  (sRet (mFn lstD (mCons (mC (.str "and")) (mCons (mC (.str "or")) (mCons (mC (.str "not")) (mCons (mC (.str "sure")) (mCons (mC (.str "in")) (mCons (mC (.str "is")) (mCons (mC (.str "empty")) (mCons (mC (.str "begins")) (mCons (mC (.str "always")) (mCons (mC (.str "never")) (mCons (mC (.str "unsure")) mNil)))))))))))))
noncomputable def fn_law_kept : List D → Store → Res D := runB 0 sem_law_kept
theorem ok_law_kept {f : Addr} {fd : FuncData} (F : Fun K "_law_kept" "_law_kept" s_law_kept f fd) (T : Gb K cl mg) :
    FnOk P w K mg base (L2.CX P w) 1 f fd [] (spOf K cl 0 fn_law_kept) :=
  fn_sem F sc_law_kept rfl fun cdv A outer s H E hr =>
  (s_one (s_ret (t_lst (ta_cons t_str (ta_cons t_str (ta_cons t_str (ta_cons t_str (ta_cons t_str (ta_cons t_str (ta_cons t_str (ta_cons t_str (ta_cons t_str (ta_cons t_str (ta_cons t_str ta_nil))))))))))))))
theorem mk_law_kept {f : Addr} {fd : FuncData} (F : Fun K "_law_kept" "_law_kept" s_law_kept f fd) (hm : mg "_law_kept" = some (.ref f)) (T : Gb K cl mg) : Fn P w K mg base cl "_law_kept" 1 0 fn_law_kept :=
  ⟨f, fd, [], ok_law_kept F T, hm, F.kp, (F.binds (ps := []) fun _ _ _ _ _ _ us hl => match us, hl with | [], _ => rfl)⟩
abbrev s_law_pick : Stmt := (top 18)
theorem sc_law_pick : FnScope ["_law_well", "_law_some"] ["_law_well", "_law_some"] (defScope s_law_pick) :=
  ⟨rfl, rfl, rfl, by decide +kernel, rfl, by decide +kernel, by decide +kernel⟩
noncomputable def sem_law_pick : MS :=
  (sRet (mOp ixD (mVar 1) (mFn (ar 2 fn_law_draw) (mCons (mVar 0) (mCons (mFn lenD (mCons (mVar 1) mNil)) mNil)))))
noncomputable def fn_law_pick : List D → Store → Res D := runB 2 sem_law_pick
theorem ok_law_pick {f : Addr} {fd : FuncData} (F : Fun K "_law_pick" "_law_pick" s_law_pick f fd) (T : Gb K cl mg) (G_law_draw : Fn P w K mg base cl "_law_draw" 1 2 fn_law_draw) :
    FnOk P w K mg base (L2.CX P w) 2 f fd ["_law_well", "_law_some"] (spOf K cl 2 fn_law_pick) :=
  fn_sem F sc_law_pick rfl fun cdv A outer s H E hr =>
  (s_one (s_ret (t_ix ix_seq ix_s (t_var 1) (t_callF G_law_draw (hr.mono (by decide)) (takes_of rfl rfl rfl rfl) (ta_cons (t_var 0) (ta_cons (t_callB (call_len) len_s T.b_len bt_len (ta_cons (t_var 1) ta_nil)) ta_nil))))))
theorem mk_law_pick {f : Addr} {fd : FuncData} (F : Fun K "_law_pick" "_law_pick" s_law_pick f fd) (hm : mg "_law_pick" = some (.ref f)) (T : Gb K cl mg) (G_law_draw : Fn P w K mg base cl "_law_draw" 1 2 fn_law_draw) : Fn P w K mg base cl "_law_pick" 2 2 fn_law_pick :=
  ⟨f, fd, ["_law_well", "_law_some"], ok_law_pick F T G_law_draw, hm, F.kp, (F.binds (ps := ["_law_well", "_law_some"]) fun _ _ _ _ _ _ us hl => match us, hl with | [_, _], _ => rfl)⟩
abbrev s_law_piece : Stmt := (top 24)
theorem sc_law_piece : FnScope ["_law_well", "_law_letters", "_law_word", "_law_k"] ["_law_well"] (defScope s_law_piece) :=
  ⟨rfl, rfl, rfl, by decide +kernel, rfl, by decide +kernel, by decide +kernel⟩
noncomputable def sem_law_piece : MS :=
  (sSeq (sSet 1 (mC (.str "abcdefghijklmnopqrstuvwxyz0123456789")))
  (sSeq (sSet 2 (mOp ixD (mVar 1) (mFn (ar 2 fn_law_draw) (mCons (mVar 0) (mCons (mC (.int 26)) mNil)))))
  (sSeq (sFor (mRng rng1 (mCons (mFn (ar 2 fn_law_draw) (mCons (mVar 0) (mCons (mC (.int 8)) mNil))) mNil)) (ptN 3)
  (sSet 2 (mOp addD (mVar 2) (mOp ixD (mVar 1) (mFn (ar 2 fn_law_draw) (mCons (mVar 0) (mCons (mC (.int 36)) mNil)))))))
  (sRet (mVar 2)))))
noncomputable def fn_law_piece : List D → Store → Res D := runB 4 sem_law_piece
theorem ok_law_piece {f : Addr} {fd : FuncData} (F : Fun K "_law_piece" "_law_piece" s_law_piece f fd) (T : Gb K cl mg) (G_law_draw : Fn P w K mg base cl "_law_draw" 1 2 fn_law_draw) :
    FnOk P w K mg base (L2.CX P w) 2 f fd ["_law_well"] (spOf K cl 1 fn_law_piece) :=
  fn_sem F sc_law_piece rfl fun cdv A outer s H E hr =>
  (s_cons (s_set 1 sc_law_piece.nd t_str)
  (s_cons (s_set 2 sc_law_piece.nd (t_ix ix_seq ix_s (t_var 1) (t_callF G_law_draw (hr.mono (by decide)) (takes_of rfl rfl rfl rfl) (ta_cons (t_var 0) (ta_cons t_int ta_nil)))))
  (s_cons (s_for (passes_of rfl) rfl (i_range1 T.b_range (ta_cons (t_callF G_law_draw (hr.mono (by decide)) (takes_of rfl rfl rfl rfl) (ta_cons (t_var 0) (ta_cons t_int ta_nil))) ta_nil)) (g_name 3 sc_law_piece.nd)
  (s_one (s_set 2 sc_law_piece.nd (t_op op_addA add_s (t_var 2) (t_ix ix_seq ix_s (t_var 1) (t_callF G_law_draw (hr.mono (by decide)) (takes_of rfl rfl rfl rfl) (ta_cons (t_var 0) (ta_cons t_int ta_nil))))))))
  (s_one (s_ret (t_var 2))))))
theorem mk_law_piece {f : Addr} {fd : FuncData} (F : Fun K "_law_piece" "_law_piece" s_law_piece f fd) (hm : mg "_law_piece" = some (.ref f)) (T : Gb K cl mg) (G_law_draw : Fn P w K mg base cl "_law_draw" 1 2 fn_law_draw) : Fn P w K mg base cl "_law_piece" 2 1 fn_law_piece :=
  ⟨f, fd, ["_law_well"], ok_law_piece F T G_law_draw, hm, F.kp, (F.binds (ps := ["_law_well"]) fun _ _ _ _ _ _ us hl => match us, hl with | [_], _ => rfl)⟩
abbrev s_law_wrong_piece : Stmt := (top 27)
theorem sc_law_wrong_piece : FnScope ["_law_well"] ["_law_well"] (defScope s_law_wrong_piece) :=
  ⟨rfl, rfl, rfl, by decide +kernel, rfl, by decide +kernel, by decide +kernel⟩
noncomputable def sem_law_wrong_piece : MS :=
  (sRet (mFn (ar 2 fn_law_pick) (mCons (mVar 0) (mCons (mOp addD (mFn lstD (mCons (mC (.str "")) (mCons (mC (.str "A")) (mCons (mC (.str "a b")) (mCons (mC (.str "1a")) (mCons (mC (.str "abcdefghi")) (mCons (mC (.str "4")) (mCons (mC (.str "0")) (mCons (mC (.str "a-b")) (mCons (mC (.str "a_b")) (mCons (mC (.str "\n")) (mCons (mC (.str "a\t")) (mCons (mC (.str " a")) mNil))))))))))))) (mFn (ar 0 fn_law_kept) mNil)) mNil))))
noncomputable def fn_law_wrong_piece : List D → Store → Res D := runB 1 sem_law_wrong_piece
theorem ok_law_wrong_piece {f : Addr} {fd : FuncData} (F : Fun K "_law_wrong_piece" "_law_wrong_piece" s_law_wrong_piece f fd) (T : Gb K cl mg) (G_law_kept : Fn P w K mg base cl "_law_kept" 1 0 fn_law_kept) (G_law_pick : Fn P w K mg base cl "_law_pick" 2 2 fn_law_pick) :
    FnOk P w K mg base (L2.CX P w) 3 f fd ["_law_well"] (spOf K cl 1 fn_law_wrong_piece) :=
  fn_sem F sc_law_wrong_piece rfl fun cdv A outer s H E hr =>
  (s_one (s_ret (t_callF G_law_pick (hr.mono (by decide)) (takes_of rfl rfl rfl rfl) (ta_cons (t_var 0) (ta_cons (t_op op_addA add_s (t_lst (ta_cons t_str (ta_cons t_str (ta_cons t_str (ta_cons t_str (ta_cons t_str (ta_cons t_str (ta_cons t_str (ta_cons t_str (ta_cons t_str (ta_cons t_str (ta_cons t_str (ta_cons t_str ta_nil))))))))))))) (t_callF0 G_law_kept (hr.mono (by decide)) (takes_of rfl rfl rfl rfl))) ta_nil)))))
theorem mk_law_wrong_piece {f : Addr} {fd : FuncData} (F : Fun K "_law_wrong_piece" "_law_wrong_piece" s_law_wrong_piece f fd) (hm : mg "_law_wrong_piece" = some (.ref f)) (T : Gb K cl mg) (G_law_kept : Fn P w K mg base cl "_law_kept" 1 0 fn_law_kept) (G_law_pick : Fn P w K mg base cl "_law_pick" 2 2 fn_law_pick) : Fn P w K mg base cl "_law_wrong_piece" 3 1 fn_law_wrong_piece :=
  ⟨f, fd, ["_law_well"], ok_law_wrong_piece F T G_law_kept G_law_pick, hm, F.kp, (F.binds (ps := ["_law_well"]) fun _ _ _ _ _ _ us hl => match us, hl with | [_], _ => rfl)⟩
abbrev s_law_pieces : Stmt := (top 28)
theorem sc_law_pieces : FnScope ["_law_well", "_law_found", "_law_k"] ["_law_well"] (defScope s_law_pieces) :=
  ⟨rfl, rfl, rfl, by decide +kernel, rfl, by decide +kernel, by decide +kernel⟩
noncomputable def sem_law_pieces : MS :=
  (sSeq (sSet 1 (mComp (mRng rng1 (mCons (mOp addD (mC (.int 1)) (mFn (ar 2 fn_law_draw) (mCons (mVar 0) (mCons (mC (.int 5)) mNil)))) mNil)) (ptN 2) mYes (mFn (ar 1 fn_law_piece) (mCons (mVar 0) mNil)) [2] lvD))
  (sSeq (sIf (mTest (mOp eqD (mFn (ar 2 fn_law_draw) (mCons (mVar 0) (mCons (mC (.int 3)) mNil))) (mC (.int 0))))
  (sSet 1 (mOp addLv (mFn lstD (mCons (mFn (ar 2 fn_law_pick) (mCons (mVar 0) (mCons (mFn lstD (mCons (mC (.str "1")) (mCons (mC (.str "2")) (mCons (mC (.str "3")) mNil)))) mNil))) mNil)) (mSl slD (mVar 1) mNoPart (mPart (mC (.int 4))))))
  sPass)
  (sSeq (sIf (mTest (mOp eqD (mFn (ar 2 fn_law_draw) (mCons (mVar 0) (mCons (mC (.int 2)) mNil))) (mC (.int 0))))
  (sPut (mVar 1) (mFn (ar 2 fn_law_draw) (mCons (mVar 0) (mCons (mFn lenD (mCons (mVar 1) mNil)) mNil))) (mFn (ar 2 fn_law_pick) (mCons (mVar 0) (mCons (mFn lstD (mCons (mFn (ar 1 fn_law_wrong_piece) (mCons (mVar 0) mNil)) (mCons (mC (.str "1")) (mCons (mC (.str "2")) (mCons (mFn (ar 1 fn_law_piece) (mCons (mVar 0) mNil)) mNil))))) mNil))))
  sPass)
  (sRet (mVar 1)))))
noncomputable def fn_law_pieces : List D → Store → Res D := cln (runB 3 sem_law_pieces)
theorem ok_law_pieces {f : Addr} {fd : FuncData} (F : Fun K "_law_pieces" "_law_pieces" s_law_pieces f fd) (T : Gb K cl mg) (G_law_draw : Fn P w K mg base cl "_law_draw" 1 2 fn_law_draw) (G_law_pick : Fn P w K mg base cl "_law_pick" 2 2 fn_law_pick) (G_law_piece : Fn P w K mg base cl "_law_piece" 2 1 fn_law_piece) (G_law_wrong_piece : Fn P w K mg base cl "_law_wrong_piece" 3 1 fn_law_wrong_piece) :
    FnOk P w K mg base (L2.CX P w) 4 f fd ["_law_well"] (spOf K cl 1 fn_law_pieces) :=
  fn_cln <| fn_sem F sc_law_pieces rfl fun cdv A outer s H E hr =>
  (s_cons (s_setLc 1 [("_law_k", 2)] lv_s rfl sc_law_pieces.nd (i_range1 T.b_range (ta_cons (t_op op_addA add_s t_int (t_callF G_law_draw (hr.mono (by decide)) (takes_of rfl rfl rfl rfl) (ta_cons (t_var 0) (ta_cons t_int ta_nil)))) ta_nil)) (blkOk_by (N := ["_law_well", "_law_found", "_law_k"]) (sc := defScope s_law_pieces) (by decide +kernel)) (fun _ _ _ _ _ => (g_name 2 sc_law_pieces.nd)) (fun _ _ _ _ _ => tts_nil) (fun _ _ _ _ _ => (t_callF G_law_piece (hr.mono (by decide)) takes0 (ta_cons (t_var 0) ta_nil))) (sw_true rfl rfl rfl (by decide +kernel)))
  (s_cons (s_if (tt_cmp (op_eqA hr) eq_s (t_callF G_law_draw (hr.mono (by decide)) (takes_of rfl rfl rfl rfl) (ta_cons (t_var 0) (ta_cons t_int ta_nil))) t_int)
  (s_one (s_set 1 sc_law_pieces.nd (t_op op_addA addLv_s (t_lst (ta_cons (t_callF G_law_pick (hr.mono (by decide)) (takes_of rfl rfl rfl rfl) (ta_cons (t_var 0) (ta_cons (t_lst (ta_cons t_str (ta_cons t_str (ta_cons t_str ta_nil)))) ta_nil))) ta_nil)) (t_sl sl_all sl_s (t_var 1) tp_none (tp_some t_int)))))
  s_nil)
  (s_cons (s_if (tt_cmp (op_eqA hr) eq_s (t_callF G_law_draw (hr.mono (by decide)) (takes_of rfl rfl rfl rfl) (ta_cons (t_var 0) (ta_cons t_int ta_nil))) t_int)
  (s_one (s_put (t_var 1) (t_callF G_law_draw (hr.mono (by decide)) (takes_of rfl rfl rfl rfl) (ta_cons (t_var 0) (ta_cons (t_callB (call_len) len_s T.b_len bt_len (ta_cons (t_var 1) ta_nil)) ta_nil))) (t_callF G_law_pick (hr.mono (by decide)) (takes_of rfl rfl rfl rfl) (ta_cons (t_var 0) (ta_cons (t_lst (ta_cons (t_callF G_law_wrong_piece (hr.mono (by decide)) (takes_of rfl rfl rfl rfl) (ta_cons (t_var 0) ta_nil)) (ta_cons t_str (ta_cons t_str (ta_cons (t_callF G_law_piece (hr.mono (by decide)) (takes_of rfl rfl rfl rfl) (ta_cons (t_var 0) ta_nil)) ta_nil))))) ta_nil)))))
  s_nil)
  (s_one (s_ret (t_var 1))))))
theorem mk_law_pieces {f : Addr} {fd : FuncData} (F : Fun K "_law_pieces" "_law_pieces" s_law_pieces f fd) (hm : mg "_law_pieces" = some (.ref f)) (T : Gb K cl mg) (G_law_draw : Fn P w K mg base cl "_law_draw" 1 2 fn_law_draw) (G_law_pick : Fn P w K mg base cl "_law_pick" 2 2 fn_law_pick) (G_law_piece : Fn P w K mg base cl "_law_piece" 2 1 fn_law_piece) (G_law_wrong_piece : Fn P w K mg base cl "_law_wrong_piece" 3 1 fn_law_wrong_piece) : Fn P w K mg base cl "_law_pieces" 4 1 fn_law_pieces :=
  ⟨f, fd, ["_law_well"], ok_law_pieces F T G_law_draw G_law_pick G_law_piece G_law_wrong_piece, hm, F.kp, (F.binds (ps := ["_law_well"]) fun _ _ _ _ _ _ us hl => match us, hl with | [_], _ => rfl)⟩
abbrev s_law_right_name : Stmt := (top 26)
theorem sc_law_right_name : FnScope ["_law_word", "_law_letters", "_law_sign"] ["_law_word"] (defScope s_law_right_name) :=
  ⟨rfl, rfl, rfl, by decide +kernel, rfl, by decide +kernel, by decide +kernel⟩
noncomputable def sem_law_right_name : MS :=
  (sSeq (sSet 1 (mC (.str "abcdefghijklmnopqrstuvwxyz")))
  (sSeq (sIf (mOr (mTest (mOp ltD (mFn lenD (mCons (mVar 0) mNil)) (mC (.int 1)))) (mOr (mTest (mOp gtD (mFn lenD (mCons (mVar 0) mNil)) (mC (.int 8)))) (mOr (mTest (mOp inD (mVar 0) (mFn (ar 0 fn_law_kept) mNil))) (mTest (mOp notInD (mOp ixD (mVar 0) (mC (.int 0))) (mVar 1))))))
  (sRet (mC (.bl false)))
  sPass)
  (sRet (mFn allD (mCons (mComp (mIt (mVar 0)) (ptN 2) mYes (mOp inD (mVar 2) (mOp addD (mVar 1) (mC (.str "0123456789")))) [2] frzD) mNil)))))
noncomputable def fn_law_right_name : List D → Store → Res D := runB 3 sem_law_right_name
theorem ok_law_right_name {f : Addr} {fd : FuncData} (F : Fun K "_law_right_name" "_law_right_name" s_law_right_name f fd) (T : Gb K cl mg) (G_law_kept : Fn P w K mg base cl "_law_kept" 1 0 fn_law_kept) :
    FnOk P w K mg base (L2.CX P w) 2 f fd ["_law_word"] (spOf K cl 1 fn_law_right_name) :=
  fn_sem F sc_law_right_name rfl fun cdv A outer s H E hr =>
  (s_cons (s_set 1 sc_law_right_name.nd t_str)
  (s_cons (s_if (PW.pt (tw_or (tt_cmp op_ltA lt_s (t_callB (call_len) len_s T.b_len bt_len (ta_cons (t_var 0) ta_nil)) t_int) (tw_or (tt_cmp op_gt gt_s (t_callB (call_len) len_s T.b_len bt_len (ta_cons (t_var 0) ta_nil)) t_int) (tw_or (tt_cmp op_inA in_s (t_var 0) (t_callF0 G_law_kept (hr.mono (by decide)) (takes_of rfl rfl rfl rfl))) (tw_or1 (tt_cmp op_notInA notIn_s (t_ix ix_seq ix_s (t_var 0) t_int) (t_var 1)))))))
  (s_one (s_ret t_bl))
  s_nil)
  (s_one (s_ret (t_callB (cr_all rfl) all_s T.b_all bt_all (ta_cons (t_lc [("_law_sign", 2)] frz_s rfl sc_law_right_name.nd (i_seq (t_var 0)) (blkOk_by (N := ["_law_word", "_law_letters", "_law_sign"]) (sc := defScope s_law_right_name) (by decide +kernel)) (fun _ _ _ _ _ => (g_name 2 sc_law_right_name.nd)) (fun _ _ _ _ _ => tts_nil) (fun _ _ _ _ _ => (t_cmp op_inA in_s (t_var 2) (t_op op_addA add_s (t_var 1) t_str)))) ta_nil))))))
theorem mk_law_right_name {f : Addr} {fd : FuncData} (F : Fun K "_law_right_name" "_law_right_name" s_law_right_name f fd) (hm : mg "_law_right_name" = some (.ref f)) (T : Gb K cl mg) (G_law_kept : Fn P w K mg base cl "_law_kept" 1 0 fn_law_kept) : Fn P w K mg base cl "_law_right_name" 2 1 fn_law_right_name :=
  ⟨f, fd, ["_law_word"], ok_law_right_name F T G_law_kept, hm, F.kp, (F.binds (ps := ["_law_word"]) fun _ _ _ _ _ _ us hl => match us, hl with | [_], _ => rfl)⟩
abbrev s_law_right_path : Stmt := (top 29)
theorem sc_law_right_path : FnScope ["_law_pieces_here", "_law_first", "_law_piece_here"] ["_law_pieces_here"] (defScope s_law_right_path) :=
  ⟨rfl, rfl, rfl, by decide +kernel, rfl, by decide +kernel, by decide +kernel⟩
noncomputable def sem_law_right_path : MS :=
  (sSeq (sIf (mOr (mTest (mOp gtD (mFn lenD (mCons (mVar 0) mNil)) (mC (.int 4)))) (mNot (mTru (mFn (ar 1 fn_law_right_name) (mCons (mOp ixD (mVar 0) (mUn negD (mC (.int 1)))) mNil)))))
  (sRet (mC (.bl false)))
  sPass)
  (sSeq (sSet 1 (mOrV (mOp inD (mOp ixD (mVar 0) (mC (.int 0))) (mFn lstD (mCons (mC (.str "1")) (mCons (mC (.str "2")) (mCons (mC (.str "3")) mNil))))) (mFn (ar 1 fn_law_right_name) (mCons (mOp ixD (mVar 0) (mC (.int 0))) mNil))))
  (sRet (mAndV (mVar 1) (mFn allD (mCons (mComp (mIt (mSl slD (mVar 0) (mPart (mC (.int 1))) mNoPart)) (ptN 2) mYes (mFn (ar 1 fn_law_right_name) (mCons (mVar 2) mNil)) [2] frzD) mNil))))))
noncomputable def fn_law_right_path : List D → Store → Res D := runB 3 sem_law_right_path
theorem ok_law_right_path {f : Addr} {fd : FuncData} (F : Fun K "_law_right_path" "_law_right_path" s_law_right_path f fd) (T : Gb K cl mg) (G_law_right_name : Fn P w K mg base cl "_law_right_name" 2 1 fn_law_right_name) :
    FnOk P w K mg base (L2.CX P w) 3 f fd ["_law_pieces_here"] (spOf K cl 1 fn_law_right_path) :=
  fn_sem F sc_law_right_path rfl fun cdv A outer s H E hr =>
  (s_cons (s_if (PW.pt (tw_or (tt_cmp op_gt gt_s (t_callB (call_len) len_s T.b_len bt_len (ta_cons (t_var 0) ta_nil)) t_int) (tw_or1 (tt_not (tt_tru (t_callF G_law_right_name (hr.mono (by decide)) (takes_of rfl rfl rfl rfl) (ta_cons (t_ix ix_seq ix_s (t_var 0) (t_un un_neg neg_s t_int)) ta_nil)))))))
  (s_one (s_ret t_bl))
  s_nil)
  (s_cons (s_set 1 sc_law_right_path.nd (t_or (t_cmp op_inA in_s (t_ix ix_seq ix_s (t_var 0) t_int) (t_lst (ta_cons t_str (ta_cons t_str (ta_cons t_str ta_nil))))) (t_one (t_callF G_law_right_name (hr.mono (by decide)) (takes_of rfl rfl rfl rfl) (ta_cons (t_ix ix_seq ix_s (t_var 0) t_int) ta_nil)))))
  (s_one (s_ret (t_and (t_var 1) (t_one (t_callB (cr_all rfl) all_s T.b_all bt_all (ta_cons (t_lc [("_law_piece_here", 2)] frz_s rfl sc_law_right_path.nd (i_seq (t_sl sl_all sl_s (t_var 0) (tp_some t_int) tp_none)) (blkOk_by (N := ["_law_pieces_here", "_law_first", "_law_piece_here"]) (sc := defScope s_law_right_path) (by decide +kernel)) (fun _ _ _ _ _ => (g_name 2 sc_law_right_path.nd)) (fun _ _ _ _ _ => tts_nil) (fun _ _ _ _ _ => (t_callF G_law_right_name (hr.mono (by decide)) takes0 (ta_cons (t_var 2) ta_nil)))) ta_nil))))))))
theorem mk_law_right_path {f : Addr} {fd : FuncData} (F : Fun K "_law_right_path" "_law_right_path" s_law_right_path f fd) (hm : mg "_law_right_path" = some (.ref f)) (T : Gb K cl mg) (G_law_right_name : Fn P w K mg base cl "_law_right_name" 2 1 fn_law_right_name) : Fn P w K mg base cl "_law_right_path" 3 1 fn_law_right_path :=
  ⟨f, fd, ["_law_pieces_here"], ok_law_right_path F T G_law_right_name, hm, F.kp, (F.binds (ps := ["_law_pieces_here"]) fun _ _ _ _ _ _ us hl => match us, hl with | [_], _ => rfl)⟩
abbrev s_is_name : Stmt := (top 9)
theorem sc_is_name : FnScope ["thing", "char"] ["thing"] (defScope s_is_name) :=
  ⟨rfl, rfl, rfl, by decide +kernel, rfl, by decide +kernel, by decide +kernel⟩
noncomputable def sem_is_name : MS :=
  (sSeq (sIf (mOr (mNot (mTru (mUn (isiD k_str) (mVar 0)))) (mNot (mTest (mChain leD leD (mC (.int 1)) (mFn lenD (mCons (mVar 0) mNil)) (mC (.int 8))))))
  (sRet (mC (.bl false)))
  sPass)
  (sSeq (sIf (mOr (mTest (mOp notInD (mOp ixD (mVar 0) (mC (.int 0))) (mC c_LETTERS))) (mTest (mOp inD (mVar 0) (mC c_KEPT_WORDS))))
  (sRet (mC (.bl false)))
  sPass)
  (sSeq (sFor (mIt (mVar 0)) (ptN 1)
  (sIf (mAnd (mTest (mOp notInD (mVar 1) (mC c_LETTERS))) (mTest (mOp notInD (mVar 1) (mC c_DIGITS))))
  (sRet (mC (.bl false)))
  sPass))
  (sRet (mC (.bl true))))))
noncomputable def fn_is_name : List D → Store → Res D := runB 2 sem_is_name
theorem ok_is_name {f : Addr} {fd : FuncData} (F : Fun K "is_name" "is_name" s_is_name f fd) (T : Gb K cl mg) :
    FnOk P w K mg base (L2.CX P w) 1 f fd ["thing"] (spOf K cl 1 fn_is_name) :=
  fn_sem F sc_is_name rfl fun cdv A outer s H E hr =>
  (s_cons (s_if (PW.pt (tw_or (tt_not (tt_tru (t_isi is_str T.b_isinstance T.b_str bt_str (t_var 0)))) (tw_or1 (tt_not (tt_chain op_leA le_s op_leA le_s t_int (t_callB (call_len) len_s T.b_len bt_len (ta_cons (t_var 0) ta_nil)) t_int)))))
  (s_one (s_ret t_bl))
  s_nil)
  (s_cons (s_if (PW.pt (tw_or (tt_cmp op_notInA notIn_s (t_ix ix_seq ix_s (t_var 0) t_int) (t_glob' T.g_LETTERS)) (tw_or1 (tt_cmp op_inA in_s (t_var 0) (t_glob' T.g_KEPT_WORDS)))))
  (s_one (s_ret t_bl))
  s_nil)
  (s_cons (s_for (passes_of rfl) rfl (i_seq (t_var 0)) (g_name 1 sc_is_name.nd)
  (s_one (s_if (PW.pt (tw_and (tt_cmp op_notInA notIn_s (t_var 1) (t_glob' T.g_LETTERS)) (tw_and1 (tt_cmp op_notInA notIn_s (t_var 1) (t_glob' T.g_DIGITS)))))
  (s_one (s_ret t_bl))
  s_nil)))
  (s_one (s_ret t_bl)))))
theorem mk_is_name {f : Addr} {fd : FuncData} (F : Fun K "is_name" "is_name" s_is_name f fd) (hm : mg "is_name" = some (.ref f)) (T : Gb K cl mg) : Fn P w K mg base cl "is_name" 1 1 fn_is_name :=
  ⟨f, fd, ["thing"], ok_is_name F T, hm, F.kp, (F.binds (ps := ["thing"]) fun _ _ _ _ _ _ us hl => match us, hl with | [_], _ => rfl)⟩
abbrev s_is_path : Stmt := (top 10)
theorem sc_is_path : FnScope ["thing", "pieces", "piece"] ["thing"] (defScope s_is_path) :=
  ⟨rfl, rfl, rfl, by decide +kernel, rfl, by decide +kernel, by decide +kernel⟩
noncomputable def sem_is_path : MS :=
  (sSeq (sIf (mNot (mTru (mUn (isiD k_str) (mVar 0))))
  (sRet (mC (.bl false)))
  sPass)
  (sSeq (sSet 1 (mMt "str" splitD (mVar 0) (mCons (mC (.str ".")) mNil)))
  (sSeq (sIf (mOr (mTest (mOp gtD (mFn lenD (mCons (mVar 1) mNil)) (mC c_MOST_PIECES))) (mNot (mTru (mFn (ar 1 fn_is_name) (mCons (mOp ixD (mVar 1) (mUn negD (mC (.int 1)))) mNil)))))
  (sRet (mC (.bl false)))
  sPass)
  (sSeq (sIf (mTest (mOp inD (mOp ixD (mVar 1) (mC (.int 0))) (mC c_SLOT_NUMBERS)))
  (sSet 1 (mSl slD (mVar 1) (mPart (mC (.int 1))) mNoPart))
  sPass)
  (sRet (mFn allD (mCons (mComp (mIt (mVar 1)) (ptN 2) mYes (mFn (ar 1 fn_is_name) (mCons (mVar 2) mNil)) [2] frzD) mNil)))))))
noncomputable def fn_is_path : List D → Store → Res D := runB 3 sem_is_path
theorem ok_is_path {f : Addr} {fd : FuncData} (F : Fun K "is_path" "is_path" s_is_path f fd) (T : Gb K cl mg) (G_is_name : Fn P w K mg base cl "is_name" 1 1 fn_is_name) :
    FnOk P w K mg base (L2.CX P w) 2 f fd ["thing"] (spOf K cl 1 fn_is_path) :=
  fn_sem F sc_is_path rfl fun cdv A outer s H E hr =>
  (s_cons (s_if (tt_not (tt_tru (t_isi is_str T.b_isinstance T.b_str bt_str (t_var 0))))
  (s_one (s_ret t_bl))
  s_nil)
  (s_cons (s_set 1 sc_is_path.nd (t_bm PySem.F.plainAttrs_str PySem.F.slot_str_split PySem.F.type_str_split mt_split split_s (t_var 0) (ta_cons t_str ta_nil)))
  (s_cons (s_if (PW.pt (tw_or (tt_cmp op_gt gt_s (t_callB (call_len) len_s T.b_len bt_len (ta_cons (t_var 1) ta_nil)) (t_glob' T.g_MOST_PIECES)) (tw_or1 (tt_not (tt_tru (t_callF G_is_name (hr.mono (by decide)) (takes_of rfl rfl rfl rfl) (ta_cons (t_ix ix_seq ix_s (t_var 1) (t_un un_neg neg_s t_int)) ta_nil)))))))
  (s_one (s_ret t_bl))
  s_nil)
  (s_cons (s_if (tt_cmp op_inA in_s (t_ix ix_seq ix_s (t_var 1) t_int) (t_glob' T.g_SLOT_NUMBERS))
  (s_one (s_set 1 sc_is_path.nd (t_sl sl_all sl_s (t_var 1) (tp_some t_int) tp_none)))
  s_nil)
  (s_one (s_ret (t_callB (cr_all rfl) all_s T.b_all bt_all (ta_cons (t_lc [("piece", 2)] frz_s rfl sc_is_path.nd (i_seq (t_var 1)) (blkOk_by (N := ["thing", "pieces", "piece"]) (sc := defScope s_is_path) (by decide +kernel)) (fun _ _ _ _ _ => (g_name 2 sc_is_path.nd)) (fun _ _ _ _ _ => tts_nil) (fun _ _ _ _ _ => (t_callF G_is_name (hr.mono (by decide)) takes0 (ta_cons (t_var 2) ta_nil)))) ta_nil))))))))
theorem mk_is_path {f : Addr} {fd : FuncData} (F : Fun K "is_path" "is_path" s_is_path f fd) (hm : mg "is_path" = some (.ref f)) (T : Gb K cl mg) (G_is_name : Fn P w K mg base cl "is_name" 1 1 fn_is_name) : Fn P w K mg base cl "is_path" 2 1 fn_is_path :=
  ⟨f, fd, ["thing"], ok_is_path F T G_is_name, hm, F.kp, (F.binds (ps := ["thing"]) fun _ _ _ _ _ _ us hl => match us, hl with | [_], _ => rfl)⟩
abbrev s_law_names_right : Stmt := (top 31)
theorem sc_law_names_right : FnScope ["_law_well", "_law_word", "_law_k", "_law_pieces_here"] ["_law_well"] (defScope s_law_names_right) :=
  ⟨rfl, rfl, rfl, by decide +kernel, rfl, by decide +kernel, by decide +kernel⟩
noncomputable def sem_law_names_right : MS :=
  (sSeq (sFor (mIt (mFn lstD (mCons (mFn (ar 1 fn_law_piece) (mCons (mVar 0) mNil)) (mCons (mFn (ar 1 fn_law_wrong_piece) (mCons (mVar 0) mNil)) (mCons (mOp addD (mFn (ar 2 fn_law_pick) (mCons (mVar 0) (mCons (mFn (ar 0 fn_law_kept) mNil) mNil))) (mC (.str "1"))) mNil))))) (ptN 1)
  (sSeq (sIf (mNot (mTru (mFn (ar 2 fn_law_is) (mCons (mFn (ar 1 fn_is_name) (mCons (mVar 1) mNil)) (mCons (mFn (ar 1 fn_law_right_name) (mCons (mVar 1) mNil)) mNil)))))
  (sRet (mC (.bl false)))
  sPass)
  (sIf (mNot (mTru (mFn (ar 2 fn_law_is) (mCons (mFn (ar 1 fn_is_path) (mCons (mVar 1) mNil)) (mCons (mFn (ar 1 fn_law_right_path) (mCons (mMt "str" splitD (mVar 1) (mCons (mC (.str ".")) mNil)) mNil)) mNil)))))
  (sRet (mC (.bl false)))
  sPass)))
  (sSeq (sFor (mRng rng1 (mCons (mC (.int 3)) mNil)) (ptN 2)
  (sSeq (sSet 3 (mFn (ar 1 fn_law_pieces) (mCons (mVar 0) mNil)))
  (sIf (mNot (mTru (mFn (ar 2 fn_law_is) (mCons (mFn (ar 1 fn_is_path) (mCons (mMt "str" joinD (mC (.str ".")) (mCons (mVar 3) mNil)) mNil)) (mCons (mFn (ar 1 fn_law_right_path) (mCons (mMt "str" splitD (mMt "str" joinD (mC (.str ".")) (mCons (mVar 3) mNil)) (mCons (mC (.str ".")) mNil)) mNil)) mNil)))))
  (sRet (mC (.bl false)))
  sPass)))
  (sRet (mC (.bl true)))))
noncomputable def fn_law_names_right : List D → Store → Res D := runB 4 sem_law_names_right
theorem ok_law_names_right {f : Addr} {fd : FuncData} (F : Fun K "_law_names_right" "_law_names_right" s_law_names_right f fd) (T : Gb K cl mg) (G_law_is : Fn P w K mg base cl "_law_is" 1 2 fn_law_is) (G_law_kept : Fn P w K mg base cl "_law_kept" 1 0 fn_law_kept) (G_law_pick : Fn P w K mg base cl "_law_pick" 2 2 fn_law_pick) (G_law_piece : Fn P w K mg base cl "_law_piece" 2 1 fn_law_piece) (G_law_pieces : Fn P w K mg base cl "_law_pieces" 4 1 fn_law_pieces) (G_law_right_name : Fn P w K mg base cl "_law_right_name" 2 1 fn_law_right_name) (G_law_right_path : Fn P w K mg base cl "_law_right_path" 3 1 fn_law_right_path) (G_law_wrong_piece : Fn P w K mg base cl "_law_wrong_piece" 3 1 fn_law_wrong_piece) (G_is_name : Fn P w K mg base cl "is_name" 1 1 fn_is_name) (G_is_path : Fn P w K mg base cl "is_path" 2 1 fn_is_path) :
    FnOk P w K mg base (L2.CX P w) 5 f fd ["_law_well"] (spOf K cl 1 fn_law_names_right) :=
  fn_sem F sc_law_names_right rfl fun cdv A outer s H E hr =>
  (s_cons (s_for (passes_of rfl) rfl (i_seq (t_lst (ta_cons (t_callF G_law_piece (hr.mono (by decide)) (takes_of rfl rfl rfl rfl) (ta_cons (t_var 0) ta_nil)) (ta_cons (t_callF G_law_wrong_piece (hr.mono (by decide)) (takes_of rfl rfl rfl rfl) (ta_cons (t_var 0) ta_nil)) (ta_cons (t_op op_addA add_s (t_callF G_law_pick (hr.mono (by decide)) (takes_of rfl rfl rfl rfl) (ta_cons (t_var 0) (ta_cons (t_callF0 G_law_kept (hr.mono (by decide)) (takes_of rfl rfl rfl rfl)) ta_nil))) t_str) ta_nil))))) (g_name 1 sc_law_names_right.nd)
  (s_cons (s_if (tt_not (tt_tru (t_callF G_law_is (hr.mono (by decide)) (takes_of rfl rfl rfl rfl) (ta_cons (t_callF G_is_name (hr.mono (by decide)) (takes_of rfl rfl rfl rfl) (ta_cons (t_var 1) ta_nil)) (ta_cons (t_callF G_law_right_name (hr.mono (by decide)) (takes_of rfl rfl rfl rfl) (ta_cons (t_var 1) ta_nil)) ta_nil)))))
  (s_one (s_ret t_bl))
  s_nil)
  (s_one (s_if (tt_not (tt_tru (t_callF G_law_is (hr.mono (by decide)) (takes_of rfl rfl rfl rfl) (ta_cons (t_callF G_is_path (hr.mono (by decide)) (takes_of rfl rfl rfl rfl) (ta_cons (t_var 1) ta_nil)) (ta_cons (t_callF G_law_right_path (hr.mono (by decide)) (takes_of rfl rfl rfl rfl) (ta_cons (t_bm PySem.F.plainAttrs_str PySem.F.slot_str_split PySem.F.type_str_split mt_split split_s (t_var 1) (ta_cons t_str ta_nil)) ta_nil)) ta_nil)))))
  (s_one (s_ret t_bl))
  s_nil))))
  (s_cons (s_for (passes_of rfl) rfl (i_range1 T.b_range (ta_cons t_int ta_nil)) (g_name 2 sc_law_names_right.nd)
  (s_cons (s_set 3 sc_law_names_right.nd (t_callF G_law_pieces (hr.mono (by decide)) (takes_of rfl rfl rfl rfl) (ta_cons (t_var 0) ta_nil)))
  (s_one (s_if (tt_not (tt_tru (t_callF G_law_is (hr.mono (by decide)) (takes_of rfl rfl rfl rfl) (ta_cons (t_callF G_is_path (hr.mono (by decide)) (takes_of rfl rfl rfl rfl) (ta_cons (t_bm PySem.F.plainAttrs_str PySem.F.slot_str_join PySem.F.type_str_join mt_join join_s t_str (ta_cons (t_var 3) ta_nil)) ta_nil)) (ta_cons (t_callF G_law_right_path (hr.mono (by decide)) (takes_of rfl rfl rfl rfl) (ta_cons (t_bm PySem.F.plainAttrs_str PySem.F.slot_str_split PySem.F.type_str_split mt_split split_s (t_bm PySem.F.plainAttrs_str PySem.F.slot_str_join PySem.F.type_str_join mt_join join_s t_str (ta_cons (t_var 3) ta_nil)) (ta_cons t_str ta_nil)) ta_nil)) ta_nil)))))
  (s_one (s_ret t_bl))
  s_nil))))
  (s_one (s_ret t_bl))))
theorem mk_law_names_right {f : Addr} {fd : FuncData} (F : Fun K "_law_names_right" "_law_names_right" s_law_names_right f fd) (hm : mg "_law_names_right" = some (.ref f)) (T : Gb K cl mg) (G_law_is : Fn P w K mg base cl "_law_is" 1 2 fn_law_is) (G_law_kept : Fn P w K mg base cl "_law_kept" 1 0 fn_law_kept) (G_law_pick : Fn P w K mg base cl "_law_pick" 2 2 fn_law_pick) (G_law_piece : Fn P w K mg base cl "_law_piece" 2 1 fn_law_piece) (G_law_pieces : Fn P w K mg base cl "_law_pieces" 4 1 fn_law_pieces) (G_law_right_name : Fn P w K mg base cl "_law_right_name" 2 1 fn_law_right_name) (G_law_right_path : Fn P w K mg base cl "_law_right_path" 3 1 fn_law_right_path) (G_law_wrong_piece : Fn P w K mg base cl "_law_wrong_piece" 3 1 fn_law_wrong_piece) (G_is_name : Fn P w K mg base cl "is_name" 1 1 fn_is_name) (G_is_path : Fn P w K mg base cl "is_path" 2 1 fn_is_path) : Fn P w K mg base cl "_law_names_right" 5 1 fn_law_names_right :=
  ⟨f, fd, ["_law_well"], ok_law_names_right F T G_law_is G_law_kept G_law_pick G_law_piece G_law_pieces G_law_right_name G_law_right_path G_law_wrong_piece G_is_name G_is_path, hm, F.kp, (F.binds (ps := ["_law_well"]) fun _ _ _ _ _ _ us hl => match us, hl with | [_], _ => rfl)⟩
abbrev s_law_ahead : Stmt := (top 22)
theorem sc_law_ahead : FnScope ["_law_one", "_law_other"] ["_law_one", "_law_other"] (defScope s_law_ahead) :=
  ⟨rfl, rfl, rfl, by decide +kernel, rfl, by decide +kernel, by decide +kernel⟩
noncomputable def sem_law_ahead : MS :=
  (sSeq (sIf (mTest (mOp isND (mVar 0) (mC .non)))
  (sRet (mOp notND (mVar 1) (mC .non)))
  sPass)
  (sRet (mAndV (mOp notND (mVar 1) (mC .non)) (mOp ltD (mVar 0) (mVar 1)))))
noncomputable def fn_law_ahead : List D → Store → Res D := runB 2 sem_law_ahead
theorem ok_law_ahead {f : Addr} {fd : FuncData} (F : Fun K "_law_ahead" "_law_ahead" s_law_ahead f fd) (T : Gb K cl mg) :
    FnOk P w K mg base (L2.CX P w) 1 f fd ["_law_one", "_law_other"] (spOf K cl 2 fn_law_ahead) :=
  fn_sem F sc_law_ahead rfl fun cdv A outer s H E hr =>
  (s_cons (s_if (tt_cmp op_isA isN_s (t_var 0) t_non)
  (s_one (s_ret (t_cmp op_notA notN_s (t_var 1) t_non)))
  s_nil)
  (s_one (s_ret (t_and (t_cmp op_notA notN_s (t_var 1) t_non) (t_one (t_cmp op_ltA lt_s (t_var 0) (t_var 1)))))))
theorem mk_law_ahead {f : Addr} {fd : FuncData} (F : Fun K "_law_ahead" "_law_ahead" s_law_ahead f fd) (hm : mg "_law_ahead" = some (.ref f)) (T : Gb K cl mg) : Fn P w K mg base cl "_law_ahead" 1 2 fn_law_ahead :=
  ⟨f, fd, ["_law_one", "_law_other"], ok_law_ahead F T, hm, F.kp, (F.binds (ps := ["_law_one", "_law_other"]) fun _ _ _ _ _ _ us hl => match us, hl with | [_, _], _ => rfl)⟩
abbrev s_law_any_text : Stmt := (top 19)
theorem sc_law_any_text : FnScope ["_law_well", "_law_most", "_law_signs", "_law_k"] ["_law_well", "_law_most"] (defScope s_law_any_text) :=
  ⟨rfl, rfl, rfl, by decide +kernel, rfl, by decide +kernel, by decide +kernel⟩
noncomputable def sem_law_any_text : MS :=
  (sSeq (sSet 2 (mC (.str " ~}!a0z_.A")))
  (sRet (mMt "str" joinD (mC (.str "")) (mCons (mComp (mRng rng1 (mCons (mFn (ar 2 fn_law_draw) (mCons (mVar 0) (mCons (mOp addD (mVar 1) (mC (.int 1))) mNil))) mNil)) (ptN 3) mYes (mFn (ar 2 fn_law_pick) (mCons (mVar 0) (mCons (mVar 2) mNil))) [3] frzD) mNil))))
noncomputable def fn_law_any_text : List D → Store → Res D := runB 4 sem_law_any_text
theorem ok_law_any_text {f : Addr} {fd : FuncData} (F : Fun K "_law_any_text" "_law_any_text" s_law_any_text f fd) (T : Gb K cl mg) (G_law_draw : Fn P w K mg base cl "_law_draw" 1 2 fn_law_draw) (G_law_pick : Fn P w K mg base cl "_law_pick" 2 2 fn_law_pick) :
    FnOk P w K mg base (L2.CX P w) 3 f fd ["_law_well", "_law_most"] (spOf K cl 2 fn_law_any_text) :=
  fn_sem F sc_law_any_text rfl fun cdv A outer s H E hr =>
  (s_cons (s_set 2 sc_law_any_text.nd t_str)
  (s_one (s_ret (t_bm PySem.F.plainAttrs_str PySem.F.slot_str_join PySem.F.type_str_join mt_join join_s t_str (ta_cons (t_lc [("_law_k", 3)] frz_s rfl sc_law_any_text.nd (i_range1 T.b_range (ta_cons (t_callF G_law_draw (hr.mono (by decide)) (takes_of rfl rfl rfl rfl) (ta_cons (t_var 0) (ta_cons (t_op op_addA add_s (t_var 1) t_int) ta_nil))) ta_nil)) (blkOk_by (N := ["_law_well", "_law_most", "_law_signs", "_law_k"]) (sc := defScope s_law_any_text) (by decide +kernel)) (fun _ _ _ _ _ => (g_name 3 sc_law_any_text.nd)) (fun _ _ _ _ _ => tts_nil) (fun _ _ _ _ _ => (t_callF G_law_pick (hr.mono (by decide)) takes0 (ta_cons (t_var 0) (ta_cons (t_var 2) ta_nil))))) ta_nil)))))
theorem mk_law_any_text {f : Addr} {fd : FuncData} (F : Fun K "_law_any_text" "_law_any_text" s_law_any_text f fd) (hm : mg "_law_any_text" = some (.ref f)) (T : Gb K cl mg) (G_law_draw : Fn P w K mg base cl "_law_draw" 1 2 fn_law_draw) (G_law_pick : Fn P w K mg base cl "_law_pick" 2 2 fn_law_pick) : Fn P w K mg base cl "_law_any_text" 3 2 fn_law_any_text :=
  ⟨f, fd, ["_law_well", "_law_most"], ok_law_any_text F T G_law_draw G_law_pick, hm, F.kp, (F.binds (ps := ["_law_well", "_law_most"]) fun _ _ _ _ _ _ us hl => match us, hl with | [_, _], _ => rfl)⟩
abbrev s_is_ahead : Stmt := (top 14)
theorem sc_is_ahead : FnScope ["one", "other"] ["one", "other"] (defScope s_is_ahead) :=
  ⟨rfl, rfl, rfl, by decide +kernel, rfl, by decide +kernel, by decide +kernel⟩
noncomputable def sem_is_ahead : MS :=
  (sSeq (sIf (mOr (mTest (mOp isND (mVar 0) (mC .non))) (mTest (mOp isND (mVar 1) (mC .non))))
  (sRet (mAndV (mOp isND (mVar 0) (mC .non)) (mOp notND (mVar 1) (mC .non))))
  sPass)
  (sRet (mFn boolD (mCons (mOp ltD (mVar 0) (mVar 1)) mNil))))
noncomputable def fn_is_ahead : List D → Store → Res D := runB 2 sem_is_ahead
theorem ok_is_ahead {f : Addr} {fd : FuncData} (F : Fun K "is_ahead" "is_ahead" s_is_ahead f fd) (T : Gb K cl mg) :
    FnOk P w K mg base (L2.CX P w) 1 f fd ["one", "other"] (spOf K cl 2 fn_is_ahead) :=
  fn_sem F sc_is_ahead rfl fun cdv A outer s H E hr =>
  (s_cons (s_if (PW.pt (tw_or (tt_cmp op_isA isN_s (t_var 0) t_non) (tw_or1 (tt_cmp op_isA isN_s (t_var 1) t_non))))
  (s_one (s_ret (t_and (t_cmp op_isA isN_s (t_var 0) t_non) (t_one (t_cmp op_notA notN_s (t_var 1) t_non)))))
  s_nil)
  (s_one (s_ret (t_callTy (call_bool1) bool_s T.b_bool bt_bool (ta_cons (t_cmp op_ltA lt_s (t_var 0) (t_var 1)) ta_nil)))))
theorem mk_is_ahead {f : Addr} {fd : FuncData} (F : Fun K "is_ahead" "is_ahead" s_is_ahead f fd) (hm : mg "is_ahead" = some (.ref f)) (T : Gb K cl mg) : Fn P w K mg base cl "is_ahead" 1 2 fn_is_ahead :=
  ⟨f, fd, ["one", "other"], ok_is_ahead F T, hm, F.kp, (F.binds (ps := ["one", "other"]) fun _ _ _ _ _ _ us hl => match us, hl with | [_, _], _ => rfl)⟩
abbrev s_law_places_right : Stmt := (top 23)
theorem sc_law_places_right : FnScope ["_law_well", "_law_kind", "_law_places", "_law_k", "_law_one", "_law_other", "_law_told"] ["_law_well"] (defScope s_law_places_right) :=
  ⟨rfl, rfl, rfl, by decide +kernel, rfl, by decide +kernel, by decide +kernel⟩
noncomputable def sem_law_places_right : MS :=
  (sSeq (sFor (mIt (mFn lstD (mCons (mC (.str "number")) (mCons (mC (.str "text")) mNil)))) (ptN 1)
  (sSeq (sSet 2 (mFn lstL (mCons (mC .non) mNil)))
  (sSeq (sFor (mRng rng1 (mCons (mC (.int 4)) mNil)) (ptN 3)
  (sExpr (mMt "list" appD (mVar 2) (mCons (mIte (mTest (mOp eqD (mVar 1) (mC (.str "number")))) (mOp subD (mFn (ar 2 fn_law_draw) (mCons (mVar 0) (mCons (mOp powD (mC (.int 10)) (mC (.int 30))) mNil))) (mFn (ar 2 fn_law_draw) (mCons (mVar 0) (mCons (mC (.int 5)) mNil)))) (mFn (ar 2 fn_law_any_text) (mCons (mVar 0) (mCons (mC (.int 3)) mNil)))) mNil))))
  (sFor (mIt (mVar 2)) (ptN 4)
  (sFor (mIt (mVar 2)) (ptN 5)
  (sSeq (sSet 6 (mFn (ar 2 fn_is_ahead) (mCons (mVar 4) (mCons (mVar 5) mNil))))
  (sIf (mOr (mNot (mTru (mUn (isiD k_bool) (mVar 6)))) (mTest (mOp neD (mVar 6) (mFn (ar 2 fn_law_ahead) (mCons (mVar 4) (mCons (mVar 5) mNil))))))
  (sRet (mC (.bl false)))
  sPass)))))))
  (sRet (mC (.bl true))))
noncomputable def fn_law_places_right : List D → Store → Res D := cln (runB 7 sem_law_places_right)
theorem ok_law_places_right {f : Addr} {fd : FuncData} (F : Fun K "_law_places_right" "_law_places_right" s_law_places_right f fd) (T : Gb K cl mg) (G_law_ahead : Fn P w K mg base cl "_law_ahead" 1 2 fn_law_ahead) (G_law_any_text : Fn P w K mg base cl "_law_any_text" 3 2 fn_law_any_text) (G_law_draw : Fn P w K mg base cl "_law_draw" 1 2 fn_law_draw) (G_is_ahead : Fn P w K mg base cl "is_ahead" 1 2 fn_is_ahead) :
    FnOk P w K mg base (L2.CX P w) 4 f fd ["_law_well"] (spOf K cl 1 fn_law_places_right) :=
  fn_cln <| fn_sem F sc_law_places_right rfl fun cdv A outer s H E hr =>
  (s_cons (s_for (passes_of rfl) rfl (i_seq (t_lst (ta_cons t_str (ta_cons t_str ta_nil)))) (g_name 1 sc_law_places_right.nd)
  (s_cons (s_set 2 sc_law_places_right.nd (t_lstL (ta_cons t_non ta_nil)))
  (s_cons (s_for (passes_of rfl) rfl (i_range1 T.b_range (ta_cons t_int ta_nil)) (g_name 3 sc_law_places_right.nd)
  (s_one (s_expr (t_bm PySem.F.plainAttrs_list PySem.F.slot_list_append PySem.F.type_list_append mt_append app_s (t_var 2) (ta_cons (t_ite (tt_cmp (op_eqA hr) eq_s (t_var 1) t_str) (t_op op_sub sub_s (t_callF G_law_draw (hr.mono (by decide)) (takes_of rfl rfl rfl rfl) (ta_cons (t_var 0) (ta_cons (t_op op_pow pow_s t_int t_int) ta_nil))) (t_callF G_law_draw (hr.mono (by decide)) (takes_of rfl rfl rfl rfl) (ta_cons (t_var 0) (ta_cons t_int ta_nil)))) (t_callF G_law_any_text (hr.mono (by decide)) (takes_of rfl rfl rfl rfl) (ta_cons (t_var 0) (ta_cons t_int ta_nil)))) ta_nil)))))
  (s_one (s_for (passes_of rfl) rfl (i_seq (t_var 2)) (g_name 4 sc_law_places_right.nd)
  (s_one (s_for (passes_of rfl) rfl (i_seq (t_var 2)) (g_name 5 sc_law_places_right.nd)
  (s_cons (s_set 6 sc_law_places_right.nd (t_callF G_is_ahead (hr.mono (by decide)) (takes_of rfl rfl rfl rfl) (ta_cons (t_var 4) (ta_cons (t_var 5) ta_nil))))
  (s_one (s_if (PW.pt (tw_or (tt_not (tt_tru (t_isi is_bool T.b_isinstance T.b_bool bt_bool (t_var 6)))) (tw_or1 (tt_cmp (op_neA hr) ne_s (t_var 6) (t_callF G_law_ahead (hr.mono (by decide)) (takes_of rfl rfl rfl rfl) (ta_cons (t_var 4) (ta_cons (t_var 5) ta_nil)))))))
  (s_one (s_ret t_bl))
  s_nil))))))))))
  (s_one (s_ret t_bl)))
theorem mk_law_places_right {f : Addr} {fd : FuncData} (F : Fun K "_law_places_right" "_law_places_right" s_law_places_right f fd) (hm : mg "_law_places_right" = some (.ref f)) (T : Gb K cl mg) (G_law_ahead : Fn P w K mg base cl "_law_ahead" 1 2 fn_law_ahead) (G_law_any_text : Fn P w K mg base cl "_law_any_text" 3 2 fn_law_any_text) (G_law_draw : Fn P w K mg base cl "_law_draw" 1 2 fn_law_draw) (G_is_ahead : Fn P w K mg base cl "is_ahead" 1 2 fn_is_ahead) : Fn P w K mg base cl "_law_places_right" 4 1 fn_law_places_right :=
  ⟨f, fd, ["_law_well"], ok_law_places_right F T G_law_ahead G_law_any_text G_law_draw G_is_ahead, hm, F.kp, (F.binds (ps := ["_law_well"]) fun _ _ _ _ _ _ us hl => match us, hl with | [_], _ => rfl)⟩
abbrev s_law_up : Stmt := (top 20)
theorem sc_law_up : FnScope ["_law_text", "_law_chars", "_law_end"] ["_law_text"] (defScope s_law_up) :=
  ⟨rfl, rfl, rfl, by decide +kernel, rfl, by decide +kernel, by decide +kernel⟩
noncomputable def sem_law_up : MS :=
  (sSeq (sSet 1 (mC (.str " !\"#$&'()*+,-./0123456789:;<=>?@ABCDEFGHIJKLMNOPQRSTUVWXYZ[\\]^_`abcdefghijklmnopqrstuvwxyz{|}~")))
  (sSeq (sFor (mRng rng3 (mCons (mFn lenD (mCons (mVar 0) mNil)) (mCons (mC (.int 0)) (mCons (mUn negD (mC (.int 1))) mNil)))) (ptN 2)
  (sIf (mTest (mOp neD (mOp ixD (mVar 0) (mOp subD (mVar 2) (mC (.int 1)))) (mC (.str "~"))))
  (sRet (mOp addD (mSl slD (mVar 0) mNoPart (mPart (mOp subD (mVar 2) (mC (.int 1))))) (mOp ixD (mVar 1) (mOp addD (mMt "str" indexD (mVar 1) (mCons (mOp ixD (mVar 0) (mOp subD (mVar 2) (mC (.int 1)))) mNil)) (mC (.int 1))))))
  sPass))
  (sRet (mC .non))))
noncomputable def fn_law_up : List D → Store → Res D := runB 3 sem_law_up
theorem ok_law_up {f : Addr} {fd : FuncData} (F : Fun K "_law_up" "_law_up" s_law_up f fd) (T : Gb K cl mg) :
    FnOk P w K mg base (L2.CX P w) 1 f fd ["_law_text"] (spOf K cl 1 fn_law_up) :=
  fn_sem F sc_law_up rfl fun cdv A outer s H E hr =>
  (s_cons (s_set 1 sc_law_up.nd t_str)
  (s_cons (s_for (passes_of rfl) rfl (i_range3 T.b_range (ta_cons (t_callB (call_len) len_s T.b_len bt_len (ta_cons (t_var 0) ta_nil)) (ta_cons t_int (ta_cons (t_un un_neg neg_s t_int) ta_nil)))) (g_name 2 sc_law_up.nd)
  (s_one (s_if (tt_cmp (op_neA hr) ne_s (t_ix ix_seq ix_s (t_var 0) (t_op op_sub sub_s (t_var 2) t_int)) t_str)
  (s_one (s_ret (t_op op_addA add_s (t_sl sl_all sl_s (t_var 0) tp_none (tp_some (t_op op_sub sub_s (t_var 2) t_int))) (t_ix ix_seq ix_s (t_var 1) (t_op op_addA add_s (t_bm PySem.F.plainAttrs_str PySem.F.slot_str_index PySem.F.type_str_index mt_sindex index_s (t_var 1) (ta_cons (t_ix ix_seq ix_s (t_var 0) (t_op op_sub sub_s (t_var 2) t_int)) ta_nil)) t_int)))))
  s_nil)))
  (s_one (s_ret t_non))))
theorem mk_law_up {f : Addr} {fd : FuncData} (F : Fun K "_law_up" "_law_up" s_law_up f fd) (hm : mg "_law_up" = some (.ref f)) (T : Gb K cl mg) : Fn P w K mg base cl "_law_up" 1 1 fn_law_up :=
  ⟨f, fd, ["_law_text"], ok_law_up F T, hm, F.kp, (F.binds (ps := ["_law_text"]) fun _ _ _ _ _ _ us hl => match us, hl with | [_], _ => rfl)⟩
abbrev s_is_integer : Stmt := (top 7)
theorem sc_is_integer : FnScope ["thing"] ["thing"] (defScope s_is_integer) :=
  ⟨rfl, rfl, rfl, by decide +kernel, rfl, by decide +kernel, by decide +kernel⟩
noncomputable def sem_is_integer : MS :=
  (sRet (mAndV (mUn (isiD k_int) (mVar 0)) (mNotV (mUn (isiD k_bool) (mVar 0)))))
noncomputable def fn_is_integer : List D → Store → Res D := runB 1 sem_is_integer
theorem ok_is_integer {f : Addr} {fd : FuncData} (F : Fun K "is_integer" "is_integer" s_is_integer f fd) (T : Gb K cl mg) :
    FnOk P w K mg base (L2.CX P w) 1 f fd ["thing"] (spOf K cl 1 fn_is_integer) :=
  fn_sem F sc_is_integer rfl fun cdv A outer s H E hr =>
  (s_one (s_ret (t_and (t_isi is_int T.b_isinstance T.b_int bt_int (t_var 0)) (t_one (t_not (t_isi is_bool T.b_isinstance T.b_bool bt_bool (t_var 0)))))))
theorem mk_is_integer {f : Addr} {fd : FuncData} (F : Fun K "is_integer" "is_integer" s_is_integer f fd) (hm : mg "is_integer" = some (.ref f)) (T : Gb K cl mg) : Fn P w K mg base cl "is_integer" 1 1 fn_is_integer :=
  ⟨f, fd, ["thing"], ok_is_integer F T, hm, F.kp, (F.binds (ps := ["thing"]) fun _ _ _ _ _ _ us hl => match us, hl with | [_], _ => rfl)⟩
abbrev s_is_text : Stmt := (top 8)
theorem sc_is_text : FnScope ["thing", "char"] ["thing"] (defScope s_is_text) :=
  ⟨rfl, rfl, rfl, by decide +kernel, rfl, by decide +kernel, by decide +kernel⟩
noncomputable def sem_is_text : MS :=
  (sSeq (sIf (mNot (mTru (mUn (isiD k_str) (mVar 0))))
  (sRet (mC (.bl false)))
  sPass)
  (sSeq (sFor (mIt (mVar 0)) (ptN 1)
  (sIf (mTest (mOp notInD (mVar 1) (mC c_CHARS)))
  (sRet (mC (.bl false)))
  sPass))
  (sRet (mC (.bl true)))))
noncomputable def fn_is_text : List D → Store → Res D := runB 2 sem_is_text
theorem ok_is_text {f : Addr} {fd : FuncData} (F : Fun K "is_text" "is_text" s_is_text f fd) (T : Gb K cl mg) :
    FnOk P w K mg base (L2.CX P w) 1 f fd ["thing"] (spOf K cl 1 fn_is_text) :=
  fn_sem F sc_is_text rfl fun cdv A outer s H E hr =>
  (s_cons (s_if (tt_not (tt_tru (t_isi is_str T.b_isinstance T.b_str bt_str (t_var 0))))
  (s_one (s_ret t_bl))
  s_nil)
  (s_cons (s_for (passes_of rfl) rfl (i_seq (t_var 0)) (g_name 1 sc_is_text.nd)
  (s_one (s_if (tt_cmp op_notInA notIn_s (t_var 1) (t_glob' T.g_CHARS))
  (s_one (s_ret t_bl))
  s_nil)))
  (s_one (s_ret t_bl))))
theorem mk_is_text {f : Addr} {fd : FuncData} (F : Fun K "is_text" "is_text" s_is_text f fd) (hm : mg "is_text" = some (.ref f)) (T : Gb K cl mg) : Fn P w K mg base cl "is_text" 1 1 fn_is_text :=
  ⟨f, fd, ["thing"], ok_is_text F T, hm, F.kp, (F.binds (ps := ["thing"]) fun _ _ _ _ _ _ us hl => match us, hl with | [_], _ => rfl)⟩
abbrev s_kind_of : Stmt := (top 11)
theorem sc_kind_of : FnScope ["value"] ["value"] (defScope s_kind_of) :=
  ⟨rfl, rfl, rfl, by decide +kernel, rfl, by decide +kernel, by decide +kernel⟩
noncomputable def sem_kind_of : MS :=
  (sSeq (sIf (mTru (mFn (ar 1 fn_is_integer) (mCons (mVar 0) mNil)))
  (sRet (mC (.str "number")))
  sPass)
  (sSeq (sIf (mTru (mFn (ar 1 fn_is_text) (mCons (mVar 0) mNil)))
  (sRet (mC (.str "text")))
  sPass)
  (sRet (mC .non))))
noncomputable def fn_kind_of : List D → Store → Res D := runB 1 sem_kind_of
theorem ok_kind_of {f : Addr} {fd : FuncData} (F : Fun K "kind_of" "kind_of" s_kind_of f fd) (T : Gb K cl mg) (G_is_integer : Fn P w K mg base cl "is_integer" 1 1 fn_is_integer) (G_is_text : Fn P w K mg base cl "is_text" 1 1 fn_is_text) :
    FnOk P w K mg base (L2.CX P w) 2 f fd ["value"] (spOf K cl 1 fn_kind_of) :=
  fn_sem F sc_kind_of rfl fun cdv A outer s H E hr =>
  (s_cons (s_if (tt_tru (t_callF G_is_integer (hr.mono (by decide)) (takes_of rfl rfl rfl rfl) (ta_cons (t_var 0) ta_nil)))
  (s_one (s_ret t_str))
  s_nil)
  (s_cons (s_if (tt_tru (t_callF G_is_text (hr.mono (by decide)) (takes_of rfl rfl rfl rfl) (ta_cons (t_var 0) ta_nil)))
  (s_one (s_ret t_str))
  s_nil)
  (s_one (s_ret t_non))))
theorem mk_kind_of {f : Addr} {fd : FuncData} (F : Fun K "kind_of" "kind_of" s_kind_of f fd) (hm : mg "kind_of" = some (.ref f)) (T : Gb K cl mg) (G_is_integer : Fn P w K mg base cl "is_integer" 1 1 fn_is_integer) (G_is_text : Fn P w K mg base cl "is_text" 1 1 fn_is_text) : Fn P w K mg base cl "kind_of" 2 1 fn_kind_of :=
  ⟨f, fd, ["value"], ok_kind_of F T G_is_integer G_is_text, hm, F.kp, (F.binds (ps := ["value"]) fun _ _ _ _ _ _ us hl => match us, hl with | [_], _ => rfl)⟩
abbrev s_next_value : Stmt := (top 12)
theorem sc_next_value : FnScope ["value"] ["value"] (defScope s_next_value) :=
  ⟨rfl, rfl, rfl, by decide +kernel, rfl, by decide +kernel, by decide +kernel⟩
noncomputable def sem_next_value : MS :=
  (sSeq (sIf (mTru (mUn (isiD k_str) (mVar 0)))
  (sRet (mOp addD (mVar 0) (mC (.str " "))))
  sPass)
  (sRet (mOp addD (mVar 0) (mC (.int 1)))))
noncomputable def fn_next_value : List D → Store → Res D := runB 1 sem_next_value
theorem ok_next_value {f : Addr} {fd : FuncData} (F : Fun K "next_value" "next_value" s_next_value f fd) (T : Gb K cl mg) :
    FnOk P w K mg base (L2.CX P w) 1 f fd ["value"] (spOf K cl 1 fn_next_value) :=
  fn_sem F sc_next_value rfl fun cdv A outer s H E hr =>
  (s_cons (s_if (tt_tru (t_isi is_str T.b_isinstance T.b_str bt_str (t_var 0)))
  (s_one (s_ret (t_op op_addA add_s (t_var 0) t_str)))
  s_nil)
  (s_one (s_ret (t_op op_addA add_s (t_var 0) t_int))))
theorem mk_next_value {f : Addr} {fd : FuncData} (F : Fun K "next_value" "next_value" s_next_value f fd) (hm : mg "next_value" = some (.ref f)) (T : Gb K cl mg) : Fn P w K mg base cl "next_value" 1 1 fn_next_value :=
  ⟨f, fd, ["value"], ok_next_value F T, hm, F.kp, (F.binds (ps := ["value"]) fun _ _ _ _ _ _ us hl => match us, hl with | [_], _ => rfl)⟩
abbrev s_up : Stmt := (top 13)
theorem sc_up : FnScope ["text", "end", "at"] ["text"] (defScope s_up) :=
  ⟨rfl, rfl, rfl, by decide +kernel, rfl, by decide +kernel, by decide +kernel⟩
noncomputable def sem_up : MS :=
  (sSeq (sSet 1 (mFn lenD (mCons (mVar 0) mNil)))
  (sSeq (whileF (mAnd (mTest (mOp gtD (mVar 1) (mC (.int 0)))) (mTest (mOp eqD (mOp ixD (mVar 0) (mOp subD (mVar 1) (mC (.int 1)))) (mC (.str "~")))))
  (sAug 1 subD (mC (.int 1))) wFuel)
  (sSeq (sIf (mTest (mOp eqD (mVar 1) (mC (.int 0))))
  (sRet (mC .non))
  sPass)
  (sSeq (sSet 2 (mMt "str" indexD (mC c_CHARS) (mCons (mOp ixD (mVar 0) (mOp subD (mVar 1) (mC (.int 1)))) mNil)))
  (sRet (mOp addD (mSl slD (mVar 0) mNoPart (mPart (mOp subD (mVar 1) (mC (.int 1))))) (mOp ixD (mC c_CHARS) (mOp addD (mVar 2) (mC (.int 1))))))))))
noncomputable def fn_up : List D → Store → Res D := runB 3 sem_up
theorem ok_up {f : Addr} {fd : FuncData} (F : Fun K "up" "up" s_up f fd) (T : Gb K cl mg) :
    FnOk P w K mg base (L2.CX P w) 1 f fd ["text"] (spOf K cl 1 fn_up) :=
  fn_sem F sc_up rfl fun cdv A outer s H E hr =>
  (s_cons (s_set 1 sc_up.nd (t_callB (call_len) len_s T.b_len bt_len (ta_cons (t_var 0) ta_nil)))
  (s_cons (s_while wFuel (passes_of rfl) (PW.pt (tw_and (tt_cmp op_gt gt_s (t_var 1) t_int) (tw_and1 (tt_cmp (op_eqA hr) eq_s (t_ix ix_seq ix_s (t_var 0) (t_op op_sub sub_s (t_var 1) t_int)) t_str))))
  (s_one (s_aug 1 sc_up.nd ip_subI sub_s t_int)))
  (s_cons (s_if (tt_cmp (op_eqA hr) eq_s (t_var 1) t_int)
  (s_one (s_ret t_non))
  s_nil)
  (s_cons (s_set 2 sc_up.nd (t_bm PySem.F.plainAttrs_str PySem.F.slot_str_index PySem.F.type_str_index mt_sindex index_s (t_glob' T.g_CHARS) (ta_cons (t_ix ix_seq ix_s (t_var 0) (t_op op_sub sub_s (t_var 1) t_int)) ta_nil)))
  (s_one (s_ret (t_op op_addA add_s (t_sl sl_all sl_s (t_var 0) tp_none (tp_some (t_op op_sub sub_s (t_var 1) t_int))) (t_ix ix_seq ix_s (t_glob' T.g_CHARS) (t_op op_addA add_s (t_var 2) t_int)))))))))
theorem mk_up {f : Addr} {fd : FuncData} (F : Fun K "up" "up" s_up f fd) (hm : mg "up" = some (.ref f)) (T : Gb K cl mg) : Fn P w K mg base cl "up" 1 1 fn_up :=
  ⟨f, fd, ["text"], ok_up F T, hm, F.kp, (F.binds (ps := ["text"]) fun _ _ _ _ _ _ us hl => match us, hl with | [_], _ => rfl)⟩
abbrev s_law_texts_right : Stmt := (top 21)
theorem sc_law_texts_right : FnScope ["_law_well", "_law_one", "_law_other", "_law_top"] ["_law_well"] (defScope s_law_texts_right) :=
  ⟨rfl, rfl, rfl, by decide +kernel, rfl, by decide +kernel, by decide +kernel⟩
noncomputable def sem_law_texts_right : MS :=
  (sSeq (sSet 1 (mFn (ar 2 fn_law_any_text) (mCons (mVar 0) (mCons (mC (.int 8)) mNil))))
  (sSeq (sIf (mOr (mTest (mOp neD (mFn (ar 1 fn_next_value) (mCons (mVar 1) mNil)) (mOp addD (mVar 1) (mC (.str " "))))) (mOr (mTest (mOp neD (mFn (ar 1 fn_kind_of) (mCons (mVar 1) mNil)) (mC (.str "text")))) (mTest (mOp neD (mFn (ar 1 fn_up) (mCons (mVar 1) mNil)) (mFn (ar 1 fn_law_up) (mCons (mVar 1) mNil))))))
  (sRet (mC (.bl false)))
  sPass)
  (sSeq (sFor (mIt (mFn lstD (mCons (mFn (ar 2 fn_law_any_text) (mCons (mVar 0) (mCons (mC (.int 8)) mNil))) (mCons (mOp addD (mVar 1) (mFn (ar 2 fn_law_any_text) (mCons (mVar 0) (mCons (mC (.int 3)) mNil)))) (mCons (mOp addD (mSl slD (mVar 1) mNoPart (mPart (mUn negD (mC (.int 1))))) (mFn (ar 2 fn_law_any_text) (mCons (mVar 0) (mCons (mC (.int 2)) mNil)))) mNil))))) (ptN 2)
  (sSeq (sIf (mTest (mChain ltD ltD (mVar 1) (mVar 2) (mFn (ar 1 fn_next_value) (mCons (mVar 1) mNil))))
  (sRet (mC (.bl false)))
  sPass)
  (sSeq (sSet 3 (mFn (ar 1 fn_up) (mCons (mVar 1) mNil)))
  (sIf (mTest (mOp neD (mOp eqD (mSl slD (mVar 2) mNoPart (mPart (mFn lenD (mCons (mVar 1) mNil)))) (mVar 1)) (mAndV (mOp leD (mVar 1) (mVar 2)) (mOrV (mOp isND (mVar 3) (mC .non)) (mOp ltD (mVar 2) (mVar 3))))))
  (sRet (mC (.bl false)))
  sPass))))
  (sRet (mC (.bl true))))))
noncomputable def fn_law_texts_right : List D → Store → Res D := runB 4 sem_law_texts_right
theorem ok_law_texts_right {f : Addr} {fd : FuncData} (F : Fun K "_law_texts_right" "_law_texts_right" s_law_texts_right f fd) (T : Gb K cl mg) (G_law_any_text : Fn P w K mg base cl "_law_any_text" 3 2 fn_law_any_text) (G_law_up : Fn P w K mg base cl "_law_up" 1 1 fn_law_up) (G_kind_of : Fn P w K mg base cl "kind_of" 2 1 fn_kind_of) (G_next_value : Fn P w K mg base cl "next_value" 1 1 fn_next_value) (G_up : Fn P w K mg base cl "up" 1 1 fn_up) :
    FnOk P w K mg base (L2.CX P w) 4 f fd ["_law_well"] (spOf K cl 1 fn_law_texts_right) :=
  fn_sem F sc_law_texts_right rfl fun cdv A outer s H E hr =>
  (s_cons (s_set 1 sc_law_texts_right.nd (t_callF G_law_any_text (hr.mono (by decide)) (takes_of rfl rfl rfl rfl) (ta_cons (t_var 0) (ta_cons t_int ta_nil))))
  (s_cons (s_if (PW.pt (tw_or (tt_cmp (op_neA hr) ne_s (t_callF G_next_value (hr.mono (by decide)) (takes_of rfl rfl rfl rfl) (ta_cons (t_var 1) ta_nil)) (t_op op_addA add_s (t_var 1) t_str)) (tw_or (tt_cmp (op_neA hr) ne_s (t_callF G_kind_of (hr.mono (by decide)) (takes_of rfl rfl rfl rfl) (ta_cons (t_var 1) ta_nil)) t_str) (tw_or1 (tt_cmp (op_neA hr) ne_s (t_callF G_up (hr.mono (by decide)) (takes_of rfl rfl rfl rfl) (ta_cons (t_var 1) ta_nil)) (t_callF G_law_up (hr.mono (by decide)) (takes_of rfl rfl rfl rfl) (ta_cons (t_var 1) ta_nil)))))))
  (s_one (s_ret t_bl))
  s_nil)
  (s_cons (s_for (passes_of rfl) rfl (i_seq (t_lst (ta_cons (t_callF G_law_any_text (hr.mono (by decide)) (takes_of rfl rfl rfl rfl) (ta_cons (t_var 0) (ta_cons t_int ta_nil))) (ta_cons (t_op op_addA add_s (t_var 1) (t_callF G_law_any_text (hr.mono (by decide)) (takes_of rfl rfl rfl rfl) (ta_cons (t_var 0) (ta_cons t_int ta_nil)))) (ta_cons (t_op op_addA add_s (t_sl sl_all sl_s (t_var 1) tp_none (tp_some (t_un un_neg neg_s t_int))) (t_callF G_law_any_text (hr.mono (by decide)) (takes_of rfl rfl rfl rfl) (ta_cons (t_var 0) (ta_cons t_int ta_nil)))) ta_nil))))) (g_name 2 sc_law_texts_right.nd)
  (s_cons (s_if (tt_chain op_ltA lt_s op_ltA lt_s (t_var 1) (t_var 2) (t_callF G_next_value (hr.mono (by decide)) (takes_of rfl rfl rfl rfl) (ta_cons (t_var 1) ta_nil)))
  (s_one (s_ret t_bl))
  s_nil)
  (s_cons (s_set 3 sc_law_texts_right.nd (t_callF G_up (hr.mono (by decide)) (takes_of rfl rfl rfl rfl) (ta_cons (t_var 1) ta_nil)))
  (s_one (s_if (tt_cmp (op_neA hr) ne_s (t_cmp (op_eqA hr) eq_s (t_sl sl_all sl_s (t_var 2) tp_none (tp_some (t_callB (call_len) len_s T.b_len bt_len (ta_cons (t_var 1) ta_nil)))) (t_var 1)) (t_and (t_cmp op_leA le_s (t_var 1) (t_var 2)) (t_one (t_or (t_cmp op_isA isN_s (t_var 3) t_non) (t_one (t_cmp op_ltA lt_s (t_var 2) (t_var 3)))))))
  (s_one (s_ret t_bl))
  s_nil)))))
  (s_one (s_ret t_bl)))))
theorem mk_law_texts_right {f : Addr} {fd : FuncData} (F : Fun K "_law_texts_right" "_law_texts_right" s_law_texts_right f fd) (hm : mg "_law_texts_right" = some (.ref f)) (T : Gb K cl mg) (G_law_any_text : Fn P w K mg base cl "_law_any_text" 3 2 fn_law_any_text) (G_law_up : Fn P w K mg base cl "_law_up" 1 1 fn_law_up) (G_kind_of : Fn P w K mg base cl "kind_of" 2 1 fn_kind_of) (G_next_value : Fn P w K mg base cl "next_value" 1 1 fn_next_value) (G_up : Fn P w K mg base cl "up" 1 1 fn_up) : Fn P w K mg base cl "_law_texts_right" 4 1 fn_law_texts_right :=
  ⟨f, fd, ["_law_well"], ok_law_texts_right F T G_law_any_text G_law_up G_kind_of G_next_value G_up, hm, F.kp, (F.binds (ps := ["_law_well"]) fun _ _ _ _ _ _ us hl => match us, hl with | [_], _ => rfl)⟩
abbrev s_law_right : Stmt := (top 32)
theorem sc_law_right : FnScope ["_law_well", "_law_number", "_law_thing"] ["_law_well"] (defScope s_law_right) :=
  ⟨rfl, rfl, rfl, by decide +kernel, rfl, by decide +kernel, by decide +kernel⟩
noncomputable def sem_law_right : MS :=
  (sSeq (sSet 1 (mOp mulD (mOp addD (mOp subD (mFn (ar 2 fn_law_draw) (mCons (mVar 0) (mCons (mOp subD (mOp mulD (mC (.int 2)) (mOp powD (mC (.int 10)) (mC (.int 30)))) (mC (.int 1))) mNil))) (mOp powD (mC (.int 10)) (mC (.int 30)))) (mC (.int 1))) (mFn (ar 2 fn_law_pick) (mCons (mVar 0) (mCons (mFn lstD (mCons (mC (.int 0)) (mCons (mC (.int 1)) mNil))) mNil)))))
  (sSeq (sIf (mOr (mTest (mOp neD (mFn (ar 1 fn_next_value) (mCons (mVar 1) mNil)) (mOp addD (mVar 1) (mC (.int 1))))) (mTest (mOp neD (mFn (ar 1 fn_kind_of) (mCons (mVar 1) mNil)) (mC (.str "number")))))
  (sRet (mC (.bl false)))
  sPass)
  (sSeq (sFor (mIt (mFn lstD (mCons (mC .non) (mCons (mC (.bl true)) (mCons (mC (.bl false)) (mCons (mFn lstD mNil) (mCons (mFn tupD mNil) (mCons (mC (.dct [])) (mCons (mFn lstD (mCons (mC (.str "a")) mNil)) (mCons (mFn tupD (mCons (mC (.str "a")) (mCons (mC (.int 1)) mNil))) (mCons (mC (.str "a\n")) (mCons (mC (.str "\t")) (mCons (mC (.str "\na")) (mCons (mFn lstD (mCons (mFn lstD (mCons (mFn lstD (mCons (mC (.int 1)) mNil)) mNil)) mNil)) mNil)))))))))))))) (ptN 2)
  (sSeq (sIf (mTest (mOp notND (mFn (ar 1 fn_kind_of) (mCons (mVar 2) mNil)) (mC .non)))
  (sRet (mC (.bl false)))
  sPass)
  (sIf (mAnd (mNot (mTru (mUn (isiD k_str) (mVar 2)))) (mOr (mTest (mOp notND (mFn (ar 1 fn_is_name) (mCons (mVar 2) mNil)) (mC (.bl false)))) (mTest (mOp notND (mFn (ar 1 fn_is_path) (mCons (mVar 2) mNil)) (mC (.bl false))))))
  (sRet (mC (.bl false)))
  sPass)))
  (sSeq (sIf (mTest (mOp neD (mFn lstD (mCons (mFn (ar 1 fn_next_value) (mCons (mC (.str "")) mNil)) (mCons (mFn (ar 1 fn_up) (mCons (mC (.str "")) mNil)) (mCons (mFn (ar 1 fn_up) (mCons (mC (.str "~")) mNil)) (mCons (mFn (ar 1 fn_up) (mCons (mC (.str "a~~")) mNil)) (mCons (mFn (ar 1 fn_up) (mCons (mC (.str "$")) mNil)) (mCons (mFn (ar 1 fn_up) (mCons (mC (.str "a ")) mNil)) (mCons (mFn (ar 1 fn_next_value) (mCons (mUn negD (mC (.int 1))) mNil)) mNil)))))))) (mFn lstD (mCons (mC (.str " ")) (mCons (mC .non) (mCons (mC .non) (mCons (mC (.str "b")) (mCons (mC (.str "&")) (mCons (mC (.str "a!")) (mCons (mC (.int 0)) mNil))))))))))
  (sRet (mC (.bl false)))
  sPass)
  (sRet (mAndV (mFn (ar 1 fn_law_texts_right) (mCons (mVar 0) mNil)) (mAndV (mFn (ar 1 fn_law_places_right) (mCons (mVar 0) mNil)) (mFn (ar 1 fn_law_names_right) (mCons (mVar 0) mNil)))))))))
noncomputable def fn_law_right : List D → Store → Res D := runB 3 sem_law_right
theorem ok_law_right {f : Addr} {fd : FuncData} (F : Fun K "_law_right" "_law_right" s_law_right f fd) (T : Gb K cl mg) (G_law_draw : Fn P w K mg base cl "_law_draw" 1 2 fn_law_draw) (G_law_names_right : Fn P w K mg base cl "_law_names_right" 5 1 fn_law_names_right) (G_law_pick : Fn P w K mg base cl "_law_pick" 2 2 fn_law_pick) (G_law_places_right : Fn P w K mg base cl "_law_places_right" 4 1 fn_law_places_right) (G_law_texts_right : Fn P w K mg base cl "_law_texts_right" 4 1 fn_law_texts_right) (G_is_name : Fn P w K mg base cl "is_name" 1 1 fn_is_name) (G_is_path : Fn P w K mg base cl "is_path" 2 1 fn_is_path) (G_kind_of : Fn P w K mg base cl "kind_of" 2 1 fn_kind_of) (G_next_value : Fn P w K mg base cl "next_value" 1 1 fn_next_value) (G_up : Fn P w K mg base cl "up" 1 1 fn_up) :
    FnOk P w K mg base (L2.CX P w) 6 f fd ["_law_well"] (spOf K cl 1 fn_law_right) :=
  fn_sem F sc_law_right rfl fun cdv A outer s H E hr =>
  (s_cons (s_set 1 sc_law_right.nd (t_op op_mulA mul_s (t_op op_addA add_s (t_op op_sub sub_s (t_callF G_law_draw (hr.mono (by decide)) (takes_of rfl rfl rfl rfl) (ta_cons (t_var 0) (ta_cons (t_op op_sub sub_s (t_op op_mulA mul_s t_int (t_op op_pow pow_s t_int t_int)) t_int) ta_nil))) (t_op op_pow pow_s t_int t_int)) t_int) (t_callF G_law_pick (hr.mono (by decide)) (takes_of rfl rfl rfl rfl) (ta_cons (t_var 0) (ta_cons (t_lst (ta_cons t_int (ta_cons t_int ta_nil))) ta_nil)))))
  (s_cons (s_if (PW.pt (tw_or (tt_cmp (op_neA hr) ne_s (t_callF G_next_value (hr.mono (by decide)) (takes_of rfl rfl rfl rfl) (ta_cons (t_var 1) ta_nil)) (t_op op_addA add_s (t_var 1) t_int)) (tw_or1 (tt_cmp (op_neA hr) ne_s (t_callF G_kind_of (hr.mono (by decide)) (takes_of rfl rfl rfl rfl) (ta_cons (t_var 1) ta_nil)) t_str))))
  (s_one (s_ret t_bl))
  s_nil)
  (s_cons (s_for (passes_of rfl) rfl (i_seq (t_lst (ta_cons t_non (ta_cons t_bl (ta_cons t_bl (ta_cons (t_lst ta_nil) (ta_cons (t_tup ta_nil) (ta_cons t_dict0 (ta_cons (t_lst (ta_cons t_str ta_nil)) (ta_cons (t_tup (ta_cons t_str (ta_cons t_int ta_nil))) (ta_cons t_str (ta_cons t_str (ta_cons t_str (ta_cons (t_lst (ta_cons (t_lst (ta_cons (t_lst (ta_cons t_int ta_nil)) ta_nil)) ta_nil)) ta_nil)))))))))))))) (g_name 2 sc_law_right.nd)
  (s_cons (s_if (tt_cmp op_notA notN_s (t_callF G_kind_of (hr.mono (by decide)) (takes_of rfl rfl rfl rfl) (ta_cons (t_var 2) ta_nil)) t_non)
  (s_one (s_ret t_bl))
  s_nil)
  (s_one (s_if (PW.pt (tw_and (tt_not (tt_tru (t_isi is_str T.b_isinstance T.b_str bt_str (t_var 2)))) (tw_and1 (PW.pt (tw_or (tt_cmp op_notA notN_s (t_callF G_is_name (hr.mono (by decide)) (takes_of rfl rfl rfl rfl) (ta_cons (t_var 2) ta_nil)) t_bl) (tw_or1 (tt_cmp op_notA notN_s (t_callF G_is_path (hr.mono (by decide)) (takes_of rfl rfl rfl rfl) (ta_cons (t_var 2) ta_nil)) t_bl)))))))
  (s_one (s_ret t_bl))
  s_nil))))
  (s_cons (s_if (tt_cmp (op_neA hr) ne_s (t_lst (ta_cons (t_callF G_next_value (hr.mono (by decide)) (takes_of rfl rfl rfl rfl) (ta_cons t_str ta_nil)) (ta_cons (t_callF G_up (hr.mono (by decide)) (takes_of rfl rfl rfl rfl) (ta_cons t_str ta_nil)) (ta_cons (t_callF G_up (hr.mono (by decide)) (takes_of rfl rfl rfl rfl) (ta_cons t_str ta_nil)) (ta_cons (t_callF G_up (hr.mono (by decide)) (takes_of rfl rfl rfl rfl) (ta_cons t_str ta_nil)) (ta_cons (t_callF G_up (hr.mono (by decide)) (takes_of rfl rfl rfl rfl) (ta_cons t_str ta_nil)) (ta_cons (t_callF G_up (hr.mono (by decide)) (takes_of rfl rfl rfl rfl) (ta_cons t_str ta_nil)) (ta_cons (t_callF G_next_value (hr.mono (by decide)) (takes_of rfl rfl rfl rfl) (ta_cons (t_un un_neg neg_s t_int) ta_nil)) ta_nil)))))))) (t_lst (ta_cons t_str (ta_cons t_non (ta_cons t_non (ta_cons t_str (ta_cons t_str (ta_cons t_str (ta_cons t_int ta_nil)))))))))
  (s_one (s_ret t_bl))
  s_nil)
  (s_one (s_ret (t_and (t_callF G_law_texts_right (hr.mono (by decide)) (takes_of rfl rfl rfl rfl) (ta_cons (t_var 0) ta_nil)) (t_and (t_callF G_law_places_right (hr.mono (by decide)) (takes_of rfl rfl rfl rfl) (ta_cons (t_var 0) ta_nil)) (t_one (t_callF G_law_names_right (hr.mono (by decide)) (takes_of rfl rfl rfl rfl) (ta_cons (t_var 0) ta_nil)))))))))))
theorem mk_law_right {f : Addr} {fd : FuncData} (F : Fun K "_law_right" "_law_right" s_law_right f fd) (hm : mg "_law_right" = some (.ref f)) (T : Gb K cl mg) (G_law_draw : Fn P w K mg base cl "_law_draw" 1 2 fn_law_draw) (G_law_names_right : Fn P w K mg base cl "_law_names_right" 5 1 fn_law_names_right) (G_law_pick : Fn P w K mg base cl "_law_pick" 2 2 fn_law_pick) (G_law_places_right : Fn P w K mg base cl "_law_places_right" 4 1 fn_law_places_right) (G_law_texts_right : Fn P w K mg base cl "_law_texts_right" 4 1 fn_law_texts_right) (G_is_name : Fn P w K mg base cl "is_name" 1 1 fn_is_name) (G_is_path : Fn P w K mg base cl "is_path" 2 1 fn_is_path) (G_kind_of : Fn P w K mg base cl "kind_of" 2 1 fn_kind_of) (G_next_value : Fn P w K mg base cl "next_value" 1 1 fn_next_value) (G_up : Fn P w K mg base cl "up" 1 1 fn_up) : Fn P w K mg base cl "_law_right" 6 1 fn_law_right :=
  ⟨f, fd, ["_law_well"], ok_law_right F T G_law_draw G_law_names_right G_law_pick G_law_places_right G_law_texts_right G_is_name G_is_path G_kind_of G_next_value G_up, hm, F.kp, (F.binds (ps := ["_law_well"]) fun _ _ _ _ _ _ us hl => match us, hl with | [_], _ => rfl)⟩
abbrev s_law_source : Stmt := (top 16)
theorem sc_law_source : FnScope ["_law_cell", "_law_number"] ["_law_cell"] (defScope s_law_source) :=
  ⟨rfl, rfl, rfl, by decide +kernel, rfl, by decide +kernel, by decide +kernel⟩
noncomputable def sem_law_source : MS :=
  (sSeq (sSet 1 (mIte (mTest (mOp geD (mVar 0) (mC (.int 0)))) (mVar 0) (mOp subD (mOp subD (mC (.int 0)) (mOp mulD (mC (.int 3)) (mVar 0))) (mC (.int 1)))))
  (sRet (mFn lstL (mCons (mOp mulD (mVar 1) (mFn intD (mCons (mOp geD (mVar 1) (mOp powD (mC (.int 10)) (mC (.int 18)))) mNil))) (mCons (mOp modD (mFn intD (mCons (mVar 1) mNil)) (mC (.int 2147483629))) (mCons (mC (.int 0)) mNil))))))
noncomputable def fn_law_source : List D → Store → Res D := runB 2 sem_law_source
theorem ok_law_source {f : Addr} {fd : FuncData} (F : Fun K "_law_source" "_law_source" s_law_source f fd) (T : Gb K cl mg) :
    FnOk P w K mg base (L2.CX P w) 1 f fd ["_law_cell"] (spOf K cl 1 fn_law_source) :=
  fn_sem F sc_law_source rfl fun cdv A outer s H E hr =>
  (s_cons (s_set 1 sc_law_source.nd (t_ite (tt_cmp op_ge ge_s (t_var 0) t_int) (t_var 0) (t_op op_sub sub_s (t_op op_sub sub_s t_int (t_op op_mulA mul_s t_int (t_var 0))) t_int)))
  (s_one (s_ret (t_lstL (ta_cons (t_op op_mulA mul_s (t_var 1) (t_callTy (call_int1) int_s T.b_int bt_int (ta_cons (t_cmp op_ge ge_s (t_var 1) (t_op op_pow pow_s t_int t_int)) ta_nil))) (ta_cons (t_op op_mod mod_s (t_callTy (call_int1) int_s T.b_int bt_int (ta_cons (t_var 1) ta_nil)) t_int) (ta_cons t_int ta_nil)))))))
theorem mk_law_source {f : Addr} {fd : FuncData} (F : Fun K "_law_source" "_law_source" s_law_source f fd) (hm : mg "_law_source" = some (.ref f)) (T : Gb K cl mg) : Fn P w K mg base cl "_law_source" 1 1 fn_law_source :=
  ⟨f, fd, ["_law_cell"], ok_law_source F T, hm, F.kp, (F.binds (ps := ["_law_cell"]) fun _ _ _ _ _ _ us hl => match us, hl with | [_], _ => rfl)⟩
abbrev s_law : Stmt := (top 33)
theorem sc_law : FnScope ["_law_script", "_law_cell"] ["_law_script"] (defScope s_law) :=
  ⟨rfl, rfl, rfl, by decide +kernel, rfl, by decide +kernel, by decide +kernel⟩
noncomputable def sem_law : MS :=
  (sRet (mFn allD (mCons (mComp (mIt (mOp addD (mSl slD (mVar 0) mNoPart (mPart (mC (.int 4)))) (mFn lstD (mCons (mC (.int 0)) mNil)))) (ptN 1) mYes (mFn (ar 1 fn_law_right) (mCons (mFn (ar 1 fn_law_source) (mCons (mVar 1) mNil)) mNil)) [1] frzD) mNil)))
noncomputable def fn_law : List D → Store → Res D := cln (runB 2 sem_law)
theorem ok_law {f : Addr} {fd : FuncData} (F : Fun K "law" "law" s_law f fd) (T : Gb K cl mg) (G_law_right : Fn P w K mg base cl "_law_right" 6 1 fn_law_right) (G_law_source : Fn P w K mg base cl "_law_source" 1 1 fn_law_source) :
    FnOk P w K mg base (L2.CX P w) 7 f fd ["_law_script"] (spOf K cl 1 fn_law) :=
  fn_cln <| fn_sem F sc_law rfl fun cdv A outer s H E hr =>
  (s_one (s_ret (t_callB (cr_all rfl) all_s T.b_all bt_all (ta_cons (t_lc [("_law_cell", 1)] frz_s rfl sc_law.nd (i_seq (t_op op_addA add_s (t_sl sl_all sl_s (t_var 0) tp_none (tp_some t_int)) (t_lst (ta_cons t_int ta_nil)))) (blkOk_by (N := ["_law_script", "_law_cell"]) (sc := defScope s_law) (by decide +kernel)) (fun _ _ _ _ _ => (g_name 1 sc_law.nd)) (fun _ _ _ _ _ => tts_nil) (fun _ _ _ _ _ => (t_callF G_law_right (hr.mono (by decide)) takes0 (ta_cons (t_callF G_law_source (hr.mono (by decide)) takes0 (ta_cons (t_var 1) ta_nil)) ta_nil)))) ta_nil))))
theorem mk_law {f : Addr} {fd : FuncData} (F : Fun K "law" "law" s_law f fd) (hm : mg "law" = some (.ref f)) (T : Gb K cl mg) (G_law_right : Fn P w K mg base cl "_law_right" 6 1 fn_law_right) (G_law_source : Fn P w K mg base cl "_law_source" 1 1 fn_law_source) : Fn P w K mg base cl "law" 7 1 fn_law :=
  ⟨f, fd, ["_law_script"], ok_law F T G_law_right G_law_source, hm, F.kp, (F.binds (ps := ["_law_script"]) fun _ _ _ _ _ _ us hl => match us, hl with | [_], _ => rfl)⟩
end
end G
namespace G
open PySem L2
/-- a well -/
def Well (m : MO) : Prop := ∃ a b c : Int, m = .lst [.int a, .int b, .int c]
abbrev WAt := AtP Well
theorem w0 (a b c : D) : atI [a, b, c] 0 = some a := rfl
theorem w1 (a b c : D) : atI [a, b, c] 1 = some b := rfl
theorem w2 (a b c : D) : atI [a, b, c] 2 = some c := rfl
theorem draw_ok {n : Nat} {S0 S : Store} (many : Int) (h : WAt n S0 S) (h0 : 0 < many) (h9 : many.natAbs.log2 < 9000) :
    ∃ r S', fn_law_draw [.ref n, .int many] S = .ok (.int r) S' ∧ 0 ≤ r ∧ r < many ∧ WAt n S0 S' := by
  obtain ⟨m, ⟨a, b, c, rfl⟩, hS⟩ := h.get
  have hn : n < S.length := sg_lt hS
  have mp : ∀ x : Int, 0 ≤ x % many ∧ x % many < many := fun x => ⟨Int.emod_nonneg _ (by omega), Int.emod_lt_of_pos _ h0⟩
  have b0 : ixN 3 0 = some 0 := rfl
  have b2 : ixN 3 2 = some 2 := rfl
  have l1 : sm64 104729 = true := by decide
  have l3 : sm64 48271 = true := by decide
  have d1 : Nat.log2 1009 < 9000 := by decide +kernel
  have d2 : Nat.log2 2003 < 9000 := by decide +kernel
  have d3 : Nat.log2 3 < 9000 := by decide +kernel
  have s1 : ∀ x : Int, sm64 (x % 2147483647) = true := fun x => sm_mod _ (by decide) (by decide)
  have s2 : ∀ x : Int, sm64 (x % 2147483587) = true := fun x => sm_mod _ (by decide) (by decide)
  unfold fn_law_draw
  rw [run_eq]
  simp only [sem_law_draw, startD]
  by_cases c1 : 0 < a
  · simp [hS, hn, rP, w0, w1, w2, b0, b2, c1, h0, h9]
    exact ⟨_, _, ⟨rfl, rfl⟩, (mp _).1, (mp _).2, h.put ⟨_, _, _, rfl⟩⟩
  · simp [hS, hn, rP, w0, w1, w2, b0, b2, c1, h0, h9, l1, l3, d1, d2, d3, s1, s2]
    exact ⟨_, _, ⟨rfl, rfl⟩, (mp _).1, (mp _).2, h.put ⟨_, _, _, rfl⟩⟩
theorem pick_ok {n : Nat} {S0 S : Store} (xs : List D) (h : WAt n S0 S) (h0 : xs ≠ []) (h9 : xs.length ≤ 1000) :
    ∃ x S', fn_law_pick [.ref n, .lst xs] S = .ok x S' ∧ x ∈ xs ∧ WAt n S0 S' := by
  have hl : 0 < xs.length := List.length_pos_iff.mpr h0
  obtain ⟨r, S1, e1, r0, r1, h1⟩ := draw_ok (xs.length : Int) h (by omega) (by
    have q : ∀ n : Nat, n ≤ 1000 → n.log2 < 9000 := by decide +kernel
    exact q _ h9)
  obtain ⟨x, ex, hx⟩ := atI_lt r0 r1
  refine ⟨x, S1, ?_, hx, h1⟩
  unfold fn_law_pick
  rw [run_eq]
  simp only [sem_law_pick, startD]
  simp [e1, ex]
theorem pickS_ok {n : Nat} {S0 S : Store} (t : Str) (h : WAt n S0 S) (h0 : cs t ≠ []) (h9 : (cs t).length ≤ 1000) :
    ∃ c S', fn_law_pick [.ref n, .str t] S = .ok (.str ⟨#[c]⟩) S' ∧ c ∈ cs t ∧ WAt n S0 S' := by
  have hl : 0 < (cs t).length := List.length_pos_iff.mpr h0
  obtain ⟨r, S1, e1, r0, r1, h1⟩ := draw_ok (t.length : Int) h (by show (0 : Int) < ((cs t).length : Nat); omega) (by
    have q : ∀ n : Nat, n ≤ 1000 → n.log2 < 9000 := by decide +kernel
    exact q _ h9)
  obtain ⟨x, ex, hx⟩ := atI_lt r0 r1
  refine ⟨x, S1, ?_, hx, h1⟩
  unfold fn_law_pick
  rw [run_eq]
  simp only [sem_law_pick, startD]
  have hz : t.length ≤ sizeLine := sz (by rw [len_cs]; omega)
  simp [hz, e1, ex]
/-- the signs of the law's texts -/
abbrev sig : Str := " ~}!a0z_.A"
def SgOk (t : Str) : Prop := ∀ c ∈ cs t, c ∈ cs sig
theorem any_text_ok {n : Nat} {S0 S : Store} (most : Int) (h : WAt n S0 S) (hm : 0 ≤ most) (hm1 : most ≤ 20) :
    ∃ t S', fn_law_any_text [.ref n, .int most] S = .ok (.str t) S' ∧ SgOk t ∧ (cs t).length ≤ most ∧ WAt n S0 S' := by
  obtain ⟨r, S1, e1, r0, r4, h1⟩ := draw_ok (most + 1) h (by omega) (by
    obtain ⟨k, rfl⟩ := Int.eq_ofNat_of_zero_le hm
    have q : ∀ n : Nat, n ≤ 20 → (n + 1).log2 < 9000 := by decide +kernel
    exact q k (by omega))
  obtain ⟨ys, S2, e2, l2, q2, h2⟩ := comp_each (all := (List.range r.toNat).map fun k => D.int (k : Nat)) (p := ptN 3) (e := mFn (ar 2 fn_law_pick) (mCons (mVar 0) (mCons (mVar 2) mNil)))
    (ρ := [some (.ref n), some (.int most), some (.str sig), none]) (WAt n S0) (OneIn (· ∈ cs sig)) ((List.range r.toNat).map fun k => D.int (k : Nat)) 0 S1 (fun d hd => ⟨_, rfl, fun S hS => by
      obtain ⟨c, S3, e3, hc, h3⟩ := pickS_ok sig hS (by decide) (by decide)
      exact ⟨.str ⟨#[c]⟩, S3, by simp [e3], h3, c, rfl, hc⟩⟩) h1 (sz (by simp; omega))
  obtain ⟨l, es, lc, hc⟩ := ones_sts q2
  have lr : l.length ≤ most := by rw [lc, l2]; simp; omega
  refine ⟨Txt.join "" (l.map fun c => (⟨#[c]⟩ : Str)), S2, ?_, fun c h => hc c (by rw [join_ones] at h; exact h), by rw [join_ones]; exact lr, h2⟩
  unfold fn_law_any_text
  rw [run_eq]
  have el : ("" : Str).length = 0 := rfl
  have rr : smR r = true := smR_int r0 (by omega)
  simp only [sem_law_any_text, startD]
  have bd : l.length ≤ 16777216 := by omega
  simp [e1, rr, wipeD, e2, tyD, joinD, es, ones_sum, el, bd]
end G
namespace G
open PySem L2
abbrev LET : Str := "abcdefghijklmnopqrstuvwxyz"
abbrev DIG : Str := "0123456789"
def kptL : List Str := ["and", "or", "not", "sure", "in", "is", "empty", "begins", "always", "never", "unsure"]
def kpt (t : Str) : Bool := inV (.str t) (kptL.map V.str)
def lod (c : Nat) : Bool := decide (c ∈ cs LET) || decide (c ∈ cs DIG)
def rn (t : Str) : Bool := decide (1 ≤ t.length) && decide (t.length ≤ 8) && (match cs t with
  | [] => false
  | c :: _ => decide (c ∈ cs LET)) && !kpt t && (cs t).all lod
theorem inS {c : Nat} {z : Str} {S : Store} : inD (.str ⟨#[c]⟩) (.str z) S = .ok (.bl (decide (c ∈ cs z))) S := nrfl rfl
theorem notInS {c : Nat} {z : Str} {S : Store} : notInD (.str ⟨#[c]⟩) (.str z) S = .ok (.bl (!decide (c ∈ cs z))) S := nrfl rfl
theorem kept_in {t : Str} {S : Store} : inD (.str t) c_KEPT_WORDS S = .ok (.bl (kpt t)) S := nrfl rfl
theorem kept_in2 {t : Str} {S : Store} : inD (.str t) (.lst (kptL.map D.str)) S = .ok (.bl (kpt t)) S := nrfl rfl
theorem kept_ok {S : Store} : fn_law_kept [] S = .ok (.lst (kptL.map D.str)) S := by
  have h : 11 ≤ sizeLine := by decide
  unfold fn_law_kept
  rw [run_eq]
  simp only [sem_law_kept, startD]
  simp [h, kptL]
theorem atI_0 {α : Type} {x : α} {xs : List α} : atI (x :: xs) 0 = some x := atI_nat (j := 0) rfl
abbrev oneD (c : Nat) : D := .str ⟨#[c]⟩
theorem name_loop {t : D} {S : Store} {all : List D} : ∀ (l : List Nat) (o : Option D), ∃ o', forL ⟨all, none⟩ (ptN 1) (sIf (mAnd (mTest (mOp notInD (mVar 1) (mC c_LETTERS))) (mTest (mOp notInD (mVar 1) (mC c_DIGITS)))) (sRet (mC (.bl false))) sPass) (l.map oneD) [some t, o] S
    = if l.all lod = true then .nx [some t, o'] S else .rt (.bl false) S
  | [], o => ⟨o, by simpa using for_nil⟩
  | c :: l, o => by
    obtain ⟨o', e⟩ := name_loop (t := t) (S := S) (all := all) l (some (oneD c))
    refine ⟨o', ?_⟩
    rw [List.map_cons, for_cons (ρ1 := [some t, some (oneD c)]) rfl, List.all_cons]
    have hL : notInD (oneD c) c_LETTERS S = .ok (.bl (!decide (c ∈ cs LET))) S := notInS
    have hD : notInD (oneD c) c_DIGITS S = .ok (.bl (!decide (c ∈ cs DIG))) S := notInS
    by_cases h1 : c ∈ cs LET
    · have hl : lod c = true := by simp [lod, h1]
      rw [hl, Bool.true_and, ← e]
      simp [hL, h1]
    · by_cases h2 : c ∈ cs DIG
      · have hl : lod c = true := by simp [lod, h2]
        rw [hl, Bool.true_and, ← e]
        simp [hL, hD, h1, h2]
      · have hl : lod c = false := by simp [lod, h1, h2]
        rw [hl]
        simp [hL, hD, h1, h2]
theorem is_name_ok {t : Str} {S : Store} (ht : t.length ≤ 1000) : fn_is_name [.str t] S = .ok (.bl (rn t)) S := by
  have hz : t.length ≤ sizeLine := sz (by omega)
  unfold fn_is_name
  rw [run_eq]
  simp only [sem_is_name, startD]
  by_cases k1 : 1 ≤ t.length
  · have k1' : (1 : Int) ≤ (t.length : Nat) := by omega
    by_cases k2 : t.length ≤ 8
    · have k2' : ((t.length : Nat) : Int) ≤ 8 := by omega
      obtain ⟨c, l, el⟩ : ∃ c l, cs t = c :: l := by
        cases e : cs t with
        | nil => rw [len_cs, e] at k1; simp at k1
        | cons c l => exact ⟨c, l, rfl⟩
      have e0 : atI t.cps.toList 0 = some c := (congrArg (fun x => atI x 0) el).trans atI_0
      have hL : notInD (oneD c) c_LETTERS S = .ok (.bl (!decide (c ∈ cs LET))) S := notInS
      obtain ⟨o', e⟩ := name_loop (t := .str t) (S := S) (all := t.cps.toList.map oneD) (cs t) none
      have e : forL ⟨t.cps.toList.map oneD, none⟩ (ptN 1) (sIf (mAnd (mTest (mOp notInD (mVar 1) (mC c_LETTERS))) (mTest (mOp notInD (mVar 1) (mC c_DIGITS)))) (sRet (mC (.bl false))) sPass) (t.cps.toList.map oneD) [some (.str t), none] S = _ := e
      by_cases k3 : c ∈ cs LET
      · by_cases k4 : kpt t = true
        · simp [hz, k_str, k1', k2', e0, hL, k3, kept_in, k4, rn]
        · by_cases k5 : (cs t).all lod = true
          · rw [if_pos k5] at e
            simp [hz, k_str, k1', k2', e0, hL, k3, kept_in, k4, e]
            simp only [rn, el, k1, k2, k3, k4]
            rw [← el, k5]
            rfl
          · rw [if_neg k5] at e
            simp [hz, k_str, k1', k2', e0, hL, k3, kept_in, k4, e]
            simp only [rn, k5]
            simp
      · simp [hz, k_str, k1', k2', e0, hL, k3]
        simp [rn, el, k3]
    · have k2' : ¬ ((t.length : Nat) : Int) ≤ 8 := by omega
      simp [hz, k_str, k1', k2', rn, k2]
  · have k1' : ¬ (1 : Int) ≤ (t.length : Nat) := by omega
    simp [hz, k_str, k1', rn, k1]
theorem right_name_ok {t : Str} {S : Store} (ht : t.length ≤ 1000) : fn_law_right_name [.str t] S = .ok (.bl (rn t)) S := by
  have hz : t.length ≤ sizeLine := sz (by omega)
  unfold fn_law_right_name
  rw [run_eq]
  simp only [sem_law_right_name, startD]
  by_cases k1 : 1 ≤ t.length
  · have k1' : ¬ ((t.length : Nat) : Int) < 1 := by omega
    by_cases k2 : t.length ≤ 8
    · have k2' : ¬ (8 : Int) < (t.length : Nat) := by omega
      obtain ⟨c, l, el⟩ : ∃ c l, cs t = c :: l := by
        cases e : cs t with
        | nil => rw [len_cs, e] at k1; simp at k1
        | cons c l => exact ⟨c, l, rfl⟩
      have e0 : atI t.cps.toList 0 = some c := (congrArg (fun x => atI x 0) el).trans atI_0
      have hL : notInD (oneD c) (.str LET) S = .ok (.bl (!decide (c ∈ cs LET))) S := notInS
      by_cases k4 : kpt t = true
      · simp [hz, k1', k2', kept_ok, kept_in2, k4, rn]
      · by_cases k3 : c ∈ cs LET
        · have hl : LET.length + DIG.length ≤ sizeLine := by decide
          have e := comp_map (S := S) (all := t.cps.toList.map oneD) (p := ptN 2) (e := mOp inD (mVar 2) (mOp addD (mVar 1) (mC (.str "0123456789")))) (ρ := [some (.str t), some (.str LET), none]) oneD (fun c => .bl (lod c)) t.cps.toList 0 (fun x hx => by
              refine ⟨_, rfl, ?_⟩
              have hin : inD (oneD x) (.str (LET ++ DIG)) S = .ok (.bl (lod x)) S := by
                rw [show inD (oneD x) (.str (LET ++ DIG)) S = _ from inS, cs_app]
                congr 2
                simp [lod]
              simp [hl, hin]) (by simp; exact hz)
          have ea : allD [.lst (t.cps.toList.map fun c => .bl (lod c))] S = .ok (.bl ((cs t).all lod)) S := all_bl _ _
          simp [hz, k1', k2', e0, hL, k3, kept_ok, kept_in2, k4, wipeD, e, ea]
          simp only [rn, k1, k2, k4, el, k3]
          rfl
        · simp [hz, k1', k2', e0, hL, k3, kept_ok, kept_in2, k4]
          simp [rn, el, k3]
    · have k2' : (8 : Int) < (t.length : Nat) := by omega
      simp [hz, k1', k2', rn, k2]
  · have k1' : ((t.length : Nat) : Int) < 1 := by omega
    simp [hz, k1', rn, k1]
end G
namespace G
open PySem L2
theorem spl_len (Z : List Nat) : ∀ (xs : List Nat) (k : Nat) (acc p : List Nat), p ∈ TL.spl Z k acc xs → p.length ≤ acc.length + xs.length
  | [], k, acc, p, h => by
    have : TL.spl Z k acc [] = [acc] := by cases k <;> rfl
    rw [this] at h
    simp at h
    subst h
    simp
  | c :: r, 0, acc, p, h => by
    unfold TL.spl at h
    split at h
    · rcases List.mem_cons.mp h with rfl | h
      · simp
      · have := spl_len Z r _ _ _ h
        simp at this ⊢
        omega
    · have := spl_len Z r _ _ _ h
      simp at this ⊢
      omega
  | c :: r, k + 1, acc, p, h => by
    have := spl_len Z r k acc p h
    simp
    omega
theorem split_len {t p : Str} (h : p ∈ Txt.split t ".") : p.length ≤ t.length := by
  have e := TL.split_spl t "." (by decide) (TL.kind_ok (by decide +kernel))
  have h1 : TL.tl p ∈ (Txt.split t ".").map TL.tl := List.mem_map.mpr ⟨p, h, rfl⟩
  rw [e] at h1
  have := spl_len _ _ _ _ _ h1
  rw [TL.len_tl p, TL.len_tl t]
  simpa using this
theorem split_ne (t : Str) : Txt.split t "." ≠ [] := List.length_pos_iff.mp (PyProof.Rows.split_pos t ".")
def slotL : List Str := ["1", "2", "3"]
def slt (t : Str) : Bool := inV (.str t) (slotL.map V.str)
/-- a path by its pieces -/
def rp (ps : List Str) : Bool := decide (ps.length ≤ 4) && rn (ps.getLastD "") && (slt (ps.headD "") || rn (ps.headD "")) && ps.tail.all rn
theorem atI_last {α : Type} (x : α) (xs : List α) : atI (xs ++ [x]) (-1) = some x := by
  unfold atI ixN
  rw [if_neg (by omega)]
  rw [if_pos (by simp; omega)]
  show (xs ++ [x])[((((xs ++ [x]).length : Nat) : Int) + -1).toNat]? = _
  have : ((((xs ++ [x]).length : Nat) : Int) + -1).toNat = xs.length := by simp; omega
  rw [this]
  simp
theorem right_path_ok {ps : List Str} {S : Store} (hl : ps.length ≤ 1000) (h : ps ≠ []) (ht : ∀ p ∈ ps, p.length ≤ 1000) : fn_law_right_path [.lst (ps.map D.str)] S = .ok (.bl (rp ps)) S := by
  unfold fn_law_right_path
  rw [run_eq]
  simp only [sem_law_right_path, startD]
  obtain ⟨p, qs, rfl⟩ := List.exists_cons_of_ne_nil h
  obtain ⟨rs, q, e⟩ : ∃ rs q, p :: qs = rs ++ [q] := ⟨_, _, (List.dropLast_concat_getLast h).symm⟩
  have eL : atI ((p :: qs).map D.str) (-1) = some (.str q) := by
    rw [e, List.map_append]
    exact atI_last _ _
  have eF : atI ((p :: qs).map D.str) 0 = some (.str p) := atI_0
  have gl : (p :: qs).getLastD "" = q := by rw [e]; simp
  have hq : q.length ≤ 1000 := ht q (by rw [e]; simp)
  have n1 := right_name_ok (S := S) hq
  have n2 := right_name_ok (S := S) (ht p (by simp))
  have hs : inD (.str p) (.lst (slotL.map D.str)) S = .ok (.bl (slt p)) S := nrfl rfl
  have hs : inD (.str p) (.lst [.str "1", .str "2", .str "3"]) S = .ok (.bl (slt p)) S := hs
  have z3 : 3 ≤ sizeLine := by decide
  have cu : cutD ((p :: qs).map D.str) (some 1) none = qs.map D.str := by
    unfold cutD HT.sIx
    simp
    exact List.take_of_length_le (by simp)
  have cm := comp_map (S := S) (all := qs.map D.str) (p := ptN 2) (e := mFn (ar 1 fn_law_right_name) (mCons (mVar 2) mNil)) (ρ := [some (.lst ((p :: qs).map D.str)), some (.bl true), none]) D.str (fun c => .bl (rn c)) qs 0 (fun x hx => ⟨_, rfl, by
    have := right_name_ok (S := S) (ht x (by simp [hx]))
    simp [this]⟩) (sz (by simp at hl; omega))
  have ea : allD [.lst (qs.map fun c => .bl (rn c))] S = .ok (.bl (qs.all rn)) S := all_bl _ _
  generalize hds : (p :: qs).map D.str = ds at *
  have ld : ds.length = (p :: qs).length := by rw [← hds]; simp
  by_cases c1 : (p :: qs).length ≤ 4
  · have c1' : ¬ (4 : Int) < (ds.length : Nat) := by rw [ld]; omega
    by_cases c2 : rn q = true
    · by_cases c3 : slt p = true
      · simp [c1', eL, n1, c2, eF, hs, c3, z3, cu, wipeD, cm, ea]
        simp only [rp, c1, gl, c2]
        simp [c3]
      · by_cases c4 : rn p = true
        · simp [c1', eL, n1, c2, eF, hs, c3, n2, c4, z3, cu, wipeD, cm, ea]
          simp only [rp, c1, gl, c2]
          simp [c4]
        · simp [c1', eL, n1, c2, eF, hs, c3, n2, c4, z3]
          simp only [rp, c1, gl, c2]
          simp [c3, c4]
    · simp [c1', eL, n1, c2]
      simp only [rp, gl, c2]
      simp
  · have c1' : (4 : Int) < (ds.length : Nat) := by rw [ld]; omega
    simp [c1']
    simp [rp, c1]
    intro q
    simp at c1
    omega
theorem is_path_ok {t : Str} {S : Store} (ht : t.length ≤ 900) : fn_is_path [.str t] S = .ok (.bl (rp (Txt.split t "."))) S := by
  unfold fn_is_path
  rw [run_eq]
  simp only [sem_is_path, startD]
  have h := split_ne t
  have hl : (Txt.split t ".").length ≤ 1000 := Nat.le_trans (PyProof.Rows.split_le t ".") (by omega)
  have hp : ∀ p ∈ Txt.split t ".", p.length ≤ 1000 := fun p hp => by have := split_len hp; omega
  have hsp : splitD (.str t) [.str "."] S = .ok (.lst ((Txt.split t ".").map D.str)) S := if_pos ⟨rfl, sz (by omega)⟩
  generalize Txt.split t "." = ps at *
  obtain ⟨p, qs, rfl⟩ := List.exists_cons_of_ne_nil h
  obtain ⟨rs, q, e⟩ : ∃ rs q, p :: qs = rs ++ [q] := ⟨_, _, (List.dropLast_concat_getLast h).symm⟩
  have eL : atI ((p :: qs).map D.str) (-1) = some (.str q) := by
    rw [e, List.map_append]
    exact atI_last _ _
  have eF : atI ((p :: qs).map D.str) 0 = some (.str p) := atI_0
  have gl : (p :: qs).getLastD "" = q := by rw [e]; simp
  have hq : q.length ≤ 1000 := hp q (by rw [e]; simp)
  have n1 := is_name_ok (S := S) hq
  have hs : inD (.str p) c_SLOT_NUMBERS S = .ok (.bl (slt p)) S := nrfl rfl
  have cu : cutD ((p :: qs).map D.str) (some 1) none = qs.map D.str := by
    unfold cutD HT.sIx
    simp
    exact List.take_of_length_le (by simp)
  have cm := fun all => comp_map (S := S) (all := all) (p := ptN 2) (e := mFn (ar 1 fn_is_name) (mCons (mVar 2) mNil)) (ρ := [some (.str t), some (.lst (qs.map D.str)), none]) D.str (fun c => .bl (rn c)) qs 0 (fun x hx => ⟨_, rfl, by
    have := is_name_ok (S := S) (hp x (by simp [hx]))
    simp [this]⟩) (sz (by simp at hl; omega))
  have cm2 := fun all => comp_map (S := S) (all := all) (p := ptN 2) (e := mFn (ar 1 fn_is_name) (mCons (mVar 2) mNil)) (ρ := [some (.str t), some (.lst ((p :: qs).map D.str)), none]) D.str (fun c => .bl (rn c)) (p :: qs) 0 (fun x hx => ⟨_, rfl, by
    have := is_name_ok (S := S) (hp x hx)
    simp [this]⟩) (sz (by simp at hl ⊢; omega))
  have ea : allD [.lst (qs.map fun c => .bl (rn c))] S = .ok (.bl (qs.all rn)) S := all_bl _ _
  have ea2 : allD [.lst ((p :: qs).map fun c => .bl (rn c))] S = .ok (.bl ((p :: qs).all rn)) S := all_bl _ _
  have mp : c_MOST_PIECES = .int 4 := rfl
  generalize hds : (p :: qs).map D.str = ds at *
  generalize hes : (p :: qs).map (fun c => D.bl (rn c)) = es at *
  have ld : ds.length = (p :: qs).length := by rw [← hds]; simp
  by_cases c1 : (p :: qs).length ≤ 4
  · have c1' : ¬ (4 : Int) < (ds.length : Nat) := by rw [ld]; omega
    by_cases c2 : rn q = true
    · by_cases c3 : slt p = true
      · simp [k_str, tyD, hsp, mp, c1', eL, n1, c2, eF, hs, c3, cu, wipeD, cm, ea]
        simp only [rp, c1, gl, c2]
        simp [c3]
      · simp [k_str, tyD, hsp, mp, c1', eL, n1, c2, eF, hs, c3, wipeD, cm2, ea2]
        simp only [rp, c1, gl, c2]
        simp [c3]
    · simp [k_str, tyD, hsp, mp, c1', eL, n1, c2]
      simp only [rp, gl, c2]
      simp
  · have c1' : (4 : Int) < (ds.length : Nat) := by rw [ld]; omega
    simp [k_str, tyD, hsp, mp, c1']
    simp [rp, c1]
    intro q
    simp at c1
    omega
end G
namespace G
open PySem L2
abbrev L36 : Str := "abcdefghijklmnopqrstuvwxyz0123456789"
theorem ix_str {t : Str} {r : Int} (h0 : 0 ≤ r) (h1 : r < t.length) : ∃ c, atI t.cps.toList r = some c := by
  obtain ⟨c, e, _⟩ := atI_lt (xs := t.cps.toList) h0 h1
  exact ⟨c, e⟩
theorem l36 : L36.length = 36 := by decide
theorem z36 : L36.length ≤ sizeLine := by decide
theorem len_app (x y : Str) : (x ++ y).length = x.length + y.length := by
  rw [len_cs, cs_app, List.length_append]
  rfl
theorem piece_ok {n : Nat} {S0 S : Store} (h : WAt n S0 S) : ∃ t S', fn_law_piece [.ref n] S = .ok (.str t) S' ∧ t.length ≤ 9 ∧ WAt n S0 S' := by
  obtain ⟨r, S1, e1, r0, r1, h1⟩ := draw_ok 26 h (by decide) (by decide +kernel)
  obtain ⟨c, ec⟩ := ix_str (t := L36) r0 (by rw [l36]; omega)
  obtain ⟨k, S2, e2, k0, k1, h2⟩ := draw_ok 8 h1 (by decide) (by decide +kernel)
  have rr : smR k = true := smR_int k0 (by omega)
  obtain ⟨ρ', S3, e3, t, o, rfl, lt, h3⟩ := for_cnt (all := (List.range k.toNat).map fun i => D.int (i : Nat)) (p := ptN 3) (b := sSet 2 (mOp addD (mVar 2) (mOp ixD (mVar 1) (mFn (ar 2 fn_law_draw) (mCons (mVar 0) (mCons (mC (.int 36)) mNil))))))
    8 (fun i ρ S => ∃ (t : Str) (o : Option D), ρ = [some (.ref n), some (.str L36), some (.str t), o] ∧ t.length = i + 1 ∧ WAt n S0 S) ((List.range k.toNat).map fun i => D.int (i : Nat)) 0 [some (.ref n), some (.str L36), some (oneD c), none] S2 (by simp; omega) (by
      rintro i hi d hd ρ S ⟨t, o, rfl, lt, hS⟩
      obtain ⟨q, S4, e4, q0, q1, h4⟩ := draw_ok 36 hS (by decide) (by decide +kernel)
      obtain ⟨c', ec'⟩ := ix_str (t := L36) q0 (by rw [l36]; omega)
      have l1 : (⟨#[c']⟩ : Str).length = 1 := rfl
      have hz : t.length + (⟨#[c']⟩ : Str).length ≤ sizeLine := sz (by rw [l1]; omega)
      refine ⟨_, _, S4, rfl, .inl ?_, t ++ ⟨#[c']⟩, some d, rfl, by rw [len_app, lt, l1], h4⟩
      simp [e4, ec', hz, z36]) ⟨_, _, rfl, rfl, h2⟩
  refine ⟨t, S3, ?_, by rw [lt]; simp; omega, h3⟩
  unfold fn_law_piece
  rw [run_eq]
  simp only [sem_law_piece, startD]
  simp [e1, ec, e2, rr, e3, z36]
def wrL : List Str := ["", "A", "a b", "1a", "abcdefghi", "4", "0", "a-b", "a_b", "\n", "a\t", " a", "and", "or", "not", "sure", "in", "is", "empty", "begins", "always", "never", "unsure"]
theorem str_of {l : List Str} {x : D} (h : x ∈ l.map D.str) : ∃ t ∈ l, x = .str t := by
  obtain ⟨t, ht, rfl⟩ := List.mem_map.mp h
  exact ⟨t, ht, rfl⟩
theorem wrong_ok {n : Nat} {S0 S : Store} (h : WAt n S0 S) : ∃ t S', fn_law_wrong_piece [.ref n] S = .ok (.str t) S' ∧ t.length ≤ 9 ∧ WAt n S0 S' := by
  obtain ⟨x, S1, e1, hx, h1⟩ := pick_ok (wrL.map D.str) h (by simp [wrL]) (by decide)
  obtain ⟨t, ht, rfl⟩ := str_of hx
  have q : ∀ t ∈ wrL, t.length ≤ 9 := by decide
  refine ⟨t, S1, ?_, q t ht, h1⟩
  unfold fn_law_wrong_piece
  rw [run_eq]
  simp only [sem_law_wrong_piece, startD]
  have z : 12 ≤ sizeLine := by decide
  have z2 : 23 ≤ sizeLine := by decide
  have e1 : fn_law_pick [.ref n, .lst ([.str "", .str "A", .str "a b", .str "1a", .str "abcdefghi", .str "4", .str "0", .str "a-b", .str "a_b", .str "\n", .str "a\t", .str " a"] ++ kptL.map D.str)] S = _ := e1
  have kl : kptL.length = 11 := rfl
  simp only [List.cons_append, List.nil_append] at e1
  simp [kept_ok, z, z2, kl, e1]
end G
namespace G
open PySem L2
theorem sp_same {S : Store} {n : Nat} {m : MO} (e : sg S n = some m) : S = sp S n m := by
  refine List.ext_getElem? fun i => ?_
  by_cases h : n = i
  · subst h
    exact e.trans (sg_sp (sg_lt e)).symm
  · exact (sg_ne h).symm
theorem wat_self {n : Nat} {S0 S : Store} (h : WAt n S0 S) : WAt n S S := by
  obtain ⟨m, hm, e⟩ := h.get
  exact ⟨sg_lt e, m, hm, sp_same e⟩
theorem wat_tr {n : Nat} {S0 S S' : Store} (h : WAt n S0 S) (g : WAt n S S') : WAt n S0 S' := by
  obtain ⟨_, m, hm, rfl⟩ := g
  exact h.put hm
/-- pieces, in a live list at k -/
structure Pcs (n : Nat) (S0 : Store) (k : Nat) (zs : List Str) (T : Store) : Prop where
  w : WAt n S0 (T.take S0.length)
  lk : S0.length ≤ k
  e : sg T k = some (.lst (zs.map D.str))
  ne : zs ≠ []
  l : zs.length ≤ 6
  z : ∀ z ∈ zs, z.length ≤ 9
theorem Pcs.self {n k : Nat} {S0 T : Store} {zs : List Str} (h : Pcs n S0 k zs T) : WAt n T T := by
  obtain ⟨m, hm, e⟩ := h.w.get
  have : sg T n = some m := take_some e
  exact ⟨sg_lt this, m, hm, sp_same this⟩
theorem Pcs.go {n k : Nat} {S0 T T' : Store} {zs : List Str} (h : Pcs n S0 k zs T) (g : WAt n T T') : Pcs n S0 k zs T' := by
  obtain ⟨_, m, hm, rfl⟩ := g
  have hn := h.w.lt
  refine ⟨?_, h.lk, ?_, h.ne, h.l, h.z⟩
  · rw [take_sp]
    exact h.w.put hm
  · rw [sg_ne (by have := h.lk; omega)]
    exact h.e
theorem strs_of : ∀ {ys : List D}, (∀ y ∈ ys, ∃ t : Str, y = .str t ∧ t.length ≤ 9) → ∃ zs : List Str, ys = zs.map D.str ∧ ∀ z ∈ zs, z.length ≤ 9
  | [], _ => ⟨[], rfl, fun _ h => nomatch h⟩
  | y :: ys, h => by
    obtain ⟨t, rfl, ht⟩ := h y (by simp)
    obtain ⟨zs, rfl, hz⟩ := strs_of (ys := ys) fun z hz => h z (by simp [hz])
    exact ⟨t :: zs, rfl, fun z h => by
      rcases List.mem_cons.mp h with rfl | h
      · exact ht
      · exact hz z h⟩
theorem len_at {S : Store} {k : Nat} {ds : List D} (h : sg S k = some (.lst ds)) : lenO S (.ref k) = some ds.length := l_ref h
theorem cut4 (ds : List D) : cutD ds none (some 4) = ds.take 4 := by
  unfold cutD HT.sIx
  simp
theorem ixN_lt {l : Nat} {r : Int} (h0 : 0 ≤ r) (h1 : r < l) : ixN l r = some r.toNat := by
  unfold ixN
  rw [if_pos h0, if_pos h1]
theorem map_set_str (zs : List Str) (i : Nat) (t : Str) : (zs.map D.str).set i (.str t) = (zs.set i t).map D.str := by rw [List.map_set]
theorem pieces_ok {n : Nat} {S0 S : Store} (h : WAt n S0 S) (hw : Wf S) : ∃ zs S', fn_law_pieces [.ref n] S = .ok (.lst (zs.map D.str)) S' ∧ zs ≠ [] ∧ zs.length ≤ 6 ∧ (∀ z ∈ zs, z.length ≤ 9) ∧ WAt n S0 S' := by
  obtain ⟨r, S1, e1, r0, r1, h1⟩ := draw_ok 5 (wat_self h) (by decide) (by decide +kernel)
  have rr : smR (1 + r) = true := smR_int (by omega) (by omega)
  obtain ⟨ys, S2, e2, l2, q2, h2⟩ := comp_each (all := (List.range (1 + r).toNat).map fun k => D.int (k : Nat)) (p := ptN 2) (e := mFn (ar 1 fn_law_piece) (mCons (mVar 0) mNil))
    (ρ := [some (.ref n), none, none]) (WAt n S) (fun y => ∃ t : Str, y = .str t ∧ t.length ≤ 9) ((List.range (1 + r).toNat).map fun k => D.int (k : Nat)) 0 S1 (fun d hd => ⟨_, rfl, fun S hS => by
      obtain ⟨t, S3, e3, lt, h3⟩ := piece_ok hS
      exact ⟨.str t, S3, by simp [e3], h3, t, rfl, lt⟩⟩) h1 (sz (by simp; omega))
  obtain ⟨zs, rfl, hz⟩ := strs_of q2
  have lz : zs.length = (1 + r).toNat := by simpa using l2
  have hne : zs ≠ [] := by intro q; rw [q] at lz; simp at lz; omega
  have lS : S2.length = S.length := h2.len
  have P0 : Pcs n S S2.length zs (S2 ++ [.lst (zs.map D.str)]) := by
    refine ⟨?_, by omega, ?_, hne, by omega, hz⟩
    · rw [← lS, List.take_left]
      exact h2
    · unfold sg
      simp
  obtain ⟨a, T1, f1, a0, a1, g1⟩ := draw_ok 3 P0.self (by decide) (by decide +kernel)
  have P1 := P0.go g1
  -- the second list
  obtain ⟨k2, zs2, T2, o2, P2, E2⟩ : ∃ k2 zs2 T2 o2, Pcs n S k2 zs2 T2 ∧ sIf (mTest (mOp eqD (mFn (ar 2 fn_law_draw) (mCons (mVar 0) (mCons (mC (.int 3)) mNil))) (mC (.int 0))))
      (sSet 1 (mOp addLv (mFn lstD (mCons (mFn (ar 2 fn_law_pick) (mCons (mVar 0) (mCons (mFn lstD (mCons (mC (.str "1")) (mCons (mC (.str "2")) (mCons (mC (.str "3")) mNil)))) mNil))) mNil)) (mSl slD (mVar 1) mNoPart (mPart (mC (.int 4)))))) sPass
      [some (.ref n), some (.ref S2.length), none] (S2 ++ [.lst (zs.map D.str)]) = .nx [some (.ref n), some (.ref k2), o2] T2 := by
    by_cases ca : a = 0
    · subst ca
      obtain ⟨x, T2, f2, hx, g2⟩ := pick_ok [.str "1", .str "2", .str "3"] P1.self (by simp) (by decide)
      have P2 := P1.go g2
      obtain ⟨t, ht, rfl⟩ := str_of (l := ["1", "2", "3"]) hx
      have lt : t.length ≤ 9 := (by decide : ∀ t ∈ (["1", "2", "3"] : List Str), t.length ≤ 9) t ht
      have z3 : 3 ≤ sizeLine := by decide
      have z1 : 1 ≤ sizeLine := by decide
      have z5 : 1 + min 4 zs.length ≤ sizeLine := sz (by omega)
      have lT : S.length ≤ T2.length := by
        have := sg_lt P2.e
        have := P2.lk
        omega
      refine ⟨T2.length, t :: zs.take 4, T2 ++ [.lst ((t :: zs.take 4).map D.str)], none, ⟨?_, lT, ?_, by simp, by simp; omega, ?_⟩, ?_⟩
      · rw [List.take_append_of_le_length lT]
        exact P2.w
      · unfold sg
        simp
      · intro z h
        rcases List.mem_cons.mp h with rfl | h
        · exact lt
        · exact hz z (List.mem_of_mem_take h)
      · simp [f1, f2, z3, z1, P2.e, cut4, z5, List.map_take]
    · refine ⟨S2.length, zs, T1, none, P1, ?_⟩
      have : ¬ (a = 0) := ca
      simp [f1, this]
  obtain ⟨b, T3, f3, b0, b1, g3⟩ := draw_ok 2 P2.self (by decide) (by decide +kernel)
  have P3 := P2.go g3
  obtain ⟨zs4, T4, o4, P4, E4⟩ : ∃ zs4 T4 o4, Pcs n S k2 zs4 T4 ∧ sIf (mTest (mOp eqD (mFn (ar 2 fn_law_draw) (mCons (mVar 0) (mCons (mC (.int 2)) mNil))) (mC (.int 0))))
      (sPut (mVar 1) (mFn (ar 2 fn_law_draw) (mCons (mVar 0) (mCons (mFn lenD (mCons (mVar 1) mNil)) mNil))) (mFn (ar 2 fn_law_pick) (mCons (mVar 0) (mCons (mFn lstD (mCons (mFn (ar 1 fn_law_wrong_piece) (mCons (mVar 0) mNil)) (mCons (mC (.str "1")) (mCons (mC (.str "2")) (mCons (mFn (ar 1 fn_law_piece) (mCons (mVar 0) mNil)) mNil))))) mNil)))) sPass
      [some (.ref n), some (.ref k2), o2] T2 = .nx [some (.ref n), some (.ref k2), o4] T4 := by
    by_cases cb : b = 0
    · subst cb
      obtain ⟨t1, T4, f4, lt1, g4⟩ := wrong_ok P3.self
      have P4 := P3.go g4
      obtain ⟨t2, T5, f5, lt2, g5⟩ := piece_ok P4.self
      have P5 := P4.go g5
      obtain ⟨x, T6, f6, hx, g6⟩ := pick_ok [.str t1, .str "1", .str "2", .str t2] P5.self (by simp) (by simp)
      have P6 := P5.go g6
      obtain ⟨t, ht, rfl⟩ := str_of (l := [t1, "1", "2", t2]) hx
      have lt : t.length ≤ 9 := by
        simp only [List.mem_cons, List.not_mem_nil, or_false] at ht
        rcases ht with rfl | rfl | rfl | rfl
        · exact lt1
        · decide
        · decide
        · exact lt2
      obtain ⟨i, T7, f7, i0, i1, g7⟩ := draw_ok ((zs2.length : Nat) : Int) P6.self (by
        have := List.length_pos_iff.mpr P6.ne
        omega) (by
        have q : ∀ n : Nat, n ≤ 6 → n.log2 < 9000 := by decide +kernel
        exact q _ P6.l)
      have P7 := P6.go g7
      have z4 : 4 ≤ sizeLine := by decide
      refine ⟨zs2.set i.toNat t, sp T7 k2 (.lst ((zs2.set i.toNat t).map D.str)), o2, ⟨?_, P7.lk, sg_sp (sg_lt P7.e), ?_, by simpa using P7.l, ?_⟩, ?_⟩
      · rw [take_sp_ge P7.lk]
        exact P7.w
      · intro q
        apply P7.ne
        have := congrArg List.length q
        simpa using this
      · intro z h
        rcases List.mem_or_eq_of_mem_set h with h | rfl
        · exact P7.z z h
        · exact lt
      · have ix : ixN (zs2.map D.str).length i = some i.toNat := ixN_lt i0 (by simpa using i1)
        simp [f3, f4, f5, z4, f6, len_at P6.e, f7, P7.e, rP_some ix]
    · refine ⟨zs2, T3, o2, P3, ?_⟩
      have : ¬ (b = 0) := cb
      simp [f3, this]
  refine ⟨zs4, (sp T4 k2 .dead).take S.length, ?_, P4.ne, P4.l, P4.z, ?_⟩
  · unfold fn_law_pieces
    refine cln_ok (d := .ref k2) (S' := T4) ?_ (topF_ref P4.lk P4.e) ?_ ?_
    · rw [run_eq]
      simp only [sem_law_pieces, startD]
      simp [-x_if, e1, rr, wipeD, e2, E2, E4]
    · exact bel_strs _
    · rw [take_sp_ge P4.lk]
      obtain ⟨_, m, ⟨a, b, c, rfl⟩, e⟩ := P4.w
      rw [e]
      have := hw.sp (n := n) (m := .lst [.int a, .int b, .int c]) rfl
      unfold Wf at this
      rw [sp_len] at this
      exact this
  · rw [take_sp_ge P4.lk]
    exact wat_tr h P4.w
end G
namespace G
open PySem L2
theorem joinL_len (sep : List Nat) : ∀ ls : List (List Nat), (∀ l ∈ ls, l.length ≤ 9) → (TL.joinL sep ls).length ≤ ls.length * (9 + sep.length)
  | [], _ => by simp [TL.joinL]
  | [l], h => by
    have := h l (by simp)
    simp [TL.joinL]
    omega
  | l :: m :: ls, h => by
    have ih := joinL_len sep (m :: ls) fun x hx => h x (by simp [hx])
    have := h l (by simp)
    simp only [TL.joinL, List.length_append]
    rw [List.length_cons (a := l), Nat.add_one_mul]
    omega
theorem join_len {zs : List Str} (h : ∀ z ∈ zs, z.length ≤ 9) (hl : zs.length ≤ 6) : (Txt.join "." zs).length ≤ 900 := by
  have e : cs (Txt.join "." zs) = TL.joinL (TL.tl ".") (zs.map TL.tl) := by
    rw [TL.join_eq]
    exact TL.tl_join _ _
  rw [len_cs, e]
  have := joinL_len (TL.tl ".") (zs.map TL.tl) fun l hl => by
    obtain ⟨z, hz, rfl⟩ := List.mem_map.mp hl
    exact h z hz
  have q : (TL.tl ".").length = 1 := by decide
  rw [q, List.length_map] at this
  omega
theorem sts_map : ∀ zs : List Str, stsO (zs.map D.str) = some zs
  | [] => rfl
  | z :: zs => by
    rw [List.map_cons]
    unfold stsO
    rw [sts_map zs]
    rfl
theorem sum_len : ∀ {zs : List Str}, (∀ z ∈ zs, z.length ≤ 9) → (zs.map (·.length)).sum ≤ zs.length * 9
  | [], _ => by simp
  | z :: zs, h => by
    have := sum_len (zs := zs) fun x hx => h x (by simp [hx])
    have := h z (by simp)
    rw [List.map_cons, List.sum_cons, List.length_cons, Nat.add_one_mul]
    omega
theorem join_map {zs : List Str} {sep : Str} {S : Store} (bd : (zs.map (·.length)).sum + zs.length * sep.length ≤ 16777216) : joinD (.str sep) [.lst (zs.map D.str)] S = .ok (.str (Txt.join sep zs)) S := by
  unfold joinD
  simp only [sqOf, lsOf, Option.bind_some, sts_map]
  exact if_pos bd
theorem law_is_ok {a : Bool} {S : Store} : fn_law_is [.bl a, .bl a] S = .ok (.bl true) S := by
  unfold fn_law_is
  rw [run_eq]
  simp only [sem_law_is, startD]
  simp [k_bool]
theorem split_ok {t : Str} {S : Store} (ht : t.length ≤ 900) : splitD (.str t) [.str "."] S = .ok (.lst ((Txt.split t ".").map D.str)) S := if_pos ⟨rfl, sz (by omega)⟩
theorem split_path {t : Str} {S : Store} (ht : t.length ≤ 900) : fn_law_right_path [.lst ((Txt.split t ".").map D.str)] S = .ok (.bl (rp (Txt.split t "."))) S :=
  right_path_ok (Nat.le_trans (PyProof.Rows.split_le t ".") (by omega)) (split_ne t) fun p hp => by have := split_len hp; omega
theorem names_ok {n : Nat} {S0 S : Store} (h : WAt n S0 S) (hw : Wf S0) : ∃ S', fn_law_names_right [.ref n] S = .ok (.bl true) S' ∧ WAt n S0 S' := by
  obtain ⟨t1, S1, e1, l1, h1⟩ := piece_ok h
  obtain ⟨t2, S2, e2, l2, h2⟩ := wrong_ok h1
  obtain ⟨x, S3, e3, hx, h3⟩ := pick_ok (kptL.map D.str) h2 (by simp [kptL]) (by decide)
  obtain ⟨t3, ht3, rfl⟩ := str_of hx
  have l3 : t3.length ≤ 9 := (by decide : ∀ t ∈ kptL, t.length ≤ 9) t3 ht3
  have z1 : ("1" : Str).length = 1 := rfl
  have l4 : (t3 ++ "1").length ≤ 10 := by rw [len_app, z1]; omega
  have za : t3.length + ("1" : Str).length ≤ sizeLine := sz (by rw [z1]; omega)
  have z3 : 3 ≤ sizeLine := by decide
  have z4 : smR 3 = true := by decide
  obtain ⟨ρ1, f1, o1, rfl⟩ := for_all (S := S3) (it := ⟨[.str t1, .str t2, .str (t3 ++ "1")], none⟩) (p := ptN 1) (b := sSeq (sIf (mNot (mTru (mFn (ar 2 fn_law_is) (mCons (mFn (ar 1 fn_is_name) (mCons (mVar 1) mNil)) (mCons (mFn (ar 1 fn_law_right_name) (mCons (mVar 1) mNil)) mNil)))))
      (sRet (mC (.bl false))) sPass)
      (sIf (mNot (mTru (mFn (ar 2 fn_law_is) (mCons (mFn (ar 1 fn_is_path) (mCons (mVar 1) mNil)) (mCons (mFn (ar 1 fn_law_right_path) (mCons (mMt "str" splitD (mVar 1) (mCons (mC (.str ".")) mNil)) mNil)) mNil)))))
      (sRet (mC (.bl false))) sPass)) trivial (fun ρ => ∃ o, ρ = [some (.ref n), o, none, none]) [.str t1, .str t2, .str (t3 ++ "1")] [some (.ref n), none, none, none] (by
      rintro d hd ρ ⟨o, rfl⟩
      obtain ⟨t, rfl, lt⟩ : ∃ t : Str, d = .str t ∧ t.length ≤ 10 := by
        simp only [List.mem_cons, List.not_mem_nil, or_false] at hd
        rcases hd with rfl | rfl | rfl
        · exact ⟨_, rfl, by omega⟩
        · exact ⟨_, rfl, by omega⟩
        · exact ⟨_, rfl, l4⟩
      refine ⟨_, _, rfl, .inl ?_, some (.str t), rfl⟩
      simp [is_name_ok (show t.length ≤ 1000 by omega), right_name_ok (show t.length ≤ 1000 by omega), law_is_ok, is_path_ok (show t.length ≤ 900 by omega), tyD, split_ok (show t.length ≤ 900 by omega), split_path (show t.length ≤ 900 by omega)]) ⟨none, rfl⟩
  obtain ⟨ρ2, S4, f2, ⟨o2, o3, o4, rfl⟩, h4⟩ := for_inv (all := (List.range 3).map fun i => D.int (i : Nat)) (p := ptN 2) (b := sSeq (sSet 3 (mFn (ar 1 fn_law_pieces) (mCons (mVar 0) mNil)))
      (sIf (mNot (mTru (mFn (ar 2 fn_law_is) (mCons (mFn (ar 1 fn_is_path) (mCons (mMt "str" joinD (mC (.str ".")) (mCons (mVar 3) mNil)) mNil)) (mCons (mFn (ar 1 fn_law_right_path) (mCons (mMt "str" splitD (mMt "str" joinD (mC (.str ".")) (mCons (mVar 3) mNil)) (mCons (mC (.str ".")) mNil)) mNil)) mNil)))))
      (sRet (mC (.bl false))) sPass)) (fun ρ S => (∃ o o2 o3, ρ = [some (.ref n), o, o2, o3]) ∧ WAt n S0 S) ((List.range 3).map fun i => D.int (i : Nat)) [some (.ref n), o1, none, none] S3 (by
      rintro d hd ρ S ⟨⟨o, o2, o3, rfl⟩, hS⟩
      have hwS : Wf S := by
        obtain ⟨_, m, ⟨a, b, c, rfl⟩, rfl⟩ := hS
        exact hw.sp rfl
      obtain ⟨zs, S4, e4, ne, lz, hz, h4⟩ := pieces_ok hS hwS
      have lj := join_len hz lz
      have sm := sum_len hz
      have z1 : ("." : Str).length = 1 := rfl
      have bd : (zs.map (·.length)).sum + zs.length * ("." : Str).length ≤ 16777216 := by rw [z1]; omega
      have ej : joinD (.str ".") [.lst (zs.map D.str)] S4 = .ok (.str (Txt.join "." zs)) S4 := join_map bd
      refine ⟨_, _, S4, rfl, .inl ?_, ⟨o, some d, some (.lst (zs.map D.str)), rfl⟩, h4⟩
      simp [e4, tyD, ej, is_path_ok lj, split_ok lj, split_path lj, law_is_ok]) ⟨⟨_, _, _, rfl⟩, h3⟩
  refine ⟨S4, ?_, h4⟩
  unfold fn_law_names_right
  rw [run_eq]
  simp only [sem_law_names_right, startD]
  simp [e1, e2, e3, kept_ok, za, z3, z4, f1, f2]
end G
namespace G
open PySem L2
inductive Plc : Bool → D → Prop
  | non (k : Bool) : Plc k .non
  | int (i : Int) : Plc true (.int i)
  | str (t : Str) : Plc false (.str t)
theorem ahead_ok {k : Bool} {x y : D} (hx : Plc k x) (hy : Plc k y) : ∃ b, (∀ S, fn_is_ahead [x, y] S = .ok (.bl b) S) ∧ ∀ S, fn_law_ahead [x, y] S = .ok (.bl b) S := by
  have key : ∀ b, ((∀ S, rB (sem_is_ahead [some x, some y] S) = .ok (.bl b) S) ∧ ∀ S, rB (sem_law_ahead [some x, some y] S) = .ok (.bl b) S) → ∃ b, (∀ S, fn_is_ahead [x, y] S = .ok (.bl b) S) ∧ ∀ S, fn_law_ahead [x, y] S = .ok (.bl b) S := fun b h => ⟨b, fun S => by
    unfold fn_is_ahead
    rw [run_eq]
    exact h.1 S, fun S => by
    unfold fn_law_ahead
    rw [run_eq]
    exact h.2 S⟩
  cases hx with
  | non =>
    cases hy with
    | non => exact key false ⟨fun S => by simp [sem_is_ahead], fun S => by simp [sem_law_ahead]⟩
    | int j => exact key true ⟨fun S => by simp [sem_is_ahead], fun S => by simp [sem_law_ahead]⟩
    | str j => exact key true ⟨fun S => by simp [sem_is_ahead], fun S => by simp [sem_law_ahead]⟩
  | int i =>
    cases hy with
    | non => exact key false ⟨fun S => by simp [sem_is_ahead], fun S => by simp [sem_law_ahead]⟩
    | int j => exact key (decide (i < j)) ⟨fun S => by simp [sem_is_ahead], fun S => by simp [sem_law_ahead]⟩
  | str i =>
    cases hy with
    | non => exact key false ⟨fun S => by simp [sem_is_ahead], fun S => by simp [sem_law_ahead]⟩
    | str j => exact key (decide (i.cps.toList < j.cps.toList)) ⟨fun S => by simp [sem_is_ahead], fun S => by simp [sem_law_ahead]⟩
/-- the well at n, and new objects behind S0 -/
structure Jk (n : Nat) (S0 S : Store) : Prop where
  w : WAt n S0 (S.take S0.length)
  l : S0.length ≤ S.length
theorem Jk.self {n : Nat} {S0 T : Store} (h : Jk n S0 T) : WAt n T T := by
  obtain ⟨m, hm, e⟩ := h.w.get
  have : sg T n = some m := take_some e
  exact ⟨sg_lt this, m, hm, sp_same this⟩
theorem Jk.go {n : Nat} {S0 T T' : Store} (h : Jk n S0 T) (g : WAt n T T') : Jk n S0 T' := by
  have hl := g.len
  obtain ⟨_, m, hm, rfl⟩ := g
  refine ⟨?_, by rw [hl]; exact h.l⟩
  rw [take_sp]
  exact h.w.put hm
theorem Jk.put {n k : Nat} {S0 T : Store} {m : MO} (h : Jk n S0 T) (hk : S0.length ≤ k) : Jk n S0 (sp T k m) := ⟨by rw [take_sp_ge hk]; exact h.w, by rw [sp_len]; exact h.l⟩
theorem Jk.app {n : Nat} {S0 T : Store} {m : MO} (h : Jk n S0 T) : Jk n S0 (T ++ [m]) := ⟨by rw [List.take_append_of_le_length h.l]; exact h.w, by have := h.l; simp; omega⟩
noncomputable abbrev plB : MS := sSeq (sSet 6 (mFn (ar 2 fn_is_ahead) (mCons (mVar 4) (mCons (mVar 5) mNil))))
  (sIf (mOr (mNot (mTru (mUn (isiD k_bool) (mVar 6)))) (mTest (mOp neD (mVar 6) (mFn (ar 2 fn_law_ahead) (mCons (mVar 4) (mCons (mVar 5) mNil))))))
  (sRet (mC (.bl false)))
  sPass)
theorem places_ok {n : Nat} {S0 S : Store} (h : WAt n S0 S) (hw : Wf S0) : ∃ S', fn_law_places_right [.ref n] S = .ok (.bl true) S' ∧ WAt n S0 S' := by
  have hwS : Wf S := by
    obtain ⟨_, m, ⟨a, b, c, rfl⟩, rfl⟩ := h
    exact hw.sp rfl
  have z1 : 1 ≤ sizeLine := by decide
  have z2 : 2 ≤ sizeLine := by decide
  have z4 : smR 4 = true := by decide
  have pw : (10 : Int) ^ (30 : Nat) = 1000000000000000000000000000000 := by decide
  have n10 : Int.natAbs 10 < 18446744073709551616 := by decide
  have J0 : Jk n S S := ⟨by rw [List.take_length]; exact wat_self h, Nat.le_refl _⟩
  obtain ⟨ρ1, S1, f1, J1, _⟩ := for_inv (all := [.str "number", .str "text"]) (p := ptN 1) (b := (sSeq (sSet 2 (mFn lstL (mCons (mC .non) mNil)))
    (sSeq (sFor (mRng rng1 (mCons (mC (.int 4)) mNil)) (ptN 3)
    (sExpr (mMt "list" appD (mVar 2) (mCons (mIte (mTest (mOp eqD (mVar 1) (mC (.str "number")))) (mOp subD (mFn (ar 2 fn_law_draw) (mCons (mVar 0) (mCons (mOp powD (mC (.int 10)) (mC (.int 30))) mNil))) (mFn (ar 2 fn_law_draw) (mCons (mVar 0) (mCons (mC (.int 5)) mNil)))) (mFn (ar 2 fn_law_any_text) (mCons (mVar 0) (mCons (mC (.int 3)) mNil)))) mNil))))
    (sFor (mIt (mVar 2)) (ptN 4)
    (sFor (mIt (mVar 2)) (ptN 5) plB)))))
    (fun ρ T => Jk n S T ∧ ∃ o1 o2 o3 o4 o5 o6, ρ = [some (.ref n), o1, o2, o3, o4, o5, o6]) [.str "number", .str "text"] [some (.ref n), none, none, none, none, none, none] S (by
    rintro d hd ρ T ⟨J, o1, o2, o3, o4, o5, o6, rfl⟩
    obtain ⟨k, ek⟩ : ∃ k : Bool, d = .str (if k = true then "number" else "text") := by
      simp only [List.mem_cons, List.not_mem_nil, or_false] at hd
      rcases hd with rfl | rfl
      · exact ⟨true, rfl⟩
      · exact ⟨false, rfl⟩
    -- the four
    obtain ⟨ρ2, T2, g2, xs, o3', rfl, J2, hk2, e2, hx, lx⟩ := for_cnt (all := (List.range 4).map fun i => D.int (i : Nat)) (p := ptN 3) (b := sExpr (mMt "list" appD (mVar 2) (mCons (mIte (mTest (mOp eqD (mVar 1) (mC (.str "number")))) (mOp subD (mFn (ar 2 fn_law_draw) (mCons (mVar 0) (mCons (mOp powD (mC (.int 10)) (mC (.int 30))) mNil))) (mFn (ar 2 fn_law_draw) (mCons (mVar 0) (mCons (mC (.int 5)) mNil)))) (mFn (ar 2 fn_law_any_text) (mCons (mVar 0) (mCons (mC (.int 3)) mNil)))) mNil)))
      4 (fun i ρ T' => ∃ xs o3, ρ = [some (.ref n), some d, some (.ref T.length), o3, o4, o5, o6] ∧ Jk n S T' ∧ S.length ≤ T.length ∧ sg T' T.length = some (.lst xs) ∧ (∀ x ∈ xs, Plc k x) ∧ xs.length = i + 1)
      ((List.range 4).map fun i => D.int (i : Nat)) 0 [some (.ref n), some d, some (.ref T.length), o3, o4, o5, o6] (T ++ [.lst [.non]]) (by simp) (by
        rintro i hi e he ρ T' ⟨xs, o3, rfl, J', hk, ex, hx, lx⟩
        have zx : xs.length < sizeLine := szl (by omega)
        obtain ⟨y, T3, ey, hy, g3⟩ : ∃ y T3, (mIte (mTest (mOp eqD (mVar 1) (mC (.str "number")))) (mOp subD (mFn (ar 2 fn_law_draw) (mCons (mVar 0) (mCons (mOp powD (mC (.int 10)) (mC (.int 30))) mNil))) (mFn (ar 2 fn_law_draw) (mCons (mVar 0) (mCons (mC (.int 5)) mNil)))) (mFn (ar 2 fn_law_any_text) (mCons (mVar 0) (mCons (mC (.int 3)) mNil)))) [some (.ref n), some d, some (.ref T.length), some e, o4, o5, o6] T' = .ok y T3 ∧ Plc k y ∧ WAt n T' T3 := by
          cases k with
          | true =>
            obtain ⟨a, T4, f4, _, _, g4⟩ := draw_ok 1000000000000000000000000000000 J'.self (by decide) (by decide +kernel)
            obtain ⟨b, T5, f5, _, _, g5⟩ := draw_ok 5 g4 (by decide) (by decide +kernel)
            refine ⟨.int (a - b), T5, ?_, .int _, g5⟩
            rw [ek]
            simp [pw, n10, f4, f5]
          | false =>
            obtain ⟨t, T4, f4, _, _, g4⟩ := any_text_ok 3 J'.self (by decide) (by decide)
            refine ⟨.str t, T4, ?_, .str _, g4⟩
            rw [ek]
            have : ¬ (("text" : Str) = "number") := by decide
            simp [this, f4]
        have J3 := J'.go g3
        have ex3 : sg T3 T.length = some (.lst xs) := by
          obtain ⟨_, m, _, rfl⟩ := g3
          rw [sg_ne (by have := J.l; have := J.w.lt; omega)]
          exact ex
        refine ⟨_, _, sp T3 T.length (.lst (xs ++ [y])), rfl, .inl ?_, xs ++ [y], some e, rfl, J3.put hk, hk, sg_sp (sg_lt ex3), ?_, by simp [lx]⟩
        · simp [-e_ite, tyO, ex, ey, ex3, zx]
        · intro z hz
          rcases List.mem_append.mp hz with hz | hz
          · exact hx z hz
          · rw [List.mem_singleton.mp hz]
            exact hy) ⟨[.non], o3, rfl, J.app, J.l, by unfold sg; simp, fun x hx => by rw [List.mem_singleton.mp hx]; exact .non k, rfl⟩
    have gd : Grd ⟨xs, some T.length⟩ T2 := e2
    obtain ⟨ρ3, g3, o4', o5', o6', rfl⟩ := for_all gd (p := ptN 4) (b := sFor (mIt (mVar 2)) (ptN 5) plB) (fun ρ => ∃ o4 o5 o6, ρ = [some (.ref n), some d, some (.ref T.length), o3', o4, o5, o6]) xs [some (.ref n), some d, some (.ref T.length), o3', o4, o5, o6] (by
      rintro x hxx ρ ⟨p4, p5, p6, rfl⟩
      obtain ⟨ρ4, g4, o5', o6', rfl⟩ := for_all gd (p := ptN 5) (b := plB) (fun ρ => ∃ o5 o6, ρ = [some (.ref n), some d, some (.ref T.length), o3', some x, o5, o6]) xs [some (.ref n), some d, some (.ref T.length), o3', some x, p5, p6] (by
        rintro y hyy ρ ⟨q5, q6, rfl⟩
        obtain ⟨b, hb1, hb2⟩ := ahead_ok (hx x hxx) (hx y hyy)
        refine ⟨_, _, rfl, .inl ?_, some y, some (.bl b), rfl⟩
        simp [hb1, hb2, k_bool]) ⟨_, _, rfl⟩
      refine ⟨_, _, rfl, .inl ?_, some x, o5', o6', rfl⟩
      simp only [x_for]
      simp [-x_seq, e2, g4]) ⟨_, _, _, rfl⟩
    refine ⟨_, _, T2, rfl, .inl ?_, J2, some d, some (.ref T.length), o3', o4', o5', o6', rfl⟩
    simp [z1, z4, g2, e2, g3]) ⟨J0, _, _, _, _, _, _, rfl⟩
  refine ⟨S1.take S.length, ?_, wat_tr h J1.w⟩
  unfold fn_law_places_right
  refine cln_ok (d := .bl true) (S' := S1) ?_ rfl rfl ?_
  · rw [run_eq]
    simp only [sem_law_places_right, startD]
    simp [z2, f1]
  · obtain ⟨_, m, ⟨a, b, c, rfl⟩, e⟩ := J1.w
    rw [e]
    have := hwS.sp (n := n) (m := .lst [.int a, .int b, .int c]) rfl
    unfold Wf at this
    rw [sp_len] at this
    exact this
end G
namespace G
open PySem L2
/-! plain facts of lists of signs -/
theorem no_between : ∀ {xs ys : List Nat}, (∀ c ∈ ys, 32 ≤ c) → xs < ys → ¬ ys < xs ++ [32]
  | [], [], _, h => absurd h (List.not_lt_nil _)
  | [], y :: ys, hy, _ => by
    rw [List.nil_append, List.cons_lt_cons_iff]
    rintro (h | ⟨_, h⟩)
    · have := hy y (by simp); omega
    · exact List.not_lt_nil _ h
  | x :: xs, [], _, h => absurd h (List.not_lt_nil _)
  | x :: xs, y :: ys, hy, h => by
    rw [List.cons_lt_cons_iff] at h
    rw [List.cons_append, List.cons_lt_cons_iff]
    rcases h with h | ⟨rfl, h⟩
    · rintro (h' | ⟨h', _⟩) <;> omega
    · rintro (h' | ⟨_, h'⟩)
      · omega
      · exact no_between (fun c hc => hy c (by simp [hc])) h h'
theorem pre_none : ∀ (k : Nat) (ys : List Nat), (∀ c ∈ ys, c ≤ 126) → (¬ ys < List.replicate k 126 ↔ ys.take k = List.replicate k 126)
  | 0, ys, _ => by simp
  | k + 1, [], _ => by simp [List.replicate_succ]
  | k + 1, y :: ys, h => by
    have ih := pre_none k ys fun c hc => h c (by simp [hc])
    have := h y (by simp)
    rw [List.replicate_succ, List.cons_lt_cons_iff, List.take_succ_cons, List.cons.injEq]
    constructor
    · intro q
      have e : y = 126 := by
        by_cases e : y = 126
        · exact e
        · exact absurd (.inl (by omega)) q
      exact ⟨e, ih.mp fun r => q (.inr ⟨e, r⟩)⟩
    · rintro ⟨e, r⟩ (q | ⟨_, q⟩)
      · omega
      · exact ih.mpr r q
theorem pre_some (c d k : Nat) (hcd : c < d) : ∀ (p ys : List Nat), (∀ x ∈ ys, x ≤ 126 ∧ (x < d → x ≤ c)) →
    ((¬ ys < p ++ c :: List.replicate k 126) ∧ ys < p ++ [d] ↔ ys.take (p.length + 1 + k) = p ++ c :: List.replicate k 126)
  | [], [], _ => by simp
  | [], y :: ys, h => by
    have hp := pre_none k ys fun c hc => (h c (by simp [hc])).1
    have hy := (h y (by simp)).2
    have e0 : ([] : List Nat).length + 1 + k = k + 1 := by simp; omega
    rw [e0, List.nil_append, List.nil_append, List.cons_lt_cons_iff, List.cons_lt_cons_iff, List.take_succ_cons, List.cons.injEq]
    constructor
    · rintro ⟨q, r⟩
      have r : y < d := by
        rcases r with r | ⟨_, r⟩
        · exact r
        · exact absurd r (List.not_lt_nil _)
      have e : y = c := by
        by_cases e : y = c
        · exact e
        · have := hy r
          exact absurd (.inl (by omega)) q
      exact ⟨e, hp.mp fun s => q (.inr ⟨e, s⟩)⟩
    · rintro ⟨rfl, r⟩
      refine ⟨?_, .inl hcd⟩
      rintro (q | ⟨_, q⟩)
      · omega
      · exact hp.mpr r q
  | a :: p, [], _ => by simp
  | a :: p, y :: ys, h => by
    have ih := pre_some c d k hcd p ys fun x hx => h x (by simp [hx])
    have e0 : (a :: p).length + 1 + k = (p.length + 1 + k) + 1 := by simp; omega
    rw [e0, List.cons_append, List.cons_append, List.cons_lt_cons_iff, List.cons_lt_cons_iff, List.take_succ_cons, List.cons.injEq]
    constructor
    · rintro ⟨q, r⟩
      have e : y = a := by
        rcases r with r | ⟨r, _⟩
        · exact absurd (.inl r) q
        · exact r
      refine ⟨e, ih.mp ⟨fun s => q (.inr ⟨e, s⟩), ?_⟩⟩
      rcases r with r | ⟨_, r⟩
      · omega
      · exact r
    · rintro ⟨rfl, r⟩
      obtain ⟨s, t⟩ := ih.mpr r
      refine ⟨?_, .inr ⟨rfl, t⟩⟩
      rintro (q | ⟨_, q⟩)
      · omega
      · exact s q
/-- where a text ends, without its last ~ -/
def en (l : List Nat) : Nat → Nat
  | 0 => 0
  | k + 1 => if l[k]? = some 126 then en l k else k + 1
theorem en_split (l : List Nat) : ∀ k, k ≤ l.length → (en l k = 0 ∧ l.take k = List.replicate k 126) ∨
    ∃ j c, en l k = j + 1 ∧ j < k ∧ l[j]? = some c ∧ c ≠ 126 ∧ l.take k = l.take j ++ c :: List.replicate (k - j - 1) 126
  | 0, _ => .inl ⟨rfl, rfl⟩
  | k + 1, hk => by
    have ek : l[k]? = some (l[k]'(by omega)) := List.getElem?_eq_getElem (by omega)
    unfold en
    by_cases e : l[k]? = some 126
    · rw [if_pos e]
      rcases en_split l k (by omega) with ⟨h1, h2⟩ | ⟨j, c, h1, h2, h3, h4, h5⟩
      · refine .inl ⟨h1, ?_⟩
        rw [List.take_succ, h2, e, List.replicate_succ']
        rfl
      · refine .inr ⟨j, c, h1, by omega, h3, h4, ?_⟩
        rw [List.take_succ, h5, e]
        have e2 : k + 1 - j - 1 = (k - j - 1) + 1 := by omega
        rw [e2, List.replicate_succ']
        simp
    · rw [if_neg e]
      refine .inr ⟨k, l[k]'(by omega), rfl, by omega, ek, fun q => e (by rw [ek, q]), ?_⟩
      rw [List.take_succ, ek]
      have : k + 1 - k - 1 = 0 := by omega
      rw [this]
      rfl
abbrev CH : Str := " !\"#$&'()*+,-./0123456789:;<=>?@ABCDEFGHIJKLMNOPQRSTUVWXYZ[\\]^_`abcdefghijklmnopqrstuvwxyz{|}~"
def occ (c : Nat) : List Nat := Builtin.Str.occurrences CH ⟨#[c]⟩ 0 CH.length 1
def idxC (c : Nat) : Nat := (occ c).headD 0
def nxC (c : Nat) : Nat := (cs CH).getD (idxC c + 1) 0
theorem occ_ok : ∀ c ∈ cs CH, occ c = [idxC c] ∧ (c ≠ 126 → idxC c + 1 < 94) := by decide +kernel
theorem ch_len : CH.length = 94 := by decide +kernel
theorem sig_ok : ∀ c ∈ cs sig, c ∈ cs CH ∧ 32 ≤ c ∧ c ≤ 126 ∧ (c ≠ 126 → c < nxC c ∧ ∀ d ∈ cs sig, d < nxC c → d ≤ c) := by decide +kernel
end G
namespace G
open PySem L2
def upD (t : Str) : D := match en (cs t) (cs t).length with
  | 0 => .non
  | j + 1 => .str (ofC ((cs t).take j ++ [nxC ((cs t).getD j 0)]))
def ChOk (t : Str) : Prop := ∀ c ∈ cs t, c ∈ cs CH
theorem SgOk.ch {t : Str} (h : SgOk t) : ChOk t := fun c hc => (sig_ok c (h c hc)).1
theorem at_cs {t : Str} {k : Nat} {c : Nat} (h : (cs t)[k]? = some c) : atI t.cps.toList (k : Int) = some c := atI_nat h
theorem one_eq {c d : Nat} : ((⟨#[c]⟩ : Str) = ⟨#[d]⟩) ↔ c = d := by
  constructor
  · intro h
    injection h with h
    simpa using h
  · rintro rfl; rfl
theorem tilde : ("~" : Str) = ⟨#[126]⟩ := by decide
theorem up_while {t : Str} {S : Store} (hz : t.length ≤ sizeLine) : ∀ (k f : Nat), k ≤ (cs t).length → k < f →
    whileF (mAnd (mTest (mOp gtD (mVar 1) (mC (.int 0)))) (mTest (mOp eqD (mOp ixD (mVar 0) (mOp subD (mVar 1) (mC (.int 1)))) (mC (.str "~"))))) (sAug 1 subD (mC (.int 1))) f [some (.str t), some (.int k), none] S
      = .nx [some (.str t), some (.int (en (cs t) k : Nat)), none] S
  | 0, f + 1, _, _ => by
    rw [x_wh]
    simp [en]
  | k + 1, f + 1, h, hf => by
    obtain ⟨c, ec⟩ : ∃ c, (cs t)[k]? = some c := ⟨_, List.getElem?_eq_getElem (by omega)⟩
    have ih := up_while (S := S) hz k f (by omega) (by omega)
    have e1 : ((k + 1 : Nat) : Int) - 1 = (k : Nat) := by omega
    have p1 : (0 : Int) < ((k + 1 : Nat) : Int) := by omega
    have ea := at_cs ec
    rw [x_wh]
    by_cases h1 : c = 126
    · subst h1
      have e2 : en (cs t) (k + 1) = en (cs t) k := by
        rw [en, if_pos ec]
      rw [e2, ← ih]
      simp only [tilde]
      simp [p1, e1, hz, ea, -Int.natCast_add, -Int.natCast_succ]
      done
    · have e2 : en (cs t) (k + 1) = k + 1 := by
        rw [en, if_neg (by rw [ec]; intro q; exact h1 (Option.some.inj q))]
      rw [e2]
      simp only [tilde]
      simp [p1, e1, hz, ea, h1, -Int.natCast_add, -Int.natCast_succ]
      done

theorem cutS_to {z : Str} {k : Nat} (h : k ≤ (cs z).length) : cutS z none (some (k : Int)) = ofC ((cs z).take k) := by
  have hl : z.length = (cs z).length := rfl
  unfold cutS HT.sIx
  have q : ¬ ((k : Int) < 0) := by omega
  simp [q, hl]
  unfold ofC cs
  have hh : min k z.cps.toList.length = k := Nat.min_eq_left h
  rw [hh]
/-- the last part: the sign behind -/
theorem up_last {t : Str} {S : Store} {j c : Nat} (hz : t.length ≤ 1000) (hc : (cs t)[j]? = some c) (hch : ChOk t) (h1 : c ≠ 126) :
    indexD (.str CH) [oneD c] S = .ok (.int (idxC c : Nat)) S ∧ atI CH.cps.toList ((idxC c : Nat) + 1 : Int) = some (nxC c) ∧ cutS t none (some (j : Int)) = ofC ((cs t).take j) ∧
    (ofC ((cs t).take j)).length + (⟨#[nxC c]⟩ : Str).length ≤ sizeLine ∧ ofC ((cs t).take j) ++ (⟨#[nxC c]⟩ : Str) = ofC ((cs t).take j ++ [nxC c]) := by
  have hm : c ∈ cs t := List.mem_of_getElem? hc
  obtain ⟨o1, o2⟩ := occ_ok c (hch c hm)
  have hj : j < (cs t).length := (List.getElem?_eq_some_iff.mp hc).1
  have hl : t.length = (cs t).length := rfl
  refine ⟨?_, ?_, cutS_to (by omega), ?_, ?_⟩
  · unfold indexD
    dsimp only
    rw [show Builtin.Str.occurrences CH ⟨#[c]⟩ 0 CH.length 1 = [idxC c] from o1]
  · have e : ((idxC c : Nat) + 1 : Int) = ((idxC c + 1 : Nat) : Int) := by omega
    rw [e]
    refine at_cs ?_
    have : idxC c + 1 < (cs CH).length := by
      have := o2 h1
      have := ch_len
      rw [len_cs] at this
      omega
    rw [List.getElem?_eq_getElem this]
    unfold nxC
    rw [List.getD_eq_getElem?_getD, List.getElem?_eq_getElem this]
    rfl
  · refine sz ?_
    have a : (ofC ((cs t).take j)).length = ((cs t).take j).length := rfl
    have b : (⟨#[nxC c]⟩ : Str).length = 1 := rfl
    rw [a, b, List.length_take]
    omega
  · rw [str_eq, cs_app]
    rfl
theorem getD_at {l : List Nat} {j c : Nat} (h : l[j]? = some c) : l.getD j 0 = c := by
  rw [List.getD_eq_getElem?_getD, h]
  rfl
theorem ch_z : CH.length ≤ sizeLine := by rw [ch_len]; decide
theorem up_ok {t : Str} {S : Store} (hz : t.length ≤ 1000) (hch : ChOk t) : fn_up [.str t] S = .ok (upD t) S := by
  have hzz : t.length ≤ sizeLine := sz (by omega)
  have hl : t.length = (cs t).length := rfl
  unfold fn_up
  rw [run_eq]
  simp only [sem_up, startD]
  have ew := up_while (t := t) (S := S) hzz (cs t).length wFuel (Nat.le_refl _) (by
    show (cs t).length < 1000000
    omega)
  rw [← hl] at ew
  unfold upD
  rw [← hl]
  rcases en_split (cs t) t.length (by rw [hl]; exact Nat.le_refl _) with ⟨h1, h2⟩ | ⟨j, c, h1, h2, h3, h4, h5⟩
  · rw [h1] at ew ⊢
    have ew : whileF (mAnd (mTest (mOp gtD (mVar 1) (mC (.int 0)))) (mTest (mOp eqD (mOp ixD (mVar 0) (mOp subD (mVar 1) (mC (.int 1)))) (mC (.str "~"))))) (sAug 1 subD (mC (.int 1))) 1000000 [some (.str t), some (.int (t.length : Nat)), none] S = _ := ew
    simp [hzz, ew]
  · rw [h1] at ew ⊢
    have ew : whileF (mAnd (mTest (mOp gtD (mVar 1) (mC (.int 0)))) (mTest (mOp eqD (mOp ixD (mVar 0) (mOp subD (mVar 1) (mC (.int 1)))) (mC (.str "~"))))) (sAug 1 subD (mC (.int 1))) 1000000 [some (.str t), some (.int (t.length : Nat)), none] S = _ := ew
    obtain ⟨q1, q2, q3, q4, q5⟩ := up_last (S := S) hz h3 hch h4
    have p0 : ¬ (((j + 1 : Nat) : Int) = 0) := by omega
    have p1 : ((j + 1 : Nat) : Int) - 1 = (j : Nat) := by omega
    have q1 : indexD c_CHARS [oneD c] S = .ok (.int (idxC c : Nat)) S := q1
    have q6 : ixO S c_CHARS (.int ((idxC c : Nat) + 1 : Int)) = some (oneD (nxC c)) := by
      show ixO S (.str CH) _ = _
      simp [ch_z, q2]
    have ty : tyD "str" S c_CHARS = true := rfl
    show _ = Res.ok (D.str (ofC ((cs t).take j ++ [nxC ((cs t).getD j 0)]))) S
    rw [show (cs t).getD j 0 = c from getD_at h3]
    simp [hzz, ew, p0, p1, at_cs h3, ty, q1, q6, q3, q4, q5, -Int.natCast_add]
def dn : Nat → List D
  | 0 => []
  | k + 1 => .int ((k + 1 : Nat) : Int) :: dn k
theorem dn_eq : ∀ k : Nat, ((List.range k).map fun i => D.int ((k : Int) - (i : Nat))) = dn k
  | 0 => rfl
  | k + 1 => by
    rw [List.range_succ_eq_map, List.map_cons, List.map_map]
    unfold dn
    congr 1
    · rw [← dn_eq k]
      refine List.map_congr_left fun i _ => ?_
      show D.int _ = D.int _
      congr 1
      show ((k + 1 : Nat) : Int) - ((i + 1 : Nat) : Int) = _
      omega
abbrev luB : MS := sIf (mTest (mOp neD (mOp ixD (mVar 0) (mOp subD (mVar 2) (mC (.int 1)))) (mC (.str "~"))))
  (sRet (mOp addD (mSl slD (mVar 0) mNoPart (mPart (mOp subD (mVar 2) (mC (.int 1))))) (mOp ixD (mVar 1) (mOp addD (mMt "str" indexD (mVar 1) (mCons (mOp ixD (mVar 0) (mOp subD (mVar 2) (mC (.int 1)))) mNil)) (mC (.int 1))))))
  sPass
theorem lu_loop {t : Str} {S : Store} {all : List D} (hz : t.length ≤ 1000) (hch : ChOk t) : ∀ (k : Nat) (o : Option D), k ≤ (cs t).length → ∃ o',
    forL ⟨all, none⟩ (ptN 2) luB (dn k) [some (.str t), some (.str CH), o] S = (match en (cs t) k with
      | 0 => .nx [some (.str t), some (.str CH), o'] S
      | j + 1 => .rt (.str (ofC ((cs t).take j ++ [nxC ((cs t).getD j 0)]))) S)
  | 0, o, _ => ⟨o, for_nil⟩
  | k + 1, o, h => by
    have hzz : t.length ≤ sizeLine := sz (by omega)
    obtain ⟨c, ec⟩ : ∃ c, (cs t)[k]? = some c := ⟨_, List.getElem?_eq_getElem (by omega)⟩
    obtain ⟨o', ih⟩ := lu_loop (S := S) (all := all) hz hch k (some (.int ((k + 1 : Nat) : Int))) (by omega)
    have p1 : ((k + 1 : Nat) : Int) - 1 = (k : Nat) := by omega
    refine ⟨o', ?_⟩
    unfold dn
    rw [for_cons (ρ1 := [some (.str t), some (.str CH), some (.int ((k + 1 : Nat) : Int))]) rfl]
    by_cases h1 : c = 126
    · subst h1
      have e2 : en (cs t) (k + 1) = en (cs t) k := by
        rw [en, if_pos ec]
      rw [e2, ← ih]
      simp only [luB, tilde]
      simp [p1, hzz, at_cs ec, -Int.natCast_add]
    · have e2 : en (cs t) (k + 1) = k + 1 := by
        rw [en, if_neg (by rw [ec]; intro q; exact h1 (Option.some.inj q))]
      obtain ⟨q1, q2, q3, q4, q5⟩ := up_last (S := S) hz ec hch h1
      rw [e2]
      dsimp only
      rw [show (cs t).getD k 0 = c from getD_at ec]
      simp only [luB, tilde]
      simp [p1, hzz, at_cs ec, h1, tyD, q1, q2, q3, q4, q5, ch_z, -Int.natCast_add]
theorem law_up_ok {t : Str} {S : Store} (hz : t.length ≤ 1000) (hch : ChOk t) : fn_law_up [.str t] S = .ok (upD t) S := by
  have hzz : t.length ≤ sizeLine := sz (by omega)
  unfold fn_law_up
  rw [run_eq]
  simp only [sem_law_up, startD]
  have r1 : smR (t.length : Nat) = true := smR_nat (by omega)
  have r2 : smR 0 = true := by decide
  have ed := dn_eq t.length
  obtain ⟨o', el⟩ := lu_loop (S := S) (all := dn t.length) hz hch t.length none (Nat.le_refl _)
  unfold upD
  have hl : (cs t).length = t.length := rfl
  rw [hl]
  cases e : en (cs t) t.length with
  | zero =>
    rw [e] at el
    simp [hzz, r1, r2, ed, el]
  | succ j =>
    rw [e] at el
    simp [hzz, r1, r2, ed, el]
end G
namespace G
open PySem L2
theorem text_loop {t : D} {S : Store} {all : List D} : ∀ (l : List Nat) (o : Option D), ∃ o', forL ⟨all, none⟩ (ptN 1) (sIf (mTest (mOp notInD (mVar 1) (mC c_CHARS))) (sRet (mC (.bl false))) sPass) (l.map oneD) [some t, o] S
    = if l.all (fun c => decide (c ∈ cs CH)) = true then .nx [some t, o'] S else .rt (.bl false) S
  | [], o => ⟨o, by simpa using for_nil⟩
  | c :: l, o => by
    obtain ⟨o', e⟩ := text_loop (t := t) (S := S) (all := all) l (some (oneD c))
    refine ⟨o', ?_⟩
    rw [List.map_cons, for_cons (ρ1 := [some t, some (oneD c)]) rfl, List.all_cons]
    have hL : notInD (oneD c) c_CHARS S = .ok (.bl (!decide (c ∈ cs CH))) S := notInS
    by_cases h1 : c ∈ cs CH
    · rw [decide_eq_true h1, Bool.true_and, ← e]
      simp [hL, h1]
    · rw [decide_eq_false h1]
      simp [hL, h1]
def txB (t : Str) : Bool := (cs t).all fun c => decide (c ∈ cs CH)
theorem is_text_ok {t : Str} {S : Store} (hz : t.length ≤ 1000) : fn_is_text [.str t] S = .ok (.bl (txB t)) S := by
  have hzz : t.length ≤ sizeLine := sz (by omega)
  unfold fn_is_text
  rw [run_eq]
  simp only [sem_is_text, startD]
  obtain ⟨o', e⟩ := text_loop (t := .str t) (S := S) (all := t.cps.toList.map oneD) (cs t) none
  have e : forL ⟨t.cps.toList.map oneD, none⟩ (ptN 1) (sIf (mTest (mOp notInD (mVar 1) (mC c_CHARS))) (sRet (mC (.bl false))) sPass) (t.cps.toList.map oneD) [some (.str t), none] S = _ := e
  by_cases h : txB t = true
  · rw [if_pos (show (cs t).all (fun c => decide (c ∈ cs CH)) = true from h)] at e
    simp [k_str, hzz, e, h]
  · rw [if_neg (show ¬ (cs t).all (fun c => decide (c ∈ cs CH)) = true from h)] at e
    simp [k_str, hzz, e, h]
theorem kind_text {t : Str} {S : Store} (hz : t.length ≤ 1000) : fn_kind_of [.str t] S = .ok (if txB t = true then .str "text" else .non) S := by
  have hi : fn_is_integer [.str t] S = .ok (.bl false) S := by
    unfold fn_is_integer
    rw [run_eq]
    simp only [sem_is_integer, startD]
    simp [k_int]
  unfold fn_kind_of
  rw [run_eq]
  simp only [sem_kind_of, startD]
  by_cases h : txB t = true
  · simp [hi, is_text_ok hz, h]
  · simp [hi, is_text_ok hz, h]
theorem kind_int {i : Int} {S : Store} : fn_kind_of [.int i] S = .ok (.str "number") S := by
  have hi : fn_is_integer [.int i] S = .ok (.bl true) S := by
    unfold fn_is_integer
    rw [run_eq]
    simp only [sem_is_integer, startD]
    simp [k_int, k_bool]
  unfold fn_kind_of
  rw [run_eq]
  simp only [sem_kind_of, startD]
  simp [hi]
theorem next_str {t : Str} {S : Store} (hz : t.length ≤ 1000) : fn_next_value [.str t] S = .ok (.str (t ++ " ")) S := by
  have z : t.length + (" " : Str).length ≤ sizeLine := sz (by show t.length + 1 ≤ _; omega)
  unfold fn_next_value
  rw [run_eq]
  simp only [sem_next_value, startD]
  simp [k_str, z]
theorem next_int {i : Int} {S : Store} : fn_next_value [.int i] S = .ok (.int (i + 1)) S := by
  unfold fn_next_value
  rw [run_eq]
  simp only [sem_next_value, startD]
  simp [k_str]
theorem SgOk.tx {t : Str} (h : SgOk t) : txB t = true := List.all_eq_true.mpr fun c hc => decide_eq_true (h.ch c hc)
theorem SgOk.app {x y : Str} (h : SgOk x) (g : SgOk y) : SgOk (x ++ y) := fun c hc => by
  rw [cs_app] at hc
  rcases List.mem_append.mp hc with hc | hc
  · exact h c hc
  · exact g c hc
theorem cutS_neg {t : Str} : ∃ l, cutS t none (some (-1)) = ofC l ∧ (∀ c ∈ l, c ∈ cs t) ∧ l.length ≤ t.length := by
  refine ⟨_, rfl, fun c hc => ?_, ?_⟩
  · exact List.mem_of_mem_drop (List.mem_of_mem_take hc)
  · show (List.take _ (List.drop _ t.cps.toList)).length ≤ t.cps.toList.length
    rw [List.length_take, List.length_drop]
    omega
theorem cutS_any {z : Str} {k : Nat} : cutS z none (some (k : Int)) = ofC ((cs z).take k) := by
  have hl : z.length = (cs z).length := rfl
  unfold cutS HT.sIx
  have q : ¬ ((k : Int) < 0) := by omega
  simp [q, hl]
  unfold ofC cs
  have hh : List.take (min k z.cps.toList.length) z.cps.toList = List.take k z.cps.toList := List.take_eq_take_min.symm
  rw [hh]
abbrev sp1 : Str := " "
/-- the three others -/
theorem other_ok {t u : Str} {S : Store} {n : Nat} {o : Option D} (ht : SgOk t) (hu : SgOk u) (lt : t.length ≤ 50) (lu : u.length ≤ 50) :
    ∃ o', (sSeq (sIf (mTest (mChain ltD ltD (mVar 1) (mVar 2) (mFn (ar 1 fn_next_value) (mCons (mVar 1) mNil))))
      (sRet (mC (.bl false))) sPass)
      (sSeq (sSet 3 (mFn (ar 1 fn_up) (mCons (mVar 1) mNil)))
      (sIf (mTest (mOp neD (mOp eqD (mSl slD (mVar 2) mNoPart (mPart (mFn lenD (mCons (mVar 1) mNil)))) (mVar 1)) (mAndV (mOp leD (mVar 1) (mVar 2)) (mOrV (mOp isND (mVar 3) (mC .non)) (mOp ltD (mVar 2) (mVar 3))))))
      (sRet (mC (.bl false))) sPass))) [some (.ref n), some (.str t), some (.str u), o] S = .nx [some (.ref n), some (.str t), some (.str u), o'] S := by
  have hn := next_str (S := S) (show t.length ≤ 1000 by omega)
  have hup := up_ok (S := S) (show t.length ≤ 1000 by omega) ht.ch
  have zt : t.length ≤ sizeLine := sz (by omega)
  have zu : u.length ≤ sizeLine := sz (by omega)
  have nb : t.cps.toList < u.cps.toList → ¬ u.cps.toList < (t ++ sp1).cps.toList := fun h1 h2 => by
    have e : (t ++ sp1).cps.toList = cs t ++ [32] := (cs_app t sp1).trans rfl
    rw [e] at h2
    exact no_between (fun c hc => (sig_ok c (hu c hc)).2.1) h1 h2
  refine ⟨some (upD t), ?_⟩
  have pc : cutS u none (some (t.length : Int)) = t ↔ (cs u).take t.length = cs t := by
    rw [cutS_any, str_eq, cs_ofC]
  have key : ∃ b : Bool, (mAndV (mOp leD (mVar 1) (mVar 2)) (mOrV (mOp isND (mVar 3) (mC .non)) (mOp ltD (mVar 2) (mVar 3)))) [some (.ref n), some (.str t), some (.str u), some (upD t)] S = .ok (.bl b) S ∧
      (b = true ↔ cutS u none (some (t.length : Int)) = t) := by
    rw [pc]
    have hl : t.length = (cs t).length := rfl
    have et : (cs t).take t.length = cs t := List.take_length
    rcases en_split (cs t) t.length (by rw [hl]; exact Nat.le_refl _) with ⟨h1, h2⟩ | ⟨j, c, h1, h2, h3, h4, h5⟩
    · have eu : upD t = .non := by
        unfold upD
        rw [← hl, h1]
      rw [et] at h2
      have pn := pre_none t.length (cs u) fun c hc => (sig_ok c (hu c hc)).2.2.1
      rw [eu]
      by_cases q : u.cps.toList < t.cps.toList
      · refine ⟨false, by simp [q], ?_⟩
        have q : cs u < cs t := q
        rw [h2] at q ⊢
        rw [← pn]
        simp [q]
      · refine ⟨true, by simp [q], ?_⟩
        have q : ¬ cs u < cs t := q
        rw [h2] at q ⊢
        rw [← pn]
        simp [q]
    · have eu : upD t = .str (ofC ((cs t).take j ++ [nxC c])) := by
        unfold upD
        rw [← hl, h1]
        show D.str (ofC ((cs t).take j ++ [nxC ((cs t).getD j 0)])) = _
        rw [getD_at h3]
      rw [et] at h5
      have hc := (sig_ok c (ht c (List.mem_of_getElem? h3))).2.2.2 h4
      have lj : ((cs t).take j).length = j := by
        rw [List.length_take]
        omega
      have pn := pre_some c (nxC c) (t.length - j - 1) hc.1 ((cs t).take j) (cs u) fun x hx => ⟨(sig_ok x (hu x hx)).2.2.1, hc.2 x (hu x hx)⟩
      have el : ((cs t).take j).length + 1 + (t.length - j - 1) = t.length := by omega
      rw [el, ← h5] at pn
      rw [eu]
      by_cases q : u.cps.toList < t.cps.toList
      · refine ⟨false, by simp [q], ?_⟩
        have q : cs u < cs t := q
        rw [← pn]
        simp [q]
      · by_cases r : u.cps.toList < (ofC ((cs t).take j ++ [nxC c])).cps.toList
        · refine ⟨true, by simp [q, r], ?_⟩
          have q : ¬ cs u < cs t := q
          have r : cs u < (cs t).take j ++ [nxC c] := r
          rw [← pn]
          simp only [q, r]
          simp
        · refine ⟨false, by simp [q, r], ?_⟩
          have r : ¬ cs u < (cs t).take j ++ [nxC c] := r
          rw [← pn]
          simp only [r]
          simp
  obtain ⟨b, hb, hbb⟩ := key
  have hbb : decide (cutS u none (some (t.length : Int)) = t) = b := by
    cases b with
    | true => exact decide_eq_true (hbb.mp rfl)
    | false => exact decide_eq_false fun q => by cases hbb.mpr q
  by_cases q : t.cps.toList < u.cps.toList
  · have q2 := nb q
    simp [-e_andV, q, q2, hn, hup, zt, zu, hb, hbb]
    done
  · simp [-e_andV, q, hup, zt, zu, hb, hbb]
    done
end G
namespace G
open PySem L2
/-! ### the end -/
def LawOk : Prop := ∀ ns : List Int, ns.length ≤ 63 → ∃ S, fn_law [.scr ns] [] = .ok (.bl true) S
theorem all_mk {l : PySem.W.OpenLaw} {w : World} {K : PySem.W.Frag} {h : Heap} {mg : Str → Option Value} {cl : Str → Option Addr} {fa : Addr} (X : K.In h) (G : h.Ns mainGlobals mg) (hfa : mg "law" = some (.ref fa))
    {f0 : Addr} {od0 an0 : Option Addr} {sl0 : Array (Option Value)} {oc0 kV0 dc0 pm0 cd0 ct0 : Value} (a0 : PySem.W.nsIn K mainGlobals "_law_draw" = some (some (.ref f0)))
    (l0 : K.lookup f0 = some ⟨oc0, od0, .func (PySem.W.fnOf "_law_draw" "_law_draw" (defArgs s_law_draw) (defBody s_law_draw) (defScope s_law_draw) .none kV0 dc0 pm0 an0 cd0 ct0), sl0⟩) (c0 : PySem.W.codeIn K cd0 "_law_draw" = true) (k0 : PySem.W.keepIn K (.ref f0) = true)
    {f1 : Addr} {od1 an1 : Option Addr} {sl1 : Array (Option Value)} {oc1 kV1 dc1 pm1 cd1 ct1 : Value} (a1 : PySem.W.nsIn K mainGlobals "_law_is" = some (some (.ref f1)))
    (l1 : K.lookup f1 = some ⟨oc1, od1, .func (PySem.W.fnOf "_law_is" "_law_is" (defArgs s_law_is) (defBody s_law_is) (defScope s_law_is) .none kV1 dc1 pm1 an1 cd1 ct1), sl1⟩) (c1 : PySem.W.codeIn K cd1 "_law_is" = true) (k1 : PySem.W.keepIn K (.ref f1) = true)
    {f2 : Addr} {od2 an2 : Option Addr} {sl2 : Array (Option Value)} {oc2 kV2 dc2 pm2 cd2 ct2 : Value} (a2 : PySem.W.nsIn K mainGlobals "_law_kept" = some (some (.ref f2)))
    (l2 : K.lookup f2 = some ⟨oc2, od2, .func (PySem.W.fnOf "_law_kept" "_law_kept" (defArgs s_law_kept) (defBody s_law_kept) (defScope s_law_kept) .none kV2 dc2 pm2 an2 cd2 ct2), sl2⟩) (c2 : PySem.W.codeIn K cd2 "_law_kept" = true) (k2 : PySem.W.keepIn K (.ref f2) = true)
    {f3 : Addr} {od3 an3 : Option Addr} {sl3 : Array (Option Value)} {oc3 kV3 dc3 pm3 cd3 ct3 : Value} (a3 : PySem.W.nsIn K mainGlobals "_law_pick" = some (some (.ref f3)))
    (l3 : K.lookup f3 = some ⟨oc3, od3, .func (PySem.W.fnOf "_law_pick" "_law_pick" (defArgs s_law_pick) (defBody s_law_pick) (defScope s_law_pick) .none kV3 dc3 pm3 an3 cd3 ct3), sl3⟩) (c3 : PySem.W.codeIn K cd3 "_law_pick" = true) (k3 : PySem.W.keepIn K (.ref f3) = true)
    {f4 : Addr} {od4 an4 : Option Addr} {sl4 : Array (Option Value)} {oc4 kV4 dc4 pm4 cd4 ct4 : Value} (a4 : PySem.W.nsIn K mainGlobals "_law_piece" = some (some (.ref f4)))
    (l4 : K.lookup f4 = some ⟨oc4, od4, .func (PySem.W.fnOf "_law_piece" "_law_piece" (defArgs s_law_piece) (defBody s_law_piece) (defScope s_law_piece) .none kV4 dc4 pm4 an4 cd4 ct4), sl4⟩) (c4 : PySem.W.codeIn K cd4 "_law_piece" = true) (k4 : PySem.W.keepIn K (.ref f4) = true)
    {f5 : Addr} {od5 an5 : Option Addr} {sl5 : Array (Option Value)} {oc5 kV5 dc5 pm5 cd5 ct5 : Value} (a5 : PySem.W.nsIn K mainGlobals "_law_wrong_piece" = some (some (.ref f5)))
    (l5 : K.lookup f5 = some ⟨oc5, od5, .func (PySem.W.fnOf "_law_wrong_piece" "_law_wrong_piece" (defArgs s_law_wrong_piece) (defBody s_law_wrong_piece) (defScope s_law_wrong_piece) .none kV5 dc5 pm5 an5 cd5 ct5), sl5⟩) (c5 : PySem.W.codeIn K cd5 "_law_wrong_piece" = true) (k5 : PySem.W.keepIn K (.ref f5) = true)
    {f6 : Addr} {od6 an6 : Option Addr} {sl6 : Array (Option Value)} {oc6 kV6 dc6 pm6 cd6 ct6 : Value} (a6 : PySem.W.nsIn K mainGlobals "_law_pieces" = some (some (.ref f6)))
    (l6 : K.lookup f6 = some ⟨oc6, od6, .func (PySem.W.fnOf "_law_pieces" "_law_pieces" (defArgs s_law_pieces) (defBody s_law_pieces) (defScope s_law_pieces) .none kV6 dc6 pm6 an6 cd6 ct6), sl6⟩) (c6 : PySem.W.codeIn K cd6 "_law_pieces" = true) (k6 : PySem.W.keepIn K (.ref f6) = true)
    {f7 : Addr} {od7 an7 : Option Addr} {sl7 : Array (Option Value)} {oc7 kV7 dc7 pm7 cd7 ct7 : Value} (a7 : PySem.W.nsIn K mainGlobals "_law_right_name" = some (some (.ref f7)))
    (l7 : K.lookup f7 = some ⟨oc7, od7, .func (PySem.W.fnOf "_law_right_name" "_law_right_name" (defArgs s_law_right_name) (defBody s_law_right_name) (defScope s_law_right_name) .none kV7 dc7 pm7 an7 cd7 ct7), sl7⟩) (c7 : PySem.W.codeIn K cd7 "_law_right_name" = true) (k7 : PySem.W.keepIn K (.ref f7) = true)
    {f8 : Addr} {od8 an8 : Option Addr} {sl8 : Array (Option Value)} {oc8 kV8 dc8 pm8 cd8 ct8 : Value} (a8 : PySem.W.nsIn K mainGlobals "_law_right_path" = some (some (.ref f8)))
    (l8 : K.lookup f8 = some ⟨oc8, od8, .func (PySem.W.fnOf "_law_right_path" "_law_right_path" (defArgs s_law_right_path) (defBody s_law_right_path) (defScope s_law_right_path) .none kV8 dc8 pm8 an8 cd8 ct8), sl8⟩) (c8 : PySem.W.codeIn K cd8 "_law_right_path" = true) (k8 : PySem.W.keepIn K (.ref f8) = true)
    {f9 : Addr} {od9 an9 : Option Addr} {sl9 : Array (Option Value)} {oc9 kV9 dc9 pm9 cd9 ct9 : Value} (a9 : PySem.W.nsIn K mainGlobals "is_name" = some (some (.ref f9)))
    (l9 : K.lookup f9 = some ⟨oc9, od9, .func (PySem.W.fnOf "is_name" "is_name" (defArgs s_is_name) (defBody s_is_name) (defScope s_is_name) .none kV9 dc9 pm9 an9 cd9 ct9), sl9⟩) (c9 : PySem.W.codeIn K cd9 "is_name" = true) (k9 : PySem.W.keepIn K (.ref f9) = true)
    {f10 : Addr} {od10 an10 : Option Addr} {sl10 : Array (Option Value)} {oc10 kV10 dc10 pm10 cd10 ct10 : Value} (a10 : PySem.W.nsIn K mainGlobals "is_path" = some (some (.ref f10)))
    (l10 : K.lookup f10 = some ⟨oc10, od10, .func (PySem.W.fnOf "is_path" "is_path" (defArgs s_is_path) (defBody s_is_path) (defScope s_is_path) .none kV10 dc10 pm10 an10 cd10 ct10), sl10⟩) (c10 : PySem.W.codeIn K cd10 "is_path" = true) (k10 : PySem.W.keepIn K (.ref f10) = true)
    {f11 : Addr} {od11 an11 : Option Addr} {sl11 : Array (Option Value)} {oc11 kV11 dc11 pm11 cd11 ct11 : Value} (a11 : PySem.W.nsIn K mainGlobals "_law_names_right" = some (some (.ref f11)))
    (l11 : K.lookup f11 = some ⟨oc11, od11, .func (PySem.W.fnOf "_law_names_right" "_law_names_right" (defArgs s_law_names_right) (defBody s_law_names_right) (defScope s_law_names_right) .none kV11 dc11 pm11 an11 cd11 ct11), sl11⟩) (c11 : PySem.W.codeIn K cd11 "_law_names_right" = true) (k11 : PySem.W.keepIn K (.ref f11) = true)
    {f12 : Addr} {od12 an12 : Option Addr} {sl12 : Array (Option Value)} {oc12 kV12 dc12 pm12 cd12 ct12 : Value} (a12 : PySem.W.nsIn K mainGlobals "_law_ahead" = some (some (.ref f12)))
    (l12 : K.lookup f12 = some ⟨oc12, od12, .func (PySem.W.fnOf "_law_ahead" "_law_ahead" (defArgs s_law_ahead) (defBody s_law_ahead) (defScope s_law_ahead) .none kV12 dc12 pm12 an12 cd12 ct12), sl12⟩) (c12 : PySem.W.codeIn K cd12 "_law_ahead" = true) (k12 : PySem.W.keepIn K (.ref f12) = true)
    {f13 : Addr} {od13 an13 : Option Addr} {sl13 : Array (Option Value)} {oc13 kV13 dc13 pm13 cd13 ct13 : Value} (a13 : PySem.W.nsIn K mainGlobals "_law_any_text" = some (some (.ref f13)))
    (l13 : K.lookup f13 = some ⟨oc13, od13, .func (PySem.W.fnOf "_law_any_text" "_law_any_text" (defArgs s_law_any_text) (defBody s_law_any_text) (defScope s_law_any_text) .none kV13 dc13 pm13 an13 cd13 ct13), sl13⟩) (c13 : PySem.W.codeIn K cd13 "_law_any_text" = true) (k13 : PySem.W.keepIn K (.ref f13) = true)
    {f14 : Addr} {od14 an14 : Option Addr} {sl14 : Array (Option Value)} {oc14 kV14 dc14 pm14 cd14 ct14 : Value} (a14 : PySem.W.nsIn K mainGlobals "is_ahead" = some (some (.ref f14)))
    (l14 : K.lookup f14 = some ⟨oc14, od14, .func (PySem.W.fnOf "is_ahead" "is_ahead" (defArgs s_is_ahead) (defBody s_is_ahead) (defScope s_is_ahead) .none kV14 dc14 pm14 an14 cd14 ct14), sl14⟩) (c14 : PySem.W.codeIn K cd14 "is_ahead" = true) (k14 : PySem.W.keepIn K (.ref f14) = true)
    {f15 : Addr} {od15 an15 : Option Addr} {sl15 : Array (Option Value)} {oc15 kV15 dc15 pm15 cd15 ct15 : Value} (a15 : PySem.W.nsIn K mainGlobals "_law_places_right" = some (some (.ref f15)))
    (l15 : K.lookup f15 = some ⟨oc15, od15, .func (PySem.W.fnOf "_law_places_right" "_law_places_right" (defArgs s_law_places_right) (defBody s_law_places_right) (defScope s_law_places_right) .none kV15 dc15 pm15 an15 cd15 ct15), sl15⟩) (c15 : PySem.W.codeIn K cd15 "_law_places_right" = true) (k15 : PySem.W.keepIn K (.ref f15) = true)
    {f16 : Addr} {od16 an16 : Option Addr} {sl16 : Array (Option Value)} {oc16 kV16 dc16 pm16 cd16 ct16 : Value} (a16 : PySem.W.nsIn K mainGlobals "_law_up" = some (some (.ref f16)))
    (l16 : K.lookup f16 = some ⟨oc16, od16, .func (PySem.W.fnOf "_law_up" "_law_up" (defArgs s_law_up) (defBody s_law_up) (defScope s_law_up) .none kV16 dc16 pm16 an16 cd16 ct16), sl16⟩) (c16 : PySem.W.codeIn K cd16 "_law_up" = true) (k16 : PySem.W.keepIn K (.ref f16) = true)
    {f17 : Addr} {od17 an17 : Option Addr} {sl17 : Array (Option Value)} {oc17 kV17 dc17 pm17 cd17 ct17 : Value} (a17 : PySem.W.nsIn K mainGlobals "is_integer" = some (some (.ref f17)))
    (l17 : K.lookup f17 = some ⟨oc17, od17, .func (PySem.W.fnOf "is_integer" "is_integer" (defArgs s_is_integer) (defBody s_is_integer) (defScope s_is_integer) .none kV17 dc17 pm17 an17 cd17 ct17), sl17⟩) (c17 : PySem.W.codeIn K cd17 "is_integer" = true) (k17 : PySem.W.keepIn K (.ref f17) = true)
    {f18 : Addr} {od18 an18 : Option Addr} {sl18 : Array (Option Value)} {oc18 kV18 dc18 pm18 cd18 ct18 : Value} (a18 : PySem.W.nsIn K mainGlobals "is_text" = some (some (.ref f18)))
    (l18 : K.lookup f18 = some ⟨oc18, od18, .func (PySem.W.fnOf "is_text" "is_text" (defArgs s_is_text) (defBody s_is_text) (defScope s_is_text) .none kV18 dc18 pm18 an18 cd18 ct18), sl18⟩) (c18 : PySem.W.codeIn K cd18 "is_text" = true) (k18 : PySem.W.keepIn K (.ref f18) = true)
    {f19 : Addr} {od19 an19 : Option Addr} {sl19 : Array (Option Value)} {oc19 kV19 dc19 pm19 cd19 ct19 : Value} (a19 : PySem.W.nsIn K mainGlobals "kind_of" = some (some (.ref f19)))
    (l19 : K.lookup f19 = some ⟨oc19, od19, .func (PySem.W.fnOf "kind_of" "kind_of" (defArgs s_kind_of) (defBody s_kind_of) (defScope s_kind_of) .none kV19 dc19 pm19 an19 cd19 ct19), sl19⟩) (c19 : PySem.W.codeIn K cd19 "kind_of" = true) (k19 : PySem.W.keepIn K (.ref f19) = true)
    {f20 : Addr} {od20 an20 : Option Addr} {sl20 : Array (Option Value)} {oc20 kV20 dc20 pm20 cd20 ct20 : Value} (a20 : PySem.W.nsIn K mainGlobals "next_value" = some (some (.ref f20)))
    (l20 : K.lookup f20 = some ⟨oc20, od20, .func (PySem.W.fnOf "next_value" "next_value" (defArgs s_next_value) (defBody s_next_value) (defScope s_next_value) .none kV20 dc20 pm20 an20 cd20 ct20), sl20⟩) (c20 : PySem.W.codeIn K cd20 "next_value" = true) (k20 : PySem.W.keepIn K (.ref f20) = true)
    {f21 : Addr} {od21 an21 : Option Addr} {sl21 : Array (Option Value)} {oc21 kV21 dc21 pm21 cd21 ct21 : Value} (a21 : PySem.W.nsIn K mainGlobals "up" = some (some (.ref f21)))
    (l21 : K.lookup f21 = some ⟨oc21, od21, .func (PySem.W.fnOf "up" "up" (defArgs s_up) (defBody s_up) (defScope s_up) .none kV21 dc21 pm21 an21 cd21 ct21), sl21⟩) (c21 : PySem.W.codeIn K cd21 "up" = true) (k21 : PySem.W.keepIn K (.ref f21) = true)
    {f22 : Addr} {od22 an22 : Option Addr} {sl22 : Array (Option Value)} {oc22 kV22 dc22 pm22 cd22 ct22 : Value} (a22 : PySem.W.nsIn K mainGlobals "_law_texts_right" = some (some (.ref f22)))
    (l22 : K.lookup f22 = some ⟨oc22, od22, .func (PySem.W.fnOf "_law_texts_right" "_law_texts_right" (defArgs s_law_texts_right) (defBody s_law_texts_right) (defScope s_law_texts_right) .none kV22 dc22 pm22 an22 cd22 ct22), sl22⟩) (c22 : PySem.W.codeIn K cd22 "_law_texts_right" = true) (k22 : PySem.W.keepIn K (.ref f22) = true)
    {f23 : Addr} {od23 an23 : Option Addr} {sl23 : Array (Option Value)} {oc23 kV23 dc23 pm23 cd23 ct23 : Value} (a23 : PySem.W.nsIn K mainGlobals "_law_right" = some (some (.ref f23)))
    (l23 : K.lookup f23 = some ⟨oc23, od23, .func (PySem.W.fnOf "_law_right" "_law_right" (defArgs s_law_right) (defBody s_law_right) (defScope s_law_right) .none kV23 dc23 pm23 an23 cd23 ct23), sl23⟩) (c23 : PySem.W.codeIn K cd23 "_law_right" = true) (k23 : PySem.W.keepIn K (.ref f23) = true)
    {f24 : Addr} {od24 an24 : Option Addr} {sl24 : Array (Option Value)} {oc24 kV24 dc24 pm24 cd24 ct24 : Value} (a24 : PySem.W.nsIn K mainGlobals "_law_source" = some (some (.ref f24)))
    (l24 : K.lookup f24 = some ⟨oc24, od24, .func (PySem.W.fnOf "_law_source" "_law_source" (defArgs s_law_source) (defBody s_law_source) (defScope s_law_source) .none kV24 dc24 pm24 an24 cd24 ct24), sl24⟩) (c24 : PySem.W.codeIn K cd24 "_law_source" = true) (k24 : PySem.W.keepIn K (.ref f24) = true)
    {f25 : Addr} {od25 an25 : Option Addr} {sl25 : Array (Option Value)} {oc25 kV25 dc25 pm25 cd25 ct25 : Value} (a25 : PySem.W.nsIn K mainGlobals "law" = some (some (.ref f25)))
    (l25 : K.lookup f25 = some ⟨oc25, od25, .func (PySem.W.fnOf "law" "law" (defArgs s_law) (defBody s_law) (defScope s_law) .none kV25 dc25 pm25 an25 cd25 ct25), sl25⟩) (c25 : PySem.W.codeIn K cd25 "law" = true) (k25 : PySem.W.keepIn K (.ref f25) = true)
    (z_all : PySem.W.nsIn K mainGlobals "all" = some none)
    (z_bool : PySem.W.nsIn K mainGlobals "bool" = some none)
    (z_int : PySem.W.nsIn K mainGlobals "int" = some none)
    (z_isinstance : PySem.W.nsIn K mainGlobals "isinstance" = some none)
    (z_len : PySem.W.nsIn K mainGlobals "len" = some none)
    (z_range : PySem.W.nsIn K mainGlobals "range" = some none)
    (z_str : PySem.W.nsIn K mainGlobals "str" = some none)
    {tu_CHARS : Value} (x_CHARS : PySem.W.nsIn K mainGlobals "CHARS" = some (some tu_CHARS)) (v_CHARS : ∃ v, RelV v tu_CHARS ∧ absD v = some (.str " !\"#$&'()*+,-./0123456789:;<=>?@ABCDEFGHIJKLMNOPQRSTUVWXYZ[\\]^_`abcdefghijklmnopqrstuvwxyz{|}~"))
    {tu_DIGITS : Value} (x_DIGITS : PySem.W.nsIn K mainGlobals "DIGITS" = some (some tu_DIGITS)) (v_DIGITS : ∃ v, RelV v tu_DIGITS ∧ absD v = some (.str "0123456789"))
    {tp_KEPT_WORDS : Addr} {to_KEPT_WORDS : Option Addr} {ti_KEPT_WORDS : Array Value} {tn_KEPT_WORDS : Nat} {ts_KEPT_WORDS : Array (Option Value)} (x_KEPT_WORDS : PySem.W.nsIn K mainGlobals "KEPT_WORDS" = some (some (.ref tp_KEPT_WORDS))) (y_KEPT_WORDS : K.lookup tp_KEPT_WORDS = some ⟨.type "tuple", to_KEPT_WORDS, .seq ti_KEPT_WORDS tn_KEPT_WORDS, ts_KEPT_WORDS⟩) (v_KEPT_WORDS : AbsL ti_KEPT_WORDS.toList [.str "and", .str "or", .str "not", .str "sure", .str "in", .str "is", .str "empty", .str "begins", .str "always", .str "never", .str "unsure"]) (w_KEPT_WORDS : ti_KEPT_WORDS.size ≤ sizeLine)
    {tu_LETTERS : Value} (x_LETTERS : PySem.W.nsIn K mainGlobals "LETTERS" = some (some tu_LETTERS)) (v_LETTERS : ∃ v, RelV v tu_LETTERS ∧ absD v = some (.str "abcdefghijklmnopqrstuvwxyz"))
    {tu_MOST_PIECES : Value} (x_MOST_PIECES : PySem.W.nsIn K mainGlobals "MOST_PIECES" = some (some tu_MOST_PIECES)) (v_MOST_PIECES : ∃ v, RelV v tu_MOST_PIECES ∧ absD v = some (.int 4))
    {tp_SLOT_NUMBERS : Addr} {to_SLOT_NUMBERS : Option Addr} {ti_SLOT_NUMBERS : Array Value} {tn_SLOT_NUMBERS : Nat} {ts_SLOT_NUMBERS : Array (Option Value)} (x_SLOT_NUMBERS : PySem.W.nsIn K mainGlobals "SLOT_NUMBERS" = some (some (.ref tp_SLOT_NUMBERS))) (y_SLOT_NUMBERS : K.lookup tp_SLOT_NUMBERS = some ⟨.type "tuple", to_SLOT_NUMBERS, .seq ti_SLOT_NUMBERS tn_SLOT_NUMBERS, ts_SLOT_NUMBERS⟩) (v_SLOT_NUMBERS : AbsL ti_SLOT_NUMBERS.toList [.str "1", .str "2", .str "3"]) (w_SLOT_NUMBERS : ti_SLOT_NUMBERS.size ≤ sizeLine)
    : ∃ fd : FuncData, (∀ (s : Shared) (v : Value), BindsTo s fd ⟨[v], []⟩ [("_law_script", v)]) ∧ ∀ base : Heap, K.In base → base.Ns mainGlobals mg → FnOk l.prog w K mg base (L2.CX l.prog w) 7 fa fd ["_law_script"] (spOf K cl 1 fn_law) := by
  have e := hfa.symm.trans (PySem.W.mg_of X G a25)
  cases e
  have T : Gb K cl mg := ⟨PySem.W.mg_none_of X G z_all, PySem.W.mg_none_of X G z_bool, PySem.W.mg_none_of X G z_int, PySem.W.mg_none_of X G z_isinstance, PySem.W.mg_none_of X G z_len, PySem.W.mg_none_of X G z_range, PySem.W.mg_none_of X G z_str, glob_sc (PySem.W.mg_of X G x_CHARS) v_CHARS, glob_sc (PySem.W.mg_of X G x_DIGITS) v_DIGITS, glob_tup (PySem.W.mg_of X G x_KEPT_WORDS) y_KEPT_WORDS v_KEPT_WORDS w_KEPT_WORDS, glob_sc (PySem.W.mg_of X G x_LETTERS) v_LETTERS, glob_sc (PySem.W.mg_of X G x_MOST_PIECES) v_MOST_PIECES, glob_tup (PySem.W.mg_of X G x_SLOT_NUMBERS) y_SLOT_NUMBERS v_SLOT_NUMBERS w_SLOT_NUMBERS⟩
  refine ⟨PySem.W.fnOf "law" "law" (defArgs s_law) (defBody s_law) (defScope s_law) .none kV25 dc25 pm25 an25 cd25 ct25, fun s v => .of_eq rfl, fun base _ _ => ?_⟩
  have G_law_draw : Fn l.prog w K mg base cl "_law_draw" 1 2 fn_law_draw := mk_law_draw (fun_mk (st := s_law_draw) l0 c0 k0) (PySem.W.mg_of X G a0) T
  have G_law_is : Fn l.prog w K mg base cl "_law_is" 1 2 fn_law_is := mk_law_is (fun_mk (st := s_law_is) l1 c1 k1) (PySem.W.mg_of X G a1) T
  have G_law_kept : Fn l.prog w K mg base cl "_law_kept" 1 0 fn_law_kept := mk_law_kept (fun_mk (st := s_law_kept) l2 c2 k2) (PySem.W.mg_of X G a2) T
  have G_law_pick : Fn l.prog w K mg base cl "_law_pick" 2 2 fn_law_pick := mk_law_pick (fun_mk (st := s_law_pick) l3 c3 k3) (PySem.W.mg_of X G a3) T G_law_draw
  have G_law_piece : Fn l.prog w K mg base cl "_law_piece" 2 1 fn_law_piece := mk_law_piece (fun_mk (st := s_law_piece) l4 c4 k4) (PySem.W.mg_of X G a4) T G_law_draw
  have G_law_wrong_piece : Fn l.prog w K mg base cl "_law_wrong_piece" 3 1 fn_law_wrong_piece := mk_law_wrong_piece (fun_mk (st := s_law_wrong_piece) l5 c5 k5) (PySem.W.mg_of X G a5) T G_law_kept G_law_pick
  have G_law_pieces : Fn l.prog w K mg base cl "_law_pieces" 4 1 fn_law_pieces := mk_law_pieces (fun_mk (st := s_law_pieces) l6 c6 k6) (PySem.W.mg_of X G a6) T G_law_draw G_law_pick G_law_piece G_law_wrong_piece
  have G_law_right_name : Fn l.prog w K mg base cl "_law_right_name" 2 1 fn_law_right_name := mk_law_right_name (fun_mk (st := s_law_right_name) l7 c7 k7) (PySem.W.mg_of X G a7) T G_law_kept
  have G_law_right_path : Fn l.prog w K mg base cl "_law_right_path" 3 1 fn_law_right_path := mk_law_right_path (fun_mk (st := s_law_right_path) l8 c8 k8) (PySem.W.mg_of X G a8) T G_law_right_name
  have G_is_name : Fn l.prog w K mg base cl "is_name" 1 1 fn_is_name := mk_is_name (fun_mk (st := s_is_name) l9 c9 k9) (PySem.W.mg_of X G a9) T
  have G_is_path : Fn l.prog w K mg base cl "is_path" 2 1 fn_is_path := mk_is_path (fun_mk (st := s_is_path) l10 c10 k10) (PySem.W.mg_of X G a10) T G_is_name
  have G_law_names_right : Fn l.prog w K mg base cl "_law_names_right" 5 1 fn_law_names_right := mk_law_names_right (fun_mk (st := s_law_names_right) l11 c11 k11) (PySem.W.mg_of X G a11) T G_law_is G_law_kept G_law_pick G_law_piece G_law_pieces G_law_right_name G_law_right_path G_law_wrong_piece G_is_name G_is_path
  have G_law_ahead : Fn l.prog w K mg base cl "_law_ahead" 1 2 fn_law_ahead := mk_law_ahead (fun_mk (st := s_law_ahead) l12 c12 k12) (PySem.W.mg_of X G a12) T
  have G_law_any_text : Fn l.prog w K mg base cl "_law_any_text" 3 2 fn_law_any_text := mk_law_any_text (fun_mk (st := s_law_any_text) l13 c13 k13) (PySem.W.mg_of X G a13) T G_law_draw G_law_pick
  have G_is_ahead : Fn l.prog w K mg base cl "is_ahead" 1 2 fn_is_ahead := mk_is_ahead (fun_mk (st := s_is_ahead) l14 c14 k14) (PySem.W.mg_of X G a14) T
  have G_law_places_right : Fn l.prog w K mg base cl "_law_places_right" 4 1 fn_law_places_right := mk_law_places_right (fun_mk (st := s_law_places_right) l15 c15 k15) (PySem.W.mg_of X G a15) T G_law_ahead G_law_any_text G_law_draw G_is_ahead
  have G_law_up : Fn l.prog w K mg base cl "_law_up" 1 1 fn_law_up := mk_law_up (fun_mk (st := s_law_up) l16 c16 k16) (PySem.W.mg_of X G a16) T
  have G_is_integer : Fn l.prog w K mg base cl "is_integer" 1 1 fn_is_integer := mk_is_integer (fun_mk (st := s_is_integer) l17 c17 k17) (PySem.W.mg_of X G a17) T
  have G_is_text : Fn l.prog w K mg base cl "is_text" 1 1 fn_is_text := mk_is_text (fun_mk (st := s_is_text) l18 c18 k18) (PySem.W.mg_of X G a18) T
  have G_kind_of : Fn l.prog w K mg base cl "kind_of" 2 1 fn_kind_of := mk_kind_of (fun_mk (st := s_kind_of) l19 c19 k19) (PySem.W.mg_of X G a19) T G_is_integer G_is_text
  have G_next_value : Fn l.prog w K mg base cl "next_value" 1 1 fn_next_value := mk_next_value (fun_mk (st := s_next_value) l20 c20 k20) (PySem.W.mg_of X G a20) T
  have G_up : Fn l.prog w K mg base cl "up" 1 1 fn_up := mk_up (fun_mk (st := s_up) l21 c21 k21) (PySem.W.mg_of X G a21) T
  have G_law_texts_right : Fn l.prog w K mg base cl "_law_texts_right" 4 1 fn_law_texts_right := mk_law_texts_right (fun_mk (st := s_law_texts_right) l22 c22 k22) (PySem.W.mg_of X G a22) T G_law_any_text G_law_up G_kind_of G_next_value G_up
  have G_law_right : Fn l.prog w K mg base cl "_law_right" 6 1 fn_law_right := mk_law_right (fun_mk (st := s_law_right) l23 c23 k23) (PySem.W.mg_of X G a23) T G_law_draw G_law_names_right G_law_pick G_law_places_right G_law_texts_right G_is_name G_is_path G_kind_of G_next_value G_up
  have G_law_source : Fn l.prog w K mg base cl "_law_source" 1 1 fn_law_source := mk_law_source (fun_mk (st := s_law_source) l24 c24 k24) (PySem.W.mg_of X G a24) T
  exact ok_law (fun_mk (st := s_law) l25 c25 k25) T G_law_right G_law_source
theorem rep_start {K : PySem.W.Frag} {cl : Str → Option Addr} {H : Hp} {a : Addr} {ns : List Int} (hS : SqL K H a (ns.map V.int)) (lo : LawOk) (hl : ns.length ≤ 63) : spOf K cl 1 fn_law [.ref a] H (fun v _ => v = .bl true) (fun _ _ _ => False) := by
  obtain ⟨S, e⟩ := lo ns hl
  refine ⟨⟨H, fun _ => none, fun _ => 0, 0⟩, [], [.scr ns], ⟨rfl, fun _ _ h => h, fun i mo h => by simp at h, fun i j m m' h => by simp at h, fun a o h => by cases h⟩, .cons (.scr hS) .nil, ?_⟩
  show Post K cl (Rep K cl) _ (fn_law [.scr ns] []) _ _
  rw [e]
  intro W' H' v _ _ r
  cases r
  rfl
theorem walk {l : PySem.W.OpenLaw} {q : Program} {loose : List Str} {XP : (Str → Option Value) → Heap → Prop} {YP : World → Heap → Prop} {d : DefRec} {K : Params → PySem.W.Frag} (lo : LawOk) (cl : Str → Option Addr) (hn : l.most = some 63) (hdf : d.params.defaults = [])
    (hY : ∀ (w : World) (h : Heap), YP w h → (K w.params).In h)
    (F : ∀ (w : World) (mg : Str → Option Value) (fa : Addr) (h : Heap), (K w.params).In h → h.Ns mainGlobals mg → mg d.name = some (.ref fa) →
      ∃ fd : FuncData, (∀ (s : Shared) (u : Value), BindsTo s fd ⟨[u], []⟩ [("_law_script", u)]) ∧ ∀ base : Heap, (K w.params).In base → base.Ns mainGlobals mg → FnOk l.prog w (K w.params) mg base (L2.CX l.prog w) 7 fa fd ["_law_script"] (spOf (K w.params) cl 1 fn_law)) :
    PySem.W.WalkO q loose XP YP l.row.toRowW d [] (fun f vs => PySem.call f vs) :=
  L2.walk_of (n := 63) (k := 7) (x := "_law_script") (CX := fun w => L2.CX l.prog w) (sp := fun w => spOf (K w.params) cl 1 fn_law) hn (by decide) hdf ⟨rfl, by decide, by decide⟩ hY F
    (fun _ _ a ns hl _ hS => rep_start hS lo hl) fun w H s e s' z => by
      obtain ⟨_, _, _, _, _, _, _, _, _, _, _, _, z⟩ := z
      exact z
end G
namespace G
open PySem L2
theorem texts_ok {n : Nat} {S0 S : Store} (h : WAt n S0 S) : ∃ S', fn_law_texts_right [.ref n] S = .ok (.bl true) S' ∧ WAt n S0 S' := by
  obtain ⟨t, S1, e1, ht, lt, h1⟩ := any_text_ok 8 h (by decide) (by decide)
  obtain ⟨u1, S2, e2, hu1, lu1, h2⟩ := any_text_ok 8 h1 (by decide) (by decide)
  obtain ⟨u2, S3, e3, hu2, lu2, h3⟩ := any_text_ok 3 h2 (by decide) (by decide)
  obtain ⟨u3, S4, e4, hu3, lu3, h4⟩ := any_text_ok 2 h3 (by decide) (by decide)
  obtain ⟨l, el, hl, ll⟩ := cutS_neg (t := t)
  have lt : t.length ≤ 8 := by rw [len_cs]; omega
  have lu1 : u1.length ≤ 8 := by rw [len_cs]; omega
  have lu2 : u2.length ≤ 3 := by rw [len_cs]; omega
  have lu3 : u3.length ≤ 2 := by rw [len_cs]; omega
  have ll' : (ofC l).length = l.length := rfl
  have hn := fun S => next_str (S := S) (show t.length ≤ 1000 by omega)
  have hk := fun S => kind_text (S := S) (show t.length ≤ 1000 by omega)
  have hup := fun S => up_ok (S := S) (show t.length ≤ 1000 by omega) ht.ch
  have hlu := fun S => law_up_ok (S := S) (show t.length ≤ 1000 by omega) ht.ch
  have z0 : t.length ≤ sizeLine := sz (by omega)
  have z1 : t.length + (" " : Str).length ≤ sizeLine := sz (by show t.length + 1 ≤ _; omega)
  have z2 : t.length + u2.length ≤ sizeLine := sz (by omega)
  have z3 : (ofC l).length + u3.length ≤ sizeLine := sz (by omega)
  have z4 : 3 ≤ sizeLine := by decide
  have same : ∀ S, eqB S (upD t) (upD t) = some true := fun S => by
    unfold upD
    split
    · rfl
    · simp
  obtain ⟨ρ1, f1, o1, o2, rfl⟩ := for_all (S := S4) (it := ⟨[.str u1, .str (t ++ u2), .str (ofC l ++ u3)], none⟩) (p := ptN 2) (b := (sSeq (sIf (mTest (mChain ltD ltD (mVar 1) (mVar 2) (mFn (ar 1 fn_next_value) (mCons (mVar 1) mNil))))
      (sRet (mC (.bl false))) sPass)
      (sSeq (sSet 3 (mFn (ar 1 fn_up) (mCons (mVar 1) mNil)))
      (sIf (mTest (mOp neD (mOp eqD (mSl slD (mVar 2) mNoPart (mPart (mFn lenD (mCons (mVar 1) mNil)))) (mVar 1)) (mAndV (mOp leD (mVar 1) (mVar 2)) (mOrV (mOp isND (mVar 3) (mC .non)) (mOp ltD (mVar 2) (mVar 3))))))
      (sRet (mC (.bl false))) sPass)))) trivial (fun ρ => ∃ o o2, ρ = [some (.ref n), some (.str t), o, o2]) [.str u1, .str (t ++ u2), .str (ofC l ++ u3)] [some (.ref n), some (.str t), none, none] (by
      rintro d hd ρ ⟨o, o2, rfl⟩
      obtain ⟨u, rfl, hu, lu⟩ : ∃ u : Str, d = .str u ∧ SgOk u ∧ u.length ≤ 50 := by
        simp only [List.mem_cons, List.not_mem_nil, or_false] at hd
        rcases hd with rfl | rfl | rfl
        · exact ⟨_, rfl, hu1, by omega⟩
        · exact ⟨_, rfl, ht.app hu2, by rw [len_app]; omega⟩
        · exact ⟨_, rfl, SgOk.app (fun c hc => ht c (hl c hc)) hu3, by rw [len_app]; omega⟩
      obtain ⟨o', e⟩ := other_ok (S := S4) (n := n) (o := o2) ht hu (by omega) lu
      exact ⟨_, _, rfl, .inl e, _, _, rfl⟩) ⟨_, _, rfl⟩
  refine ⟨S4, ?_, h4⟩
  unfold fn_law_texts_right
  rw [run_eq]
  simp only [sem_law_texts_right, startD]
  simp [e1, hn, z0, z1, hk, ht.tx, hup, hlu, same, e2, e3, e4, z2, el, z3, z4, f1]
/-- things that are no texts -/
theorem no_name {d : D} {S : Store} {k : Kd} (h : kd S d = some k) (h2 : k_str k = false) : fn_is_name [d] S = .ok (.bl false) S ∧ fn_is_path [d] S = .ok (.bl false) S := by
  constructor
  · unfold fn_is_name
    rw [run_eq]
    simp only [sem_is_name, startD]
    simp [isiD, h, h2]
  · unfold fn_is_path
    rw [run_eq]
    simp only [sem_is_path, startD]
    simp [isiD, h, h2]
theorem no_kind {d : D} {S : Store} {k : Kd} (h : kd S d = some k) (h2 : k_str k = false) (h3 : (k_int k && !k_bool k) = false) : fn_kind_of [d] S = .ok .non S := by
  have hi : fn_is_integer [d] S = .ok (.bl false) S := by
    unfold fn_is_integer
    rw [run_eq]
    simp only [sem_is_integer, startD]
    cases e1 : k_int k with
    | false => simp [isiD, h, e1]
    | true =>
      rw [e1] at h3
      have e2 : k_bool k = true := by simpa using h3
      simp [isiD, h, e1, e2]
  have ht : fn_is_text [d] S = .ok (.bl false) S := by
    unfold fn_is_text
    rw [run_eq]
    simp only [sem_is_text, startD]
    simp [isiD, h, h2]
  unfold fn_kind_of
  rw [run_eq]
  simp only [sem_kind_of, startD]
  simp [hi, ht]
def upS (t : Str) : Option Str := match en (cs t) (cs t).length with
  | 0 => none
  | j + 1 => some (ofC ((cs t).take j ++ [nxC ((cs t).getD j 0)]))
def oD : Option Str → D
  | none => .non
  | some x => .str x
theorem upD_S (t : Str) : upD t = oD (upS t) := by
  unfold upD upS
  cases en (cs t) (cs t).length <;> rfl
theorem up_of {t : Str} {S : Store} {o : Option Str} (h : upS t = o) (hz : t.length ≤ 1000) (hc : txB t = true) : fn_up [.str t] S = .ok (oD o) S := by
  rw [up_ok hz fun c h => of_decide_eq_true (List.all_eq_true.mp hc c h), upD_S, h]
def things : List D := [.non, .bl true, .bl false, .lst [], .tup [], .dct [], .lst [.str "a"], .tup [.str "a", .int 1], .str "a\n", .str "\t", .str "\na", .lst [.lst [.lst [.int 1]]]]
theorem right_ok {n : Nat} {S0 S : Store} (h : WAt n S0 S) (hw : Wf S0) : ∃ S', fn_law_right [.ref n] S = .ok (.bl true) S' ∧ WAt n S0 S' := by
  obtain ⟨a, S1, e1, _, _, h1⟩ := draw_ok 1999999999999999999999999999999 h (by decide) (by decide +kernel)
  obtain ⟨x, S2, e2, hx, h2⟩ := pick_ok [.int 0, .int 1] h1 (by simp) (by decide)
  obtain ⟨b, rfl, hb⟩ : ∃ b : Int, x = .int b ∧ sm64 b = true := by
    simp only [List.mem_cons, List.not_mem_nil, or_false] at hx
    rcases hx with rfl | rfl
    · exact ⟨0, rfl, by decide⟩
    · exact ⟨1, rfl, by decide⟩
  obtain ⟨S3, e3, h3⟩ := texts_ok h2
  obtain ⟨S4, e4, h4⟩ := places_ok h3 hw
  obtain ⟨S5, e5, h5⟩ := names_ok h4 hw
  obtain ⟨ρ1, f1, o1, rfl⟩ := for_all (S := S2) (it := ⟨things, none⟩) (p := ptN 2) (b := (sSeq (sIf (mTest (mOp notND (mFn (ar 1 fn_kind_of) (mCons (mVar 2) mNil)) (mC .non)))
      (sRet (mC (.bl false))) sPass)
      (sIf (mAnd (mNot (mTru (mUn (isiD k_str) (mVar 2)))) (mOr (mTest (mOp notND (mFn (ar 1 fn_is_name) (mCons (mVar 2) mNil)) (mC (.bl false)))) (mTest (mOp notND (mFn (ar 1 fn_is_path) (mCons (mVar 2) mNil)) (mC (.bl false))))))
      (sRet (mC (.bl false))) sPass))) trivial (fun ρ => ∃ o, ρ = [some (.ref n), some (.int ((a - 1000000000000000000000000000000 + 1) * b)), o]) things [some (.ref n), some (.int ((a - 1000000000000000000000000000000 + 1) * b)), none] (by
      rintro d hd ρ ⟨o, rfl⟩
      refine ⟨_, _, rfl, .inl ?_, some d, rfl⟩
      have go : ∀ k, kd S2 d = some k → k_str k = false → (k_int k && !k_bool k) = false → (sSeq (sIf (mTest (mOp notND (mFn (ar 1 fn_kind_of) (mCons (mVar 2) mNil)) (mC .non)))
          (sRet (mC (.bl false))) sPass)
          (sIf (mAnd (mNot (mTru (mUn (isiD k_str) (mVar 2)))) (mOr (mTest (mOp notND (mFn (ar 1 fn_is_name) (mCons (mVar 2) mNil)) (mC (.bl false)))) (mTest (mOp notND (mFn (ar 1 fn_is_path) (mCons (mVar 2) mNil)) (mC (.bl false))))))
          (sRet (mC (.bl false))) sPass)) [some (.ref n), some (.int ((a - 1000000000000000000000000000000 + 1) * b)), some d] S2 = .nx [some (.ref n), some (.int ((a - 1000000000000000000000000000000 + 1) * b)), some d] S2 := fun k h1 h2 h3 => by
        obtain ⟨q1, q2⟩ := no_name h1 h2
        simp [no_kind h1 h2 h3, isiD, h1, h2, q1, q2]
      have st : ∀ t : Str, d = .str t → t.length ≤ 1000 → txB t = false → (sSeq (sIf (mTest (mOp notND (mFn (ar 1 fn_kind_of) (mCons (mVar 2) mNil)) (mC .non)))
          (sRet (mC (.bl false))) sPass)
          (sIf (mAnd (mNot (mTru (mUn (isiD k_str) (mVar 2)))) (mOr (mTest (mOp notND (mFn (ar 1 fn_is_name) (mCons (mVar 2) mNil)) (mC (.bl false)))) (mTest (mOp notND (mFn (ar 1 fn_is_path) (mCons (mVar 2) mNil)) (mC (.bl false))))))
          (sRet (mC (.bl false))) sPass)) [some (.ref n), some (.int ((a - 1000000000000000000000000000000 + 1) * b)), some d] S2 = .nx [some (.ref n), some (.int ((a - 1000000000000000000000000000000 + 1) * b)), some d] S2 := fun t e hz hc => by
        subst e
        simp [kind_text hz, hc, k_str]
      unfold things at hd
      simp only [List.mem_cons, List.not_mem_nil, or_false] at hd
      rcases hd with rfl | rfl | rfl | rfl | rfl | rfl | rfl | rfl | rfl | rfl | rfl | rfl
      · exact go _ rfl rfl rfl
      · exact go _ rfl rfl rfl
      · exact go _ rfl rfl rfl
      · exact go _ rfl rfl rfl
      · exact go _ rfl rfl rfl
      · exact go _ rfl rfl rfl
      · exact go _ rfl rfl rfl
      · exact go _ rfl rfl rfl
      · exact st _ rfl (by decide) (by decide +kernel)
      · exact st _ rfl (by decide) (by decide +kernel)
      · exact st _ rfl (by decide) (by decide +kernel)
      · exact go _ rfl rfl rfl) ⟨_, rfl⟩
  have u1 : fn_up [.str ""] S2 = .ok .non S2 := up_of (S := S2) (t := "") (o := none) (by decide +kernel) (by decide) (by decide +kernel)
  have u2 : fn_up [.str "~"] S2 = .ok .non S2 := up_of (S := S2) (t := "~") (o := none) (by decide +kernel) (by decide) (by decide +kernel)
  have u3 : fn_up [.str "a~~"] S2 = .ok (.str "b") S2 := up_of (S := S2) (t := "a~~") (o := some "b") (by decide +kernel) (by decide) (by decide +kernel)
  have u4 : fn_up [.str "$"] S2 = .ok (.str "&") S2 := up_of (S := S2) (t := "$") (o := some "&") (by decide +kernel) (by decide) (by decide +kernel)
  have u5 : fn_up [.str "a "] S2 = .ok (.str "a!") S2 := up_of (S := S2) (t := "a ") (o := some "a!") (by decide +kernel) (by decide) (by decide +kernel)
  have nx : fn_next_value [.str ""] S2 = .ok (.str " ") S2 := (next_str (S := S2) (t := "") (by decide)).trans (by congr 2)
  have q7 : eqB S2 (.lst [.str " ", .non, .non, .str "b", .str "&", .str "a!", .int 0]) (.lst [.str " ", .non, .non, .str "b", .str "&", .str "a!", .int 0]) = some true := by
    have a : toPyS S2 (.lst [.str " ", .non, .non, .str "b", .str "&", .str "a!", .int 0]) = some (.list [.str " ", .none, .none, .str "b", .str "&", .str "a!", .int 0]) := rfl
    have b : (SeqAt.shaped (.list [.str " ", .none, .none, .str "b", .str "&", .str "a!", .int 0]) && SeqAt.shaped (.list [.str " ", .none, .none, .str "b", .str "&", .str "a!", .int 0])) = true := by decide +kernel
    have c : PyData.eqv (.list [.str " ", .none, .none, .str "b", .str "&", .str "a!", .int 0]) (.list [.str " ", .none, .none, .str "b", .str "&", .str "a!", .int 0]) = true := by decide +kernel
    show (match toPyS S2 (.lst [.str " ", .non, .non, .str "b", .str "&", .str "a!", .int 0]), toPyS S2 (.lst [.str " ", .non, .non, .str "b", .str "&", .str "a!", .int 0]) with
      | some p, some q => if (SeqAt.shaped p && SeqAt.shaped q) = true then some (PyData.eqv p q) else none
      | _, _ => none) = _
    rw [a]
    dsimp only
    rw [if_pos b, c]
  have nx2 := next_int (S := S2) (i := -1)
  have z1 : 1 ≤ sizeLine := by decide
  have z2 : 2 ≤ sizeLine := by decide
  have z7 : 7 ≤ sizeLine := by decide
  have z12 : 12 ≤ sizeLine := by decide
  have pw : (10 : Int) ^ (30 : Nat) = 1000000000000000000000000000000 := by decide
  have n10 : Int.natAbs 10 < 18446744073709551616 := by decide
  have s2 : sm64 2 = true := by decide
  refine ⟨S5, ?_, h5⟩
  unfold fn_law_right
  rw [run_eq]
  simp only [sem_law_right, startD]
  unfold things at f1
  simp [pw, n10, s2, e1, e2, hb, z1, z2, next_int, kind_int, z12, f1, nx, u1, u2, u3, u4, u5, z7, q7, e3, e4, e5]
theorem source_ok {c : Int} {S : Store} : ∃ m, Well m ∧ fn_law_source [.int c] S = .ok (.ref S.length) (S ++ [m]) := by
  have z3 : 3 ≤ sizeLine := by decide
  have s3 : sm64 3 = true := by decide
  have pw : (10 : Int) ^ (18 : Nat) = 1000000000000000000 := by decide
  have n10 : Int.natAbs 10 < 18446744073709551616 := by decide
  have b0 : sm64 0 = true := by decide
  have b1 : sm64 1 = true := by decide
  have go : ∀ k : Int, ∃ m, Well m ∧ rB ((sRet (mFn lstL (mCons (mOp mulD (mVar 1) (mFn intD (mCons (mOp geD (mVar 1) (mOp powD (mC (.int 10)) (mC (.int 18)))) mNil))) (mCons (mOp modD (mFn intD (mCons (mVar 1) mNil)) (mC (.int 2147483629))) (mCons (mC (.int 0)) mNil))))) [some (.int c), some (.int k)] S) = .ok (.ref S.length) (S ++ [m]) := fun k => by
    by_cases h : (1000000000000000000 : Int) ≤ k
    · exact ⟨_, ⟨_, _, _, rfl⟩, by simp [pw, n10, h, z3, b1]; exact ⟨rfl, rfl, rfl⟩⟩
    · exact ⟨_, ⟨_, _, _, rfl⟩, by simp [pw, n10, h, z3, b0]; exact ⟨rfl, rfl, rfl⟩⟩
  unfold fn_law_source
  rw [run_eq]
  simp only [sem_law_source, startD]
  by_cases h : 0 ≤ c
  · obtain ⟨m, hm, e⟩ := go c
    refine ⟨m, hm, ?_⟩
    rw [← e]
    simp [h]
  · obtain ⟨m, hm, e⟩ := go (0 - 3 * c - 1)
    refine ⟨m, hm, ?_⟩
    rw [← e]
    simp [h, s3]
theorem Wf.app {S : Store} {m : MO} (h : Wf S) (hm : belM (S.length + 1) m = true) (up : ∀ x ∈ S, belM S.length x = true → belM (S.length + 1) x = true) : Wf (S ++ [m]) := by
  unfold Wf
  rw [List.length_append]
  refine List.all_eq_true.mpr fun x hx => ?_
  rcases List.mem_append.mp hx with hx | hx
  · exact up x hx (List.all_eq_true.mp h x hx)
  · rw [List.mem_singleton.mp hx]
    exact hm
/-- wells alone -/
def Wls (S : Store) : Prop := ∀ m ∈ S, Well m
theorem Wls.wf {S : Store} (h : Wls S) : Wf S := List.all_eq_true.mpr fun m hm => by
  obtain ⟨a, b, c, rfl⟩ := h m hm
  rfl
theorem law_ok : LawOk := by
  intro ns hns
  have hcut : cutD (ns.map D.int) none (some 4) = (ns.map D.int).take 4 := cut4 _
  obtain ⟨ys, S1, e1, l1, q1, w1⟩ := comp_each (all := (ns.map D.int).take 4 ++ [.int 0]) (p := ptN 1) (e := mFn (ar 1 fn_law_right) (mCons (mFn (ar 1 fn_law_source) (mCons (mVar 1) mNil)) mNil))
    (ρ := [some (.scr ns), none]) Wls (fun y => y = .bl true) ((ns.map D.int).take 4 ++ [.int 0]) 0 [] (fun d hd => ⟨_, rfl, fun S hS => by
      obtain ⟨c, rfl⟩ : ∃ c : Int, d = .int c := by
        rcases List.mem_append.mp hd with hd | hd
        · obtain ⟨c, _, rfl⟩ := List.mem_map.mp (List.mem_of_mem_take hd)
          exact ⟨c, rfl⟩
        · exact ⟨0, List.mem_singleton.mp hd⟩
      obtain ⟨m, hm, e⟩ := source_ok (c := c) (S := S)
      have hW : Wls (S ++ [m]) := fun x hx => by
        rcases List.mem_append.mp hx with hx | hx
        · exact hS x hx
        · rw [List.mem_singleton.mp hx]; exact hm
      have hat : WAt S.length (S ++ [m]) (S ++ [m]) := by
        have e0 : sg (S ++ [m]) S.length = some m := by unfold sg; simp
        exact ⟨sg_lt e0, m, hm, sp_same e0⟩
      obtain ⟨S', e', h'⟩ := right_ok hat hW.wf
      refine ⟨.bl true, S', by simp [e, e'], ?_, rfl⟩
      obtain ⟨_, m', hm', rfl⟩ := h'
      intro x hx
      rcases List.mem_or_eq_of_mem_set hx with hx | rfl
      · exact hW x hx
      · exact hm'⟩) (fun m hm => nomatch hm) (sz (by simp; omega))
  have ya : ys = ys.map fun _ => D.bl ((fun _ => true) ()) := by
    clear e1 l1
    induction ys with
    | nil => rfl
    | cons y ys ih =>
      rw [List.map_cons, ← ih fun z hz => q1 z (by simp [hz]), q1 y (by simp)]
  have ea : allD [.lst ys] S1 = .ok (.bl true) S1 := by
    rw [ya]
    have := all_bl (S := S1) (fun _ : D => true) ys
    rw [show ys.all (fun _ => true) = true from List.all_eq_true.mpr fun _ _ => rfl] at this
    exact this
  refine ⟨[], ?_⟩
  unfold fn_law
  have z1 : 1 ≤ sizeLine := by decide
  have z5 : min 4 ns.length + 1 ≤ sizeLine := sz (by omega)
  refine cln_ok (S := []) (d := .bl true) (S' := S1) ?_ rfl rfl rfl
  rw [run_eq]
  simp only [sem_law, startD]
  simp [hcut, z1, z5, wipeD, e1, ea]
end G
open PySem PySem.W PyProof.Rows in
set_option maxRecDepth 100000 in
set_option maxHeartbeats 0 in
theorem PySem.Challenge.cw_sparedwork_k01_values_names_and_paths_holds : PySem.Challenge.rw_sparedwork_k01_values_names_and_paths.Holds := by
  w_on; o_law; k_head; (case hw => w_witness2)
  k_fill
  refine G.walk (l := PySem.Challenge.rw_sparedwork_k01_values_names_and_paths) G.law_ok (fun _ => none) rfl rfl (fun w h Y => PySem.W.kIn_of Y) ?F
  case F =>
    intro w mg fa h KX NS hmg
    refine' G.all_mk KX NS hmg ?a0 ?l0 ?c0 ?k0 ?a1 ?l1 ?c1 ?k1 ?a2 ?l2 ?c2 ?k2 ?a3 ?l3 ?c3 ?k3 ?a4 ?l4 ?c4 ?k4 ?a5 ?l5 ?c5 ?k5 ?a6 ?l6 ?c6 ?k6 ?a7 ?l7 ?c7 ?k7 ?a8 ?l8 ?c8 ?k8 ?a9 ?l9 ?c9 ?k9 ?a10 ?l10 ?c10 ?k10 ?a11 ?l11 ?c11 ?k11 ?a12 ?l12 ?c12 ?k12 ?a13 ?l13 ?c13 ?k13 ?a14 ?l14 ?c14 ?k14 ?a15 ?l15 ?c15 ?k15 ?a16 ?l16 ?c16 ?k16 ?a17 ?l17 ?c17 ?k17 ?a18 ?l18 ?c18 ?k18 ?a19 ?l19 ?c19 ?k19 ?a20 ?l20 ?c20 ?k20 ?a21 ?l21 ?c21 ?k21 ?a22 ?l22 ?c22 ?k22 ?a23 ?l23 ?c23 ?k23 ?a24 ?l24 ?c24 ?k24 ?a25 ?l25 ?c25 ?k25 ?z_all ?z_bool ?z_int ?z_isinstance ?z_len ?z_range ?z_str ?x_CHARS ?v_CHARS ?x_DIGITS ?v_DIGITS ?x_KEPT_WORDS ?y_KEPT_WORDS ?v_KEPT_WORDS ?w_KEPT_WORDS ?x_LETTERS ?v_LETTERS ?x_MOST_PIECES ?v_MOST_PIECES ?x_SLOT_NUMBERS ?y_SLOT_NUMBERS ?v_SLOT_NUMBERS ?w_SLOT_NUMBERS
    (case a0 => k_is)
    (case l0 => k_is)
    (case c0 => k_is)
    (case k0 => k_is)
    (case a1 => k_is)
    (case l1 => k_is)
    (case c1 => k_is)
    (case k1 => k_is)
    (case a2 => k_is)
    (case l2 => k_is)
    (case c2 => k_is)
    (case k2 => k_is)
    (case a3 => k_is)
    (case l3 => k_is)
    (case c3 => k_is)
    (case k3 => k_is)
    (case a4 => k_is)
    (case l4 => k_is)
    (case c4 => k_is)
    (case k4 => k_is)
    (case a5 => k_is)
    (case l5 => k_is)
    (case c5 => k_is)
    (case k5 => k_is)
    (case a6 => k_is)
    (case l6 => k_is)
    (case c6 => k_is)
    (case k6 => k_is)
    (case a7 => k_is)
    (case l7 => k_is)
    (case c7 => k_is)
    (case k7 => k_is)
    (case a8 => k_is)
    (case l8 => k_is)
    (case c8 => k_is)
    (case k8 => k_is)
    (case a9 => k_is)
    (case l9 => k_is)
    (case c9 => k_is)
    (case k9 => k_is)
    (case a10 => k_is)
    (case l10 => k_is)
    (case c10 => k_is)
    (case k10 => k_is)
    (case a11 => k_is)
    (case l11 => k_is)
    (case c11 => k_is)
    (case k11 => k_is)
    (case a12 => k_is)
    (case l12 => k_is)
    (case c12 => k_is)
    (case k12 => k_is)
    (case a13 => k_is)
    (case l13 => k_is)
    (case c13 => k_is)
    (case k13 => k_is)
    (case a14 => k_is)
    (case l14 => k_is)
    (case c14 => k_is)
    (case k14 => k_is)
    (case a15 => k_is)
    (case l15 => k_is)
    (case c15 => k_is)
    (case k15 => k_is)
    (case a16 => k_is)
    (case l16 => k_is)
    (case c16 => k_is)
    (case k16 => k_is)
    (case a17 => k_is)
    (case l17 => k_is)
    (case c17 => k_is)
    (case k17 => k_is)
    (case a18 => k_is)
    (case l18 => k_is)
    (case c18 => k_is)
    (case k18 => k_is)
    (case a19 => k_is)
    (case l19 => k_is)
    (case c19 => k_is)
    (case k19 => k_is)
    (case a20 => k_is)
    (case l20 => k_is)
    (case c20 => k_is)
    (case k20 => k_is)
    (case a21 => k_is)
    (case l21 => k_is)
    (case c21 => k_is)
    (case k21 => k_is)
    (case a22 => k_is)
    (case l22 => k_is)
    (case c22 => k_is)
    (case k22 => k_is)
    (case a23 => k_is)
    (case l23 => k_is)
    (case c23 => k_is)
    (case k23 => k_is)
    (case a24 => k_is)
    (case l24 => k_is)
    (case c24 => k_is)
    (case k24 => k_is)
    (case a25 => k_is)
    (case l25 => k_is)
    (case c25 => k_is)
    (case k25 => k_is)
    (case z_all => k_is)
    (case z_bool => k_is)
    (case z_int => k_is)
    (case z_isinstance => k_is)
    (case z_len => k_is)
    (case z_range => k_is)
    (case z_str => k_is)
    (case x_CHARS => k_is)
    (case v_CHARS => exact ⟨.str " !\"#$&'()*+,-./0123456789:;<=>?@ABCDEFGHIJKLMNOPQRSTUVWXYZ[\\]^_`abcdefghijklmnopqrstuvwxyz{|}~", ⟨_, rfl⟩, rfl⟩)
    (case x_DIGITS => k_is)
    (case v_DIGITS => exact ⟨.str "0123456789", ⟨_, rfl⟩, rfl⟩)
    (case x_KEPT_WORDS => k_is)
    (case y_KEPT_WORDS => k_is)
    (case v_KEPT_WORDS => exact (.cons ⟨.str "and", ⟨_, rfl⟩, rfl⟩ (.cons ⟨.str "or", ⟨_, rfl⟩, rfl⟩ (.cons ⟨.str "not", ⟨_, rfl⟩, rfl⟩ (.cons ⟨.str "sure", ⟨_, rfl⟩, rfl⟩ (.cons ⟨.str "in", ⟨_, rfl⟩, rfl⟩ (.cons ⟨.str "is", ⟨_, rfl⟩, rfl⟩ (.cons ⟨.str "empty", ⟨_, rfl⟩, rfl⟩ (.cons ⟨.str "begins", ⟨_, rfl⟩, rfl⟩ (.cons ⟨.str "always", ⟨_, rfl⟩, rfl⟩ (.cons ⟨.str "never", ⟨_, rfl⟩, rfl⟩ (.cons ⟨.str "unsure", ⟨_, rfl⟩, rfl⟩ .nil))))))))))))
    (case w_KEPT_WORDS => decide)
    (case x_LETTERS => k_is)
    (case v_LETTERS => exact ⟨.str "abcdefghijklmnopqrstuvwxyz", ⟨_, rfl⟩, rfl⟩)
    (case x_MOST_PIECES => k_is)
    (case v_MOST_PIECES => exact ⟨.int 4, ⟨_, rfl⟩, rfl⟩)
    (case x_SLOT_NUMBERS => k_is)
    (case y_SLOT_NUMBERS => k_is)
    (case v_SLOT_NUMBERS => exact (.cons ⟨.str "1", ⟨_, rfl⟩, rfl⟩ (.cons ⟨.str "2", ⟨_, rfl⟩, rfl⟩ (.cons ⟨.str "3", ⟨_, rfl⟩, rfl⟩ .nil))))
    (case w_SLOT_NUMBERS => decide)
#print axioms PySem.Challenge.cw_sparedwork_k01_values_names_and_paths_holds
