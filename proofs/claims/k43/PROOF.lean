import PyProof.Rows.All
import Wide.All
import OpenK.AllK
import Wide.FinOn
import HandS.ForMost
import HandS.ForExc
import HandS.CallSlots
import HandS.Property
import HandS.TupAny
import HandS.Wide
import HandS.IsInst
import HandS.Text
import HandS.TupLe
import PyProof.MaxThree
import HandS.TupLen
import HandS.Style
import HandS.Zip
import HandS.SortInts
import HandS.SortRule
import PySem.Challenge.RW_surehour_k43_shown_clocks_tick_by_tick
set_option Elab.async false
set_option linter.all false
set_option maxRecDepth 100000
set_option maxHeartbeats 1000000
/-! DLBase: the data layer: what values are as plain data, how the heap bears them, what a piece of code does to data -/
namespace DL
open PySem PySem.Spec PyProof.Rows L2

/-- plain data: what a value is, without addresses; ptr: an object that may change, by its number; draw: the law's drawing -/
inductive D where
  | non | bl (b : Bool) | int (i : Int) | str (x : Str) | tup (xs : List D) | lst (xs : List D) | frl (ns : List Int)
  | dk (kvs : List (Key × D)) | dt (kvs : List (List Key × D)) | obj (C : Addr) (fs : List (Str × D)) | ptr (i : Nat) | draw
  deriving Inhabited

/-- the ghost: what is frozen, where the numbered objects stand, where the drawing stands (its dict, its list) -/
structure Gh where
  G : Hp
  η : List Addr
  dr : Option (Addr × Addr)

mutual
inductive Rep (K : PySem.W.Frag) (g : Gh) : V → D → Prop
  | non : Rep K g .non .non
  | bl (b : Bool) : Rep K g (.bl b) (.bl b)
  | int (i : Int) : Rep K g (.int i) (.int i)
  | str (x : Str) : Rep K g (.str x) (.str x)
  | tup {a : Addr} {xs : List V} {ds : List D} : g.G a = some (.tup xs) → Reps K g xs ds → Rep K g (.ref a) (.tup ds)
  | tup0 {a : Addr} : SqT K g.G a [] → Rep K g (.ref a) (.tup [])
  | lst {a : Addr} {xs : List V} {ds : List D} : g.G a = some (.lst xs) → Reps K g xs ds → Rep K g (.ref a) (.lst ds)
  | frl {a : Addr} {ns : List Int} : SqL K g.G a (ns.map V.int) → Rep K g (.ref a) (.frl ns)
  | dk {a : Addr} {kvs : List (Key × V)} {ds : List (Key × D)} : g.G a = some (.dK kvs) → kvs.map Prod.fst = ds.map Prod.fst → Reps K g (kvs.map Prod.snd) (ds.map Prod.snd) → Rep K g (.ref a) (.dk ds)
  | dt {a : Addr} {kvs : List (List Key × V)} {ds : List (List Key × D)} : g.G a = some (.dT kvs) → kvs.map Prod.fst = ds.map Prod.fst → Reps K g (kvs.map Prod.snd) (ds.map Prod.snd) → Rep K g (.ref a) (.dt ds)
  | obj {a C dx : Addr} {fs : List (Str × V)} {ds : List (Str × D)} : g.G a = some (.ins C dx fs) → fs.map Prod.fst = ds.map Prod.fst → Reps K g (fs.map Prod.snd) (ds.map Prod.snd) → Rep K g (.ref a) (.obj C ds)
  | ptr {a : Addr} {i : Nat} : g.η[i]? = some a → Rep K g (.ref a) (.ptr i)
  | draw {a l : Addr} : g.dr = some (a, l) → Rep K g (.ref a) .draw
inductive Reps (K : PySem.W.Frag) (g : Gh) : List V → List D → Prop
  | nil : Reps K g [] []
  | cons {v : V} {vs : List V} {d : D} {ds : List D} : Rep K g v d → Reps K g vs ds → Reps K g (v :: vs) (d :: ds)
end

/-- the ghost grows -/
structure Le (g g' : Gh) : Prop where
  G : ∀ a o, g.G a = some o → g'.G a = some o
  η : ∀ (i : Nat) (a : Addr), g.η[i]? = some a → g'.η[i]? = some a
  dr : g'.dr = g.dr
theorem Le.refl (g : Gh) : Le g g := ⟨fun _ _ h => h, fun _ _ h => h, rfl⟩
theorem Le.trans {g1 g2 g3 : Gh} (a : Le g1 g2) (b : Le g2 g3) : Le g1 g3 := ⟨fun _ _ h => b.G _ _ (a.G _ _ h), fun _ _ h => b.η _ _ (a.η _ _ h), b.dr.trans a.dr⟩

theorem SqT.le {K : PySem.W.Frag} {H H' : Hp} {a : Addr} {xs : List V} (s : ∀ a o, H a = some o → H' a = some o) (h : SqT K H a xs) : SqT K H' a xs := by
  rcases h with (h | ⟨o, h⟩) | h
  · exact .inl (.inl (s _ _ h))
  · exact .inl (.inr ⟨o, s _ _ h⟩)
  · exact .inr h
theorem SqL.le {K : PySem.W.Frag} {H H' : Hp} {a : Addr} {xs : List V} (s : ∀ a o, H a = some o → H' a = some o) (h : SqL K H a xs) : SqL K H' a xs := by
  rcases h with (h | ⟨o, h⟩) | h
  · exact .inl (.inl (s _ _ h))
  · exact .inl (.inr ⟨o, s _ _ h⟩)
  · exact .inr h
section
variable {K : PySem.W.Frag} {g g' : Gh}
mutual
theorem Rep.mono (h : Le g g') : ∀ {v : V} {d : D}, Rep K g v d → Rep K g' v d
  | _, _, .non => .non
  | _, _, .bl b => .bl b
  | _, _, .int i => .int i
  | _, _, .str x => .str x
  | _, _, .tup a r => .tup (h.G _ _ a) (Reps.mono h r)
  | _, _, .tup0 a => .tup0 (SqT.le h.G a)
  | _, _, .lst a r => .lst (h.G _ _ a) (Reps.mono h r)
  | _, _, .frl a => .frl (SqL.le h.G a)
  | _, _, .dk a e r => .dk (h.G _ _ a) e (Reps.mono h r)
  | _, _, .dt a e r => .dt (h.G _ _ a) e (Reps.mono h r)
  | _, _, .obj a e r => .obj (h.G _ _ a) e (Reps.mono h r)
  | _, _, .ptr e => .ptr (h.η _ _ e)
  | _, _, .draw e => .draw (h.dr.trans e)
theorem Reps.mono (h : Le g g') : ∀ {v : List V} {d : List D}, Reps K g v d → Reps K g' v d
  | _, _, .nil => .nil
  | _, _, .cons a r => .cons (Rep.mono h a) (Reps.mono h r)
end
theorem Reps.length : ∀ {vs : List V} {ds : List D}, Reps K g vs ds → vs.length = ds.length
  | _, _, .nil => rfl
  | _, _, .cons _ r => by rw [List.length_cons, List.length_cons, Reps.length r]
theorem Reps.get : ∀ {vs : List V} {ds : List D} {i : Nat} {d : D}, Reps K g vs ds → ds[i]? = some d → ∃ v, vs[i]? = some v ∧ Rep K g v d
  | _, _, _, _, .nil, e => by simp at e
  | _, _, 0, _, .cons a r, e => by simp at e; subst e; exact ⟨_, rfl, a⟩
  | _, _, i + 1, d, .cons a r, e => by
    obtain ⟨v, h1, h2⟩ := Reps.get (i := i) (d := d) r (by simpa using e)
    exact ⟨v, by simpa using h1, h2⟩
theorem Reps.append : ∀ {vs ws : List V} {ds es : List D}, Reps K g vs ds → Reps K g ws es → Reps K g (vs ++ ws) (ds ++ es)
  | _, _, _, _, .nil, s => s
  | _, _, _, _, .cons a r, s => .cons a (Reps.append r s)
theorem Reps.one {v : V} {d : D} (h : Rep K g v d) : Reps K g [v] [d] := .cons h .nil
theorem Reps.take : ∀ (n : Nat) {vs : List V} {ds : List D}, Reps K g vs ds → Reps K g (vs.take n) (ds.take n)
  | 0, _, _, _ => by simp; exact .nil
  | n + 1, _, _, .nil => .nil
  | n + 1, _, _, .cons a r => .cons a (Reps.take n r)
theorem Reps.drop : ∀ (n : Nat) {vs : List V} {ds : List D}, Reps K g vs ds → Reps K g (vs.drop n) (ds.drop n)
  | 0, _, _, r => by simpa using r
  | n + 1, _, _, .nil => .nil
  | n + 1, _, _, .cons a r => Reps.drop n r
theorem Reps.set : ∀ {vs : List V} {ds : List D} (i : Nat) {v : V} {d : D}, Reps K g vs ds → Rep K g v d → Reps K g (vs.set i v) (ds.set i d)
  | _, _, _, _, _, .nil, _ => .nil
  | _, _, 0, _, _, .cons a r, h => .cons h r
  | _, _, i + 1, _, _, .cons a r, h => .cons a (Reps.set i r h)
theorem Reps.ints : ∀ (ns : List Int), Reps K g (ns.map V.int) (ns.map D.int)
  | [] => .nil
  | n :: r => .cons (.int n) (Reps.ints r)
end

/-! ### the data state -/
/-- the drawing -/
structure DrawSt where
  large : List Int
  cells : List Int
  rest : Int
  turn : Int
  mix : Int
/-- an object that may change -/
inductive MO where
  | ins (C : Addr) (fs : List (Str × D))
/-- what a slot holds: frozen data; an object of its own; an object lent by the caller; one's own, locked -/
inductive W where
  | fz (d : D) | own (d : D) | lent (d : D) | lk (d : D) | lkl (d : D)
structure State where
  env : List (Option W)
  sto : List MO
  dr : Option DrawSt
/-- an exception's class, its fields -/
structure Ex where
  cls : Addr
  fs : List (Str × D)
inductive Rs (α : Type) where
  | ok (a : α) (s : State) | err (x : Ex) (s : State) | bad
abbrev M (α : Type) := State → Rs α
def M.pure {α : Type} (a : α) : M α := fun s => .ok a s
def M.bind {α β : Type} (m : M α) (k : α → M β) : M β := fun s => match m s with
  | .ok a s' => k a s'
  | .err x s' => .err x s'
  | .bad => .bad
instance : Monad M where
  pure := M.pure
  bind := M.bind
def M.bad {α : Type} : M α := fun _ => .bad

abbrev Slots := List (Option V)
/-- what an expression gives: frozen data, or a new object that no one else holds -/
inductive T where
  | fz (d : D) | ow (d : D)
/-! ### how the heap bears the state -/
def IsDr (g : Gh) (a : Addr) : Prop := ∃ x l, g.dr = some (x, l) ∧ (a = x ∨ a = l)
def lockable : HO → Bool
  | .dK _ => true
  | .dT _ => true
  | _ => false
/-- it stands there, perhaps locked -/
def RdO (H : Hp) (a : Addr) (o : HO) : Prop := H a = some o ∨ (lockable o = true ∧ ∃ ob, H a = some (.frz ob o))
theorem RdO.live {H : Hp} {a : Addr} {o : HO} (h : RdO H a o) : H a ≠ none := by
  rcases h with h | ⟨_, ob, h⟩ <;> rw [h] <;> simp
theorem RdO.keep {H H' : Hp} {a : Addr} {o : HO} (k : ∀ u, H a = some u → H' a = some u) (h : RdO H a o) : RdO H' a o := by
  rcases h with h | ⟨l, ob, h⟩
  · exact .inl (k _ h)
  · exact .inr ⟨l, ob, k _ h⟩
theorem RdO.rd {H : Hp} {a : Addr} {o : HO} (h : RdO H a o) : Rd H a o := by
  rcases h with h | ⟨_, ob, h⟩
  · exact .inl h
  · exact .inr ⟨ob, h⟩
theorem RdO.exact {H : Hp} {a : Addr} {o : HO} (h : RdO H a o) (l : lockable o = false) : H a = some o := by
  rcases h with h | ⟨l', _⟩
  · exact h
  · rw [l] at l'; cases l'
section
variable (K : PySem.W.Frag)
def ObAt (g : Gh) (o : HO) : D → Prop
  | .lst ds => ∃ xs, o = .lst xs ∧ Reps K g xs ds
  | .dk ds => ∃ kvs, o = .dK kvs ∧ kvs.map Prod.fst = ds.map Prod.fst ∧ Reps K g (kvs.map Prod.snd) (ds.map Prod.snd)
  | .dt ds => ∃ kvs, o = .dT kvs ∧ kvs.map Prod.fst = ds.map Prod.fst ∧ Reps K g (kvs.map Prod.snd) (ds.map Prod.snd)
  | .obj C ds => ∃ dx fs, o = .ins C dx fs ∧ fs.map Prod.fst = ds.map Prod.fst ∧ Reps K g (fs.map Prod.snd) (ds.map Prod.snd)
  | _ => False
def MObAt (g : Gh) (o : HO) : MO → Prop
  | .ins C ds => ∃ dx fs, o = .ins C dx fs ∧ fs.map Prod.fst = ds.map Prod.fst ∧ Reps K g (fs.map Prod.snd) (ds.map Prod.snd)
def drKvs (l c : Addr) (s : DrawSt) : List (Key × V) := [(.inr "large", .ref l), (.inr "cells", .ref c), (.inr "rest", .int s.rest), (.inr "turn", .int s.turn), (.inr "mix", .int s.mix)]
structure DrAt (g : Gh) (H : Hp) (a l : Addr) (s : DrawSt) : Prop where
  dict : ∃ c, H a = some (.dK (drKvs l c s)) ∧ g.G c = some (.lst (s.cells.map V.int))
  list : H l = some (.lst (s.large.map V.int))
  ne : a ≠ l
  ga : g.G a = none
  gl : g.G l = none
def DrOk (g : Gh) (H : Hp) : Option (Addr × Addr) → Option DrawSt → Prop
  | some (a, l), some x => DrAt g H a l x
  | none, none => True
  | _, _ => False
theorem DrOk.map {g g' : Gh} {H H' : Hp} : ∀ {p : Option (Addr × Addr)} {q : Option DrawSt}, (∀ a l x, p = some (a, l) → DrAt g H a l x → DrAt g' H' a l x) → DrOk g H p q → DrOk g' H' p q
  | some (a, l), some x, h, d => h a l x rfl d
  | none, none, _, _ => trivial
  | some _, none, _, d => d.elim
  | none, some _, _, d => d.elim
/-- an address that is no one's but its holder's -/
def Free1 (g : Gh) (a : Addr) : Prop := g.G a = none ∧ a ∉ g.η ∧ ¬ IsDr g a
def WAt (g : Gh) (H : Hp) (v : V) : W → Prop
  | .fz d => Rep K g v d
  | .own d => ∃ a o, v = .ref a ∧ Free1 g a ∧ H a = some o ∧ ObAt K g o d
  | .lent d => ∃ a o, v = .ref a ∧ Free1 g a ∧ H a = some o ∧ ObAt K g o d
  | .lk d => ∃ a o, v = .ref a ∧ Free1 g a ∧ RdO H a o ∧ ObAt K g o d
  | .lkl d => ∃ a o, v = .ref a ∧ Free1 g a ∧ RdO H a o ∧ ObAt K g o d
end
def W.held : W → Bool
  | .fz _ => false
  | _ => true
/-- may be written -/
def W.mut : W → Bool
  | .own _ => true
  | .lent _ => true
  | _ => false
structure SD (K : PySem.W.Frag) (g : Gh) (H : Hp) (σ : Slots) (s : State) : Prop where
  gh : ∀ a o, g.G a = some o → RdO H a o
  len : s.env.length = σ.length
  slot : ∀ (i : Nat) (w : W), s.env[i]? = some (some w) → ∃ v, σ[i]? = some (some v) ∧ WAt K g H v w
  inj : ∀ (i j : Nat) (w u : W) (a : Addr), s.env[i]? = some (some w) → s.env[j]? = some (some u) → w.held = true → u.held = true → σ[i]? = some (some (V.ref a)) → σ[j]? = some (some (V.ref a)) → i = j
  stl : s.sto.length = g.η.length
  sto : ∀ (i : Nat) (m : MO) (a : Addr), s.sto[i]? = some m → g.η[i]? = some a → ∃ o, H a = some o ∧ MObAt K g o m
  nd : g.η.Nodup
  ng : ∀ a ∈ g.η, g.G a = none ∧ ¬ IsDr g a
  dr : DrOk g H g.dr s.dr
def Hd (σ : Slots) (s : State) (a : Addr) : Prop := ∃ (i : Nat) (w : W), s.env[i]? = some (some w) ∧ w.held = true ∧ σ[i]? = some (some (V.ref a))
def OwnA (σ : Slots) (s : State) (a : Addr) : Prop := ∃ (i : Nat) (d : D), (s.env[i]? = some (some (.own d)) ∨ s.env[i]? = some (some (.lk d))) ∧ σ[i]? = some (some (V.ref a))
/-- what may change from here on -/
def Mu (g : Gh) (σ : Slots) (s : State) (a : Addr) : Prop :=
  (∃ (i : Nat) (w : W), s.env[i]? = some (some w) ∧ w.mut = true ∧ σ[i]? = some (some (V.ref a))) ∨ a ∈ g.η ∨ IsDr g a
structure Ev (g : Gh) (H : Hp) (σ : Slots) (s : State) (g' : Gh) (H' : Hp) (σ' : Slots) (s' : State) : Prop where
  le : Le g g'
  keep : ∀ a o, H a = some o → ¬ Mu g σ s a → H' a = some o
  live : ∀ a, H a ≠ none → H' a ≠ none
  frz : ∀ a, H a ≠ none → g'.G a ≠ none → g.G a ≠ none ∨ Mu g σ s a
  eta : ∀ a, H a ≠ none → a ∈ g'.η → a ∈ g.η
  mu : ∀ a, Mu g' σ' s' a → Mu g σ s a ∨ H a = none
  hd : ∀ a, Hd σ' s' a → Hd σ s a ∨ H a = none
  ow : ∀ a, OwnA σ' s' a → OwnA σ s a ∨ H a = none
  fix : ∀ (i : Nat) (d : D), s.env[i]? = some (some (.lent d)) → σ'[i]? = σ[i]? ∧ ∃ d', s'.env[i]? = some (some (.lent d')) ∨ s'.env[i]? = some (some (.lkl d'))
  lk : ∀ (i : Nat) (d : D), s.env[i]? = some (some (.lk d)) → σ'[i]? = σ[i]? ∧ s'.env[i]? = some (some (.lk d))
  lkl : ∀ (i : Nat) (d : D), s.env[i]? = some (some (.lkl d)) → σ'[i]? = σ[i]? ∧ s'.env[i]? = some (some (.lkl d))
section
variable {g g' g1 g2 g3 : Gh} {H H' H1 H2 H3 : Hp} {σ σ' σ1 σ2 σ3 : Slots} {s s' s1 s2 s3 : State}
theorem Ev.refl : Ev g H σ s g H σ s := ⟨.refl g, fun _ _ h _ => h, fun _ h => h, fun _ _ h => .inl h, fun _ _ h => h, fun _ h => .inl h, fun _ h => .inl h, fun _ h => .inl h, fun _ d h => ⟨rfl, d, .inl h⟩, fun _ _ h => ⟨rfl, h⟩, fun _ _ h => ⟨rfl, h⟩⟩
theorem Ev.trans (a : Ev g1 H1 σ1 s1 g2 H2 σ2 s2) (b : Ev g2 H2 σ2 s2 g3 H3 σ3 s3) : Ev g1 H1 σ1 s1 g3 H3 σ3 s3 where
  le := a.le.trans b.le
  keep := fun x o h n => b.keep x o (a.keep x o h n) fun z => (a.mu x z).elim n fun q => by rw [h] at q; cases q
  live := fun x h => b.live x (a.live x h)
  frz := fun x h q => by
    rcases b.frz x (a.live x h) q with z | z
    · exact a.frz x h z
    · rcases a.mu x z with y | y
      · exact .inr y
      · exact absurd y h
  eta := fun x h q => a.eta x h (b.eta x (a.live x h) q)
  mu := fun x q => by
    rcases b.mu x q with z | z
    · exact a.mu x z
    · by_cases y : H1 x = none
      · exact .inr y
      · exact absurd z (a.live x y)
  hd := fun x q => by
    rcases b.hd x q with z | z
    · exact a.hd x z
    · by_cases y : H1 x = none
      · exact .inr y
      · exact absurd z (a.live x y)
  ow := fun x q => by
    rcases b.ow x q with z | z
    · exact a.ow x z
    · by_cases y : H1 x = none
      · exact .inr y
      · exact absurd z (a.live x y)
  fix := fun i d h => by
    obtain ⟨e1, d1, h1⟩ := a.fix i d h
    rcases h1 with h1 | h1
    · obtain ⟨e2, d2, h2⟩ := b.fix i d1 h1
      exact ⟨e2.trans e1, d2, h2⟩
    · obtain ⟨e2, h2⟩ := b.lkl i d1 h1
      exact ⟨e2.trans e1, d1, .inr h2⟩
  lk := fun i d h => by
    obtain ⟨e1, h1⟩ := a.lk i d h
    obtain ⟨e2, h2⟩ := b.lk i d h1
    exact ⟨e2.trans e1, h2⟩
  lkl := fun i d h => by
    obtain ⟨e1, h1⟩ := a.lkl i d h
    obtain ⟨e2, h2⟩ := b.lkl i d h1
    exact ⟨e2.trans e1, h2⟩
theorem Mu.hd {a : Addr} (h : Mu g σ s a) : Hd σ s a ∨ a ∈ g.η ∨ IsDr g a := by
  rcases h with ⟨i, w, e, m, x⟩ | h
  · refine .inl ⟨i, w, e, ?_, x⟩
    cases w <;> first | rfl | cases m
  · exact .inr h
variable {K : PySem.W.Frag}
theorem ObAt.mono {o : HO} (h : Le g g') : ∀ {d : D}, ObAt K g o d → ObAt K g' o d
  | .lst _, ⟨xs, e, r⟩ => ⟨xs, e, r.mono h⟩
  | .dk _, ⟨xs, e, k, r⟩ => ⟨xs, e, k, r.mono h⟩
  | .dt _, ⟨xs, e, k, r⟩ => ⟨xs, e, k, r.mono h⟩
  | .obj _ _, ⟨dx, xs, e, k, r⟩ => ⟨dx, xs, e, k, r.mono h⟩
  | .non, z => z.elim
  | .bl _, z => z.elim
  | .int _, z => z.elim
  | .str _, z => z.elim
  | .tup _, z => z.elim
  | .frl _, z => z.elim
  | .ptr _, z => z.elim
  | .draw, z => z.elim
theorem MObAt.mono {o : HO} (h : Le g g') : ∀ {m : MO}, MObAt K g o m → MObAt K g' o m
  | .ins _ _, ⟨dx, xs, e, k, r⟩ => ⟨dx, xs, e, k, r.mono h⟩
theorem IsDr.eq {a : Addr} (h : g'.dr = g.dr) (x : IsDr g' a) : IsDr g a := by
  obtain ⟨p, q, e, z⟩ := x
  exact ⟨p, q, h ▸ e, z⟩
/-- a value that an expression has given -/
def TAt (K : PySem.W.Frag) (g : Gh) (H : Hp) (v : V) : T → Prop
  | .fz d => Rep K g v d
  | .ow d => ∃ a o, v = .ref a ∧ Free1 g a ∧ H a = some o ∧ ObAt K g o d
/-- .. new against H0, in no slot -/
structure RT (K : PySem.W.Frag) (H0 : Hp) (g : Gh) (H : Hp) (σ : Slots) (s : State) (v : V) (t : T) : Prop where
  at_ : TAt K g H v t
  new : ∀ d a, t = .ow d → v = .ref a → H0 a = none ∧ ¬ Hd σ s a
theorem Free1.ev {a : Addr} (e : Ev g H σ s g' H' σ' s') (l : H a ≠ none) (nh : ¬ Hd σ s a) (f : Free1 g a) : Free1 g' a ∧ ¬ Hd σ' s' a := by
  have nm : ¬ Mu g σ s a := fun m => by
    rcases m.hd with z | z | z
    · exact nh z
    · exact f.2.1 z
    · exact f.2.2 z
  refine ⟨⟨?_, fun z => f.2.1 (e.eta a l z), fun z => f.2.2 (z.eq e.le.dr)⟩, fun z => (e.hd a z).elim nh l⟩
  cases q : g'.G a with
  | none => rfl
  | some o => exact ((e.frz a l (by rw [q]; simp)).elim (fun z => z f.1) nm).elim
theorem RT.ev {H0 : Hp} {v : V} {t : T} (e : Ev g H σ s g' H' σ' s') (r : RT K H0 g H σ s v t) : RT K H0 g' H' σ' s' v t := by
  cases t with
  | fz d => exact ⟨Rep.mono e.le r.at_, fun _ _ z => nomatch z⟩
  | ow d =>
    obtain ⟨a, o, ev, f, ho, ob⟩ := r.at_
    obtain ⟨n1, n2⟩ := r.new d a rfl ev
    have l : H a ≠ none := by rw [ho]; simp
    obtain ⟨f', n'⟩ := f.ev e l n2
    have nm : ¬ Mu g σ s a := fun m => by
      rcases m.hd with z | z | z
      · exact n2 z
      · exact f.2.1 z
      · exact f.2.2 z
    refine ⟨⟨a, o, ev, f', e.keep a o ho nm, ob.mono e.le⟩, fun d' a' _ ea => ?_⟩
    rw [ev] at ea
    cases ea
    exact ⟨n1, n'⟩
/-- an older past -/
theorem RT.past {H0 : Hp} {v : V} {t : T} (l : ∀ a, H0 a ≠ none → H1 a ≠ none) (r : RT K H1 g H σ s v t) : RT K H0 g H σ s v t :=
  ⟨r.at_, fun d a e1 e2 => ⟨by
    cases q : H0 a with
    | none => rfl
    | some o => exact absurd (r.new d a e1 e2).1 (l a (by rw [q]; simp)), (r.new d a e1 e2).2⟩⟩
end
end DL

set_option Elab.async false
set_option linter.all false
set_option maxRecDepth 100000
set_option maxHeartbeats 1000000
/-! DLSt: the state's changes: new objects, freezing, stores in slots -/
namespace DL
open PySem PySem.Spec PyProof.Rows L2
section
variable {K : PySem.W.Frag} {g g' : Gh} {H H' : Hp} {σ σ' : Slots} {s s' : State} {a p : Addr} {o : HO}

theorem SD.here (sd : SD K g H σ s) (h : g.G a = some o) (l : lockable o = false) : H a = some o := by
  rcases sd.gh a o h with z | ⟨z, _⟩
  · exact z
  · rw [l] at z; cases z
theorem SD.gNone (sd : SD K g H σ s) (h : H p = none) : g.G p = none := by
  cases q : g.G p with
  | none => rfl
  | some o =>
    rcases sd.gh p o q with z | ⟨_, ob, z⟩ <;> rw [h] at z <;> cases z
theorem SD.tup (sd : SD K g H σ s) {xs : List V} (h : SqT K g.G a xs) : SqT K H a xs := by
  rcases h with (h | ⟨o, h⟩) | h
  · exact .inl (.inl (sd.here h rfl))
  · exact .inl (.inr ⟨o, sd.here h rfl⟩)
  · exact .inr h
theorem SD.seq (sd : SD K g H σ s) {xs : List V} (h : SqL K g.G a xs) : SqL K H a xs := by
  rcases h with (h | ⟨o, h⟩) | h
  · exact .inl (.inl (sd.here h rfl))
  · exact .inl (.inr ⟨o, sd.here h rfl⟩)
  · exact .inr h
theorem SD.rd (sd : SD K g H σ s) (h : g.G a = some o) : Rd H a o := by
  rcases sd.gh a o h with z | ⟨_, ob, z⟩
  · exact .inl z
  · exact .inr ⟨ob, z⟩
theorem SD.etaLive (sd : SD K g H σ s) (h : a ∈ g.η) : H a ≠ none := by
  obtain ⟨i, hi, e⟩ := List.getElem_of_mem h
  have e' : g.η[i]? = some a := by rw [List.getElem?_eq_getElem hi, e]
  have hs : i < s.sto.length := by rw [sd.stl]; exact hi
  obtain ⟨o, q, _⟩ := sd.sto i s.sto[i] a (List.getElem?_eq_getElem hs) e'
  rw [q]; simp
theorem SD.drLive (sd : SD K g H σ s) (h : IsDr g a) : H a ≠ none := by
  obtain ⟨x, l, e, z⟩ := h
  have q := sd.dr
  rw [e] at q
  cases r : s.dr with
  | none => rw [r] at q; exact False.elim q
  | some d =>
    rw [r] at q
    have q : DrAt g H x l d := q
    rcases z with rfl | rfl
    · obtain ⟨c, q, _⟩ := q.dict; rw [q]; simp
    · rw [q.list]; simp
theorem SD.hdLive (sd : SD K g H σ s) (h : Hd σ s a) : H a ≠ none := by
  obtain ⟨i, w, e, hw, es⟩ := h
  obtain ⟨v, ev, wa⟩ := sd.slot i w e
  rw [es] at ev
  cases ev
  cases w with
  | fz d => cases hw
  | own d => obtain ⟨b, o, eb, _, q, _⟩ := wa; cases eb; rw [q]; simp
  | lent d => obtain ⟨b, o, eb, _, q, _⟩ := wa; cases eb; rw [q]; simp
  | lk d => obtain ⟨b, o, eb, _, q, _⟩ := wa; cases eb; exact q.live
  | lkl d => obtain ⟨b, o, eb, _, q, _⟩ := wa; cases eb; exact q.live
theorem SD.free1 (sd : SD K g H σ s) (h : H p = none) : Free1 g p := ⟨sd.gNone h, fun z => sd.etaLive z h, fun z => sd.drLive z h⟩
theorem SD.noHd (sd : SD K g H σ s) (h : H p = none) : ¬ Hd σ s p := fun z => sd.hdLive z h
theorem SD.noMu (sd : SD K g H σ s) (h : H p = none) : ¬ Mu g σ s p := fun z => by
  rcases z.hd with z | z | z
  · exact sd.hdLive z h
  · exact sd.etaLive z h
  · exact sd.drLive z h

/-- what a slot holds, behind a change of the heap elsewhere -/
theorem WAt.keep {v : V} {w : W} (le : Le g g') (k : ∀ b u, v = .ref b → w.held = true → H b = some u → H' b = some u) (f : ∀ b, v = .ref b → w.held = true → Free1 g b → Free1 g' b) (h : WAt K g H v w) : WAt K g' H' v w := by
  cases w with
  | fz d => exact Rep.mono le h
  | own d => obtain ⟨b, u, e, f1, q, ob⟩ := h; exact ⟨b, u, e, f b e rfl f1, k b u e rfl q, ObAt.mono le ob⟩
  | lent d => obtain ⟨b, u, e, f1, q, ob⟩ := h; exact ⟨b, u, e, f b e rfl f1, k b u e rfl q, ObAt.mono le ob⟩
  | lk d => obtain ⟨b, u, e, f1, q, ob⟩ := h; exact ⟨b, u, e, f b e rfl f1, q.keep fun u h => k b u e rfl h, ObAt.mono le ob⟩
  | lkl d => obtain ⟨b, u, e, f1, q, ob⟩ := h; exact ⟨b, u, e, f b e rfl f1, q.keep fun u h => k b u e rfl h, ObAt.mono le ob⟩

/-- a new object that stands by itself -/
theorem SD.alloc (sd : SD K g H σ s) (h : H p = none) : SD K g (upd H p o) σ s where
  gh := fun b u e => by
    have ne : b ≠ p := fun z => by subst z; rw [sd.gNone h] at e; cases e
    exact (sd.gh b u e).keep fun w q => by rw [upd_ne ne]; exact q
  len := sd.len
  slot := fun i w e => by
    obtain ⟨v, ev, wa⟩ := sd.slot i w e
    refine ⟨v, ev, wa.keep (.refl g) (fun b u eb hw q => ?_) fun _ _ _ x => x⟩
    rw [upd_ne (ne_of_none q h)]; exact q
  inj := sd.inj
  stl := sd.stl
  sto := fun i m b e1 e2 => by
    obtain ⟨u, q, m1⟩ := sd.sto i m b e1 e2
    exact ⟨u, by rw [upd_ne (ne_of_none q h)]; exact q, m1⟩
  nd := sd.nd
  ng := sd.ng
  dr := sd.dr.map fun x l d _ q => by
    obtain ⟨c, q1, q2⟩ := q.dict
    exact ⟨⟨c, by rw [upd_ne (ne_of_none q1 h)]; exact q1, q2⟩, by rw [upd_ne (ne_of_none q.list h)]; exact q.list, q.ne, q.ga, q.gl⟩
theorem SD.allocEv (sd : SD K g H σ s) (h : H p = none) : Ev g H σ s g (upd H p o) σ s where
  le := .refl g
  keep := fun b u e _ => by rw [upd_ne (ne_of_none e h)]; exact e
  live := fun b e => by
    by_cases z : b = p
    · subst z; rw [upd_same]; simp
    · rw [upd_ne z]; exact e
  frz := fun _ _ z => .inl z
  eta := fun _ _ z => z
  mu := fun _ z => .inl z
  hd := fun _ z => .inl z
  ow := fun _ z => .inl z
  fix := fun _ d z => ⟨rfl, d, .inl z⟩
  lk := fun _ _ z => ⟨rfl, z⟩
  lkl := fun _ _ z => ⟨rfl, z⟩
def Gh.frz (g : Gh) (a : Addr) (o : HO) : Gh := { g with G := upd g.G a o }
theorem Gh.frz_le (h : g.G a = none) : Le g (g.frz a o) := ⟨fun b u e => by show upd g.G a o b = _; rw [upd_ne (ne_of_none e h)]; exact e, fun _ _ e => e, rfl⟩
theorem Free1.frz {b : Addr} (f : Free1 g b) (ne : b ≠ a) : Free1 (g.frz a o) b := ⟨by show upd g.G a o b = _; rw [upd_ne ne]; exact f.1, f.2.1, f.2.2⟩
theorem DrOk.frz {s : State} (f : Free1 g a) (d : DrOk g H g.dr s.dr) : DrOk (g.frz a o) H (g.frz a o).dr s.dr := d.map fun x l d e q => by
  obtain ⟨c, q1, q2⟩ := q.dict
  have n1 : x ≠ a := fun z => f.2.2 ⟨x, l, e, .inl z.symm⟩
  have n2 : l ≠ a := fun z => f.2.2 ⟨x, l, e, .inr z.symm⟩
  exact ⟨⟨c, q1, (Gh.frz_le f.1).G _ _ q2⟩, q.list, q.ne, by show upd g.G a o x = _; rw [upd_ne n1]; exact q.ga, by show upd g.G a o l = _; rw [upd_ne n2]; exact q.gl⟩
/-- it is frozen -/
theorem SD.freeze (sd : SD K g H σ s) (f : Free1 g a) (nh : ¬ Hd σ s a) (h : H a = some o) : SD K (g.frz a o) H σ s where
  gh := fun b u e => by
    by_cases z : b = a
    · subst z
      have e' : upd g.G b o b = some u := e
      rw [upd_same] at e'; cases e'
      exact .inl h
    · have e' : upd g.G a o b = some u := e
      rw [upd_ne z] at e'
      exact sd.gh b u e'
  len := sd.len
  slot := fun i w e => by
    obtain ⟨v, ev, wa⟩ := sd.slot i w e
    refine ⟨v, ev, wa.keep (Gh.frz_le f.1) (fun _ _ _ _ q => q) fun b eb hw x => x.frz fun z => nh ⟨i, w, e, hw, ?_⟩⟩
    rw [ev, eb, z]
  inj := sd.inj
  stl := sd.stl
  sto := fun i m b e1 e2 => by
    obtain ⟨u, q, m1⟩ := sd.sto i m b e1 e2
    exact ⟨u, q, m1.mono (Gh.frz_le f.1)⟩
  nd := sd.nd
  ng := fun b hb => by
    have ne : b ≠ a := fun z => f.2.1 (z ▸ hb)
    exact ⟨by show upd g.G a o b = _; rw [upd_ne ne]; exact (sd.ng b hb).1, (sd.ng b hb).2⟩
  dr := DrOk.frz f sd.dr
theorem Ev.freeze {g0 : Gh} {H0 : Hp} {σ0 : Slots} {s0 : State} (e : Ev g0 H0 σ0 s0 g H σ s) (f : Free1 g a) (h0 : H0 a = none) : Ev g0 H0 σ0 s0 (g.frz a o) H σ s where
  le := e.le.trans (Gh.frz_le f.1)
  keep := e.keep
  live := e.live
  frz := fun b l q => by
    by_cases z : b = a
    · subst z; exact absurd h0 l
    · have q' : upd g.G a o b ≠ none := q
      rw [upd_ne z] at q'
      exact e.frz b l q'
  eta := e.eta
  mu := e.mu
  hd := e.hd
  ow := e.ow
  fix := e.fix
  lk := e.lk
  lkl := e.lkl
theorem ObAt.rep {d : D} (h : ObAt K g o d) (fr : Le g g') (e : g'.G a = some o) : Rep K g' (.ref a) d := by
  cases d with
  | lst ds => obtain ⟨xs, rfl, r⟩ := h; exact .lst e (r.mono fr)
  | dk ds => obtain ⟨xs, rfl, k, r⟩ := h; exact .dk e k (r.mono fr)
  | dt ds => obtain ⟨xs, rfl, k, r⟩ := h; exact .dt e k (r.mono fr)
  | obj C ds => obtain ⟨dx, xs, rfl, k, r⟩ := h; exact .obj e k (r.mono fr)
  | _ => exact h.elim
theorem Gh.frz_at : (g.frz a o).G a = some o := upd_same

/-! ### slots -/
def putE (s : State) (i : Nat) (w : W) : State := { s with env := s.env.set i (some w) }
/-- a slot may be stored anew -/
def canSet (s : State) (i : Nat) : Bool := match s.env[i]? with
  | some none => true
  | some (some (.fz _)) => true
  | some (some (.own _)) => true
  | _ => false
theorem getE_set {i j : Nat} {l : List (Option W)} {w : W} {u : W} (h : (l.set i (some w))[j]? = some (some u)) : (j = i ∧ u = w) ∨ (j ≠ i ∧ l[j]? = some (some u)) := by
  by_cases z : i = j
  · subst z
    by_cases hl : i < l.length
    · rw [List.getElem?_set_self hl] at h
      cases h
      exact .inl ⟨rfl, rfl⟩
    · rw [List.getElem?_eq_none (by simpa using hl)] at h; cases h
  · rw [List.getElem?_set_ne z] at h
    exact .inr ⟨fun q => z q.symm, h⟩
/-- x = v -/
theorem SD.set (sd : SD K g H σ s) {i : Nat} (c : canSet s i = true) {v : V} {w : W} (wa : WAt K g H v w) (nh : ∀ b, w.held = true → v = .ref b → ¬ Hd σ s b) : SD K g H (σ.set i (some v)) (putE s i w) where
  gh := sd.gh
  len := by show (s.env.set i _).length = _; rw [List.length_set, List.length_set]; exact sd.len
  slot := fun j u e => by
    have hl : i < s.env.length := by
      unfold canSet at c
      cases q : s.env[i]? with
      | none => rw [q] at c; cases c
      | some _ => exact (List.getElem?_eq_some_iff.mp q).1
    rcases getE_set e with ⟨rfl, rfl⟩ | ⟨ne, e⟩
    · exact ⟨v, List.getElem?_set_self (by rw [← sd.len]; exact hl), wa⟩
    · obtain ⟨v', ev, wa'⟩ := sd.slot j u e
      exact ⟨v', by rw [List.getElem?_set_ne (Ne.symm ne)]; exact ev, wa'⟩
  inj := fun j k u1 u2 b e1 e2 h1 h2 x1 x2 => by
    have hl : i < s.env.length := by
      unfold canSet at c
      cases q : s.env[i]? with
      | none => rw [q] at c; cases c
      | some _ => exact (List.getElem?_eq_some_iff.mp q).1
    have hs : (σ.set i (some v))[i]? = some (some v) := List.getElem?_set_self (by rw [← sd.len]; exact hl)
    rcases getE_set e1 with ⟨z1, y1⟩ | ⟨n1, e1'⟩
    · rcases getE_set e2 with ⟨z2, _⟩ | ⟨n2, e2'⟩
      · rw [z1, z2]
      · rw [z1, hs] at x1; cases x1
        rw [List.getElem?_set_ne (Ne.symm n2)] at x2
        exact absurd ⟨k, u2, e2', h2, x2⟩ (nh b (y1 ▸ h1) rfl)
    · rcases getE_set e2 with ⟨z2, y2⟩ | ⟨n2, e2'⟩
      · rw [z2, hs] at x2; cases x2
        rw [List.getElem?_set_ne (Ne.symm n1)] at x1
        exact absurd ⟨j, u1, e1', h1, x1⟩ (nh b (y2 ▸ h2) rfl)
      · rw [List.getElem?_set_ne (Ne.symm n1)] at x1
        rw [List.getElem?_set_ne (Ne.symm n2)] at x2
        exact sd.inj j k u1 u2 b e1' e2' h1 h2 x1 x2
  stl := sd.stl
  sto := sd.sto
  nd := sd.nd
  ng := sd.ng
  dr := sd.dr
theorem Ev.set {g0 : Gh} {H0 : Hp} {σ0 : Slots} {s0 : State} (e : Ev g0 H0 σ0 s0 g H σ s) (sd : SD K g H σ s) {i : Nat} (c : canSet s i = true) {v : V} {w : W} (wn : ∀ b, w.held = true → v = .ref b → H0 b = none) : Ev g0 H0 σ0 s0 g H (σ.set i (some v)) (putE s i w) where
  le := e.le
  keep := e.keep
  live := e.live
  frz := e.frz
  eta := e.eta
  mu := fun b m => by
    rcases m with ⟨j, u, e1, m1, x⟩ | m
    · rcases getE_set e1 with ⟨rfl, rfl⟩ | ⟨n1, e1⟩
      · have hl : j < s.env.length := by
          have := (List.getElem?_eq_some_iff.mp (show (s.env.set j _)[j]? = _ from e1)).1
          simpa using this
        rw [List.getElem?_set_self (by rw [← sd.len]; exact hl)] at x
        cases x
        exact .inr (wn b (by cases u <;> first | rfl | cases m1) rfl)
      · rw [List.getElem?_set_ne (Ne.symm n1)] at x
        exact e.mu b (.inl ⟨j, u, e1, m1, x⟩)
    · exact e.mu b (.inr m)
  hd := fun b m => by
    obtain ⟨j, u, e1, m1, x⟩ := m
    rcases getE_set e1 with ⟨rfl, rfl⟩ | ⟨n1, e1⟩
    · have hl : j < s.env.length := by
        have := (List.getElem?_eq_some_iff.mp (show (s.env.set j _)[j]? = _ from e1)).1
        simpa using this
      rw [List.getElem?_set_self (by rw [← sd.len]; exact hl)] at x
      cases x
      exact .inr (wn b m1 rfl)
    · rw [List.getElem?_set_ne (Ne.symm n1)] at x
      exact e.hd b ⟨j, u, e1, m1, x⟩
  ow := fun b m => by
    obtain ⟨j, d, e1, x⟩ := m
    have key : ∀ u : W, (s.env.set i (some w))[j]? = some (some u) → u.held = true → (∀ (h : s.env[j]? = some (some u)), σ[j]? = some (some (V.ref b)) → OwnA σ s b) → OwnA σ0 s0 b ∨ H0 b = none := fun u e1 hu k => by
      rcases getE_set e1 with ⟨z, z2⟩ | ⟨n1, e1⟩
      · subst z
        have hl : j < s.env.length := by
          have := (List.getElem?_eq_some_iff.mp (show (s.env.set j _)[j]? = _ from e1)).1
          simpa using this
        rw [List.getElem?_set_self (by rw [← sd.len]; exact hl)] at x
        cases x
        exact .inr (wn b (z2 ▸ hu) rfl)
      · rw [List.getElem?_set_ne (Ne.symm n1)] at x
        exact e.ow b (k e1 x)
    rcases e1 with e1 | e1
    · exact key _ e1 rfl fun h hx => ⟨j, d, .inl h, hx⟩
    · exact key _ e1 rfl fun h hx => ⟨j, d, .inr h, hx⟩
  fix := fun j d h => by
    obtain ⟨e1, d1, h1⟩ := e.fix j d h
    have ne : j ≠ i := fun z => by subst z; unfold canSet at c; rcases h1 with h1 | h1 <;> rw [h1] at c <;> cases c
    refine ⟨by rw [List.getElem?_set_ne (Ne.symm ne)]; exact e1, d1, ?_⟩
    show (s.env.set i _)[j]? = _ ∨ (s.env.set i _)[j]? = _
    rw [List.getElem?_set_ne (Ne.symm ne)]
    exact h1
  lk := fun j d h => by
    obtain ⟨e1, h1⟩ := e.lk j d h
    have ne : j ≠ i := fun z => by subst z; unfold canSet at c; rw [h1] at c; cases c
    exact ⟨by rw [List.getElem?_set_ne (Ne.symm ne)]; exact e1, by show (s.env.set i _)[j]? = _; rw [List.getElem?_set_ne (Ne.symm ne)]; exact h1⟩
  lkl := fun j d h => by
    obtain ⟨e1, h1⟩ := e.lkl j d h
    have ne : j ≠ i := fun z => by subst z; unfold canSet at c; rw [h1] at c; cases c
    exact ⟨by rw [List.getElem?_set_ne (Ne.symm ne)]; exact e1, by show (s.env.set i _)[j]? = _; rw [List.getElem?_set_ne (Ne.symm ne)]; exact h1⟩
/-- a slot's own object is frozen -/
theorem SD.freezeSlot (sd : SD K g H σ s) {i : Nat} {d : D} (e : s.env[i]? = some (some (.own d))) : ∃ a o, σ[i]? = some (some (V.ref a)) ∧ H a = some o ∧ SD K (g.frz a o) H σ (putE s i (.fz d)) ∧ Ev g H σ s (g.frz a o) H σ (putE s i (.fz d)) ∧ Rep K (g.frz a o) (.ref a) d := by
  obtain ⟨v, ev, a, o, rfl, f, q, ob⟩ := sd.slot i _ e
  have rp : Rep K (g.frz a o) (.ref a) d := ob.rep (Gh.frz_le f.1) Gh.frz_at
  have nh : ¬ Hd σ (putE s i (.fz d)) a := fun ⟨j, u, e1, h1, x⟩ => by
    rcases getE_set e1 with ⟨_, rfl⟩ | ⟨n1, e1⟩
    · cases h1
    · exact n1 (sd.inj j i u _ a e1 e h1 rfl x ev)
  -- first the slot without its holding, then the freezing
  refine ⟨a, o, ev, q, ?_, ?_, rp⟩
  · refine ⟨fun b u eb => ?_, by show (s.env.set i _).length = _; rw [List.length_set]; exact sd.len, fun j u e1 => ?_, fun j k u1 u2 b e1 e2 h1 h2 x1 x2 => ?_, sd.stl, fun j m b e1 e2 => ?_, sd.nd, fun b hb => ?_, ?_⟩
    · by_cases z : b = a
      · subst z
        have e' : upd g.G b o b = some u := eb
        rw [upd_same] at e'; cases e'
        exact .inl q
      · have e' : upd g.G a o b = some u := eb
        rw [upd_ne z] at e'
        exact sd.gh b u e'
    · rcases getE_set e1 with ⟨rfl, rfl⟩ | ⟨n1, e1⟩
      · exact ⟨_, ev, rp⟩
      · obtain ⟨v', ev', wa'⟩ := sd.slot j u e1
        refine ⟨v', ev', wa'.keep (Gh.frz_le f.1) (fun _ _ _ _ q => q) fun b eb hw x => x.frz fun z => n1 (sd.inj j i u _ a e1 e hw rfl ?_ ev)⟩
        rw [ev', eb, z]
    · rcases getE_set e1 with ⟨_, rfl⟩ | ⟨n1, e1⟩
      · cases h1
      · rcases getE_set e2 with ⟨_, rfl⟩ | ⟨n2, e2⟩
        · cases h2
        · exact sd.inj j k u1 u2 b e1 e2 h1 h2 x1 x2
    · obtain ⟨u, q1, m1⟩ := sd.sto j m b e1 e2
      exact ⟨u, q1, m1.mono (Gh.frz_le f.1)⟩
    · have ne : b ≠ a := fun z => f.2.1 (z ▸ hb)
      exact ⟨by show upd g.G a o b = _; rw [upd_ne ne]; exact (sd.ng b hb).1, (sd.ng b hb).2⟩
    · exact DrOk.frz f sd.dr
  · have low : ∀ {w u : W} {j : Nat}, (s.env.set i (some (.fz d)))[j]? = some (some u) → u.held = true → s.env[j]? = some (some u) := fun {w u j} e1 hu => by
      rcases getE_set e1 with ⟨_, rfl⟩ | ⟨_, e1⟩
      · cases hu
      · exact e1
    refine ⟨Gh.frz_le f.1, fun _ _ h _ => h, fun _ h => h, fun b l q' => ?_, fun _ _ z => z, fun b m => ?_, fun b m => ?_, fun b m => ?_, fun j d' h => ?_, fun j d' h => ?_, fun j d' h => ?_⟩
    · by_cases z : b = a
      · subst z; exact .inr (.inl ⟨i, _, e, rfl, ev⟩)
      · have q2 : upd g.G a o b ≠ none := q'
        rw [upd_ne z] at q2
        exact .inl q2
    · rcases m with ⟨j, u, e1, m1, x⟩ | m
      · exact .inl (.inl ⟨j, u, low (w := u) e1 (by cases u <;> first | rfl | cases m1), m1, x⟩)
      · exact .inl (.inr m)
    · obtain ⟨j, u, e1, m1, x⟩ := m
      exact .inl ⟨j, u, low (w := u) e1 m1, m1, x⟩
    · obtain ⟨j, d', e1, x⟩ := m
      rcases e1 with e1 | e1
      · exact .inl ⟨j, d', .inl (low (w := .own d') e1 rfl), x⟩
      · exact .inl ⟨j, d', .inr (low (w := .own d') e1 rfl), x⟩
    · have ne : j ≠ i := fun z => by subst z; rw [e] at h; cases h
      exact ⟨rfl, d', .inl (by show (s.env.set i _)[j]? = _; rw [List.getElem?_set_ne (Ne.symm ne)]; exact h)⟩
    · have ne : j ≠ i := fun z => by subst z; rw [e] at h; cases h
      exact ⟨rfl, by show (s.env.set i _)[j]? = _; rw [List.getElem?_set_ne (Ne.symm ne)]; exact h⟩
    · have ne : j ≠ i := fun z => by subst z; rw [e] at h; cases h
      exact ⟨rfl, by show (s.env.set i _)[j]? = _; rw [List.getElem?_set_ne (Ne.symm ne)]; exact h⟩
end
end DL

set_option Elab.async false
set_option linter.all false
set_option maxRecDepth 100000
set_option maxHeartbeats 1000000
/-! DLRule: what code does to data: the judgements, expressions, tests -/
namespace DL
open PySem PySem.Spec PyProof.Rows L2

/-! ### the judgements -/
def ErrAt (K : PySem.W.Frag) (g : Gh) (H : Hp) (cls : Value) (d : Option Addr) (x : Ex) : Prop :=
  cls = .ref x.cls ∧ ((x.fs = [] ∧ d = none) ∨ ∃ dd fs, d = some dd ∧ H dd = some (.xd fs) ∧ fs.map Prod.fst = x.fs.map Prod.fst ∧ Reps K g (fs.map Prod.snd) (x.fs.map Prod.snd))
section
variable {α β γ δ : Type}
def Post (K : PySem.W.Frag) (Wx : WX) (σ : Slots) (R : Gh → Hp → State → β → α → Prop) (Q : β → Hp → Prop) (g0 : Gh) (H0 : Hp) (s0 : State) : Rs α → Prop
  | .ok a s' => ∀ b g' H', SD K g' H' σ s' → Ev g0 H0 σ s0 g' H' σ s' → R g' H' s' b a → Q b H'
  | .err x s' => ∀ cls d g' H', SD K g' H' σ s' → Ev g0 H0 σ s0 g' H' σ s' → ErrAt K g' H' cls d x → Wx cls d σ H'
  | .bad => False
abbrev Rel (α β : Type) := Slots → Hp → Gh → Hp → State → β → α → Prop
/-- an expression's reading that does f -/
def tM (K : PySem.W.Frag) (Wx : WX) (R : Rel α β) (f : M α) : Slots → Hp → (β → Hp → Prop) → Prop :=
  fun σ H Q => ∃ g s, SD K g H σ s ∧ Post K Wx σ (R σ H) Q g H s (f s)
/-- on the way: m is left, here is (g1, H1, s1) -/
structure Cur (K : PySem.W.Frag) (Wx : WX) (σ : Slots) (R : Gh → Hp → State → β → α → Prop) (Q : β → Hp → Prop) (g0 : Gh) (H0 : Hp) (s0 : State) (m : Rs α) (g1 : Gh) (H1 : Hp) (s1 : State) : Prop where
  ev : Ev g0 H0 σ s0 g1 H1 σ s1
  sd : SD K g1 H1 σ s1
  post : Post K Wx σ R Q g0 H0 s0 m
variable {K : PySem.W.Frag} {Wx : WX} {σ : Slots} {R : Gh → Hp → State → β → α → Prop} {Q : β → Hp → Prop} {g0 g1 g g' : Gh} {H0 H1 H H' : Hp} {s0 s1 s s' : State}
theorem tM.start {R : Rel α β} {f : M α} (h : tM K Wx R f σ H Q) : ∃ g s, Cur K Wx σ (R σ H) Q g H s (f s) g H s := by
  obtain ⟨g, s, sd, p⟩ := h
  exact ⟨g, s, .refl, sd, p⟩
theorem Cur.bind {R1 : Rel γ δ} {f : M γ} {k : γ → M α} (c : Cur K Wx σ R Q g0 H0 s0 ((f >>= k) s1) g1 H1 s1) :
    tM K Wx R1 f σ H1 (fun b H2 => ∃ a g2 s2, Cur K Wx σ R Q g0 H0 s0 (k a s2) g2 H2 s2 ∧ R1 σ H1 g2 H2 s2 b a ∧ Ev g1 H1 σ s1 g2 H2 σ s2) := by
  refine ⟨g1, s1, c.sd, ?_⟩
  have p := c.post
  have e : (f >>= k) s1 = (match f s1 with | .ok a s' => k a s' | .err x s' => .err x s' | .bad => .bad) := rfl
  rw [e] at p
  cases q : f s1 with
  | ok a s2 =>
    rw [q] at p
    intro b g2 H2 sd ev r
    exact ⟨a, g2, s2, ⟨c.ev.trans ev, sd, p⟩, r, ev⟩
  | err x s2 =>
    rw [q] at p
    intro cls d g2 H2 sd ev er
    exact p cls d g2 H2 sd (c.ev.trans ev) er
  | bad =>
    rw [q] at p
    exact p
/-- .. the last step -/
theorem Cur.last {R1 : Rel α β} {f : M α} (c : Cur K Wx σ R Q g0 H0 s0 (f s1) g1 H1 s1) (h : ∀ b a g2 H2 s2, Ev g0 H0 σ s0 g1 H1 σ s1 → R1 σ H1 g2 H2 s2 b a → R g2 H2 s2 b a) : tM K Wx R1 f σ H1 Q := by
  refine ⟨g1, s1, c.sd, ?_⟩
  have p := c.post
  cases q : f s1 with
  | ok a s2 =>
    rw [q] at p
    exact fun b g2 H2 sd ev r => p b g2 H2 sd (c.ev.trans ev) (h b a g2 H2 s2 c.ev r)
  | err x s2 =>
    rw [q] at p
    exact fun cls d g2 H2 sd ev er => p cls d g2 H2 sd (c.ev.trans ev) er
  | bad => rw [q] at p; exact p
theorem Cur.done {a : α} {b : β} {m : Rs α} (c : Cur K Wx σ R Q g0 H0 s0 m g1 H1 s1) (e : m = .ok a s1) (r : R g1 H1 s1 b a) : Q b H1 := by
  have p := c.post
  rw [e] at p
  exact p b g1 H1 c.sd c.ev r
/-- .. behind a change of heap and ghost that keeps the state -/
theorem Cur.done' {a : α} {b : β} {m : Rs α} {g2 : Gh} {H2 : Hp} {s2 : State} (c : Cur K Wx σ R Q g0 H0 s0 m g1 H1 s1) (e : m = .ok a s2) (sd : SD K g2 H2 σ s2) (ev : Ev g1 H1 σ s1 g2 H2 σ s2) (r : R g2 H2 s2 b a) : Q b H2 := by
  have p := c.post
  rw [e] at p
  exact p b g2 H2 sd (c.ev.trans ev) r
theorem Cur.notBad {m : Rs α} (c : Cur K Wx σ R Q g0 H0 s0 m g1 H1 s1) (e : m = .bad) : False := by
  have p := c.post
  rw [e] at p
  exact p
theorem tM.mono {R : Rel α β} {f : M α} {Q Q' : β → Hp → Prop} (h : tM K Wx R f σ H Q) (m : ∀ b H', Q b H' → Q' b H') : tM K Wx R f σ H Q' := by
  obtain ⟨g, s, sd, p⟩ := h
  refine ⟨g, s, sd, ?_⟩
  cases q : f s with
  | ok a s2 => rw [q] at p; exact fun b g2 H2 sd ev r => m _ _ (p b g2 H2 sd ev r)
  | err x s2 => rw [q] at p; exact p
  | bad => rw [q] at p; exact p
end

/-! ### operands -/
/-- an operand: a slot that is read later, or a value -/
inductive VR where
  | slot (i : Nat) | t (t : T)
def RVR (K : PySem.W.Frag) : Rel VR V := fun σ H0 g H s v r => match r with
  | .slot i => σ[i]? = some (some v)
  | .t t => RT K H0 g H σ s v t
def RTt (K : PySem.W.Frag) : Rel T V := fun σ H0 g H s v t => RT K H0 g H σ s v t
abbrev tE (K : PySem.W.Frag) (Wx : WX) (f : M T) : TE := tM K Wx (RTt K) f
abbrev tV (K : PySem.W.Frag) (Wx : WX) (f : M VR) : TE := tM K Wx (RVR K) f
def DE (X : Cx) (Wx : WX) (e : Expr) (f : M T) : Prop := PE X e (tE X.K Wx f)
def DV (X : Cx) (Wx : WX) (e : Expr) (f : M VR) : Prop := PE X e (tV X.K Wx f)
def RB : Rel Bool Bool := fun _ _ _ _ _ b c => b = c
def DT (X : Cx) (Wx : WX) (e : Expr) (f : M Bool) : Prop := PT X e (tM X.K Wx RB f)
def DTW (X : Cx) (Wx : WX) (e : Expr) (f : M Bool) : Prop := PW X e (tM X.K Wx RB f)

def W.data : W → D
  | .fz d => d | .own d => d | .lent d => d | .lk d => d | .lkl d => d
def T.data : T → D
  | .fz d => d | .ow d => d
/-- the operand's data now -/
def readV : VR → M D
  | .slot i => fun s => match s.env[i]? with
    | some (some w) => .ok w.data s
    | _ => .bad
  | .t t => fun s => .ok t.data s
/-- readable as d -/
def VAt (K : PySem.W.Frag) (g : Gh) (H : Hp) (v : V) (d : D) : Prop := Rep K g v d ∨ ∃ a o, v = .ref a ∧ RdO H a o ∧ ObAt K g o d
section
variable {K : PySem.W.Frag} {Wx : WX} {σ : Slots} {g g' : Gh} {H0 H H' : Hp} {s s' : State} {v : V} {w : W}
theorem WAt.view (h : WAt K g H v w) : VAt K g H v w.data := by
  cases w with
  | fz d => exact .inl h
  | own d => obtain ⟨a, o, e, _, q, ob⟩ := h; exact .inr ⟨a, o, e, .inl q, ob⟩
  | lent d => obtain ⟨a, o, e, _, q, ob⟩ := h; exact .inr ⟨a, o, e, .inl q, ob⟩
  | lk d => obtain ⟨a, o, e, _, q, ob⟩ := h; exact .inr ⟨a, o, e, q, ob⟩
  | lkl d => obtain ⟨a, o, e, _, q, ob⟩ := h; exact .inr ⟨a, o, e, q, ob⟩
theorem TAt.view {t : T} (h : TAt K g H v t) : VAt K g H v t.data := by
  cases t with
  | fz d => exact .inl h
  | ow d => obtain ⟨a, o, e, _, q, ob⟩ := h; exact .inr ⟨a, o, e, .inl q, ob⟩
theorem RVR.read {r : VR} {d : D} (sd : SD K g H σ s) (h : RVR K σ H0 g H s v r) (e : readV r s = .ok d s') : s' = s ∧ VAt K g H v d := by
  cases r with
  | slot i =>
    unfold readV at e
    cases e2 : s.env[i]? with
    | none => simp only [e2] at e; cases e
    | some w =>
      cases w with
      | none => simp only [e2] at e; cases e
      | some w =>
        simp only [e2] at e
        cases e
        obtain ⟨v', ev, wa⟩ := sd.slot i w e2
        have h : σ[i]? = some (some v) := h
        rw [h] at ev; cases ev
        exact ⟨rfl, wa.view⟩
  | t t =>
    unfold readV at e
    cases e
    exact ⟨rfl, TAt.view h.at_⟩
theorem RVR.ev {r : VR} (e : Ev g H σ s g' H' σ s') (h : RVR K σ H0 g H s v r) : RVR K σ H0 g' H' s' v r := by
  cases r with
  | slot i => exact h
  | t t => exact RT.ev e h
theorem RVR.past {r : VR} {H1 : Hp} (l : ∀ a, H0 a ≠ none → H1 a ≠ none) (h : RVR K σ H1 g H s v r) : RVR K σ H0 g H s v r := by
  cases r with
  | slot i => exact h
  | t t => exact RT.past l h
theorem VAt.sc {d : D} (h : VAt K g H v d) (n : ∀ o, ¬ ObAt K g o d) : Rep K g v d := by
  rcases h with h | ⟨a, o, _, _, ob⟩
  · exact h
  · exact (n o ob).elim
theorem VAt.le {d : D} (h : Le g g') (x : VAt K g H v d) : VAt K g' H v d := by
  rcases x with x | ⟨a, o, e, q, ob⟩
  · exact .inl (x.mono h)
  · exact .inr ⟨a, o, e, q, ob.mono h⟩
theorem VAt.int {i : Int} (h : VAt K g H v (.int i)) : v = .int i := by cases h.sc (fun _ z => z); rfl
theorem VAt.bl {i : Bool} (h : VAt K g H v (.bl i)) : v = .bl i := by cases h.sc (fun _ z => z); rfl
theorem VAt.str {i : Str} (h : VAt K g H v (.str i)) : v = .str i := by cases h.sc (fun _ z => z); rfl
theorem VAt.non (h : VAt K g H v .non) : v = .non := by cases h.sc (fun _ z => z); rfl
theorem VAt.tup {ds : List D} (sd : SD K g H σ s) (h : VAt K g H v (.tup ds)) : ∃ a xs, v = .ref a ∧ SqT K H a xs ∧ Reps K g xs ds := by
  cases h.sc (fun _ z => z) with
  | tup q r => exact ⟨_, _, rfl, .of (sd.here q rfl), r⟩
  | tup0 q => exact ⟨_, _, rfl, sd.tup q, .nil⟩
theorem VAt.tupH {d : D} {ds : List D} (sd : SD K g H σ s) (h : VAt K g H v (.tup (d :: ds))) : ∃ a xs, v = .ref a ∧ H a = some (.tup xs) ∧ Reps K g xs (d :: ds) := by
  cases h.sc (fun _ z => z) with
  | tup q r => exact ⟨_, _, rfl, sd.here q rfl, r⟩
theorem VAt.lst {ds : List D} (sd : SD K g H σ s) (h : VAt K g H v (.lst ds)) : ∃ a xs, v = .ref a ∧ H a = some (.lst xs) ∧ Reps K g xs ds := by
  rcases h with h | ⟨a, o, e, q, ob⟩
  · cases h with
    | lst q r => exact ⟨_, _, rfl, sd.here q rfl, r⟩
  · obtain ⟨xs, rfl, r⟩ := ob
    exact ⟨a, xs, e, q.exact rfl, r⟩
theorem VAt.dk {ds : List (Key × D)} (sd : SD K g H σ s) (h : VAt K g H v (.dk ds)) : ∃ a kvs, v = .ref a ∧ RdO H a (.dK kvs) ∧ kvs.map Prod.fst = ds.map Prod.fst ∧ Reps K g (kvs.map Prod.snd) (ds.map Prod.snd) := by
  rcases h with h | ⟨a, o, e, q, ob⟩
  · cases h with
    | dk q k r => exact ⟨_, _, rfl, sd.gh _ _ q, k, r⟩
  · obtain ⟨xs, rfl, k, r⟩ := ob
    exact ⟨a, xs, e, q, k, r⟩
theorem VAt.dt {ds : List (List Key × D)} (sd : SD K g H σ s) (h : VAt K g H v (.dt ds)) : ∃ a kvs, v = .ref a ∧ RdO H a (.dT kvs) ∧ kvs.map Prod.fst = ds.map Prod.fst ∧ Reps K g (kvs.map Prod.snd) (ds.map Prod.snd) := by
  rcases h with h | ⟨a, o, e, q, ob⟩
  · cases h with
    | dt q k r => exact ⟨_, _, rfl, sd.gh _ _ q, k, r⟩
  · obtain ⟨xs, rfl, k, r⟩ := ob
    exact ⟨a, xs, e, q, k, r⟩
theorem VAt.obj {C : Addr} {ds : List (Str × D)} (sd : SD K g H σ s) (h : VAt K g H v (.obj C ds)) : ∃ a dx fs, v = .ref a ∧ H a = some (.ins C dx fs) ∧ fs.map Prod.fst = ds.map Prod.fst ∧ Reps K g (fs.map Prod.snd) (ds.map Prod.snd) := by
  rcases h with h | ⟨a, o, e, q, ob⟩
  · cases h with
    | obj q k r => exact ⟨_, _, _, rfl, sd.here q rfl, k, r⟩
  · obtain ⟨dx, xs, rfl, k, r⟩ := ob
    exact ⟨a, dx, xs, e, q.exact rfl, k, r⟩
end
end DL

set_option Elab.async false
set_option linter.all false
set_option maxRecDepth 100000
set_option maxHeartbeats 1000000
/-! DLExpr: expressions -/
namespace DL
open PySem PySem.Spec PyProof.Rows L2

/-! ### finishing: results -/
section
variable {K : PySem.W.Frag} {Wx : WX} {σ : Slots} {g g1 : Gh} {H H0 H1 : Hp} {s s0 s1 : State} {Q : V → Hp → Prop} {R : Gh → Hp → State → V → T → Prop}
/-- what a value-giving operation may leave: Fin t Q: for every value of t, on every heap behind -/
def Fin (K : PySem.W.Frag) (g : Gh) (H : Hp) (σ : Slots) (s : State) (t : T) (Q : V → Hp → Prop) : Prop :=
  ∀ v g' H', SD K g' H' σ s → Ev g H σ s g' H' σ s → RT K H g' H' σ s v t → Q v H'
theorem Fin.fz {v : V} {d : D} (sd : SD K g H σ s) (r : Rep K g v d) (f : Fin K g H σ s (.fz d) Q) : Q v H := f v g H sd .refl ⟨r, fun _ _ z => nomatch z⟩
/-- a new object -/
theorem Fin.ow {p : Addr} {o : HO} {d : D} (sd : SD K g H σ s) (hp : H p = none) (ob : ObAt K g o d) (f : Fin K g H σ s (.ow d) Q) : Q (.ref p) (upd H p o) := by
  refine f _ g _ (sd.alloc hp) (sd.allocEv hp) ⟨⟨p, o, rfl, sd.free1 hp, upd_same, ob⟩, fun d' a e1 e2 => ?_⟩
  cases e2
  exact ⟨hp, sd.noHd hp⟩
theorem ObAt.lst {xs : List V} {ds : List D} (r : Reps K g xs ds) : ObAt K g (.lst xs) (.lst ds) := ⟨xs, rfl, r⟩
theorem ObAt.dk {xs : List (Key × V)} {ds : List (Key × D)} (e : xs.map Prod.fst = ds.map Prod.fst) (r : Reps K g (xs.map Prod.snd) (ds.map Prod.snd)) : ObAt K g (.dK xs) (.dk ds) := ⟨xs, rfl, e, r⟩
theorem ObAt.dt {xs : List (List Key × V)} {ds : List (List Key × D)} (e : xs.map Prod.fst = ds.map Prod.fst) (r : Reps K g (xs.map Prod.snd) (ds.map Prod.snd)) : ObAt K g (.dT xs) (.dt ds) := ⟨xs, rfl, e, r⟩
/-- a new tuple -/
theorem Fin.tup {p : Addr} {xs : List V} {ds : List D} (sd : SD K g H σ s) (hp : H p = none) (r : Reps K g xs ds) (f : Fin K g H σ s (.fz (.tup ds)) Q) : Q (.ref p) (upd H p (.tup xs)) := by
  have f1 := sd.free1 hp
  have sd1 := (sd.alloc (o := .tup xs) hp).freeze f1 (sd.noHd hp) upd_same
  refine f _ (g.frz p (.tup xs)) _ sd1 ((sd.allocEv hp).freeze f1 hp) ⟨?_, fun _ _ z => nomatch z⟩
  exact .tup Gh.frz_at (r.mono (Gh.frz_le f1.1))
theorem Cur.fin {t : T} {m : Rs T} (c : Cur K Wx σ (fun g' H' s' v t => RT K H0 g' H' σ s' v t) Q g H0 s0 m g1 H1 s1) (e : m = .ok t s1) : Fin K g1 H1 σ s1 t Q := fun v g2 H2 sd ev r =>
  c.done' e sd ev (r.past c.ev.live)
end

/-- an operation on two data -/
def OpD (X : Cx) (f : Value → Value → Sem Value) (h : D → D → Option T) : Prop :=
  ∃ r, OpR X f r ∧ ∀ (g : Gh) (H : Hp) (σ : Slots) (s : State) (x y : V) (d e : D) (t : T) (Q : V → Hp → Prop), SD X.K g H σ s → VAt X.K g H x d → VAt X.K g H y e → h d e = some t → Fin X.K g H σ s t Q → r x y H Q
def opt (o : Option T) : M T := fun s => match o with
  | some t => .ok t s
  | none => .bad
def optB (o : Option Bool) : M Bool := fun s => match o with
  | some t => .ok t s
  | none => .bad
def dOp2 (h : D → D → Option T) (fa fb : M VR) : M T := fa >>= fun x => fb >>= fun y => readV x >>= fun d => readV y >>= fun e => opt (h d e)
theorem opt_ok {o : Option T} {s s' : State} {t : T} (h : opt o s = .ok t s') : o = some t ∧ s' = s := by
  cases o with
  | none => cases h
  | some x => cases h; exact ⟨rfl, rfl⟩
section
variable {α β γ : Type}
theorem bind_eq {f : M α} {k : α → M β} {s : State} : (f >>= k) s = (match f s with | .ok a s' => k a s' | .err x s' => .err x s' | .bad => .bad) := rfl
theorem readV_res (r : VR) (s : State) : (∃ d, readV r s = .ok d s) ∨ readV r s = .bad := by
  cases r with
  | slot i =>
    cases e : s.env[i]? with
    | none => exact .inr (by simp only [readV, e])
    | some w =>
      cases w with
      | none => exact .inr (by simp only [readV, e])
      | some w => exact .inl ⟨w.data, by simp only [readV, e]⟩
  | t t => exact .inl ⟨_, rfl⟩
variable {K : PySem.W.Frag} {Wx : WX} {σ : Slots} {R : Gh → Hp → State → β → α → Prop} {Q : β → Hp → Prop} {g0 g1 g g' : Gh} {H0 H1 H H' : Hp} {s0 s1 s s' : State}
/-- an operand is read -/
theorem Cur.read {x : VR} {v : V} {k : D → M α} {Hq : Hp} (c : Cur K Wx σ R Q g0 H0 s0 ((readV x >>= k) s1) g1 H1 s1) (h : RVR K σ Hq g1 H1 s1 v x) :
    ∃ d, Cur K Wx σ R Q g0 H0 s0 (k d s1) g1 H1 s1 ∧ VAt K g1 H1 v d := by
  rw [bind_eq] at c
  rcases readV_res x s1 with ⟨d, e⟩ | e
  · rw [e] at c
    exact ⟨d, c, (h.read c.sd e).2⟩
  · rw [e] at c
    exact (c.notBad rfl).elim
end
section
variable {X : Cx} {Wx : WX} {a b c : Expr} {fa fb fc : M VR} {pos : Pos}
theorem op2_run {f : Value → Value → Sem Value} {h : D → D → Option T} {r : R2} (hr : ∀ (g : Gh) (H : Hp) (σ : Slots) (s : State) (x y : V) (d e : D) (t : T) (Q : V → Hp → Prop), SD X.K g H σ s → VAt X.K g H x d → VAt X.K g H y e → h d e = some t → Fin X.K g H σ s t Q → r x y H Q)
    {σ : Slots} {H : Hp} {Q : V → Hp → Prop} (q : tE X.K Wx (dOp2 h fa fb) σ H Q) : tOp r (tV X.K Wx fa) (tV X.K Wx fb) σ H Q := by
  obtain ⟨g, s, c⟩ := q.start
  refine c.bind.mono fun x H1 ⟨x', g1, s1, c1, r1, e1⟩ => ?_
  refine c1.bind.mono fun y H2 ⟨y', g2, s2, c2, r2, e2⟩ => ?_
  obtain ⟨d, c3, v1⟩ := c2.read (r1.ev e2)
  obtain ⟨e, c4, v2⟩ := c3.read r2
  cases q : h d e with
  | none => exact (c4.notBad (by rw [q]; rfl)).elim
  | some t => exact hr g2 H2 σ s2 x y d e t Q c2.sd v1 v2 q (c4.fin (by rw [q]; rfl))
theorem de_op {op : Operator} {h : D → D → Option T} (ho : OpD X (binaryOp op) h) (ha : DV X Wx a fa) (hb : DV X Wx b fb) : DE X Wx (.BinOp a op b pos) (dOp2 h fa fb) := by
  obtain ⟨r, hr, k⟩ := ho
  exact ⟨fun pins s σ H Q I q => (pe_op hr ha hb).run pins s σ H Q I (op2_run (f := binaryOp op) k q)⟩
theorem de_cmp {op : CmpOp} {h : D → D → Option T} (ho : OpD X (compareOp op) h) (ha : DV X Wx a fa) (hb : DV X Wx b fb) (hm : behindInMarks op b = false) : DE X Wx (.Compare a [op] [b] pos) (dOp2 h fa fb) := by
  obtain ⟨r, hr, k⟩ := ho
  exact ⟨fun pins s σ H Q I q => (pe_cmpR hr ha hb hm).run pins s σ H Q I (op2_run (f := compareOp op) k q)⟩
/-- a value as a truth -/
def dB (f : M T) : M Bool := f >>= fun t s => match t with
  | .fz (.bl b) => .ok b s
  | _ => .bad
theorem dB_run {f : M T} {σ : Slots} {H : Hp} {Q : Bool → Hp → Prop} (q : tM X.K Wx RB (dB f) σ H Q) : tE X.K Wx f σ H fun x H' => ∃ k, x = .bl k ∧ Q k H' := by
  obtain ⟨g, s, c⟩ := q.start
  refine c.bind.mono fun x H1 ⟨t, g1, s1, c1, r1, e1⟩ => ?_
  cases t with
  | ow d => exact (c1.notBad rfl).elim
  | fz d =>
    cases d with
    | bl k =>
      have r := RT.at_ r1
      cases r
      exact ⟨k, rfl, c1.done rfl rfl⟩
    | _ => exact (c1.notBad rfl).elim
theorem dt_val {e : Expr} {f : M T} (h : DE X Wx e f) (he : ∀ whole, isTrue e X.env whole = (do let v ← whole; standAt e.pos; holding [v] (truthy v)) := by intro _; rfl) : DT X Wx e (dB f) :=
  ⟨fun pins s σ H Q I q => (pt_val h he).run pins s σ H Q I (dB_run q)⟩
theorem dt_cmp {op : CmpOp} {h : D → D → Option T} (ho : OpD X (compareOp op) h) (ha : DV X Wx a fa) (hb : DV X Wx b fb) (hm : behindInMarks op b = false) : DT X Wx (.Compare a [op] [b] pos) (dB (dOp2 h fa fb)) := by
  obtain ⟨r, hr, k⟩ := ho
  exact ⟨fun pins s σ H Q I q => (pt_cmpR hr ha hb hm).run pins s σ H Q I (op2_run (f := compareOp op) k (dB_run q))⟩
/-- a op b op' c -/
def dChain (h h' : D → D → Option T) (fa fb fc : M VR) : M T := fa >>= fun x => fb >>= fun y => readV x >>= fun d => readV y >>= fun e => opt (h d e) >>= fun t s => match t with
  | .fz (.bl true) => (fc >>= fun z => readV y >>= fun e2 => readV z >>= fun u => opt (h' e2 u)) s
  | .fz (.bl false) => .ok (.fz (.bl false)) s
  | _ => .bad
theorem chain_run {f f' : Value → Value → Sem Value} {h h' : D → D → Option T} {r r' : R2} (hr : ∀ (g : Gh) (H : Hp) (σ : Slots) (s : State) (x y : V) (d e : D) (t : T) (Q : V → Hp → Prop), SD X.K g H σ s → VAt X.K g H x d → VAt X.K g H y e → h d e = some t → Fin X.K g H σ s t Q → r x y H Q)
    (hr' : ∀ (g : Gh) (H : Hp) (σ : Slots) (s : State) (x y : V) (d e : D) (t : T) (Q : V → Hp → Prop), SD X.K g H σ s → VAt X.K g H x d → VAt X.K g H y e → h' d e = some t → Fin X.K g H σ s t Q → r' x y H Q)
    {σ : Slots} {H : Hp} {Q : V → Hp → Prop} (q : tE X.K Wx (dChain h h' fa fb fc) σ H Q) : tChain r r' (tV X.K Wx fa) (tV X.K Wx fb) (tV X.K Wx fc) σ H Q := by
  obtain ⟨g, s, c⟩ := q.start
  refine c.bind.mono fun x H1 ⟨x', g1, s1, c1, r1, e1⟩ => ?_
  refine c1.bind.mono fun y H2 ⟨y', g2, s2, c2, r2, e2⟩ => ?_
  obtain ⟨d, c3, v1⟩ := c2.read (r1.ev e2)
  obtain ⟨e, c4, v2⟩ := c3.read r2
  cases q : h d e with
  | none => exact (c4.notBad (by rw [bind_eq, q]; rfl)).elim
  | some t =>
    refine hr g2 H2 σ s2 x y d e t _ c2.sd v1 v2 q fun v g3 H3 sd3 ev3 r3 => ?_
    rw [bind_eq, q] at c4
    cases t with
    | ow d => exact (c4.notBad rfl).elim
    | fz d0 =>
      cases d0 with
      | bl k =>
        have r := RT.at_ r3
        cases r
        refine ⟨k, rfl, ?_⟩
        cases k with
        | false =>
          rw [if_neg Bool.false_ne_true]
          exact c4.done' rfl sd3 ev3 ⟨.bl false, fun _ _ z => nomatch z⟩
        | true =>
          rw [if_pos rfl]
          have c5 : Cur X.K Wx σ _ Q g H s ((fc >>= fun z => readV y' >>= fun e2 => readV z >>= fun u => opt (h' e2 u)) s2) g3 H3 s2 := ⟨c4.ev.trans ev3, sd3, c4.post⟩
          refine c5.bind.mono fun z H4 ⟨z', g4, s4, c6, r6, e6⟩ => ?_
          obtain ⟨e', c7, v7⟩ := c6.read (r2.ev (ev3.trans e6))
          obtain ⟨u', c8, v8⟩ := c7.read r6
          cases q8 : h' e' u' with
          | none => exact (c8.notBad (by rw [q8]; rfl)).elim
          | some t => exact hr' g4 H4 σ s4 y z e' u' t Q c6.sd v7 v8 q8 (c8.fin (by rw [q8]; rfl))
      | _ => exact (c4.notBad rfl).elim
theorem de_chain {op op' : CmpOp} {h h' : D → D → Option T} (ho : OpD X (compareOp op) h) (ho' : OpD X (compareOp op') h') (ha : DV X Wx a fa) (hb : DV X Wx b fb) (hc : DV X Wx c fc)
    (hm : lastMarks [op, op'] [b, c] = false := by with_unfolding_all rfl) : DE X Wx (.Compare a [op, op'] [b, c] pos) (dChain h h' fa fb fc) := by
  obtain ⟨r, hr, k⟩ := ho
  obtain ⟨r', hr', k'⟩ := ho'
  exact ⟨fun pins s σ H Q I q => (pe_chain hr hr' ha hb hc hm).run pins s σ H Q I (chain_run (f := compareOp op) (f' := compareOp op') k k' q)⟩
theorem dt_chain {op op' : CmpOp} {h h' : D → D → Option T} (ho : OpD X (compareOp op) h) (ho' : OpD X (compareOp op') h') (ha : DV X Wx a fa) (hb : DV X Wx b fb) (hc : DV X Wx c fc)
    (hm : lastMarks [op, op'] [b, c] = false := by with_unfolding_all rfl) : DT X Wx (.Compare a [op, op'] [b, c] pos) (dB (dChain h h' fa fb fc)) := by
  obtain ⟨r, hr, k⟩ := ho
  obtain ⟨r', hr', k'⟩ := ho'
  exact ⟨fun pins s σ H Q I q => (pt_chain hr hr' ha hb hc hm).run pins s σ H Q I (chain_run (f := compareOp op) (f' := compareOp op') k k' (dB_run q))⟩

/-! ### names and constants -/
def dVar (i : Nat) : M T := fun s => match s.env[i]? with
  | some (some (.fz d)) => .ok (.fz d) s
  | some (some (.own d)) => .ok (.fz d) (putE s i (.fz d))
  | _ => .bad
theorem dVar_run {i : Nat} {σ : Slots} {H : Hp} {Q : V → Hp → Prop} (q : tE X.K Wx (dVar i) σ H Q) : tVar i σ H Q := by
  obtain ⟨g, s, sd, p⟩ := q
  unfold dVar at p
  cases e : s.env[i]? with
  | none => simp only [e] at p; exact False.elim p
  | some w =>
    cases w with
    | none => simp only [e] at p; exact False.elim p
    | some w =>
      obtain ⟨v, ev, wa⟩ := sd.slot i w e
      cases w with
      | fz d =>
        simp only [e] at p
        exact ⟨v, ev, p v g H sd .refl ⟨wa, fun _ _ z => nomatch z⟩⟩
      | own d =>
        simp only [e] at p
        obtain ⟨a, o, ea, q, sd1, ev1, rp⟩ := sd.freezeSlot e
        exact ⟨.ref a, ea, p _ _ _ sd1 ev1 ⟨rp, fun _ _ z => nomatch z⟩⟩
      | lent d => simp only [e] at p; exact False.elim p
      | lk d => simp only [e] at p; exact False.elim p
      | lkl d => simp only [e] at p; exact False.elim p
theorem de_v (i : Nat) {x : Str} {pos : Pos} (hN : X.N[i]? = some x := by rfl) (hv : Vis X.env.scope x := by first | exact Or.inl rfl | exact Or.inr (Or.inl rfl) | exact Or.inr (Or.inr rfl)) (hd : (x == ("__debug__" : Str)) = false := by decide)
    (hcd : (x == ("__classdict__" : Str)) = false := by decide) : DE X Wx (.Name x pos) (dVar i) := ⟨fun pins s σ H Q I q => (pe_var hN hv hd hcd).run pins s σ H Q I (dVar_run q)⟩
/-- a name, read later -/
def dSlot (i : Nat) : M VR := fun s => match s.env[i]? with
  | some (some _) => .ok (.slot i) s
  | _ => .bad
theorem dSlot_run {i : Nat} {σ : Slots} {H : Hp} {Q : V → Hp → Prop} (q : tV X.K Wx (dSlot i) σ H Q) : tVar i σ H Q := by
  obtain ⟨g, s, sd, p⟩ := q
  unfold dSlot at p
  cases e : s.env[i]? with
  | none => simp only [e] at p; exact False.elim p
  | some w =>
    cases w with
    | none => simp only [e] at p; exact False.elim p
    | some w =>
      obtain ⟨v, ev, wa⟩ := sd.slot i w e
      simp only [e] at p
      exact ⟨v, ev, p v g H sd .refl ev⟩
theorem dv_v (i : Nat) {x : Str} {pos : Pos} (hN : X.N[i]? = some x := by rfl) (hv : Vis X.env.scope x := by first | exact Or.inl rfl | exact Or.inr (Or.inl rfl) | exact Or.inr (Or.inr rfl)) (hd : (x == ("__debug__" : Str)) = false := by decide)
    (hcd : (x == ("__classdict__" : Str)) = false := by decide) : DV X Wx (.Name x pos) (dSlot i) := ⟨fun pins s σ H Q I q => (pe_var hN hv hd hcd).run pins s σ H Q I (dSlot_run q)⟩
def dV (f : M T) : M VR := f >>= fun t => pure (.t t)
/-- a value as an operand -/
theorem dv_e {e : Expr} {f : M T} (h : DE X Wx e f) : DV X Wx e (dV f) := ⟨fun pins s σ H Q I q => PE.run h pins s σ H Q I (by
  obtain ⟨g, s, c⟩ := q.start
  exact c.bind.mono fun x H1 ⟨t, g1, s1, c1, r1, e1⟩ => c1.done (a := .t t) rfl (show RVR X.K σ H g1 H1 s1 x (.t t) from r1))⟩
def dC (d : D) : M T := fun s => .ok (.fz d) s
theorem dC_run {v : V} {d : D} {σ : Slots} {H : Hp} {Q : V → Hp → Prop} (h : ∀ g, Rep X.K g v d) (q : tE X.K Wx (dC d) σ H Q) : Q v H := by
  obtain ⟨g, s, sd, p⟩ := q
  exact p v g H sd .refl ⟨h g, fun _ _ z => nomatch z⟩
theorem de_int {i j pos} : DE X Wx (.Constant (.int i) j pos) (dC (.int i)) := ⟨fun pins s σ H Q I q => pe_int.run pins s σ H Q I (dC_run (fun _ => .int i) q)⟩
theorem de_bl {i j pos} : DE X Wx (.Constant (.bool i) j pos) (dC (.bl i)) := ⟨fun pins s σ H Q I q => pe_bl.run pins s σ H Q I (dC_run (fun _ => .bl i) q)⟩
theorem de_non {j pos} : DE X Wx (.Constant .none j pos) (dC .non) := ⟨fun pins s σ H Q I q => pe_non.run pins s σ H Q I (dC_run (fun _ => .non) q)⟩
theorem de_str {i j pos} : DE X Wx (.Constant (.str i) j pos) (dC (.str i)) := ⟨fun pins s σ H Q I q => pe_str.run pins s σ H Q I (dC_run (fun _ => .str i) q)⟩
/-- a constant of the module -/
theorem de_gint {x : Str} {i : Int} {t : Tok} {pos : Pos} (hg : Gl X x) (hm : X.mg x = some (.int i t)) (hd : (x == ("__debug__" : Str)) = false := by decide) : DE X Wx (.Name x pos) (dC (.int i)) :=
  ⟨fun pins s σ H Q I q => (pe_glob (v := .int i) hg hm ⟨t, rfl⟩ hd).run pins s σ H Q I (dC_run (fun _ => .int i) q)⟩
theorem de_gstr {x : Str} {i : Str} {t : Tok} {pos : Pos} (hg : Gl X x) (hm : X.mg x = some (.str i t)) (hd : (x == ("__debug__" : Str)) = false := by decide) : DE X Wx (.Name x pos) (dC (.str i)) :=
  ⟨fun pins s σ H Q I q => (pe_glob (v := .str i) hg hm ⟨t, rfl⟩ hd).run pins s σ H Q I (dC_run (fun _ => .str i) q)⟩

/-! ### and, or, not, if -/
def dAnd (f k : M Bool) : M Bool := f >>= fun b => if b = true then k else pure false
def dOr (f k : M Bool) : M Bool := f >>= fun b => if b = true then pure true else k
def dNot (f : M Bool) : M Bool := f >>= fun b => pure (!b)
variable {f k : M Bool} {ft fe : M T} {rest : List Expr}
theorem dtw_and1 (h : DT X Wx a f) : DTW X Wx (.BoolOp .And [a] pos) f := pw_and1 h
theorem dtw_or1 (h : DT X Wx a f) : DTW X Wx (.BoolOp .Or [a] pos) f := pw_or1 h
theorem dtw_and (ha : DT X Wx a f) (hb : DTW X Wx (.BoolOp .And (b :: rest) pos) k) : DTW X Wx (.BoolOp .And (a :: b :: rest) pos) (dAnd f k) :=
  ⟨fun whole pins s σ H Q I q => (pw_and ha hb).run whole pins s σ H Q I (by
    obtain ⟨g, s, c⟩ := q.start
    refine c.bind.mono fun x H1 ⟨t, g1, s1, c1, r1, e1⟩ => ?_
    cases (show x = t from r1)
    cases x with
    | true => rw [if_pos rfl] at c1 ⊢; exact c1.last fun b a g2 H2 s2 _ r => r
    | false => rw [if_neg Bool.false_ne_true] at c1 ⊢; exact c1.done rfl rfl)⟩
theorem dtw_or (ha : DT X Wx a f) (hb : DTW X Wx (.BoolOp .Or (b :: rest) pos) k) : DTW X Wx (.BoolOp .Or (a :: b :: rest) pos) (dOr f k) :=
  ⟨fun whole pins s σ H Q I q => (pw_or ha hb).run whole pins s σ H Q I (by
    obtain ⟨g, s, c⟩ := q.start
    refine c.bind.mono fun x H1 ⟨t, g1, s1, c1, r1, e1⟩ => ?_
    cases (show x = t from r1)
    cases x with
    | true => rw [if_pos rfl] at c1 ⊢; exact c1.done rfl rfl
    | false => rw [if_neg Bool.false_ne_true] at c1 ⊢; exact c1.last fun b a g2 H2 s2 _ r => r)⟩
theorem DTW.dt {e : Expr} (h : DTW X Wx e f) : DT X Wx e f := PW.pt h
theorem dt_not (ha : DT X Wx a f) : DT X Wx (.UnaryOp .Not a pos) (dNot f) :=
  ⟨fun pins s σ H Q I q => (pt_not ha).run pins s σ H Q I (by
    obtain ⟨g, s, c⟩ := q.start
    refine c.bind.mono fun x H1 ⟨t, g1, s1, c1, r1, e1⟩ => ?_
    cases (show x = t from r1)
    exact c1.done rfl rfl)⟩
/-- .. as values -/
def dAndV (f k : M T) : M T := f >>= fun t s => match t with
  | .fz (.bl true) => k s
  | .fz (.bl false) => .ok (.fz (.bl false)) s
  | _ => .bad
def dOrV (f k : M T) : M T := f >>= fun t s => match t with
  | .fz (.bl true) => .ok (.fz (.bl true)) s
  | .fz (.bl false) => k s
  | _ => .bad
def dNotV (f : M T) : M T := f >>= fun t s => match t with
  | .fz (.bl b) => .ok (.fz (.bl (!b))) s
  | _ => .bad
theorem de_one {op} (h : DE X Wx a ft) : DE X Wx (.BoolOp op [a] pos) ft := pe_one h
theorem de_and (ha : DE X Wx a ft) (hb : DE X Wx (.BoolOp .And (b :: rest) pos) fe) : DE X Wx (.BoolOp .And (a :: b :: rest) pos) (dAndV ft fe) :=
  ⟨fun pins s σ H Q I q => (pe_and ha hb).run pins s σ H Q I (by
    obtain ⟨g, s, c⟩ := q.start
    refine c.bind.mono fun x H1 ⟨t, g1, s1, c1, r1, e1⟩ => ?_
    cases t with
    | ow d => exact (c1.notBad rfl).elim
    | fz d =>
      cases d with
      | bl k =>
        have r := RT.at_ r1
        cases r
        refine ⟨k, rfl, ?_⟩
        cases k with
        | true => rw [if_pos rfl]; exact c1.last fun b a g2 H2 s2 ev r => RT.past ev.live r
        | false => rw [if_neg Bool.false_ne_true]; exact c1.done rfl ⟨.bl false, fun _ _ z => nomatch z⟩
      | _ => exact (c1.notBad rfl).elim)⟩
theorem de_or (ha : DE X Wx a ft) (hb : DE X Wx (.BoolOp .Or (b :: rest) pos) fe) : DE X Wx (.BoolOp .Or (a :: b :: rest) pos) (dOrV ft fe) :=
  ⟨fun pins s σ H Q I q => (pe_or ha hb).run pins s σ H Q I (by
    obtain ⟨g, s, c⟩ := q.start
    refine c.bind.mono fun x H1 ⟨t, g1, s1, c1, r1, e1⟩ => ?_
    cases t with
    | ow d => exact (c1.notBad rfl).elim
    | fz d =>
      cases d with
      | bl k =>
        have r := RT.at_ r1
        cases r
        refine ⟨k, rfl, ?_⟩
        cases k with
        | false => rw [if_neg Bool.false_ne_true]; exact c1.last fun b a g2 H2 s2 ev r => RT.past ev.live r
        | true => rw [if_pos rfl]; exact c1.done rfl ⟨.bl true, fun _ _ z => nomatch z⟩
      | _ => exact (c1.notBad rfl).elim)⟩
theorem de_not (ha : DE X Wx a ft) : DE X Wx (.UnaryOp .Not a pos) (dNotV ft) :=
  ⟨fun pins s σ H Q I q => (pe_not ha).run pins s σ H Q I (by
    obtain ⟨g, s, c⟩ := q.start
    refine c.bind.mono fun x H1 ⟨t, g1, s1, c1, r1, e1⟩ => ?_
    cases t with
    | ow d => exact (c1.notBad rfl).elim
    | fz d =>
      cases d with
      | bl k =>
        have r := RT.at_ r1
        cases r
        exact ⟨k, rfl, c1.done rfl ⟨.bl _, fun _ _ z => nomatch z⟩⟩
      | _ => exact (c1.notBad rfl).elim)⟩
def dIf {α : Type} (c : M Bool) (t e : M α) : M α := c >>= fun b => if b = true then t else e
theorem de_if (hc : DT X Wx c f) (ha : DE X Wx a ft) (hb : DE X Wx b fe) : DE X Wx (.IfExp c a b pos) (dIf f ft fe) :=
  ⟨fun pins s σ H Q I q => (pe_ifExp hc ha hb).run pins s σ H Q I (by
    obtain ⟨g, s, c⟩ := q.start
    refine c.bind.mono fun x H1 ⟨t, g1, s1, c1, r1, e1⟩ => ?_
    cases (show x = t from r1)
    cases x with
    | true => rw [if_pos rfl] at c1 ⊢; exact c1.last fun b a g2 H2 s2 ev r => RT.past ev.live r
    | false => rw [if_neg Bool.false_ne_true] at c1 ⊢; exact c1.last fun b a g2 H2 s2 ev r => RT.past ev.live r)⟩

/-! ### one operand -/
def UnD (X : Cx) (f : Value → Sem Value) (h : D → Option T) : Prop :=
  ∃ r, UnR X f r ∧ ∀ (g : Gh) (H : Hp) (σ : Slots) (s : State) (x : V) (d : D) (t : T) (Q : V → Hp → Prop), SD X.K g H σ s → VAt X.K g H x d → h d = some t → Fin X.K g H σ s t Q → r x H Q
def dOp1 (h : D → Option T) (fa : M VR) : M T := fa >>= fun x => readV x >>= fun d => opt (h d)
theorem de_un {op : UnaryOp} {h : D → Option T} (ho : UnD X (unaryOp op) h) (ha : DV X Wx a fa) : DE X Wx (.UnaryOp op a pos) (dOp1 h fa) := by
  obtain ⟨r, hr, k⟩ := ho
  refine ⟨fun pins s σ H Q I q => (pe_un hr ha).run pins s σ H Q I ?_⟩
  obtain ⟨g, s, c⟩ := q.start
  refine c.bind.mono fun x H1 ⟨x', g1, s1, c1, r1, e1⟩ => ?_
  obtain ⟨d, c3, v1⟩ := c1.read r1
  cases q : h d with
  | none => exact (c3.notBad (by rw [q]; rfl)).elim
  | some t => exact k g1 H1 σ s1 x d t Q c1.sd v1 q (c3.fin (by rw [q]; rfl))
end

/-! ### lists of operands -/
/-- two new objects are two -/
def Apart (v : V) (r : VR) (vs : List V) (rs : List VR) : Prop := ∀ a d, r = .t (.ow d) → v = .ref a → ∀ p ∈ vs.zip rs, ∀ d', p.2 = .t (.ow d') → p.1 ≠ .ref a
inductive RVRs (K : PySem.W.Frag) (σ : Slots) (H0 : Hp) (g : Gh) (H : Hp) (s : State) : List V → List VR → Prop where
  | nil : RVRs K σ H0 g H s [] []
  | cons {v : V} {r : VR} {vs : List V} {rs : List VR} : RVR K σ H0 g H s v r → RVRs K σ H0 g H s vs rs → Apart v r vs rs → RVRs K σ H0 g H s (v :: vs) (r :: rs)
def RVL (K : PySem.W.Frag) : Rel (List VR) (List V) := fun σ H0 g H s vs rs => RVRs K σ H0 g H s vs rs
section
variable {K : PySem.W.Frag} {Wx : WX} {σ : Slots} {g g' : Gh} {H0 H H' : Hp} {s s' : State} {v : V}
theorem RVRs.ev (e : Ev g H σ s g' H' σ s') : ∀ {vs : List V} {rs : List VR}, RVRs K σ H0 g H s vs rs → RVRs K σ H0 g' H' s' vs rs
  | _, _, .nil => .nil
  | _, _, .cons a r p => .cons (RVR.ev e a) (RVRs.ev e r) p
theorem RVRs.past {H1 : Hp} (l : ∀ a, H0 a ≠ none → H1 a ≠ none) : ∀ {vs : List V} {rs : List VR}, RVRs K σ H1 g H s vs rs → RVRs K σ H0 g H s vs rs
  | _, _, .nil => .nil
  | _, _, .cons a r p => .cons (RVR.past l a) (RVRs.past l r) p
theorem RVRs.mem : ∀ {vs : List V} {rs : List VR}, RVRs K σ H0 g H s vs rs → ∀ p ∈ vs.zip rs, RVR K σ H0 g H s p.1 p.2
  | _, _, .nil, _, h => by simp at h
  | _, _, .cons a r _, p, h => by
    rw [List.zip_cons_cons] at h
    rcases List.mem_cons.mp h with rfl | h
    · exact a
    · exact RVRs.mem r p h
theorem RVRs.length : ∀ {vs : List V} {rs : List VR}, RVRs K σ H0 g H s vs rs → vs.length = rs.length
  | _, _, .nil => rfl
  | _, _, .cons _ r _ => by rw [List.length_cons, List.length_cons, RVRs.length r]
end
abbrev tL (K : PySem.W.Frag) (Wx : WX) (f : M (List VR)) : TA := tM K Wx (RVL K) f
def DA (X : Cx) (Wx : WX) (es : List Expr) (f : M (List VR)) : Prop := PA X es (tL X.K Wx f)
def dNil : M (List VR) := fun s => .ok [] s
def dCons (f : M VR) (k : M (List VR)) : M (List VR) := f >>= fun x => k >>= fun xs => pure (x :: xs)
section
variable {X : Cx} {Wx : WX} {e : Expr} {es : List Expr} {f : M VR} {k : M (List VR)} {pos : Pos}
theorem da_nil : DA X Wx [] dNil := ⟨fun pos pins s σ H Q I q => pa_nil.run pos pins s σ H Q I (by
  obtain ⟨g, s, sd, p⟩ := q
  exact p [] g H sd .refl .nil)⟩
theorem da_cons (ha : DV X Wx e f) (hr : DA X Wx es k) (hs : starEach (e :: es) X.env = (false, eval e X.env) :: starEach es X.env := by rfl) : DA X Wx (e :: es) (dCons f k) :=
  ⟨fun pos pins s σ H Q I q => (pa_cons ha hr hs).run pos pins s σ H Q I (by
    obtain ⟨g, s, c⟩ := q.start
    refine c.bind.mono fun x H1 ⟨x', g1, s1, c1, r1, e1⟩ => ?_
    refine c1.bind.mono fun xs H2 ⟨xs', g2, s2, c2, r2, e2⟩ => ?_
    refine c2.done (a := x' :: xs') rfl (.cons (r1.ev e2) (RVRs.past e1.live r2) fun a d er ev p hp d' e' ep => ?_)
    subst er
    obtain ⟨b, o, eb, _, ho, _⟩ := RT.at_ r1
    rw [ev] at eb
    cases eb
    have r := RVRs.mem r2 p hp
    rw [e', ep] at r
    have z := (RT.new r d' a rfl rfl).1
    rw [ho] at z
    cases z)⟩

/-! ### freezing what is read -/
/-- the operand as frozen data -/
def frz : VR → M D
  | .slot i => fun s => match s.env[i]? with
    | some (some (.fz d)) => .ok d s
    | some (some (.own d)) => .ok d (putE s i (.fz d))
    | _ => .bad
  | .t t => fun s => .ok t.data s
def frzs : List VR → M (List D)
  | [] => pure []
  | r :: rs => frz r >>= fun d => frzs rs >>= fun ds => pure (d :: ds)
variable {K : PySem.W.Frag} {σ σ0 : Slots} {g g' g0 : Gh} {H0 H H' Hq : Hp} {s s' s0 : State} {v : V}
/-- on the same heap the ghost may grow -/
theorem frz_run {r : VR} {d : D} (e : frz r s = .ok d s') (e0 : Ev g0 H0 σ0 s0 g H σ s) (sd : SD K g H σ s) (h : RVR K σ H0 g H s v r) :
    ∃ g', SD K g' H σ s' ∧ Ev g0 H0 σ0 s0 g' H σ s' ∧ Rep K g' v d ∧ (∀ v' r', RVR K σ H0 g H s v' r' → (∀ a d d2, r' = .t (.ow d) → v' = .ref a → r = .t (.ow d2) → v ≠ .ref a) → RVR K σ H0 g' H s' v' r') ∧ Le g g' := by
  cases r with
  | slot i =>
    unfold frz at e
    cases e2 : s.env[i]? with
    | none => simp only [e2] at e; cases e
    | some w =>
      cases w with
      | none => simp only [e2] at e; cases e
      | some w =>
        cases w with
        | fz d' =>
          simp only [e2] at e
          cases e
          obtain ⟨v', ev, wa⟩ := sd.slot i _ e2
          have h : σ[i]? = some (some v) := h
          rw [h] at ev; cases ev
          exact ⟨g, sd, e0, wa, fun _ _ z _ => z, .refl g⟩
        | own d' =>
          simp only [e2] at e
          cases e
          obtain ⟨a, o, ea, q, sd1, ev1, rp⟩ := sd.freezeSlot e2
          have h : σ[i]? = some (some v) := h
          rw [h] at ea; cases ea
          exact ⟨_, sd1, e0.trans ev1, rp, fun v' r' z _ => z.ev ev1, ev1.le⟩
        | lent d' => simp only [e2] at e; cases e
        | lk d' => simp only [e2] at e; cases e
        | lkl d' => simp only [e2] at e; cases e
  | t t =>
    unfold frz at e
    cases e
    cases t with
    | fz d' => exact ⟨g, sd, e0, RT.at_ h, fun _ _ z _ => z, .refl g⟩
    | ow d' =>
      obtain ⟨a, o, rfl, f, ho, ob⟩ := RT.at_ h
      obtain ⟨n1, n2⟩ := RT.new h d' a rfl rfl
      refine ⟨g.frz a o, sd.freeze f n2 ho, e0.freeze f n1, ob.rep (Gh.frz_le f.1) Gh.frz_at, fun v' r' z ne => ?_, Gh.frz_le f.1⟩
      cases r' with
      | slot i => exact z
      | t t =>
        cases t with
        | fz d => exact ⟨Rep.mono (Gh.frz_le f.1) z.at_, fun _ _ z => nomatch z⟩
        | ow d =>
          obtain ⟨b, u, rfl, fb, hb, ob2⟩ := z.at_
          refine ⟨⟨b, u, rfl, fb.frz fun q => ne b d d' rfl rfl rfl (by rw [q]), hb, ob2.mono (Gh.frz_le f.1)⟩, z.new⟩
/-- several, from the left -/
theorem frzs_run : ∀ {rs : List VR} {vs : List V} {ds : List D} {s s' : State} {g : Gh}, frzs rs s = .ok ds s' → Ev g0 H0 σ0 s0 g H σ s → SD K g H σ s → RVRs K σ H0 g H s vs rs →
    ∃ g', SD K g' H σ s' ∧ Ev g0 H0 σ0 s0 g' H σ s' ∧ Reps K g' vs ds ∧ Le g g'
  | [], _, _, _, _, g, e, e0, sd, h => by
    cases h
    cases e
    exact ⟨g, sd, e0, .nil, .refl g⟩
  | r :: rs, _, ds, s, s', g, e, e0, sd, h => by
    cases h with
    | @cons v _ vs _ h1 h2 ap =>
      unfold frzs at e
      rw [bind_eq] at e
      cases q : frz r s with
      | bad => rw [q] at e; cases e
      | err x s1 => rw [q] at e; cases e
      | ok d s1 =>
        rw [q] at e
        have e : (frzs rs >>= fun ds => pure (d :: ds)) s1 = .ok ds s' := e
        rw [bind_eq] at e
        obtain ⟨g1, sd1, e1, rp, tr, le1⟩ := frz_run q e0 sd h1
        have h3 : ∀ {us : List V} {ts : List VR}, RVRs K σ H0 g H s us ts → (∀ p ∈ us.zip ts, p ∈ vs.zip rs) → RVRs K σ H0 g1 H s1 us ts := by
          intro us ts hh
          induction hh with
          | nil => exact fun _ => .nil
          | cons a b c ih =>
            intro hm
            exact .cons (tr _ _ a fun b' d' d2 e1 e2 e3 => fun e4 => ap b' d2 e3 e4 _ (hm _ List.mem_cons_self) d' e1 e2) (ih fun p hp => hm p (List.mem_cons_of_mem _ hp)) c
        cases q2 : frzs rs s1 with
        | bad => rw [q2] at e; cases e
        | err x s2 => rw [q2] at e; cases e
        | ok ds2 s2 =>
          rw [q2] at e
          cases e
          obtain ⟨g2, sd2, e2, rp2, le2⟩ := frzs_run q2 e1 sd1 (h3 h2 fun _ h => h)
          exact ⟨g2, sd2, e2, .cons (rp.mono le2) rp2, le1.trans le2⟩
end
end DL

set_option Elab.async false
set_option linter.all false
set_option maxRecDepth 100000
set_option maxHeartbeats 1000000
/-! DLOps: what the operators and the built-ins do to data -/
namespace DL
open PySem PySem.Spec PyProof.Rows L2

section
variable {X : Cx} {K : PySem.W.Frag} {g : Gh} {H : Hp} {σ : Slots} {s : State}
/-! ### numbers, texts, lists, tuples: + - * // % ** -/
def addD : D → D → Option T
  | .int i, .int j => some (.fz (.int (i + j)))
  | .str x, .str y => if x.length + y.length ≤ sizeLine then some (.fz (.str (x ++ y))) else none
  | .lst xs, .lst ys => if xs.length + ys.length ≤ sizeLine then some (.ow (.lst (xs ++ ys))) else none
  | .tup xs, .tup ys => if xs.length + ys.length ≤ sizeLine then some (.fz (.tup (xs ++ ys))) else none
  | _, _ => none
theorem o_add : OpD X (binaryOp .Add) addD := by
  refine ⟨_, op_add.or (op_add_str.or (op_cat.or op_catA)), fun g H σ s x y d e t Q sd hx hy hh f => ?_⟩
  unfold addD at hh
  split at hh
  · cases hh; cases hx.int; cases hy.int
    exact .inl ⟨_, _, rfl, rfl, f.fz sd (.int _)⟩
  · rename_i z u
    by_cases hz : z.length + u.length ≤ sizeLine
    · rw [if_pos hz] at hh; cases hh; cases hx.str; cases hy.str
      exact .inr (.inl ⟨_, _, rfl, rfl, hz, f.fz sd (.str _)⟩)
    · rw [if_neg hz] at hh; cases hh
  · rename_i ds es
    by_cases hz : ds.length + es.length ≤ sizeLine
    · rw [if_pos hz] at hh; cases hh
      obtain ⟨a, xs, rfl, ha, ra⟩ := hx.lst sd
      obtain ⟨b, ys, rfl, hb, rb⟩ := hy.lst sd
      refine .inr (.inr (.inl ⟨a, b, xs, ys, rfl, rfl, ha, hb, by rw [ra.length, rb.length]; exact hz, fun p hp => f.ow sd hp (.lst (ra.append rb))⟩))
    · rw [if_neg hz] at hh; cases hh
  · rename_i ds es
    by_cases hz : ds.length + es.length ≤ sizeLine
    · rw [if_pos hz] at hh; cases hh
      obtain ⟨a, xs, rfl, ha, ra⟩ := hx.tup sd
      obtain ⟨b, ys, rfl, hb, rb⟩ := hy.tup sd
      refine .inr (.inr (.inr ⟨a, b, xs, ys, rfl, rfl, ha, hb, by rw [ra.length, rb.length]; exact hz, fun e => ?_, fun n e => ?_, fun _ _ p hp => f.tup sd hp (ra.append rb)⟩))
      · subst e
        cases ra
        exact f.fz sd (hy.sc fun _ z => z)
      · subst e
        cases rb
        rw [List.append_nil] at f
        exact f.fz sd (hx.sc fun _ z => z)
    · rw [if_neg hz] at hh; cases hh
  · cases hh
def subD : D → D → Option T
  | .int i, .int j => some (.fz (.int (i - j)))
  | _, _ => none
theorem o_sub : OpD X (binaryOp .Sub) subD := by
  refine ⟨_, op_sub, fun g H σ s x y d e t Q sd hx hy hh f => ?_⟩
  unfold subD at hh
  split at hh
  · cases hh; cases hx.int; cases hy.int
    exact ⟨_, _, rfl, rfl, f.fz sd (.int _)⟩
  · cases hh
def bnd64 (i : Int) : Bool := decide (-(2 ^ 64) < i) && decide (i < 2 ^ 64)
theorem bnd64_of {i : Int} (h : bnd64 i = true) : -(2 ^ 64) < i ∧ i < 2 ^ 64 := by
  unfold bnd64 at h
  rw [Bool.and_eq_true, decide_eq_true_eq, decide_eq_true_eq] at h
  exact h
theorem Reps.flatRep {K : PySem.W.Frag} {g : Gh} {xs : List V} {ds : List D} (r : Reps K g xs ds) : ∀ n : Nat, Reps K g (List.replicate n xs).flatten (List.replicate n ds).flatten
  | 0 => .nil
  | n + 1 => by
    rw [List.replicate_succ, List.replicate_succ, List.flatten_cons, List.flatten_cons]
    exact r.append (Reps.flatRep r n)
def mulD : D → D → Option T
  | .int i, .int j => if bnd64 i || bnd64 j then some (.fz (.int (i * j))) else none
  | .lst xs, .int k => if bnd64 (k * 2) && decide (xs.length * k.toNat ≤ sizeLine) then some (.ow (.lst (List.replicate k.toNat xs).flatten)) else none
  | _, _ => none
theorem o_mul : OpD X (binaryOp .Mult) mulD := by
  refine ⟨_, op_mul.or op_rep, fun g H σ s x y d e t Q sd hx hy hh f => ?_⟩
  unfold mulD at hh
  split at hh
  · rename_i i j
    cases hb : (bnd64 i || bnd64 j) with
    | false => rw [hb] at hh; cases hh
    | true =>
      rw [hb] at hh; cases hh; cases hx.int; cases hy.int
      refine .inl ⟨_, _, rfl, rfl, ?_, f.fz sd (.int _)⟩
      rcases (Bool.or_eq_true _ _).mp hb with h | h
      · exact .inl (bnd64_of h)
      · exact .inr (bnd64_of h)
  · rename_i ds k
    cases hb : (bnd64 (k * 2) && decide (ds.length * k.toNat ≤ sizeLine)) with
    | false => rw [hb] at hh; cases hh
    | true =>
      rw [hb] at hh; cases hh
      obtain ⟨h1, h2⟩ := (Bool.and_eq_true _ _).mp hb
      have h1 := bnd64_of h1
      obtain ⟨a, xs, rfl, ha, ra⟩ := hx.lst sd
      cases hy.int
      refine .inr ⟨a, k, xs, rfl, rfl, ha, by omega, by omega, by rw [ra.length]; exact of_decide_eq_true h2, fun p hp => f.ow sd hp (.lst (ra.flatRep _))⟩
  · cases hh
def fdivD : D → D → Option T
  | .int i, .int j => if 0 < j ∧ j < 1073741824 then some (.fz (.int (i / j))) else none
  | _, _ => none
theorem o_fdiv : OpD X (binaryOp .FloorDiv) fdivD := by
  refine ⟨_, op_fdiv, fun g H σ s x y d e t Q sd hx hy hh f => ?_⟩
  unfold fdivD at hh
  split at hh
  · rename_i i j
    by_cases hb : 0 < j ∧ j < 1073741824
    · rw [if_pos hb] at hh; cases hh; cases hx.int; cases hy.int
      exact ⟨_, _, rfl, rfl, hb, f.fz sd (.int _)⟩
    · rw [if_neg hb] at hh; cases hh
  · cases hh
def modD : D → D → Option T
  | .int i, .int j => if 0 < j then some (.fz (.int (i % j))) else none
  | _, _ => none
theorem o_mod : OpD X (binaryOp .Mod) modD := by
  refine ⟨_, op_mod, fun g H σ s x y d e t Q sd hx hy hh f => ?_⟩
  unfold modD at hh
  split at hh
  · rename_i i j
    by_cases hb : 0 < j
    · rw [if_pos hb] at hh; cases hh; cases hx.int; cases hy.int
      exact ⟨_, _, rfl, rfl, hb, f.fz sd (.int _)⟩
    · rw [if_neg hb] at hh; cases hh
  · cases hh
def powD : D → D → Option T
  | .int i, .int j => if 0 ≤ j ∧ j ≤ 1000000 ∧ i.natAbs < 2 ^ 64 then some (.fz (.int (i ^ j.toNat))) else none
  | _, _ => none
theorem o_pow : OpD X (binaryOp .Pow) powD := by
  refine ⟨_, op_pow, fun g H σ s x y d e t Q sd hx hy hh f => ?_⟩
  unfold powD at hh
  split at hh
  · rename_i i j
    by_cases hb : 0 ≤ j ∧ j ≤ 1000000 ∧ i.natAbs < 2 ^ 64
    · rw [if_pos hb] at hh; cases hh; cases hx.int; cases hy.int
      exact ⟨_, _, rfl, rfl, hb, f.fz sd (.int _)⟩
    · rw [if_neg hb] at hh; cases hh
  · cases hh
def negD : D → Option T
  | .int i => some (.fz (.int (-i)))
  | _ => none
theorem o_neg : UnD X (unaryOp .USub) negD := by
  refine ⟨_, un_neg, fun g H σ s x d t Q sd hx hh f => ?_⟩
  unfold negD at hh
  split at hh
  · cases hh; cases hx.int
    exact ⟨_, rfl, f.fz sd (.int _)⟩
  · cases hh
/-! ### comparisons -/
def cmpD (p : Int → Int → Bool) : D → D → Option T
  | .int i, .int j => some (.fz (.bl (p i j)))
  | _, _ => none
theorem o_cmp {f : Value → Value → Sem Value} {p : Int → Int → Bool} (h : OpR X f (rI0 fun i j => .bl (p i j))) : OpD X f (cmpD p) := by
  refine ⟨_, h, fun g H σ s x y d e t Q sd hx hy hh f => ?_⟩
  unfold cmpD at hh
  split at hh
  · cases hh; cases hx.int; cases hy.int
    exact ⟨_, _, rfl, rfl, f.fz sd (.bl _)⟩
  · cases hh
def ltD : D → D → Option T := cmpD fun i j => decide (i < j)
def leD : D → D → Option T := cmpD fun i j => decide (i ≤ j)
def gtD : D → D → Option T := cmpD fun i j => decide (j < i)
def geD : D → D → Option T := cmpD fun i j => decide (j ≤ i)
theorem o_lt : OpD X (compareOp .Lt) ltD := o_cmp op_lt
theorem o_le : OpD X (compareOp .LtE) leD := o_cmp op_le
theorem o_gt : OpD X (compareOp .Gt) gtD := o_cmp op_gt
theorem o_ge : OpD X (compareOp .GtE) geD := o_cmp op_ge
def isNonD : D → Bool
  | .non => true
  | _ => false
theorem VAt.nonIff {x : V} {d : D} (h : VAt K g H x d) : decide (x = .non) = isNonD d := by
  rcases h with h | ⟨a, o, rfl, _, ob⟩
  · cases h <;> rfl
  · cases d <;> first | rfl | exact ob.elim
def isD : D → D → Option T
  | d, .non => some (.fz (.bl (isNonD d)))
  | _, _ => none
def isNotD : D → D → Option T
  | d, .non => some (.fz (.bl (!isNonD d)))
  | _, _ => none
theorem o_is : OpD X (compareOp .Is) isD := by
  refine ⟨_, op_isN, fun g H σ s x y d e t Q sd hx hy hh f => ?_⟩
  unfold isD at hh
  split at hh
  · cases hh
    exact ⟨hy.non, by rw [hx.nonIff]; exact f.fz sd (.bl _)⟩
  · cases hh
theorem o_isNot : OpD X (compareOp .IsNot) isNotD := by
  refine ⟨_, op_notN, fun g H σ s x y d e t Q sd hx hy hh f => ?_⟩
  unfold isNotD at hh
  split at hh
  · cases hh
    exact ⟨hy.non, by rw [hx.nonIff]; exact f.fz sd (.bl _)⟩
  · cases hh
/-! ### == of data -/
mutual
def toPy : D → Option PyData
  | .non => some .none
  | .bl b => some (.bool b)
  | .int i => some (.int i)
  | .str x => some (.str x)
  | .tup ds => (toPys ds).map .tuple
  | .lst ds => (toPys ds).map .list
  | _ => none
def toPys : List D → Option (List PyData)
  | [] => some []
  | d :: ds => match toPy d, toPys ds with
    | some p, some ps => some (p :: ps)
    | _, _ => none
end
theorem toPys_cons {d : D} {ds : List D} {ps : List PyData} (h : toPys (d :: ds) = some ps) : ∃ p qs, toPy d = some p ∧ toPys ds = some qs ∧ ps = p :: qs := by
  unfold toPys at h
  cases e1 : toPy d with
  | none => rw [e1] at h; cases h
  | some p =>
    cases e2 : toPys ds with
    | none => rw [e1, e2] at h; cases h
    | some qs => rw [e1, e2] at h; cases h; exact ⟨p, qs, rfl, rfl, rfl⟩
mutual
theorem Rep.dp (sd : SD K g H σ s) : ∀ {v : V} {d : D} {p : PyData}, Rep K g v d → toPy d = some p → Dp K H v p
  | _, _, _, .non, h => by unfold toPy at h; cases h; exact .non
  | _, _, _, .bl b, h => by unfold toPy at h; cases h; exact .bl b
  | _, _, _, .int i, h => by unfold toPy at h; cases h; exact .int i
  | _, _, _, .str x, h => by unfold toPy at h; cases h; exact .str x
  | _, _, _, .tup (ds := ds) q r, h => by
    unfold toPy at h
    cases e : toPys ds with
    | none => rw [e] at h; cases h
    | some ps => rw [e] at h; cases h; exact .tup (.of (sd.here q rfl)) (Reps.dp sd r e)
  | _, _, _, .tup0 q, h => by
    unfold toPy toPys at h
    cases h
    exact .tup (sd.tup q) .nil
  | _, _, _, .lst (ds := ds) q r, h => by
    unfold toPy at h
    cases e : toPys ds with
    | none => rw [e] at h; cases h
    | some ps => rw [e] at h; cases h; exact .lst (.of (sd.here q rfl)) (Reps.dp sd r e)
  | _, _, _, .frl _, h => by unfold toPy at h; cases h
  | _, _, _, .dk _ _ _, h => by unfold toPy at h; cases h
  | _, _, _, .dt _ _ _, h => by unfold toPy at h; cases h
  | _, _, _, .obj _ _ _, h => by unfold toPy at h; cases h
  | _, _, _, .ptr _, h => by unfold toPy at h; cases h
  | _, _, _, .draw _, h => by unfold toPy at h; cases h
theorem Reps.dp (sd : SD K g H σ s) : ∀ {v : List V} {d : List D} {p : List PyData}, Reps K g v d → toPys d = some p → DpAll K H v p
  | _, _, _, .nil, h => by unfold toPys at h; cases h; exact .nil
  | _, _, _, .cons a r, h => by
    obtain ⟨p, qs, e1, e2, rfl⟩ := toPys_cons h
    exact .cons (Rep.dp sd a e1) (Reps.dp sd r e2)
end
theorem VAt.dp (sd : SD K g H σ s) {v : V} {d : D} {p : PyData} (h : VAt K g H v d) (e : toPy d = some p) : Dp K H v p := by
  rcases h with h | ⟨a, o, rfl, q, ob⟩
  · exact h.dp sd e
  · cases d with
    | lst ds =>
      obtain ⟨xs, rfl, r⟩ := ob
      unfold toPy at e
      cases e2 : toPys ds with
      | none => rw [e2] at e; cases e
      | some ps => rw [e2] at e; cases e; exact .lst (.of (q.exact rfl)) (r.dp sd e2)
    | dk ds => unfold toPy at e; cases e
    | dt ds => unfold toPy at e; cases e
    | obj C ds => unfold toPy at e; cases e
    | _ => exact ob.elim
def eqD (d e : D) : Option Bool := match toPy d, toPy e with
  | some p, some q => if SeqAt.shaped p && SeqAt.shaped q then some (PyData.eqv p q) else none
  | _, _ => none
def eqT (d e : D) : Option T := (eqD d e).map fun b => .fz (.bl b)
def neT (d e : D) : Option T := (eqD d e).map fun b => .fz (.bl (!b))
theorem eqD_some {d e : D} {b : Bool} (h : eqD d e = some b) : ∃ p q, toPy d = some p ∧ toPy e = some q ∧ SeqAt.shaped p = true ∧ SeqAt.shaped q = true ∧ b = PyData.eqv p q := by
  unfold eqD at h
  cases e1 : toPy d with
  | none => rw [e1] at h; cases h
  | some p =>
    cases e2 : toPy e with
    | none => rw [e1, e2] at h; cases h
    | some q =>
      rw [e1, e2] at h
      cases hs : (SeqAt.shaped p && SeqAt.shaped q) with
      | false => simp only [hs] at h; cases h
      | true =>
        simp only [hs] at h; cases h
        obtain ⟨s1, s2⟩ := (Bool.and_eq_true _ _).mp hs
        exact ⟨p, q, rfl, rfl, s1, s2, rfl⟩
theorem o_eq (hu : X.A.units + 64 < cLine) : OpD X (compareOp .Eq) eqT := by
  refine ⟨_, op_eqD hu, fun g H σ s x y d e t Q sd hx hy hh f => ?_⟩
  unfold eqT at hh
  cases q : eqD d e with
  | none => rw [q] at hh; cases hh
  | some b =>
    rw [q] at hh; cases hh
    obtain ⟨p1, p2, e1, e2, s1, s2, rfl⟩ := eqD_some q
    exact ⟨p1, p2, hx.dp sd e1, hy.dp sd e2, s1, s2, f.fz sd (.bl _)⟩
theorem o_ne (hu : X.A.units + 64 < cLine) : OpD X (compareOp .NotEq) neT := by
  refine ⟨_, op_neD hu, fun g H σ s x y d e t Q sd hx hy hh f => ?_⟩
  unfold neT at hh
  cases q : eqD d e with
  | none => rw [q] at hh; cases hh
  | some b =>
    rw [q] at hh; cases hh
    obtain ⟨p1, p2, e1, e2, s1, s2, rfl⟩ := eqD_some q
    exact ⟨p1, p2, hx.dp sd e1, hy.dp sd e2, s1, s2, f.fz sd (.bl _)⟩

/-! ### subscripts -/
theorem ixN_at {α β : Type} {xs : List α} {ds : List β} {i : Int} {d : β} (hl : xs.length = ds.length) (h : atI ds i = some d) : ∃ j, ixN xs.length i = some j ∧ ds[j]? = some d := by
  unfold atI at h
  rw [hl]
  cases e : ixN ds.length i with
  | none => rw [e] at h; cases h
  | some j => rw [e] at h; exact ⟨j, rfl, h⟩
theorem Reps.atI {xs : List V} {ds : List D} {i : Int} {d : D} (r : Reps K g xs ds) (h : L2.atI ds i = some d) : ∃ v, L2.atI xs i = some v ∧ Rep K g v d := by
  obtain ⟨j, e, q⟩ := ixN_at r.length h
  obtain ⟨v, hv, rp⟩ := r.get q
  exact ⟨v, by unfold L2.atI; rw [e]; exact hv, rp⟩
/-- the entry of a dict -/
def valD {κ : Type} [DecidableEq κ] (kvs : List (κ × D)) (k : κ) : Option D := (kvs.find? fun kv => decide (kv.1 = k)).map (·.2)
theorem valD_rep {κ : Type} [DecidableEq κ] : ∀ {kvs : List (κ × V)} {ds : List (κ × D)} {k : κ}, kvs.map Prod.fst = ds.map Prod.fst → Reps K g (kvs.map Prod.snd) (ds.map Prod.snd) →
    (∀ d, valD ds k = some d → ∃ v, valV kvs k = some v ∧ Rep K g v d) ∧ (valD ds k = none → valV kvs k = none)
  | [], [], _, _, _ => ⟨fun _ z => (by cases z), fun _ => rfl⟩
  | [], _ :: _, _, h, _ => by cases h
  | _ :: _, [], _, h, _ => by cases h
  | (a, v) :: kvs, (b, d) :: ds, k, h, r => by
    have e : a = b := (List.cons.inj h).1
    have h' : kvs.map Prod.fst = ds.map Prod.fst := (List.cons.inj h).2
    subst e
    cases r with
    | cons r1 r2 =>
      have ih := valD_rep (k := k) h' r2
      by_cases z : a = k
      · have e1 : valD ((a, d) :: ds) k = some d := by unfold valD; rw [List.find?_cons_of_pos (by simpa using z)]; rfl
        have e2 : valV ((a, v) :: kvs) k = some v := by unfold valV; rw [List.find?_cons_of_pos (by simpa using z)]; rfl
        exact ⟨fun d' q => by rw [e1] at q; cases q; exact ⟨v, e2, r1⟩, fun q => by rw [e1] at q; cases q⟩
      · have e1 : valD ((a, d) :: ds) k = valD ds k := by unfold valD; rw [List.find?_cons_of_neg (by simpa using z)]
        have e2 : valV ((a, v) :: kvs) k = valV kvs k := by unfold valV; rw [List.find?_cons_of_neg (by simpa using z)]
        rw [e1, e2]
        exact ih
/-- a key of a dict -/
def keyD : D → Option Key
  | .int i => some (.inl i)
  | .str x => some (.inr x)
  | _ => none
def keysD : List D → Option (List Key)
  | [] => some []
  | d :: ds => match keyD d, keysD ds with
    | some k, some ks => some (k :: ks)
    | _, _ => none
theorem keyD_rep {v : V} {d : D} {k : Key} (h : VAt K g H v d) (e : keyD d = some k) : v = kV k := by
  unfold keyD at e
  split at e
  · cases e; exact h.int
  · cases e; exact h.str
  · cases e
theorem keysD_rep : ∀ {xs : List V} {ds : List D} {ks : List Key}, Reps K g xs ds → keysD ds = some ks → xs = ks.map kV
  | _, _, _, .nil, e => by unfold keysD at e; cases e; rfl
  | _, _, _, .cons (d := d) (ds := ds) a r, e => by
    unfold keysD at e
    cases e1 : keyD d with
    | none => rw [e1] at e; cases e
    | some k =>
      cases e2 : keysD ds with
      | none => rw [e1, e2] at e; cases e
      | some ks =>
        rw [e1, e2] at e; cases e
        rw [keysD_rep r e2, keyD_rep (H := fun _ => none) (.inl a) e1]
        rfl
/-- a tuple that is a key stands at its address as such: not one of the written ones -/
def lookD : D → D → Option (Option D)
  | .dk kvs, d => (keyD d).map fun k => valD kvs k
  | .dt kvs, .tup (k :: ks) => (keysD (k :: ks)).map fun k => valD kvs k
  | _, _ => none
end
end DL

set_option Elab.async false
set_option linter.all false
set_option maxRecDepth 100000
set_option maxHeartbeats 1000000
/-! DLOps2: subscripts, in, slices, calls of built-ins, displays -/
namespace DL
open PySem PySem.Spec PyProof.Rows L2
section
variable {X : Cx} {Wx : WX} {a b e : Expr} {es : List Expr} {fa fb : M VR} {fl : M (List VR)} {pos : Pos}

/-! ### subscripts -/
theorem lookD_get {K : PySem.W.Frag} {g : Gh} {H : Hp} {σ : Slots} {s : State} {x y : V} {d e : D} {o : Option D} (sd : SD K g H σ s) (hx : VAt K g H x d) (hy : VAt K g H y e) (h : lookD d e = some o) :
    ∃ a r, x = .ref a ∧ DGet H a y r ∧ (∀ z, o = some z → ∃ v, r = some v ∧ Rep K g v z) ∧ (o = none → r = none) ∧ IsD H a := by
  unfold lookD at h
  split at h
  · rename_i kvs
    cases q : keyD e with
    | none => rw [q] at h; cases h
    | some k =>
      rw [q] at h
      cases h
      obtain ⟨a, vs, rfl, ha, hk, r⟩ := hx.dk sd
      have ey := keyD_rep hy q
      obtain ⟨v1, v2⟩ := valD_rep (k := k) hk r
      refine ⟨a, _, rfl, .inl ⟨vs, k, ha.rd, ey, rfl⟩, fun z hz => v1 z hz, v2, .inl ⟨vs, ha.rd⟩⟩
  · rename_i kvs k0 ks
    cases q : keysD (k0 :: ks) with
    | none => rw [q] at h; cases h
    | some k =>
      rw [q] at h
      cases h
      obtain ⟨a, vs, rfl, ha, hk, r⟩ := hx.dt sd
      obtain ⟨b, xs, rfl, hb, rb⟩ := hy.tupH sd
      rw [keysD_rep rb q] at hb
      obtain ⟨v1, v2⟩ := valD_rep (k := k) hk r
      exact ⟨a, _, rfl, .inr ⟨vs, k, b, ha.rd, rfl, hb, rfl⟩, fun z hz => v1 z hz, v2, .inr ⟨vs, ha.rd⟩⟩
  · cases h
/-- a dict's item, as a subscript -/
def rIxDD : R2 := fun x y H Q => ∃ a v, x = .ref a ∧ DGet H a y (some v) ∧ Q v H
theorem ix_dict (hu : X.A.units + 1 < cLine) : IxR X rIxDD := by
  intro value slice pins s σ H x y v u Q I rx ry h hs
  obtain ⟨a, w, rfl, g, q⟩ := h
  obtain rfl : v = Value.ref a := rx
  exact tail_any (dict_typeIs I g) PySem.F.slot_dict_getitem.lookup (d_getItem hu I g ry fun w' s3 I3 rw' => ⟨w, H, I3, rw', q⟩) hs
def ixD : D → D → Option T
  | .lst ds, .int i => (atI ds i).map .fz
  | .tup ds, .int i => (atI ds i).map .fz
  | .str z, .int i => if z.length ≤ sizeLine then (atI z.cps.toList i).map fun c => .fz (.str ⟨#[c]⟩) else none
  | d, e => match lookD d e with
    | some (some v) => some (.fz v)
    | _ => none
def IxD (X : Cx) (h : D → D → Option T) : Prop :=
  ∃ r, IxR X r ∧ ∀ (g : Gh) (H : Hp) (σ : Slots) (s : State) (x y : V) (d e : D) (t : T) (Q : V → Hp → Prop), SD X.K g H σ s → VAt X.K g H x d → VAt X.K g H y e → h d e = some t → Fin X.K g H σ s t Q → r x y H Q
theorem o_ix (hu : X.A.units + 1 < cLine) : IxD X ixD := by
  refine ⟨_, ix_seq.or (ix_dict hu), fun g H σ s x y d e t Q sd hx hy hh f => ?_⟩
  unfold ixD at hh
  split at hh
  · rename_i ds i
    cases q : L2.atI ds i with
    | none => rw [q] at hh; cases hh
    | some z =>
      rw [q] at hh; cases hh
      obtain ⟨a, xs, rfl, ha, ra⟩ := hx.lst sd
      cases hy.int
      obtain ⟨v, hv, rv⟩ := ra.atI q
      exact .inl (.inl ⟨a, xs, i, v, rfl, rfl, .of ha, hv, f.fz sd rv⟩)
  · rename_i ds i
    cases q : L2.atI ds i with
    | none => rw [q] at hh; cases hh
    | some z =>
      rw [q] at hh; cases hh
      obtain ⟨a, xs, rfl, ha, ra⟩ := hx.tup sd
      cases hy.int
      obtain ⟨v, hv, rv⟩ := ra.atI q
      exact .inl (.inr (.inl ⟨a, xs, i, v, rfl, rfl, ha, hv, f.fz sd rv⟩))
  · rename_i z i
    by_cases hz : z.length ≤ sizeLine
    · rw [if_pos hz] at hh
      cases q : L2.atI z.cps.toList i with
      | none => rw [q] at hh; cases hh
      | some c =>
        rw [q] at hh; cases hh
        cases hx.str; cases hy.int
        exact .inl (.inr (.inr ⟨z, i, c, rfl, rfl, hz, q, f.fz sd (.str _)⟩))
    · rw [if_neg hz] at hh; cases hh
  · cases q : lookD d e with
    | none => rw [q] at hh; cases hh
    | some o =>
      cases o with
      | none => rw [q] at hh; cases hh
      | some z =>
        rw [q] at hh; cases hh
        obtain ⟨a, r, rfl, dg, h1, _, _⟩ := lookD_get sd hx hy q
        obtain ⟨v, rfl, rv⟩ := h1 z rfl
        exact .inr ⟨a, v, rfl, dg, f.fz sd rv⟩
theorem de_ix {h : D → D → Option T} (ho : IxD X h) (ha : DV X Wx a fa) (hb : DV X Wx b fb) (hs : PlainIx b) : DE X Wx (.Subscript a b pos) (dOp2 h fa fb) := by
  obtain ⟨r, hr, k⟩ := ho
  exact ⟨fun pins s σ H Q I q => (pe_ix hr ha hb hs).run pins s σ H Q I (op2_run (f := fun a b => getItem a b) k q)⟩

/-! ### in -/
def flatD : D → Bool
  | .non => true | .bl _ => true | .int _ => true | .str _ => true
  | _ => false
def eqF : D → D → Bool
  | .non, .non => true
  | .bl a, .bl b => a == b
  | .int a, .int b => a == b
  | .str a, .str b => a == b
  | .bl a, .int b => decide ((if a then 1 else 0) = b)
  | .int a, .bl b => decide (a = (if b then 1 else 0))
  | _, _ => false
/-- x in a list of flat things -/
def inL (x : D) (ds : List D) : Option Bool := if flatD x && ds.all flatD then some (ds.any fun y => eqF y x) else none
def inD : D → D → Option Bool
  | x, .lst ds => inL x ds
  | x, .tup ds => inL x ds
  | .str x, .str z => some (!(Builtin.Str.occurrences z x 0 z.length 1).isEmpty)
  | k, d => (lookD d k).map Option.isSome
def inT (x d : D) : Option T := (inD x d).map fun b => .fz (.bl b)
def notInT (x d : D) : Option T := (inD x d).map fun b => .fz (.bl (!b))
end
section
variable {K : PySem.W.Frag} {g : Gh} {H : Hp} {σ : Slots} {s : State}
theorem flat_v {v : V} {d : D} (r : VAt K g H v d) (f : flatD d = true) : flatV v = true := by
  cases d with
  | non => cases r.non; rfl
  | bl b => cases r.bl; rfl
  | int b => cases r.int; rfl
  | str b => cases r.str; rfl
  | _ => cases f
theorem eqF_v {v w : V} {d e : D} (r : VAt K g H v d) (q : VAt K g H w e) (f : flatD d = true) (f' : flatD e = true) : eqV v w = eqF d e := by
  cases d with
  | non =>
    cases r.non
    cases e with
    | non => cases q.non; rfl
    | bl b => cases q.bl; rfl
    | int b => cases q.int; rfl
    | str b => cases q.str; rfl
    | _ => cases f'
  | bl b =>
    cases r.bl
    cases e with
    | non => cases q.non; rfl
    | bl b => cases q.bl; rfl
    | int b => cases q.int; rfl
    | str b => cases q.str; rfl
    | _ => cases f'
  | int b =>
    cases r.int
    cases e with
    | non => cases q.non; rfl
    | bl b => cases q.bl; rfl
    | int b => cases q.int; rfl
    | str b => cases q.str; rfl
    | _ => cases f'
  | str b =>
    cases r.str
    cases e with
    | non => cases q.non; rfl
    | bl b => cases q.bl; rfl
    | int b => cases q.int; rfl
    | str b => cases q.str; rfl
    | _ => cases f'
  | _ => cases f
theorem inL_v {x : V} {d : D} {b : Bool} (hx : VAt K g H x d) : ∀ {xs : List V} {ds : List D}, Reps K g xs ds → (flatD d && ds.all flatD) = true → flatV x = true ∧ xs.all flatV = true ∧ inV x xs = ds.any fun y => eqF y d
  | _, _, .nil, f => ⟨flat_v hx (by simpa using f), rfl, rfl⟩
  | _, _, .cons (d := e) (ds := ds) a r, f => by
    rw [List.all_cons, Bool.and_eq_true, Bool.and_eq_true] at f
    obtain ⟨f1, f2, f3⟩ := f
    obtain ⟨h1, h2, h3⟩ := inL_v (b := b) hx r (by rw [Bool.and_eq_true]; exact ⟨f1, f3⟩)
    refine ⟨h1, by rw [List.all_cons, Bool.and_eq_true]; exact ⟨flat_v (H := H) (.inl a) f2, h2⟩, ?_⟩
    unfold inV at h3 ⊢
    rw [List.any_cons, List.any_cons, h3, eqF_v (.inl a) hx f2 f1]
end
section
variable {X : Cx} {Wx : WX} {a b e : Expr} {es : List Expr} {fa fb : M VR} {fl : M (List VR)} {pos : Pos}
def rInDD (neg : Bool) : R2 := fun y x H Q => ∃ a o, x = .ref a ∧ DGet H a y o ∧ Q (.bl (if neg then !o.isSome else o.isSome)) H
theorem op_inDD (hu : X.A.units + 1 < cLine) : OpR X (compareOp .In) (rInDD false) := by
  intro pins s σ H x y v u Q I rx ry h
  obtain ⟨a, o, rfl, g, q⟩ := h
  obtain rfl : u = Value.ref a := ry
  exact d_in hu I g rx fun s3 I3 => ⟨.bl o.isSome, H, I3, rfl, q⟩
theorem op_notInDD (hu : X.A.units + 1 < cLine) : OpR X (compareOp .NotIn) (rInDD true) := by
  intro pins s σ H x y v u Q I rx ry h
  obtain ⟨a, o, rfl, g, q⟩ := h
  obtain rfl : u = Value.ref a := ry
  exact d_notIn hu I g rx fun s3 I3 => ⟨.bl (!o.isSome), H, I3, rfl, q⟩
theorem in_core {neg : Bool} {g : Gh} {H : Hp} {σ : Slots} {s : State} {x y : V} {d e : D} {k : Bool} {Q : V → Hp → Prop} (sd : SD X.K g H σ s) (hx : VAt X.K g H x d) (hy : VAt X.K g H y e) (hh : inD d e = some k)
    (f : Q (.bl (if neg then !k else k)) H) : rIn X.K neg x y H Q ∨ (∃ i j, x = .str i ∧ y = .str j ∧ Q (.bl (if neg then !(!(Builtin.Str.occurrences j i 0 j.length 1).isEmpty) else (!(Builtin.Str.occurrences j i 0 j.length 1).isEmpty))) H) ∨ rInDD neg x y H Q := by
  unfold inD at hh
  split at hh
  · rename_i ds
    unfold inL at hh
    cases q : (flatD d && ds.all flatD) with
    | false => rw [q] at hh; cases hh
    | true =>
      rw [q] at hh; cases hh
      obtain ⟨a, xs, rfl, ha, ra⟩ := hy.lst sd
      obtain ⟨h1, h2, h3⟩ := inL_v (b := true) hx ra q
      exact .inl ⟨a, xs, rfl, .inl (.of ha), h1, h2, by rw [h3]; exact f⟩
  · rename_i ds
    unfold inL at hh
    cases q : (flatD d && ds.all flatD) with
    | false => rw [q] at hh; cases hh
    | true =>
      rw [q] at hh; cases hh
      obtain ⟨a, xs, rfl, ha, ra⟩ := hy.tup sd
      obtain ⟨h1, h2, h3⟩ := inL_v (b := true) hx ra q
      exact .inl ⟨a, xs, rfl, .inr ha, h1, h2, by rw [h3]; exact f⟩
  · cases hh; cases hx.str; cases hy.str
    exact .inr (.inl ⟨_, _, rfl, rfl, f⟩)
  · cases q : lookD e d with
    | none => rw [q] at hh; cases hh
    | some o =>
      rw [q] at hh; cases hh
      obtain ⟨a, r, rfl, dg, h1, h2, _⟩ := lookD_get sd hy hx q
      have er : r.isSome = o.isSome := by
        cases o with
        | none => rw [h2 rfl]; rfl
        | some z => obtain ⟨v, hv, _⟩ := h1 z rfl; rw [hv]; rfl
      exact .inr (.inr ⟨a, r, rfl, dg, by rw [er]; exact f⟩)
theorem o_in (hu : X.A.units + 1 < cLine) : OpD X (compareOp .In) inT := by
  refine ⟨_, op_in_seq.or (op_in_str.or (op_inDD hu)), fun g H σ s x y d e t Q sd hx hy hh f => ?_⟩
  unfold inT at hh
  cases q : inD d e with
  | none => rw [q] at hh; cases hh
  | some k => rw [q] at hh; cases hh; exact in_core (neg := false) sd hx hy q (f.fz sd (.bl _))
theorem o_notIn (hu : X.A.units + 1 < cLine) : OpD X (compareOp .NotIn) notInT := by
  refine ⟨_, op_notIn_seq.or (op_notin_str.or (op_notInDD hu)), fun g H σ s x y d e t Q sd hx hy hh f => ?_⟩
  unfold notInT at hh
  cases q : inD d e with
  | none => rw [q] at hh; cases hh
  | some k => rw [q] at hh; cases hh; exact in_core (neg := true) sd hx hy q (f.fz sd (.bl _))

/-! ### displays -/
def dTup (fl : M (List VR)) : M T := fl >>= fun rs => frzs rs >>= fun ds => opt (if ds.length ≤ sizeLine then some (.fz (.tup ds)) else none)
def dLst (fl : M (List VR)) : M T := fl >>= fun rs => frzs rs >>= fun ds => opt (if ds.length ≤ sizeLine then some (.ow (.lst ds)) else none)
section
variable {α β : Type} {K : PySem.W.Frag} {σ : Slots} {R : Gh → Hp → State → β → α → Prop} {Q : β → Hp → Prop} {g0 g1 : Gh} {H0 H1 Hq : Hp} {s0 s1 : State}
theorem frz_res (r : VR) (s : State) : (∃ d s', frz r s = .ok d s') ∨ frz r s = .bad := by
  cases r with
  | slot i =>
    cases e : s.env[i]? with
    | none => exact .inr (by simp only [frz, e])
    | some w =>
      cases w with
      | none => exact .inr (by simp only [frz, e])
      | some w =>
        cases w with
        | fz d => exact .inl ⟨d, s, by simp only [frz, e]⟩
        | own d => exact .inl ⟨d, _, by simp only [frz, e]; rfl⟩
        | lent d => exact .inr (by simp only [frz, e])
        | lk d => exact .inr (by simp only [frz, e])
        | lkl d => exact .inr (by simp only [frz, e])
  | t t => exact .inl ⟨_, _, rfl⟩
theorem frzs_res : ∀ (rs : List VR) (s : State), (∃ d s', frzs rs s = .ok d s') ∨ frzs rs s = .bad
  | [], s => .inl ⟨[], s, rfl⟩
  | r :: rs, s => by
    unfold frzs
    rw [bind_eq]
    rcases frz_res r s with ⟨d, s1, e⟩ | e
    · rw [e]
      show (∃ d' s', (frzs rs >>= fun ds => pure (d :: ds)) s1 = .ok d' s') ∨ (frzs rs >>= fun ds => pure (d :: ds)) s1 = .bad
      rw [bind_eq]
      rcases frzs_res rs s1 with ⟨ds, s2, e2⟩ | e2
      · rw [e2]; exact .inl ⟨_, _, rfl⟩
      · rw [e2]; exact .inr rfl
    · rw [e]; exact .inr rfl
/-- the operands are frozen: on the same heap -/
theorem Cur.frzs {rs : List VR} {vs : List V} {k : List D → M α} (c : Cur K Wx σ R Q g0 H0 s0 ((frzs rs >>= k) s1) g1 H1 s1) (h : RVRs K σ H0 g1 H1 s1 vs rs) :
    ∃ ds g2 s2, Cur K Wx σ R Q g0 H0 s0 (k ds s2) g2 H1 s2 ∧ Reps K g2 vs ds ∧ Le g1 g2 := by
  rw [bind_eq] at c
  rcases frzs_res rs s1 with ⟨d, s2, e⟩ | e
  · rw [e] at c
    obtain ⟨g2, sd2, ev2, rp, le⟩ := frzs_run e c.ev c.sd h
    exact ⟨d, g2, s2, ⟨ev2, sd2, c.post⟩, rp, le⟩
  · rw [e] at c
    exact (c.notBad rfl).elim
theorem Cur.frz {r : VR} {v : V} {k : D → M α} (c : Cur K Wx σ R Q g0 H0 s0 ((frz r >>= k) s1) g1 H1 s1) (h : RVR K σ H0 g1 H1 s1 v r) :
    ∃ d g2 s2, Cur K Wx σ R Q g0 H0 s0 (k d s2) g2 H1 s2 ∧ Rep K g2 v d ∧ Le g1 g2 := by
  rw [bind_eq] at c
  rcases frz_res r s1 with ⟨d, s2, e⟩ | e
  · rw [e] at c
    obtain ⟨g2, sd2, ev2, rp, _, le⟩ := frz_run e c.ev c.sd h
    exact ⟨d, g2, s2, ⟨ev2, sd2, c.post⟩, rp, le⟩
  · rw [e] at c
    exact (c.notBad rfl).elim
end
theorem de_tup {x1} (h : DA X Wx es fl) : DE X Wx (.Tuple es x1 pos) (dTup fl) := ⟨fun pins s σ H Q I q => (pe_tup h).run pins s σ H Q I (by
  obtain ⟨g, s, c⟩ := q.start
  refine c.bind.mono fun xs H1 ⟨rs, g1, s1, c1, r1, e1⟩ => ?_
  obtain ⟨ds, g2, s2, c2, r2, _⟩ := c1.frzs r1
  by_cases hz : ds.length ≤ sizeLine
  · refine ⟨by rw [r2.length]; exact hz, fun p hp => (c2.fin (by rw [if_pos hz]; rfl)).tup c2.sd hp r2⟩
  · exact (c2.notBad (by rw [if_neg hz]; rfl)).elim)⟩
theorem de_lst (h : DA X Wx es fl) : DE X Wx (.List es pos) (dLst fl) := ⟨fun pins s σ H Q I q => (pe_lst h).run pins s σ H Q I (by
  obtain ⟨g, s, c⟩ := q.start
  refine c.bind.mono fun xs H1 ⟨rs, g1, s1, c1, r1, e1⟩ => ?_
  obtain ⟨ds, g2, s2, c2, r2, _⟩ := c1.frzs r1
  by_cases hz : ds.length ≤ sizeLine
  · refine ⟨by rw [r2.length]; exact hz, fun p hp => (c2.fin (by rw [if_pos hz]; rfl)).ow c2.sd hp (.lst r2)⟩
  · exact (c2.notBad (by rw [if_neg hz]; rfl)).elim)⟩
def dNewK : M T := fun s => .ok (.ow (.dk [])) s
def dNewT : M T := fun s => .ok (.ow (.dt [])) s
theorem de_newK : DE X Wx (.Dict [] [] pos) dNewK := ⟨fun pins s σ H Q I q => pe_dnewK.run pins s σ H Q I (by
  obtain ⟨g, s, c⟩ := q.start
  exact fun p hp => (c.fin rfl).ow c.sd hp (.dk rfl .nil))⟩
theorem de_newT : DE X Wx (.Dict [] [] pos) dNewT := ⟨fun pins s σ H Q I q => pe_dnewT.run pins s σ H Q I (by
  obtain ⟨g, s, c⟩ := q.start
  exact fun p hp => (c.fin rfl).ow c.sd hp (.dt rfl .nil))⟩
end
end DL

set_option Elab.async false
set_option linter.all false
set_option maxRecDepth 100000
set_option maxHeartbeats 1000000
/-! DLCallB: built-ins called, slices -/
namespace DL
open PySem PySem.Spec PyProof.Rows L2
inductive VAts (K : PySem.W.Frag) (g : Gh) (H : Hp) : List V → List D → Prop where
  | nil : VAts K g H [] []
  | cons {v : V} {d : D} {vs : List V} {ds : List D} : VAt K g H v d → VAts K g H vs ds → VAts K g H (v :: vs) (d :: ds)
def readVs : List VR → M (List D)
  | [] => pure []
  | r :: rs => readV r >>= fun d => readVs rs >>= fun ds => pure (d :: ds)
theorem readVs_res : ∀ (rs : List VR) (s : State), (∃ d, readVs rs s = .ok d s) ∨ readVs rs s = .bad
  | [], s => .inl ⟨[], rfl⟩
  | r :: rs, s => by
    unfold readVs
    rw [bind_eq]
    rcases readV_res r s with ⟨d, e⟩ | e
    · rw [e]
      show (∃ d', (readVs rs >>= fun ds => pure (d :: ds)) s = .ok d' s) ∨ (readVs rs >>= fun ds => pure (d :: ds)) s = .bad
      rw [bind_eq]
      rcases readVs_res rs s with ⟨ds, e2⟩ | e2
      · rw [e2]; exact .inl ⟨_, rfl⟩
      · rw [e2]; exact .inr rfl
    · rw [e]; exact .inr rfl
theorem RVRs.reads {K : PySem.W.Frag} {σ : Slots} {g : Gh} {H H0 : Hp} {s s' : State} (sd : SD K g H σ s) : ∀ {vs : List V} {rs : List VR} {ds : List D}, RVRs K σ H0 g H s vs rs → readVs rs s = .ok ds s' → VAts K g H vs ds
  | _, _, _, .nil, e => by cases e; exact .nil
  | _, _, ds, .cons (r := r) (rs := rs) a b _, e => by
    unfold readVs at e
    rw [bind_eq] at e
    rcases readV_res r s with ⟨d, e1⟩ | e1
    · rw [e1] at e
      have e : (readVs rs >>= fun ds => pure (d :: ds)) s = .ok ds s' := e
      rw [bind_eq] at e
      rcases readVs_res rs s with ⟨ds2, e2⟩ | e2
      · rw [e2] at e; cases e; exact .cons (a.read sd e1).2 (RVRs.reads sd b e2)
      · rw [e2] at e; cases e
    · rw [e1] at e; cases e
section
variable {α β : Type} {K : PySem.W.Frag} {Wx : WX} {σ : Slots} {R : Gh → Hp → State → β → α → Prop} {Q : β → Hp → Prop} {g0 g1 : Gh} {H0 H1 Hq : Hp} {s0 s1 : State}
theorem Cur.reads {rs : List VR} {vs : List V} {k : List D → M α} (c : Cur K Wx σ R Q g0 H0 s0 ((readVs rs >>= k) s1) g1 H1 s1) (h : RVRs K σ Hq g1 H1 s1 vs rs) :
    ∃ ds, Cur K Wx σ R Q g0 H0 s0 (k ds s1) g1 H1 s1 ∧ VAts K g1 H1 vs ds := by
  rw [bind_eq] at c
  rcases readVs_res rs s1 with ⟨d, e⟩ | e
  · rw [e] at c
    exact ⟨d, c, h.reads c.sd e⟩
  · rw [e] at c
    exact (c.notBad rfl).elim
end
theorem VAts.one {K : PySem.W.Frag} {g : Gh} {H : Hp} {xs : List V} {d : D} (h : VAts K g H xs [d]) : ∃ x, xs = [x] ∧ VAt K g H x d := by
  cases h with
  | cons a b => cases b; exact ⟨_, rfl, a⟩
theorem VAts.two {K : PySem.W.Frag} {g : Gh} {H : Hp} {xs : List V} {d e : D} (h : VAts K g H xs [d, e]) : ∃ x y, xs = [x, y] ∧ VAt K g H x d ∧ VAt K g H y e := by
  cases h with
  | cons a b =>
    obtain ⟨y, rfl, hy⟩ := b.one
    exact ⟨_, y, rfl, a, hy⟩
theorem VAts.three {K : PySem.W.Frag} {g : Gh} {H : Hp} {xs : List V} {d e f : D} (h : VAts K g H xs [d, e, f]) : ∃ x y z, xs = [x, y, z] ∧ VAt K g H x d ∧ VAt K g H y e ∧ VAt K g H z f := by
  cases h with
  | cons a b =>
    obtain ⟨y, z, rfl, hy, hz⟩ := b.two
    exact ⟨_, y, z, rfl, a, hy, hz⟩
def CallD (X : Cx) (f : Value) (h : List D → Option T) : Prop :=
  ∃ r, CallR X f r ∧ ∀ (g : Gh) (H : Hp) (σ : Slots) (s : State) (xs : List V) (ds : List D) (t : T) (Q : V → Hp → Prop), SD X.K g H σ s → VAts X.K g H xs ds → h ds = some t → Fin X.K g H σ s t Q → r xs H Q
def dCallB (h : List D → Option T) (fl : M (List VR)) : M T := fl >>= fun rs => readVs rs >>= fun ds => opt (h ds)
section
variable {X : Cx} {Wx : WX} {x : Str} {p pos : Pos} {e a : Expr} {es : List Expr} {fl : M (List VR)} {h : List D → Option T} {id T : String} {fa : M VR}
theorem callB_run {f : Value} {r : List V → Hp → VK → Prop} (k : ∀ (g : Gh) (H : Hp) (σ : Slots) (s : State) (xs : List V) (ds : List D) (t : DL.T) (Q : V → Hp → Prop), SD X.K g H σ s → VAts X.K g H xs ds → h ds = some t → Fin X.K g H σ s t Q → r xs H Q)
    {σ : Slots} {H : Hp} {Q : V → Hp → Prop} (q : tE X.K Wx (dCallB h fl) σ H Q) : tCB r (tL X.K Wx fl) σ H Q := by
  obtain ⟨g, s, c⟩ := q.start
  refine c.bind.mono fun xs H1 ⟨rs, g1, s1, c1, r1, e1⟩ => ?_
  obtain ⟨ds, c2, v2⟩ := c1.reads r1
  cases q : h ds with
  | none => exact (c2.notBad (by rw [q]; rfl)).elim
  | some t => exact k g1 H1 σ s1 xs ds t Q c1.sd v2 q (c2.fin (by rw [q]; rfl))
theorem de_callB (hc : CallD X (.builtin id) h) (hg : Gl X x) (hm : X.mg x = none) (hv : bootBuiltins x = some (.builtin id)) (ha : DA X Wx (e :: es) fl) (hn : x ≠ "__name__" := by decide) (hdb : (x == ("__debug__" : Str)) = false := by decide)
    (he : starEach (e :: es) X.env = (false, eval e X.env) :: starEach es X.env := by rfl) (hpl : (backTo pos (starEach es X.env)).any (·.1) = false := by rfl) : DE X Wx (.Call (.Name x p) (e :: es) [] pos) (dCallB h fl) := by
  obtain ⟨r, hr, k⟩ := hc
  exact ⟨fun pins s σ H Q I q => (pe_callB hr hg hm hv ha hn hdb he hpl).run pins s σ H Q I (callB_run (f := .builtin id) k q)⟩
theorem de_callTy (hc : CallD X (.type T) h) (hg : Gl X x) (hm : X.mg x = none) (hv : bootBuiltins x = some (.type T)) (ha : DA X Wx (e :: es) fl) (hn : x ≠ "__name__" := by decide) (hdb : (x == ("__debug__" : Str)) = false := by decide)
    (he : starEach (e :: es) X.env = (false, eval e X.env) :: starEach es X.env := by rfl) (hpl : (backTo pos (starEach es X.env)).any (·.1) = false := by rfl) : DE X Wx (.Call (.Name x p) (e :: es) [] pos) (dCallB h fl) := by
  obtain ⟨r, hr, k⟩ := hc
  exact ⟨fun pins s σ H Q I q => (pe_callTy hr hg hm hv ha hn hdb he hpl).run pins s σ H Q I (callB_run (f := .type T) k q)⟩

/-! ### len, abs, min, max, int, list, tuple, sum, all, any -/
def lenD : List D → Option DL.T
  | [.lst ds] => some (.fz (.int ds.length))
  | [.tup ds] => some (.fz (.int ds.length))
  | [.frl ns] => some (.fz (.int ns.length))
  | [.dk ds] => some (.fz (.int ds.length))
  | [.dt ds] => some (.fz (.int ds.length))
  | [.str z] => if z.length ≤ sizeLine then some (.fz (.int z.length)) else none
  | _ => none
theorem CallR.or {f : Value} {r r' : List V → Hp → VK → Prop} (h : CallR X f r) (h' : CallR X f r') : CallR X f (fun xs H Q => r xs H Q ∨ r' xs H Q) := by
  intro pins s σ H xs us Q I rv q
  rcases q with q | q
  · exact h pins s σ H xs us Q I rv q
  · exact h' pins s σ H xs us Q I rv q
theorem call_lenDK : CallR X (.builtin "len") (fun xs H Q => ∃ a kvs, xs = [V.ref a] ∧ Rd H a (.dK kvs) ∧ Q (.int kvs.length) H) := by
  intro pins s σ H xs us Q I r h
  obtain ⟨a, kvs, rfl, ha, q⟩ := h
  obtain ⟨u, rfl, ru⟩ := vals1 r
  cases ru
  exact d_len I ha fun t s' I' => ⟨.int kvs.length, H, I', ⟨t, rfl⟩, q⟩
theorem call_lenDT : CallR X (.builtin "len") (fun xs H Q => ∃ p kvs, xs = [V.ref p] ∧ Rd H p (.dT kvs) ∧ Q (.int ((kvs.length : Nat) : Int)) H) := by
  rintro pins s σ H xs us Q I r ⟨p, kvs, rfl, hp, q⟩
  obtain ⟨u, rfl, rx⟩ := vals1 r
  cases rx
  obtain ⟨z, hd, ys, rel, dd⟩ := dt_rd I.hok hp
  have e : kvs.length = ys.length := rel.length
  have z2 : (ys.length : Int) < 2 ^ 63 := by rw [sizeLine_eq] at z; omega
  exact call_len_dictH hd dd z2 (by rw [← e]; exact ⟨.int _, H, I.tok _, ⟨_, rfl⟩, q⟩)
theorem c_len : CallD X (.builtin "len") lenD := by
  refine ⟨_, CallR.or call_len (CallR.or call_lenDK call_lenDT), fun g H σ s xs ds t Q sd hxs hh f => ?_⟩
  unfold lenD at hh
  split at hh
  · cases hh
    obtain ⟨x, rfl, hx⟩ := hxs.one
    obtain ⟨a, vs, rfl, ha, ra⟩ := hx.lst sd
    exact .inl ⟨_, _, rfl, .inl ⟨vs, .of ha, rfl⟩, by rw [ra.length]; exact f.fz sd (.int _)⟩
  · cases hh
    obtain ⟨x, rfl, hx⟩ := hxs.one
    obtain ⟨a, vs, rfl, ha, ra⟩ := hx.tup sd
    exact .inl ⟨_, _, rfl, .inr ⟨vs, ha, rfl⟩, by rw [ra.length]; exact f.fz sd (.int _)⟩
  · cases hh
    obtain ⟨x, rfl, hx⟩ := hxs.one
    cases hx.sc (fun _ z => z) with
    | frl q => exact .inl ⟨_, _, rfl, .inl ⟨_, sd.seq q, rfl⟩, by rw [List.length_map]; exact f.fz sd (.int _)⟩
  · cases hh
    obtain ⟨x, rfl, hx⟩ := hxs.one
    obtain ⟨a, vs, rfl, ha, hk, ra⟩ := hx.dk sd
    have e := congrArg List.length hk
    rw [List.length_map, List.length_map] at e
    exact .inr (.inl ⟨a, vs, rfl, ha.rd, by rw [e]; exact f.fz sd (.int _)⟩)
  · cases hh
    obtain ⟨x, rfl, hx⟩ := hxs.one
    obtain ⟨a, vs, rfl, ha, hk, ra⟩ := hx.dt sd
    have e := congrArg List.length hk
    rw [List.length_map, List.length_map] at e
    exact .inr (.inr ⟨a, vs, rfl, ha.rd, by rw [e]; exact f.fz sd (.int _)⟩)
  · rename_i z
    by_cases hz : z.length ≤ sizeLine
    · rw [if_pos hz] at hh; cases hh
      obtain ⟨x, rfl, hx⟩ := hxs.one
      cases hx.str
      exact .inl ⟨_, _, rfl, ⟨hz, rfl⟩, f.fz sd (.int _)⟩
    · rw [if_neg hz] at hh; cases hh
  · cases hh
def absD : List D → Option DL.T
  | [.int i] => some (.fz (.int (if i < 0 then -i else i)))
  | _ => none
theorem c_abs : CallD X (.builtin "abs") absD := by
  refine ⟨_, call_abs, fun g H σ s xs ds t Q sd hxs hh f => ?_⟩
  unfold absD at hh
  split at hh
  · cases hh
    obtain ⟨x, rfl, hx⟩ := hxs.one
    cases hx.int
    exact ⟨_, rfl, f.fz sd (.int _)⟩
  · cases hh
theorem call_max3 (hc : X.calm = true) : CallR X (.builtin "max") (fun xs H Q => ∃ i j k, xs = [.int i, .int j, .int k] ∧ Q (.int (max i (max j k))) H) := by
  intro pins s σ H xs us Q I r h
  obtain ⟨i, j, k, rfl, q⟩ := h
  cases r with
  | cons r1 r2 =>
    obtain ⟨u, w', rfl, ⟨t, rfl⟩, ⟨t', rfl⟩⟩ := vals2 r2
    obtain ⟨t0, rfl⟩ := r1
    refine max_three_ints (I.ok.hd hc) fun h' tk hk => ⟨_, H, I.kept hk, ?_, q⟩
    by_cases hba : j > i <;> by_cases hc1 : k > j <;> by_cases hc2 : k > i <;> simp only [hba, hc1, hc2, if_true, if_false] <;> refine ⟨_, congrArg (fun z => Value.int z _) ?_⟩ <;> omega
theorem call_min3 (hc : X.calm = true) : CallR X (.builtin "min") (fun xs H Q => ∃ i j k, xs = [.int i, .int j, .int k] ∧ Q (.int (min i (min j k))) H) := by
  intro pins s σ H xs us Q I r h
  obtain ⟨i, j, k, rfl, q⟩ := h
  cases r with
  | cons r1 r2 =>
    obtain ⟨u, w', rfl, ⟨t, rfl⟩, ⟨t', rfl⟩⟩ := vals2 r2
    obtain ⟨t0, rfl⟩ := r1
    refine min_three_ints (I.ok.hd hc) fun h' tk hk => ⟨_, H, I.kept hk, ?_, q⟩
    by_cases hba : j < i <;> by_cases hc1 : k < j <;> by_cases hc2 : k < i <;> simp only [hba, hc1, hc2, if_true, if_false] <;> refine ⟨_, congrArg (fun z => Value.int z _) ?_⟩ <;> omega
/-- the ints of a list -/
def intsD : List D → Option (List Int)
  | [] => some []
  | .int i :: ds => (intsD ds).map (i :: ·)
  | _ => none
theorem intsD_map (ns : List Int) : intsD (ns.map D.int) = some ns := by
  induction ns with
  | nil => rfl
  | cons n ns ih => show (intsD (ns.map D.int)).map (n :: ·) = _; rw [ih]; rfl
theorem intsD_rep {K : PySem.W.Frag} {g : Gh} : ∀ {xs : List V} {ds : List D} {ns : List Int}, Reps K g xs ds → intsD ds = some ns → xs = ns.map V.int
  | _, _, _, .nil, e => by cases e; rfl
  | _, _, ns, .cons (d := d) (ds := ds) a r, e => by
    cases d with
    | int i =>
      have e : (intsD ds).map (i :: ·) = some ns := e
      cases q : intsD ds with
      | none => rw [q] at e; cases e
      | some ms =>
        rw [q] at e; cases e
        rw [intsD_rep r q]
        cases a
        rfl
    | _ => cases e
/-- the least, the greatest of ints -/
def minL : List Int → Int
  | [] => 0
  | [i] => i
  | i :: is => min i (minL is)
def maxL : List Int → Int
  | [] => 0
  | [i] => i
  | i :: is => max i (maxL is)
theorem minL_le : ∀ {l : List Int} {i : Int}, i ∈ l → minL l ≤ i
  | [a], i, h => by rw [List.mem_singleton.mp h]; exact Int.le_refl _
  | a :: b :: l, i, h => by
    have ih := minL_le (l := b :: l) (i := i)
    show min a (minL (b :: l)) ≤ i
    rcases List.mem_cons.mp h with rfl | h
    · exact Int.min_le_left _ _
    · exact Int.le_trans (Int.min_le_right _ _) (ih h)
theorem minL_mem : ∀ {l : List Int}, l ≠ [] → minL l ∈ l
  | [a], _ => by simp [minL]
  | a :: b :: l, _ => by
    have ih := minL_mem (l := b :: l) (by simp)
    show min a (minL (b :: l)) ∈ a :: b :: l
    by_cases z : a ≤ minL (b :: l)
    · rw [Int.min_eq_left z]; exact List.mem_cons_self
    · rw [Int.min_eq_right (by omega)]; exact List.mem_cons_of_mem _ ih
theorem le_maxL : ∀ {l : List Int} {i : Int}, i ∈ l → i ≤ maxL l
  | [a], i, h => by rw [List.mem_singleton.mp h]; exact Int.le_refl _
  | a :: b :: l, i, h => by
    have ih := le_maxL (l := b :: l) (i := i)
    show i ≤ max a (maxL (b :: l))
    rcases List.mem_cons.mp h with rfl | h
    · exact Int.le_max_left _ _
    · exact Int.le_trans (ih h) (Int.le_max_right _ _)
theorem maxL_mem : ∀ {l : List Int}, l ≠ [] → maxL l ∈ l
  | [a], _ => by simp [maxL]
  | a :: b :: l, _ => by
    have ih := maxL_mem (l := b :: l) (by simp)
    show max a (maxL (b :: l)) ∈ a :: b :: l
    by_cases z : maxL (b :: l) ≤ a
    · rw [Int.max_eq_left z]; exact List.mem_cons_self
    · rw [Int.max_eq_right (by omega)]; exact List.mem_cons_of_mem _ ih
def maxD : List D → Option DL.T
  | [.int i, .int j] => some (.fz (.int (max i j)))
  | [.int i, .int j, .int k] => some (.fz (.int (max i (max j k))))
  | [.lst ds] => match intsD ds with
    | some (n :: ns) => some (.fz (.int (maxL (n :: ns))))
    | _ => none
  | _ => none
def minD : List D → Option DL.T
  | [.int i, .int j] => some (.fz (.int (min i j)))
  | [.int i, .int j, .int k] => some (.fz (.int (min i (min j k))))
  | [.lst ds] => match intsD ds with
    | some (n :: ns) => some (.fz (.int (minL (n :: ns))))
    | _ => none
  | _ => none
theorem c_max (hc : X.calm = true) : CallD X (.builtin "max") maxD := by
  refine ⟨_, CallR.or (call_max2 hc) (CallR.or (call_max3 hc) (cr_max hc)), fun g H σ s xs ds t Q sd hxs hh f => ?_⟩
  unfold maxD at hh
  split at hh
  · rename_i i j
    cases hh
    obtain ⟨x, y, rfl, hx, hy⟩ := hxs.two
    cases hx.int; cases hy.int
    refine .inl ⟨_, _, rfl, ?_⟩
    rw [show (if j > i then j else i) = max i j by split <;> omega]
    exact f.fz sd (.int _)
  · cases hh
    obtain ⟨x, y, z, rfl, hx, hy, hz⟩ := hxs.three
    cases hx.int; cases hy.int; cases hz.int
    exact .inr (.inl ⟨_, _, _, rfl, f.fz sd (.int _)⟩)
  · rename_i ds
    split at hh
    · rename_i n ns e
      cases hh
      obtain ⟨x, rfl, hx⟩ := hxs.one
      obtain ⟨a, vs, rfl, ha, ra⟩ := hx.lst sd
      rw [intsD_rep ra e] at ha
      refine .inr (.inr ⟨a, n :: ns, rfl, .of ha, by simp, fun m h1 h2 => ?_⟩)
      have e2 : m = maxL (n :: ns) := Int.le_antisymm (le_maxL h1) (h2 _ (maxL_mem (by simp)))
      rw [e2]
      exact f.fz sd (.int _)
    · cases hh
  · cases hh
theorem c_min (hc : X.calm = true) : CallD X (.builtin "min") minD := by
  refine ⟨_, CallR.or (call_min2 hc) (CallR.or (call_min3 hc) (cr_min hc)), fun g H σ s xs ds t Q sd hxs hh f => ?_⟩
  unfold minD at hh
  split at hh
  · rename_i i j
    cases hh
    obtain ⟨x, y, rfl, hx, hy⟩ := hxs.two
    cases hx.int; cases hy.int
    refine .inl ⟨_, _, rfl, ?_⟩
    rw [show (if j < i then j else i) = min i j by split <;> omega]
    exact f.fz sd (.int _)
  · cases hh
    obtain ⟨x, y, z, rfl, hx, hy, hz⟩ := hxs.three
    cases hx.int; cases hy.int; cases hz.int
    exact .inr (.inl ⟨_, _, _, rfl, f.fz sd (.int _)⟩)
  · rename_i ds
    split at hh
    · rename_i n ns e
      cases hh
      obtain ⟨x, rfl, hx⟩ := hxs.one
      obtain ⟨a, vs, rfl, ha, ra⟩ := hx.lst sd
      rw [intsD_rep ra e] at ha
      refine .inr (.inr ⟨a, n :: ns, rfl, .of ha, by simp, fun m h1 h2 => ?_⟩)
      have e2 : m = minL (n :: ns) := Int.le_antisymm (h2 _ (minL_mem (by simp))) (minL_le h1)
      rw [e2]
      exact f.fz sd (.int _)
    · cases hh
  · cases hh
def intD : List D → Option DL.T
  | [.int i] => some (.fz (.int i))
  | [.bl b] => some (.fz (.int (if b then 1 else 0)))
  | _ => none
theorem c_int : CallD X (.type "int") intD := by
  refine ⟨_, call_int1, fun g H σ s xs ds t Q sd hxs hh f => ?_⟩
  unfold intD at hh
  split at hh
  · cases hh
    obtain ⟨x, rfl, hx⟩ := hxs.one
    cases hx.int
    exact .inl ⟨_, rfl, f.fz sd (.int _)⟩
  · cases hh
    obtain ⟨x, rfl, hx⟩ := hxs.one
    cases hx.bl
    exact .inr ⟨_, rfl, f.fz sd (.int _)⟩
  · cases hh
/-- list(x) -/
def listD : List D → Option DL.T
  | [.lst ds] => some (.ow (.lst ds))
  | [.tup ds] => some (.ow (.lst ds))
  | [.frl ns] => some (.ow (.lst (ns.map D.int)))
  | _ => none
theorem c_list : CallD X (.type "list") listD := by
  refine ⟨_, call_list_of, fun g H σ s xs ds t Q sd hxs hh f => ?_⟩
  unfold listD at hh
  split at hh
  · cases hh
    obtain ⟨x, rfl, hx⟩ := hxs.one
    obtain ⟨a, vs, rfl, ha, ra⟩ := hx.lst sd
    exact ⟨a, vs, rfl, .inl (.of ha), fun l hl => f.ow sd hl (.lst ra)⟩
  · cases hh
    obtain ⟨x, rfl, hx⟩ := hxs.one
    obtain ⟨a, vs, rfl, ha, ra⟩ := hx.tup sd
    exact ⟨a, vs, rfl, .inr ha, fun l hl => f.ow sd hl (.lst ra)⟩
  · cases hh
    obtain ⟨x, rfl, hx⟩ := hxs.one
    cases hx.sc (fun _ z => z) with
    | frl q => exact ⟨_, _, rfl, .inl (sd.seq q), fun l hl => f.ow sd hl (.lst (Reps.ints _))⟩
  · cases hh
/-- tuple(x) -/
def tupleD : List D → Option DL.T
  | [.lst ds] => some (.fz (.tup ds))
  | [.tup ds] => some (.fz (.tup ds))
  | _ => none
theorem c_tuple : CallD X (.type "tuple") tupleD := by
  refine ⟨_, call_tuple_of, fun g H σ s xs ds t Q sd hxs hh f => ?_⟩
  unfold tupleD at hh
  split at hh
  · cases hh
    obtain ⟨x, rfl, hx⟩ := hxs.one
    obtain ⟨a, vs, rfl, ha, ra⟩ := hx.lst sd
    exact ⟨a, vs, rfl, .inl ⟨.of ha, fun l hl => f.tup sd hl ra⟩⟩
  · cases hh
    obtain ⟨x, rfl, hx⟩ := hxs.one
    have hr := hx.sc (fun _ z => z)
    obtain ⟨a, vs, rfl, ha, ra⟩ := hx.tup sd
    exact ⟨a, vs, rfl, .inr ⟨ha, f.fz sd hr⟩⟩
  · cases hh
def sumD : List D → Option DL.T
  | [.lst ds] => (intsD ds).map fun ns => .fz (.int ns.sum)
  | _ => none
theorem c_sum (hc : X.calm = true) : CallD X (.builtin "sum") sumD := by
  refine ⟨_, cr_sum hc, fun g H σ s xs ds t Q sd hxs hh f => ?_⟩
  unfold sumD at hh
  split at hh
  · rename_i ds
    cases e : intsD ds with
    | none => rw [e] at hh; cases hh
    | some ns =>
      rw [e] at hh; cases hh
      obtain ⟨x, rfl, hx⟩ := hxs.one
      obtain ⟨a, vs, rfl, ha, ra⟩ := hx.lst sd
      rw [intsD_rep ra e] at ha
      exact ⟨a, ns, rfl, .of ha, f.fz sd (.int _)⟩
  · cases hh
def boolsD : List D → Option (List Bool)
  | [] => some []
  | .bl i :: ds => (boolsD ds).map (i :: ·)
  | _ => none
theorem boolsD_map (ns : List Bool) : boolsD (ns.map D.bl) = some ns := by
  induction ns with
  | nil => rfl
  | cons n ns ih => show (boolsD (ns.map D.bl)).map (n :: ·) = _; rw [ih]; rfl
theorem boolsD_rep {K : PySem.W.Frag} {g : Gh} : ∀ {xs : List V} {ds : List D} {ns : List Bool}, Reps K g xs ds → boolsD ds = some ns → xs = ns.map V.bl
  | _, _, _, .nil, e => by cases e; rfl
  | _, _, ns, .cons (d := d) (ds := ds) a r, e => by
    cases d with
    | bl i =>
      have e : (boolsD ds).map (i :: ·) = some ns := e
      cases q : boolsD ds with
      | none => rw [q] at e; cases e
      | some ms =>
        rw [q] at e; cases e
        rw [boolsD_rep r q]
        cases a
        rfl
    | _ => cases e
def allD : List D → Option DL.T
  | [.lst ds] => (boolsD ds).map fun ns => .fz (.bl (ns.all fun b => b))
  | _ => none
def anyD : List D → Option DL.T
  | [.lst ds] => (boolsD ds).map fun ns => .fz (.bl (ns.any fun b => b))
  | _ => none
theorem c_all (hc : X.calm = true) : CallD X (.builtin "all") allD := by
  refine ⟨_, cr_all hc, fun g H σ s xs ds t Q sd hxs hh f => ?_⟩
  unfold allD at hh
  split at hh
  · rename_i ds
    cases e : boolsD ds with
    | none => rw [e] at hh; cases hh
    | some ns =>
      rw [e] at hh; cases hh
      obtain ⟨x, rfl, hx⟩ := hxs.one
      obtain ⟨a, vs, rfl, ha, ra⟩ := hx.lst sd
      rw [boolsD_rep ra e] at ha
      exact ⟨a, ns, rfl, .of ha, f.fz sd (.bl _)⟩
  · cases hh
theorem c_any (hc : X.calm = true) : CallD X (.builtin "any") anyD := by
  refine ⟨_, cr_any hc, fun g H σ s xs ds t Q sd hxs hh f => ?_⟩
  unfold anyD at hh
  split at hh
  · rename_i ds
    cases e : boolsD ds with
    | none => rw [e] at hh; cases hh
    | some ns =>
      rw [e] at hh; cases hh
      obtain ⟨x, rfl, hx⟩ := hxs.one
      obtain ⟨a, vs, rfl, ha, ra⟩ := hx.lst sd
      rw [boolsD_rep ra e] at ha
      exact ⟨a, ns, rfl, .of ha, f.fz sd (.bl _)⟩
  · cases hh
end
end DL

set_option Elab.async false
set_option linter.all false
set_option maxRecDepth 100000
set_option maxHeartbeats 1000000
/-! DLMore: slices, isinstance, d.get -/
namespace DL
open PySem PySem.Spec PyProof.Rows L2
/-! ### isinstance -/
inductive Ty where
  | non | bool | int | str | tuple | list | dict
  deriving DecidableEq
def Ty.name : Ty → String
  | .non => "NoneType" | .bool => "bool" | .int => "int" | .str => "str" | .tuple => "tuple" | .list => "list" | .dict => "dict"
def Ty.sub : Ty → Ty → Bool
  | .bool, .int => true
  | a, b => decide (a = b)
theorem Ty.kit (a b : Ty) : kitB a.name b.name = some (a.sub b) := by cases a <;> cases b <;> decide +kernel
def tyD : D → Option Ty
  | .non => some .non | .bl _ => some .bool | .int _ => some .int | .str _ => some .str | .tup _ => some .tuple | .lst _ => some .list | .frl _ => some .list | .dk _ => some .dict
  | _ => none
section
variable {K : PySem.W.Frag} {g : Gh} {H : Hp} {σ : Slots} {s : State}
theorem VAt.ty (sd : SD K g H σ s) {v : V} {d : D} {t : Ty} (h : VAt K g H v d) (e : tyD d = some t) : TyX K H v (.type t.name) := by
  cases d with
  | non => cases e; cases h.non; exact .base .non
  | bl b => cases e; cases h.bl; exact .base (.bl b)
  | int i => cases e; cases h.int; exact .base (.int i)
  | str z => cases e; cases h.str; exact .base (.str z)
  | tup ds =>
    cases e
    obtain ⟨a, xs, rfl, (q | ⟨o, q⟩) | ⟨o, its, n, hk, hc, _⟩, _⟩ := h.tup sd
    · exact .base (.tup q)
    · exact .fTuple q
    · exact .kTuple hk hc
  | lst ds =>
    cases e
    obtain ⟨a, xs, rfl, q, _⟩ := h.lst sd
    exact .base (.lst q)
  | frl ns =>
    cases e
    cases h.sc (fun _ z => z) with
    | frl q =>
      rcases sd.seq q with (q | ⟨o, q⟩) | ⟨o, its, n, hk, hc, _⟩
      · exact .base (.lst q)
      · exact .base (.frz q)
      · exact .kList hk hc
  | dk ds =>
    cases e
    obtain ⟨a, xs, rfl, q | ⟨_, o, q⟩, _⟩ := h.dk sd
    · exact .base (.dK q)
    · exact .fDict q
  | _ => cases e
end
def isiD (ts : List Ty) (d : D) : Option T := (tyD d).map fun t => .fz (.bl (ts.any fun u => t.sub u))
def dIsi (ts : List Ty) (fa : M VR) : M T := fa >>= fun x => readV x >>= fun d => opt (isiD ts d)
section
variable {X : Cx} {Wx : WX} {e : Expr} {fa : M VR} {p p1 p2 p3 p4 pos : Pos} {x1 : Str}
theorem kitAny_ty {K : PySem.W.Frag} (t : Ty) : ∀ ts : List Ty, PySem.W.kitAny K (.type t.name) (ts.map fun u => Value.type u.name) = some (ts.any fun u => t.sub u)
  | [] => rfl
  | u :: us => kitAny_cons (kit_ty (Ty.kit t u)) (fun h => by rw [kitAny_ty t us, List.any_cons, h, Bool.false_or]) (fun h => by rw [List.any_cons, h, Bool.true_or])
/-- isinstance(e, T) -/
theorem de_isi (u : Ty) (hu : x1 = Str.ofString u.name) (ha : DV X Wx e fa) (hg : Gl X "isinstance") (hm : X.mg "isinstance" = none) (hg1 : Gl X x1) (hm1 : X.mg x1 = none) (hv1 : bootBuiltins x1 = some (.type u.name)) (hn1 : x1 ≠ "__name__" := by decide) (hd1 : (x1 == ("__debug__" : Str)) = false := by decide)
    (hs1 : starEach [e, .Name x1 p1] X.env = (false, eval e X.env) :: starEach [.Name x1 p1] X.env := by rfl) (hs2 : starEach [.Name x1 p1] X.env = (false, eval (.Name x1 p1) X.env) :: starEach [] X.env := by rfl)
    (hpl : (backTo pos (starEach [.Name x1 p1] X.env)).any (·.1) = false := by rfl) :
    DE X Wx (.Call (.Name "isinstance" p) [e, .Name x1 p1] [] pos) (dIsi [u] fa) := by
  refine ⟨fun pins s σ H Q I q => (pe_callB call_isi hg hm (by decide +kernel) (pa_cons ha (pa_cons (pe_bltn (v := .ty u.name) hg1 hm1 hv1 rfl hn1 hd1) pa_nil hs2) hs1) (by decide) (by decide) hs1 hpl).run pins s σ H Q I ?_⟩
  obtain ⟨g, s, c⟩ := q.start
  show tV X.K Wx fa σ H _
  refine c.bind.mono fun x H1 ⟨x', g1, s1, c1, r1, e1⟩ => ?_
  obtain ⟨d, c3, v1⟩ := c1.read r1
  show ∃ (x_1 c : V) (t u_1 : Value) (b : Bool), _
  cases q : tyD d with
  | none => exact (c3.notBad (by show opt (isiD [u] d) s1 = _; unfold isiD; rw [q]; rfl)).elim
  | some t =>
    refine ⟨x, .ty u.name, .type t.name, .type u.name, t.sub u, rfl, .ty _, v1.ty c1.sd q, kit_ty (Ty.kit t u), ?_⟩
    have z : opt (isiD [u] d) s1 = .ok (.fz (.bl (t.sub u))) s1 := by
      unfold isiD
      rw [q]
      show Rs.ok (T.fz (.bl ([u].any fun u => t.sub u))) s1 = _
      simp
    exact (c3.fin z).fz c1.sd (.bl _)
/-- isinstance(e, (T, U)) -/
theorem de_isi2 (u1 u2 : Ty) {y1 y2 : Str} {kx} (hu1 : y1 = Str.ofString u1.name) (hu2 : y2 = Str.ofString u2.name) (ha : DV X Wx e fa) (hg : Gl X "isinstance") (hm : X.mg "isinstance" = none) (hg1 : Gl X y1) (hm1 : X.mg y1 = none) (hv1 : bootBuiltins y1 = some (.type u1.name)) (hg2 : Gl X y2) (hm2 : X.mg y2 = none) (hv2 : bootBuiltins y2 = some (.type u2.name))
    (hn1 : y1 ≠ "__name__" := by decide) (hd1 : (y1 == ("__debug__" : Str)) = false := by decide) (hn2 : y2 ≠ "__name__" := by decide) (hd2 : (y2 == ("__debug__" : Str)) = false := by decide)
    (hs1 : starEach [e, .Tuple [.Name y1 p1, .Name y2 p2] kx p3] X.env = (false, eval e X.env) :: starEach [.Tuple [.Name y1 p1, .Name y2 p2] kx p3] X.env := by rfl) (hs2 : starEach [.Tuple [.Name y1 p1, .Name y2 p2] kx p3] X.env = (false, eval (.Tuple [.Name y1 p1, .Name y2 p2] kx p3) X.env) :: starEach [] X.env := by rfl)
    (hs3 : starEach [.Name y1 p1, .Name y2 p2] X.env = (false, eval (.Name y1 p1) X.env) :: starEach [.Name y2 p2] X.env := by rfl) (hs4 : starEach [.Name y2 p2] X.env = (false, eval (.Name y2 p2) X.env) :: starEach [] X.env := by rfl)
    (hpl : (backTo pos (starEach [.Tuple [.Name y1 p1, .Name y2 p2] kx p3] X.env)).any (·.1) = false := by rfl) :
    DE X Wx (.Call (.Name "isinstance" p) [e, .Tuple [.Name y1 p1, .Name y2 p2] kx p3] [] pos) (dIsi [u1, u2] fa) := by
  refine ⟨fun pins s σ H Q I q => (pe_callB call_isiT hg hm (by decide +kernel) (pa_cons ha (pa_cons (pe_tup (pa_cons (pe_bltn (v := .ty u1.name) hg1 hm1 hv1 rfl hn1 hd1) (pa_cons (pe_bltn (v := .ty u2.name) hg2 hm2 hv2 rfl hn2 hd2) pa_nil hs4) hs3)) pa_nil hs2) hs1) (by decide) (by decide) hs1 hpl).run pins s σ H Q I ?_⟩
  obtain ⟨g, s, c⟩ := q.start
  show tV X.K Wx fa σ H _
  refine c.bind.mono fun x H1 ⟨x', g1, s1, c1, r1, e1⟩ => ?_
  refine ⟨by rw [sizeLine_eq]; show 2 ≤ 16777216; decide, fun tp hp => ?_⟩
  have sd2 := c1.sd.alloc (o := .tup [.ty u1.name, .ty u2.name]) hp
  have ev2 := c1.sd.allocEv (o := .tup [.ty u1.name, .ty u2.name]) hp
  have c2 : Cur X.K Wx σ _ Q g H s _ g1 (upd H1 tp (.tup [.ty u1.name, .ty u2.name])) s1 := ⟨c1.ev.trans ev2, sd2, c1.post⟩
  obtain ⟨d, c3, v1⟩ := c2.read (r1.ev ev2)
  cases q : tyD d with
  | none => exact (c3.notBad (by show opt (isiD [u1, u2] d) s1 = _; unfold isiD; rw [q]; rfl)).elim
  | some t =>
    refine ⟨x, tp, [.ty u1.name, .ty u2.name], .type t.name, [.type u1.name, .type u2.name], [u1, u2].any fun u => t.sub u, rfl, upd_same, .cons (.ty _) (.cons (.ty _) .nil), v1.ty sd2 q, kitAny_ty t [u1, u2], ?_⟩
    have z : opt (isiD [u1, u2] d) s1 = .ok (.fz (.bl ([u1, u2].any fun u => t.sub u))) s1 := by
      unfold isiD
      rw [q]
      rfl
    exact (c3.fin z).fz sd2 (.bl _)

/-! ### slices -/
def cutD (xs : List D) (lo hi : Option Int) : List D := (xs.drop (HT.sIx xs.length 0 lo)).take (HT.sIx xs.length xs.length hi - HT.sIx xs.length 0 lo)
def sliceD (lo hi : Option Int) : D → Option T
  | .lst ds => some (.ow (.lst (cutD ds lo hi)))
  | .tup ds => some (.fz (.tup (cutD ds lo hi)))
  | .str z => if z.length ≤ sizeLine then some (.fz (.str (cutS z lo hi))) else none
  | _ => none
def RO : Rel (Option Int) (Option Int) := fun _ _ _ _ _ b c => b = c
def DO (X : Cx) (Wx : WX) (e : Option Expr) (f : M (Option Int)) : Prop := PO X e (tM X.K Wx RO f)
def dNoPart : M (Option Int) := fun s => .ok none s
def dPart (f : M T) : M (Option Int) := f >>= fun t s => match t with
  | .fz (.int i) => .ok (some i) s
  | _ => .bad
theorem do_none : DO X Wx none dNoPart := ⟨fun pins s σ H Q I q => po_none.run pins s σ H Q I (by
  obtain ⟨g, s, c⟩ := q.start
  exact c.done rfl rfl)⟩
theorem do_some {f : M T} (h : DE X Wx e f) : DO X Wx (some e) (dPart f) := ⟨fun pins s σ H Q I q => (po_some h).run pins s σ H Q I (by
  obtain ⟨g, s, c⟩ := q.start
  refine c.bind.mono fun x H1 ⟨t, g1, s1, c1, r1, e1⟩ => ?_
  cases t with
  | ow d => exact (c1.notBad rfl).elim
  | fz d =>
    cases d with
    | int i =>
      have r := RT.at_ r1
      cases r
      exact ⟨i, rfl, c1.done rfl rfl⟩
    | _ => exact (c1.notBad rfl).elim)⟩
def dSlice (fa : M VR) (fl fh : M (Option Int)) : M T := fa >>= fun x => fl >>= fun l => fh >>= fun u => readV x >>= fun d => opt (sliceD l u d)
theorem Reps.cut {K : PySem.W.Frag} {g : Gh} {xs : List V} {ds : List D} (r : Reps K g xs ds) (lo hi : Option Int) : Reps K g (cutV xs lo hi) (cutD ds lo hi) := by
  unfold cutV cutD
  rw [r.length]
  exact (r.drop _).take _
theorem de_slice {lo hi : Option Expr} {fl fh : M (Option Int)} (ha : DV X Wx e fa) (hl : DO X Wx lo fl) (hh : DO X Wx hi fh) : DE X Wx (.Subscript e (.Slice lo hi none p2) pos) (dSlice fa fl fh) := by
  refine ⟨fun pins s σ H Q I q => (pe_slice (sl_list.or (sl_tupA.or sl_str)) ha hl hh).run pins s σ H Q I ?_⟩
  obtain ⟨g, s, c⟩ := q.start
  refine c.bind.mono fun x H1 ⟨x', g1, s1, c1, r1, e1⟩ => ?_
  refine c1.bind.mono fun l H2 ⟨l', g2, s2, c2, r2, e2⟩ => ?_
  refine c2.bind.mono fun u H3 ⟨u', g3, s3, c3, r3, e3⟩ => ?_
  cases (show l = l' from r2)
  cases (show u = u' from r3)
  obtain ⟨d, c4, v4⟩ := c3.read (r1.ev (e2.trans e3))
  have sd := c3.sd
  cases q : sliceD l u d with
  | none => exact (c4.notBad (by rw [q]; rfl)).elim
  | some t =>
    have f := c4.fin (by rw [q]; rfl)
    unfold sliceD at q
    split at q
    · cases q
      obtain ⟨a, xs, rfl, ha, ra⟩ := v4.lst sd
      exact .inl ⟨a, xs, rfl, .of ha, fun p hp => f.ow sd hp (.lst (ra.cut l u))⟩
    · rename_i ds
      cases q
      have rr := v4.sc (fun _ z => z)
      obtain ⟨a, xs, rfl, ha, ra⟩ := v4.tup sd
      refine .inr (.inl ⟨a, xs, rfl, ha, fun hw => ?_, fun _ p hp => f.tup sd hp (ra.cut l u)⟩)
      obtain ⟨w1, w2⟩ := hw
      have e : cutD ds l u = ds := by
        unfold cutD
        rw [← ra.length, w1, w2, List.drop_zero, Nat.sub_zero, ra.length, List.take_length]
      rw [e] at f
      exact f.fz sd rr
    · rename_i z
      by_cases hz : z.length ≤ sizeLine
      · rw [if_pos hz] at q
        cases q
        cases v4.str
        exact .inr (.inr ⟨z, rfl, hz, f.fz sd (.str _)⟩)
      · rw [if_neg hz] at q; cases q
    · cases q
/-! ### d.get -/
def isDict : D → Bool
  | .dk _ => true
  | .dt _ => true
  | _ => false
theorem VAt.isD {K : PySem.W.Frag} {g : Gh} {H : Hp} {σ : Slots} {s : State} {v : V} {d : D} (sd : SD K g H σ s) (h : VAt K g H v d) (e : isDict d = true) : ∃ a, v = .ref a ∧ IsD H a := by
  cases d with
  | dk ds => obtain ⟨a, kvs, rfl, q, _⟩ := h.dk sd; exact ⟨a, rfl, .inl ⟨kvs, q.rd⟩⟩
  | dt ds => obtain ⟨a, kvs, rfl, q, _⟩ := h.dt sd; exact ⟨a, rfl, .inr ⟨kvs, q.rd⟩⟩
  | _ => cases e
def chk (b : Bool) : M Unit := fun s => if b then .ok () s else .bad
def dGet1 (fd fk : M VR) : M T := fd >>= fun x => readV x >>= fun d0 => chk (isDict d0) >>= fun _ => fk >>= fun k => readV x >>= fun d => readV k >>= fun e => opt ((lookD d e).map fun o => .fz (o.getD .non))
def dGet2 (fd fk fx : M VR) : M T := fd >>= fun x => readV x >>= fun d0 => chk (isDict d0) >>= fun _ => fk >>= fun k => fx >>= fun z => readV x >>= fun d => readV k >>= fun e => frz z >>= fun u => opt ((lookD d e).map fun o => .fz (o.getD u))
variable {α β : Type} {K : PySem.W.Frag} {σ : Slots} {R : Gh → Hp → State → β → α → Prop} {Q : β → Hp → Prop} {g0 g1 : Gh} {H0 H1 : Hp} {s0 s1 : State}
theorem Cur.chk {b : Bool} {k : Unit → M α} (c : Cur K Wx σ R Q g0 H0 s0 ((chk b >>= k) s1) g1 H1 s1) : b = true ∧ Cur K Wx σ R Q g0 H0 s0 (k () s1) g1 H1 s1 := by
  rw [bind_eq] at c
  cases b with
  | true => exact ⟨rfl, c⟩
  | false => exact (c.notBad rfl).elim
theorem de_get1 {o e : Expr} {fd fk : M VR} {apos cpos : Pos} (hu : X.A.units + 1 < cLine) (ho : DV X Wx o fd) (he : DV X Wx e fk) (m : M1 X o "get" apos e cpos) : DE X Wx (.Call (.Attribute o "get" apos) [e] [] cpos) (dGet1 fd fk) := by
  refine ⟨fun pins s σ H Q I q => (pe_dget1 hu ho he m).run pins s σ H Q I ?_⟩
  obtain ⟨g, s, c⟩ := q.start
  refine c.bind.mono fun x H1 ⟨x', g1, s1, c1, r1, e1⟩ => ?_
  obtain ⟨d0, c2, v2⟩ := c1.read r1
  obtain ⟨hd, c3⟩ := c2.chk
  obtain ⟨a, rfl, hI⟩ := v2.isD c1.sd hd
  refine ⟨a, rfl, hI, c3.bind.mono fun y H2 ⟨y', g2, s2, c4, r4, e4⟩ => ?_⟩
  obtain ⟨d, c5, v5⟩ := c4.read (r1.ev e4)
  obtain ⟨k, c6, v6⟩ := c5.read r4
  cases q : lookD d k with
  | none => exact (c6.notBad (by rw [q]; rfl)).elim
  | some ov =>
    obtain ⟨a', r, ea, dg, h1, h2, _⟩ := lookD_get c4.sd v5 v6 q
    cases ea
    have f := c6.fin (t := .fz (ov.getD .non)) (by rw [q]; rfl)
    refine ⟨r, dg, ?_⟩
    cases ov with
    | none => rw [h2 rfl]; exact f.fz c4.sd .non
    | some z => obtain ⟨v, rfl, rv⟩ := h1 z rfl; exact f.fz c4.sd rv
theorem de_get2 {o e f : Expr} {fd fk fx : M VR} {apos cpos : Pos} (hu : X.A.units + 1 < cLine) (ho : DV X Wx o fd) (he : DV X Wx e fk) (hf : DV X Wx f fx) (m : M2 X o "get" apos e f cpos) : DE X Wx (.Call (.Attribute o "get" apos) [e, f] [] cpos) (dGet2 fd fk fx) := by
  refine ⟨fun pins s σ H Q I q => (pe_dget2 hu ho he hf m).run pins s σ H Q I ?_⟩
  obtain ⟨g, s, c⟩ := q.start
  refine c.bind.mono fun x H1 ⟨x', g1, s1, c1, r1, e1⟩ => ?_
  obtain ⟨d0, c2, v2⟩ := c1.read r1
  obtain ⟨hd, c3⟩ := c2.chk
  obtain ⟨a, rfl, hI⟩ := v2.isD c1.sd hd
  refine ⟨a, rfl, hI, c3.bind.mono fun y H2 ⟨y', g2, s2, c4, r4, e4⟩ => ?_⟩
  refine c4.bind.mono fun z H3 ⟨z', g3, s3, c5, r5, e5⟩ => ?_
  obtain ⟨d, c6, v6⟩ := c5.read (r1.ev (e4.trans e5))
  obtain ⟨k, c7, v7⟩ := c6.read (r4.ev e5)
  obtain ⟨u, g4, s4, c8, r8, le8⟩ := c7.frz (r5.past (e1.trans e4).live)
  cases q : lookD d k with
  | none => exact (c8.notBad (by rw [q]; rfl)).elim
  | some ov =>
    obtain ⟨a', r, ea, dg, h1, h2, _⟩ := lookD_get c8.sd (v6.le le8) (v7.le le8) q
    cases ea
    have f := c8.fin (t := .fz (ov.getD u)) (by rw [q]; rfl)
    refine ⟨r, dg, ?_⟩
    cases ov with
    | none => rw [h2 rfl]; exact f.fz c8.sd r8
    | some z => obtain ⟨v, rfl, rv⟩ := h1 z rfl; exact f.fz c8.sd rv
end
end DL

set_option Elab.async false
set_option linter.all false
set_option maxRecDepth 100000
set_option maxHeartbeats 1000000
/-! DLStmt: statements -/
namespace DL
open PySem PySem.Spec PyProof.Rows L2

/-! ### writing an object that a slot holds -/
section
variable {K : PySem.W.Frag} {g g' : Gh} {H H' : Hp} {σ σ' : Slots} {s s' : State} {a : Addr} {o o' : HO} {i : Nat} {d d' : D} {w : W}
/-- the same holding of other data -/
def W.re : W → D → W
  | .fz _, d => .fz d | .own _, d => .own d | .lent _, d => .lent d | .lk _, d => .lk d | .lkl _, d => .lkl d
theorem SD.write (sd : SD K g H σ s) (e : s.env[i]? = some (some w)) (m : w.mut = true) (ea : σ[i]? = some (some (V.ref a))) (ob : ObAt K g o' d') :
    SD K g (upd H a o') σ (putE s i (w.re d')) ∧ Ev g H σ s g (upd H a o') σ (putE s i (w.re d')) := by
  have hw : w.held = true := by cases w <;> first | rfl | cases m
  have hwr : ∀ {x : D}, (w.re x).held = true := fun {x} => by cases w <;> first | rfl | cases m
  have hmr : ∀ {x : D}, (w.re x).mut = true := fun {x} => by cases w <;> first | rfl | cases m
  obtain ⟨v, ev, wa⟩ := sd.slot i w e
  rw [ea] at ev; cases ev
  have hfree : Free1 g a ∧ H a ≠ none := by
    cases w with
    | own d => obtain ⟨b, u, eb, f, q, _⟩ := wa; cases eb; exact ⟨f, by rw [q]; simp⟩
    | lent d => obtain ⟨b, u, eb, f, q, _⟩ := wa; cases eb; exact ⟨f, by rw [q]; simp⟩
    | _ => cases m
  obtain ⟨f, live⟩ := hfree
  have il : i < s.env.length := (List.getElem?_eq_some_iff.mp e).1
  have other : ∀ {j : Nat} {u : W} {b : Addr}, j ≠ i → s.env[j]? = some (some u) → u.held = true → σ[j]? = some (some (V.ref b)) → b ≠ a := fun {j u b} nj e1 h1 x z => by
    subst z; exact nj (sd.inj j i u w b e1 e h1 hw x ea)
  refine ⟨⟨fun b u eb => ?_, by show (s.env.set i _).length = _; rw [List.length_set]; exact sd.len, fun j u e1 => ?_, fun j k u1 u2 b e1 e2 h1 h2 x1 x2 => ?_, sd.stl, fun j mo b e1 e2 => ?_, sd.nd, sd.ng, ?_⟩, ⟨.refl g, fun b u eb nm => ?_, fun b l => ?_, fun b _ z => .inl z, fun _ _ z => z, fun b mm => ?_, fun b mm => ?_, fun b mm => ?_, fun j x h => ?_, fun j x h => ?_, fun j x h => ?_⟩⟩
  · have ne : b ≠ a := fun z => by subst z; rw [f.1] at eb; cases eb
    exact (sd.gh b u eb).keep fun _ q => by rw [upd_ne ne]; exact q
  · rcases getE_set e1 with ⟨rfl, rfl⟩ | ⟨n1, e1⟩
    · refine ⟨_, ea, ?_⟩
      cases w with
      | own d => exact ⟨a, o', rfl, f, upd_same, ob⟩
      | lent d => exact ⟨a, o', rfl, f, upd_same, ob⟩
      | _ => cases m
    · obtain ⟨v', ev', wa'⟩ := sd.slot j u e1
      exact ⟨v', ev', wa'.keep (.refl g) (fun b u' eb hu q => by rw [upd_ne (other n1 e1 hu (by rw [ev', eb]))]; exact q) fun _ _ _ z => z⟩
  · rcases getE_set e1 with ⟨z1, y1⟩ | ⟨n1, e1'⟩
    · rcases getE_set e2 with ⟨z2, _⟩ | ⟨n2, e2'⟩
      · rw [z1, z2]
      · rw [z1, ea] at x1; cases x1
        exact absurd rfl (other n2 e2' h2 x2)
    · rcases getE_set e2 with ⟨z2, y2⟩ | ⟨n2, e2'⟩
      · rw [z2, ea] at x2; cases x2
        exact absurd rfl (other n1 e1' h1 x1)
      · exact sd.inj j k u1 u2 b e1' e2' h1 h2 x1 x2
  · obtain ⟨u, q, mm⟩ := sd.sto j mo b e1 e2
    have ne : b ≠ a := fun z => f.2.1 (z ▸ List.mem_of_getElem? e2)
    exact ⟨u, by rw [upd_ne ne]; exact q, mm⟩
  · have dd : DrOk g H g.dr s.dr := sd.dr
    refine (show DrOk g (upd H a o') g.dr s.dr from dd.map fun x l y eq q => ?_)
    obtain ⟨c, q1, q2⟩ := q.dict
    have n1 : x ≠ a := fun z => f.2.2 ⟨x, l, eq, .inl z.symm⟩
    have n2 : l ≠ a := fun z => f.2.2 ⟨x, l, eq, .inr z.symm⟩
    exact ⟨⟨c, by rw [upd_ne n1]; exact q1, q2⟩, by rw [upd_ne n2]; exact q.list, q.ne, q.ga, q.gl⟩
  · have ne : b ≠ a := fun z => nm (.inl ⟨i, w, e, m, by rw [z]; exact ea⟩)
    rw [upd_ne ne]; exact eb
  · by_cases z : b = a
    · subst z; rw [upd_same]; simp
    · rw [upd_ne z]; exact l
  · rcases mm with ⟨j, u, e1, m1, x⟩ | mm
    · rcases getE_set e1 with ⟨rfl, _⟩ | ⟨_, e1⟩
      · exact .inl (.inl ⟨j, w, e, m, x⟩)
      · exact .inl (.inl ⟨j, u, e1, m1, x⟩)
    · exact .inl (.inr mm)
  · obtain ⟨j, u, e1, m1, x⟩ := mm
    rcases getE_set e1 with ⟨rfl, _⟩ | ⟨_, e1⟩
    · exact .inl ⟨j, w, e, hw, x⟩
    · exact .inl ⟨j, u, e1, m1, x⟩
  · obtain ⟨j, x, e1, q⟩ := mm
    rcases e1 with e1 | e1
    · rcases getE_set e1 with ⟨rfl, z⟩ | ⟨_, e1⟩
      · cases w with
        | own d => exact .inl ⟨j, d, .inl e, q⟩
        | lent d => cases z
        | _ => cases m
      · exact .inl ⟨j, x, .inl e1, q⟩
    · rcases getE_set e1 with ⟨rfl, z⟩ | ⟨_, e1⟩
      · cases w with
        | own d => cases z
        | lent d => cases z
        | _ => cases m
      · exact .inl ⟨j, x, .inr e1, q⟩
  · by_cases z : j = i
    · subst z
      rw [e] at h; cases h
      exact ⟨rfl, d', .inl (List.getElem?_set_self il)⟩
    · exact ⟨rfl, x, .inl (by show (s.env.set i _)[j]? = _; rw [List.getElem?_set_ne (Ne.symm z)]; exact h)⟩
  · have z : j ≠ i := fun z => by subst z; rw [e] at h; cases h; cases m
    exact ⟨rfl, by show (s.env.set i _)[j]? = _; rw [List.getElem?_set_ne (Ne.symm z)]; exact h⟩
  · have z : j ≠ i := fun z => by subst z; rw [e] at h; cases h; cases m
    exact ⟨rfl, by show (s.env.set i _)[j]? = _; rw [List.getElem?_set_ne (Ne.symm z)]; exact h⟩
end

/-! ### statements -/
inductive Flow where
  | nx | bk | ct | rt (t : T)
/-- what a def hands back: new, or its own -/
structure RR (K : PySem.W.Frag) (H0 : Hp) (σ0 : Slots) (s0 : State) (g : Gh) (H : Hp) (σ : Slots) (s : State) (v : V) (t : T) : Prop where
  at_ : TAt K g H v t
  new : ∀ d a, t = .ow d → v = .ref a → (H0 a = none ∨ OwnA σ0 s0 a) ∧ ¬ Hd σ s a
def PostS (K : PySem.W.Frag) (Wx : WX) (D : Ends) (g0 : Gh) (H0 : Hp) (σ0 : Slots) (s0 : State) : Rs Flow → Prop
  | .ok .nx s' => ∀ σ' g' H', SD K g' H' σ' s' → Ev g0 H0 σ0 s0 g' H' σ' s' → D.nx σ' H'
  | .ok .bk s' => ∀ σ' g' H', SD K g' H' σ' s' → Ev g0 H0 σ0 s0 g' H' σ' s' → D.bk σ' H'
  | .ok .ct s' => ∀ σ' g' H', SD K g' H' σ' s' → Ev g0 H0 σ0 s0 g' H' σ' s' → D.ct σ' H'
  | .ok (.rt t) s' => ∀ v σ' g' H', SD K g' H' σ' s' → Ev g0 H0 σ0 s0 g' H' σ' s' → RR K H0 σ0 s0 g' H' σ' s' v t → D.rt v H'
  | .err x s' => ∀ cls d σ' g' H', SD K g' H' σ' s' → Ev g0 H0 σ0 s0 g' H' σ' s' → ErrAt K g' H' cls d x → Wx cls d σ' H'
  | .bad => False
def tS (K : PySem.W.Frag) (Wx : WX) (f : M Flow) : TS := fun D σ H => ∃ g s, SD K g H σ s ∧ PostS K Wx D g H σ s (f s)
def DS (X : Cx) (Wx : WX) (st : Stmt) (f : M Flow) : Prop := PS X st (tS X.K Wx f)
def DSs (X : Cx) (Wx : WX) (st : List Stmt) (f : M Flow) : Prop := PSs X st (tS X.K Wx f)
section
variable {K : PySem.W.Frag} {Wx : WX} {D : Ends} {g0 g1 g2 : Gh} {H0 H1 H2 : Hp} {σ0 σ1 σ2 : Slots} {s0 s1 s2 : State} {r : Rs Flow}
theorem RR.past {g : Gh} {H : Hp} {σ : Slots} {s : State} {v : V} {t : T} (e : Ev g0 H0 σ0 s0 g1 H1 σ1 s1) (h : RR K H1 σ1 s1 g H σ s v t) : RR K H0 σ0 s0 g H σ s v t :=
  ⟨h.at_, fun d a e1 e2 => ⟨by
    rcases (h.new d a e1 e2).1 with z | z
    · cases q : H0 a with
      | none => exact .inl rfl
      | some o => exact absurd z (e.live a (by rw [q]; simp))
    · exact (e.ow a z).symm, (h.new d a e1 e2).2⟩⟩
theorem RT.rr {g : Gh} {H : Hp} {σ : Slots} {s : State} {v : V} {t : T} (h : RT K H0 g H σ s v t) : RR K H0 σ0 s0 g H σ s v t := ⟨h.at_, fun d a e1 e2 => ⟨.inl (h.new d a e1 e2).1, (h.new d a e1 e2).2⟩⟩
theorem PostS.shift (e : Ev g0 H0 σ0 s0 g1 H1 σ1 s1) (p : PostS K Wx D g0 H0 σ0 s0 r) : PostS K Wx D g1 H1 σ1 s1 r := by
  cases r with
  | ok fl s' =>
    cases fl with
    | nx => exact fun σ' g' H' sd ev => p σ' g' H' sd (e.trans ev)
    | bk => exact fun σ' g' H' sd ev => p σ' g' H' sd (e.trans ev)
    | ct => exact fun σ' g' H' sd ev => p σ' g' H' sd (e.trans ev)
    | rt t => exact fun v σ' g' H' sd ev rr => p v σ' g' H' sd (e.trans ev) (rr.past e)
  | err x s' => exact fun cls d σ' g' H' sd ev er => p cls d σ' g' H' sd (e.trans ev) er
  | bad => exact p
/-- on the way through a statement -/
structure CurS (K : PySem.W.Frag) (Wx : WX) (D : Ends) (g0 : Gh) (H0 : Hp) (σ0 : Slots) (s0 : State) (m : Rs Flow) (g1 : Gh) (H1 : Hp) (σ1 : Slots) (s1 : State) : Prop where
  ev : Ev g0 H0 σ0 s0 g1 H1 σ1 s1
  sd : SD K g1 H1 σ1 s1
  post : PostS K Wx D g0 H0 σ0 s0 m
theorem tS.start {f : M Flow} {σ : Slots} {H : Hp} (h : tS K Wx f D σ H) : ∃ g s, CurS K Wx D g H σ s (f s) g H σ s := by
  obtain ⟨g, s, sd, p⟩ := h
  exact ⟨g, s, .refl, sd, p⟩
theorem CurS.bind {γ δ : Type} {R1 : Rel γ δ} {f : M γ} {k : γ → M Flow} (c : CurS K Wx D g0 H0 σ0 s0 ((f >>= k) s1) g1 H1 σ1 s1) :
    tM K Wx R1 f σ1 H1 (fun b H2 => ∃ a g2 s2, CurS K Wx D g0 H0 σ0 s0 (k a s2) g2 H2 σ1 s2 ∧ R1 σ1 H1 g2 H2 s2 b a ∧ Ev g1 H1 σ1 s1 g2 H2 σ1 s2) := by
  refine ⟨g1, s1, c.sd, ?_⟩
  have p := c.post
  rw [bind_eq] at p
  cases q : f s1 with
  | ok a s2 =>
    rw [q] at p
    exact fun b g2 H2 sd ev r => ⟨a, g2, s2, ⟨c.ev.trans ev, sd, p⟩, r, ev⟩
  | err x s2 =>
    rw [q] at p
    exact fun cls d g2 H2 sd ev er => p cls d σ1 g2 H2 sd (c.ev.trans ev) er
  | bad => rw [q] at p; exact p
theorem CurS.notBad {m : Rs Flow} (c : CurS K Wx D g0 H0 σ0 s0 m g1 H1 σ1 s1) (e : m = .bad) : False := by
  have p := c.post
  rw [e] at p
  exact p
theorem CurS.next {m : Rs Flow} (c : CurS K Wx D g0 H0 σ0 s0 m g1 H1 σ1 s1) (e : m = .ok .nx s2) (sd : SD K g2 H2 σ2 s2) (ev : Ev g1 H1 σ1 s1 g2 H2 σ2 s2) : D.nx σ2 H2 := by
  have p := c.post
  rw [e] at p
  exact p σ2 g2 H2 sd (c.ev.trans ev)
/-- the rest of a statement as a statement -/
theorem CurS.go {f : M Flow} (c : CurS K Wx D g0 H0 σ0 s0 (f s1) g1 H1 σ1 s1) : tS K Wx f D σ1 H1 := ⟨g1, s1, c.sd, c.post.shift c.ev⟩
end

/-! ### blocks -/
def dSeq (f k : M Flow) : M Flow := fun s => match f s with
  | .ok .nx s1 => k s1
  | r => r
def dNx : M Flow := fun s => .ok .nx s
section
variable {X : Cx} {Wx : WX} {st : Stmt} {rest a b : List Stmt} {f k : M Flow} {e : Expr} {ft : M T} {fc : M Bool} {pos : Pos}
theorem dss_nil : DSs X Wx [] dNx := ⟨fun pins s σ H D I h => pss_nil.run pins s σ H D I (by
  obtain ⟨g, s, c⟩ := h.start
  exact c.next rfl c.sd .refl)⟩
theorem dss_cons (h1 : DS X Wx st f) (h2 : DSs X Wx rest k) : DSs X Wx (st :: rest) (dSeq f k) := ⟨fun pins s σ H D I h => (pss_cons h1 h2).run pins s σ H D I (by
  obtain ⟨g, s, sd, p⟩ := h
  refine ⟨g, s, sd, ?_⟩
  unfold dSeq at p
  cases q : f s with
  | ok fl s1 =>
    rw [q] at p
    cases fl with
    | nx => exact fun σ1 g1 H1 sd1 ev1 => ⟨g1, s1, sd1, PostS.shift ev1 p⟩
    | bk => exact p
    | ct => exact p
    | rt t => exact p
  | err x s1 => rw [q] at p; exact p
  | bad => rw [q] at p; exact p)⟩
theorem dss_one (h1 : DS X Wx st f) : DSs X Wx [st] f := pss_one h1
theorem ds_pass : DS X Wx (.Pass pos) dNx := ⟨fun pins s σ H D I h => ps_pass.run pins s σ H D I (by
  obtain ⟨g, s, c⟩ := h.start
  exact c.next rfl c.sd .refl)⟩
def dBk : M Flow := fun s => .ok .bk s
def dCt : M Flow := fun s => .ok .ct s
theorem ds_break : DS X Wx (.Break pos) dBk := ⟨fun pins s σ H D I h => ps_break.run pins s σ H D I (by
  obtain ⟨g, s, sd, p⟩ := h
  exact p σ g H sd .refl)⟩
theorem ds_continue : DS X Wx (.Continue pos) dCt := ⟨fun pins s σ H D I h => ps_continue.run pins s σ H D I (by
  obtain ⟨g, s, sd, p⟩ := h
  exact p σ g H sd .refl)⟩
def dExpr (f : M T) : M Flow := f >>= fun _ => dNx
theorem ds_expr (he : DE X Wx e ft) (hs : swapsWith e none pos.line X.env = pure false := by rfl) : DS X Wx (.Expr e pos) (dExpr ft) := ⟨fun pins s σ H D I h => (ps_expr he hs).run pins s σ H D I (by
  obtain ⟨g, s, c⟩ := h.start
  exact c.bind.mono fun x H1 ⟨t, g1, s1, c1, r1, e1⟩ => c1.next rfl c1.sd .refl)⟩
def dRet (f : M T) : M Flow := f >>= fun t s => .ok (.rt t) s
theorem ds_ret (he : DE X Wx e ft) : DS X Wx (.Return (some e) pos) (dRet ft) := ⟨fun pins s σ H D I h => (ps_ret he).run pins s σ H D I (by
  obtain ⟨g, s, c⟩ := h.start
  refine c.bind.mono fun x H1 ⟨t, g1, s1, c1, r1, e1⟩ => ?_
  exact c1.post x σ g1 H1 c1.sd c1.ev r1.rr)⟩
/-- return x: its own object is handed back -/
def dRetV (i : Nat) : M Flow := fun s => match s.env[i]? with
  | some (some (.fz d)) => .ok (.rt (.fz d)) s
  | some (some (.own d)) => .ok (.rt (.ow d)) { s with env := s.env.set i none }
  | _ => .bad
theorem SD.drop {K : PySem.W.Frag} {g : Gh} {H : Hp} {σ : Slots} {s : State} {i : Nat} (sd : SD K g H σ s) (c : canSet s i = true) :
    SD K g H σ { s with env := s.env.set i none } ∧ Ev g H σ s g H σ { s with env := s.env.set i none } ∧ ∀ b, Hd σ { s with env := s.env.set i none } b → ∃ j, j ≠ i ∧ ∃ w, s.env[j]? = some (some w) ∧ w.held = true ∧ σ[j]? = some (some (V.ref b)) := by
  have low : ∀ {j : Nat} {u : W}, (s.env.set i none)[j]? = some (some u) → j ≠ i ∧ s.env[j]? = some (some u) := fun {j u} h => by
    by_cases z : i = j
    · subst z
      by_cases hl : i < s.env.length
      · rw [List.getElem?_set_self hl] at h; cases h
      · rw [List.getElem?_eq_none (by simpa using hl)] at h; cases h
    · rw [List.getElem?_set_ne z] at h
      exact ⟨fun q => z q.symm, h⟩
  have ne : ∀ {j : Nat} {w : W}, s.env[j]? = some (some w) → (w = .lent w.data ∨ w = .lk w.data ∨ w = .lkl w.data) → (s.env.set i none)[j]? = some (some w) := fun {j w} h z => by
    have n : i ≠ j := fun q => by
      subst q
      unfold canSet at c
      rcases z with z | z | z <;> rw [h, z] at c <;> cases c
    rw [List.getElem?_set_ne n]; exact h
  refine ⟨⟨sd.gh, by show (s.env.set i none).length = _; rw [List.length_set]; exact sd.len, fun j u e => sd.slot j u (low e).2, fun j k u1 u2 b e1 e2 => sd.inj j k u1 u2 b (low e1).2 (low e2).2, sd.stl, sd.sto, sd.nd, sd.ng, sd.dr⟩,
    ⟨.refl g, fun _ _ h _ => h, fun _ h => h, fun _ _ z => .inl z, fun _ _ z => z, fun b m => ?_, fun b m => ?_, fun b m => ?_, fun j d h => ⟨rfl, d, .inl (ne h (.inl rfl))⟩, fun j d h => ⟨rfl, ne h (.inr (.inl rfl))⟩, fun j d h => ⟨rfl, ne h (.inr (.inr rfl))⟩⟩, fun b m => ?_⟩
  · rcases m with ⟨j, u, e1, m1, x⟩ | m
    · exact .inl (.inl ⟨j, u, (low e1).2, m1, x⟩)
    · exact .inl (.inr m)
  · obtain ⟨j, u, e1, m1, x⟩ := m
    exact .inl ⟨j, u, (low e1).2, m1, x⟩
  · obtain ⟨j, d, e1, x⟩ := m
    rcases e1 with e1 | e1
    · exact .inl ⟨j, d, .inl (low e1).2, x⟩
    · exact .inl ⟨j, d, .inr (low e1).2, x⟩
  · obtain ⟨j, u, e1, m1, x⟩ := m
    exact ⟨j, (low e1).1, u, (low e1).2, m1, x⟩
theorem ds_retV (i : Nat) {x : Str} {p : Pos} (hN : X.N[i]? = some x := by rfl) (hv : Vis X.env.scope x := by first | exact Or.inl rfl | exact Or.inr (Or.inl rfl) | exact Or.inr (Or.inr rfl)) (hd : (x == ("__debug__" : Str)) = false := by decide)
    (hcd : (x == ("__classdict__" : Str)) = false := by decide) : DS X Wx (.Return (some (.Name x p)) pos) (dRetV i) := ⟨fun pins s σ H D I h => (ps_ret (pe_var hN hv hd hcd)).run pins s σ H D I (by
  obtain ⟨g, s, sd, p⟩ := h
  unfold dRetV at p
  cases e : s.env[i]? with
  | none => simp only [e] at p; exact False.elim p
  | some w =>
    cases w with
    | none => simp only [e] at p; exact False.elim p
    | some w =>
      obtain ⟨v, ev, wa⟩ := sd.slot i w e
      cases w with
      | fz d =>
        simp only [e] at p
        exact ⟨v, ev, p v σ g H sd .refl ⟨wa, fun _ _ z => nomatch z⟩⟩
      | own d =>
        simp only [e] at p
        obtain ⟨sd1, ev1, nh⟩ := sd.drop (i := i) (by unfold canSet; rw [e])
        refine ⟨v, ev, p v σ g H sd1 ev1 ⟨wa, fun d' a e1 e2 => ⟨.inr ⟨i, d, .inl e, by rw [ev, e2]⟩, fun hh => ?_⟩⟩⟩
        obtain ⟨j, nj, u, e3, h3, x3⟩ := nh a hh
        exact nj (sd.inj j i u _ a e3 e h3 rfl x3 (by rw [ev, e2]))
      | lent d => simp only [e] at p; exact False.elim p
      | lk d => simp only [e] at p; exact False.elim p
      | lkl d => simp only [e] at p; exact False.elim p)⟩
def dRetN : M Flow := fun s => .ok (.rt (.fz .non)) s
theorem ds_retN : DS X Wx (.Return none pos) dRetN := ⟨fun pins s σ H D I h => ps_retN.run pins s σ H D I (by
  obtain ⟨g, s, sd, p⟩ := h
  exact p .non σ g H sd .refl ⟨.non, fun _ _ z => nomatch z⟩)⟩
theorem ds_if {c : Expr} (hc : DT X Wx c fc) (ha : DSs X Wx a f) (hb : DSs X Wx b k) : DS X Wx (.If c a b pos) (dIf fc f k) := ⟨fun pins s σ H D I h => (ps_if hc ha hb).run pins s σ H D I (by
  obtain ⟨g, s, c⟩ := h.start
  refine c.bind.mono fun x H1 ⟨t, g1, s1, c1, r1, e1⟩ => ?_
  cases (show x = t from r1)
  cases x with
  | true => rw [if_pos rfl] at c1 ⊢; exact c1.go
  | false => rw [if_neg Bool.false_ne_true] at c1 ⊢; exact c1.go)⟩

/-! ### targets -/
def T.w : T → W
  | .fz d => .fz d
  | .ow d => .own d
/-- x = value -/
def setT (i : Nat) (t : T) : M Unit := fun s => if canSet s i = true then .ok () (putE s i t.w) else .bad
theorem setT_run {K : PySem.W.Frag} {g0 g : Gh} {H0 H : Hp} {σ0 σ : Slots} {s0 s s' : State} {i : Nat} {t : T} {v : V} (h : setT i t s = .ok () s') (e0 : Ev g0 H0 σ0 s0 g H σ s) (sd : SD K g H σ s) (r : RT K H0 g H σ s v t) :
    SD K g H (σ.set i (some v)) s' ∧ Ev g0 H0 σ0 s0 g H (σ.set i (some v)) s' := by
  unfold setT at h
  by_cases c : canSet s i = true
  · rw [if_pos c] at h
    cases h
    have hh : ∀ b, t.w.held = true → v = .ref b → ∃ d, t = .ow d := fun b h1 h2 => by
      cases t with
      | fz d => cases h1
      | ow d => exact ⟨d, rfl⟩
    refine ⟨sd.set c ?_ fun b h1 h2 => ?_, e0.set sd c fun b h1 h2 => ?_⟩
    · cases t with
      | fz d => exact r.at_
      | ow d => exact r.at_
    · obtain ⟨d, ed⟩ := hh b h1 h2
      exact (r.new d b ed h2).2
    · obtain ⟨d, ed⟩ := hh b h1 h2
      exact (r.new d b ed h2).1
  · rw [if_neg c] at h; cases h
theorem setT_res (i : Nat) (t : T) (s : State) : (∃ s', setT i t s = .ok () s') ∨ setT i t s = .bad := by
  unfold setT
  by_cases c : canSet s i = true
  · rw [if_pos c]; exact .inl ⟨_, rfl⟩
  · rw [if_neg c]; exact .inr rfl
def dAsg (i : Nat) (f : M T) : M Flow := f >>= fun t => setT i t >>= fun _ => dNx
theorem asg_run {K : PySem.W.Frag} {D : Ends} {i : Nat} {f : M T} {σ : Slots} {H : Hp} (h : tS K Wx (dAsg i f) D σ H) : tAsg (tE K Wx f) (gName i) D σ H := by
  obtain ⟨g, s, c⟩ := h.start
  refine c.bind.mono fun x H1 ⟨t, g1, s1, c1, r1, e1⟩ => ?_
  have p := c1.post
  rw [bind_eq] at p
  rcases setT_res i t s1 with ⟨s2, e2⟩ | e2
  · rw [e2] at p
    obtain ⟨sd2, ev2⟩ := setT_run e2 c1.ev c1.sd r1
    exact p _ _ _ sd2 ev2
  · rw [e2] at p; exact p.elim
theorem ds_set {i : Nat} {x : Str} {pos' : Pos} (hN : X.N.Nodup) (hi : X.N[i]? = some x) (hx : Loc X.env.scope x) (he : DE X Wx e ft) (hs : swapsWith e (some (.Name x pos')) pos.line X.env = pure false := by rfl) (hf : X.fn x = true ∨ X.env.scope.names.lookup x = some .local := by first | exact .inl rfl | exact .inr rfl | assumption) :
    DS X Wx (.Assign [.Name x pos'] e pos) (dAsg i ft) := ⟨fun pins s σ H D I h => (ps_set hN hi hx he hs hf).run pins s σ H D I (asg_run h)⟩
/-- a target that takes a value apart -/
inductive Pt where
  | name (i : Nat) | tup (ps : List Pt)
def setO (i : Nat) (t : T) (s : State) : Option State := if canSet s i = true then some (putE s i t.w) else none
mutual
def bindP : Pt → D → State → Option State
  | .name i, d, s => setO i (.fz d) s
  | .tup ps, d, s => match d with
    | .tup ds => if ps.length = ds.length then bindPs ps ds s else none
    | _ => none
def bindPs : List Pt → List D → State → Option State
  | [], _, s => some s
  | p :: ps, ds, s => match ds with
    | [] => none
    | d :: ds => match bindP p d s with
      | some s1 => bindPs ps ds s1
      | none => none
end
mutual
/-- the slots that a pattern names -/
def Pt.vs : Pt → List Nat
  | .name i => [i]
  | .tup ps => Pt.vss ps
def Pt.vss : List Pt → List Nat
  | [] => []
  | p :: ps => p.vs ++ Pt.vss ps
end
/-- the same but for some slots -/
def Upto (L : List Nat) (σ σ' : Slots) : Prop := σ'.length = σ.length ∧ ∀ i, i ∉ L → σ'[i]? = σ[i]?
theorem Upto.refl {L : List Nat} {σ : Slots} : Upto L σ σ := ⟨rfl, fun _ _ => rfl⟩
theorem Upto.trans {L L' : List Nat} {σ σ' σ2 : Slots} (a : Upto L σ σ') (b : Upto L' σ' σ2) : Upto (L ++ L') σ σ2 := ⟨b.1.trans a.1, fun i h => (b.2 i fun z => h (List.mem_append_right _ z)).trans (a.2 i fun z => h (List.mem_append_left _ z))⟩
/-- .. as a step -/
def dBind (p : Pt) (d : D) : M Flow := fun s => match bindP p d s with
  | some s' => .ok .nx s'
  | none => .bad
def tP (K : PySem.W.Frag) (p : Pt) : TG := fun v σ H Q => ∃ g s d, SD K g H σ s ∧ Rep K g v d ∧ ∃ s', bindP p d s = some s' ∧ ∀ σ', Upto p.vs σ σ' → SD K g H σ' s' → Ev g H σ s g H σ' s' → Q σ' H
def tPs (K : PySem.W.Frag) (ps : List Pt) : TGs := fun vs σ H Q => ∃ g s ds, SD K g H σ s ∧ Reps K g vs ds ∧ ps.length = ds.length ∧ ∃ s', bindPs ps ds s = some s' ∧ ∀ σ', Upto (Pt.vss ps) σ σ' → SD K g H σ' s' → Ev g H σ s g H σ' s' → Q σ' H
def DG (X : Cx) (tg : Expr) (p : Pt) : Prop := PG X tg (tP X.K p)
def DGs (X : Cx) (tgs : List Expr) (ps : List Pt) : Prop := PGs X tgs (tPs X.K ps)
theorem dg_name {i : Nat} {x : Str} (hN : X.N.Nodup) (hi : X.N[i]? = some x) (hx : Loc X.env.scope x) (hf : X.fn x = true ∨ X.env.scope.names.lookup x = some .local := by first | exact .inl rfl | exact .inr rfl | assumption) : DG X (.Name x pos) (.name i) :=
  ⟨fun pins s σ H v u Q I r h => (pg_name hN hi hx hf).run pins s σ H v u Q I r (by
    obtain ⟨g, s, d, sd, rp, s', e, q⟩ := h
    unfold bindP setO at e
    by_cases c : canSet s i = true
    · rw [if_pos c] at e
      obtain ⟨sd2, ev2⟩ := setT_run (i := i) (t := .fz d) (s' := s') (by unfold setT; rw [if_pos c]; cases e; rfl) .refl sd ⟨rp, fun _ _ z => nomatch z⟩
      exact q _ ⟨List.length_set .., fun j hj => List.getElem?_set_ne fun z => hj (by rw [← z]; exact List.mem_singleton.mpr rfl)⟩ sd2 ev2
    · rw [if_neg c] at e; cases e)⟩
theorem bindPs_cons {p : Pt} {ps : List Pt} {d : D} {ds : List D} {s s' : State} (h : bindPs (p :: ps) (d :: ds) s = some s') : ∃ s1, bindP p d s = some s1 ∧ bindPs ps ds s1 = some s' := by
  unfold bindPs at h
  cases e : bindP p d s with
  | some s1 => simp only [e] at h; exact ⟨s1, rfl, h⟩
  | none => simp only [e] at h; cases h
theorem dgs_nil : DGs X [] [] := ⟨fun pins s σ H vs us Q I r h => pgs_nil.run pins s σ H vs us Q I r (by
  obtain ⟨g, s, ds, sd, rp, hl, s', e, q⟩ := h
  cases ds with
  | nil =>
    cases rp
    unfold bindPs at e
    cases e
    exact ⟨rfl, q σ .refl sd .refl⟩
  | cons d ds => cases hl)⟩
theorem dgs_cons {tg : Expr} {tgs : List Expr} {p : Pt} {ps : List Pt} (h1 : DG X tg p) (h2 : DGs X tgs ps) (hs : (assignEach (tg :: tgs) X.env).map (·.2) = assign tg X.env :: (assignEach tgs X.env).map (·.2) := by rfl) : DGs X (tg :: tgs) (p :: ps) :=
  ⟨fun pins s σ H vs us Q I r h => (pgs_cons h1 h2 hs).run pins s σ H vs us Q I r (by
    obtain ⟨g, s, ds, sd, rp, hl, s', e, q⟩ := h
    cases rp with
    | nil => cases hl
    | @cons v vs d ds a b =>
      obtain ⟨s1, e1, e2⟩ := bindPs_cons e
      exact ⟨v, vs, rfl, g, s, d, sd, a, s1, e1, fun σ1 u1 sd1 ev1 => ⟨g, s1, ds, sd1, b, Nat.succ.inj hl, s', e2, fun σ' u2 sd' ev' => q σ' (u1.trans u2) sd' (ev1.trans ev')⟩⟩)⟩
theorem dg_tup {tgs : List Expr} {k : Nat} {ps : List Pt} (hc : X.calm = true) (h : DGs X tgs ps) (hn : (assignEach tgs X.env).length = ps.length := by rfl) (hst : (assignEach tgs X.env).findIdx? (·.1) = none := by rfl) : DG X (.Tuple tgs k pos) (.tup ps) :=
  ⟨fun pins s σ H v u Q I r q => (pg_tup hc h hn hst).run pins s σ H v u Q I r (by
    obtain ⟨g, s, d, sd, rp, s', e, q⟩ := q
    unfold bindP at e
    cases d with
    | tup ds =>
      obtain ⟨a, xs, rfl, ht, rs⟩ := VAt.tup sd (.inl rp)
      by_cases hl : ps.length = ds.length
      · simp only [if_pos hl] at e
        exact ⟨a, xs, rfl, ht, by rw [rs.length, hl], g, s, ds, sd, rs, hl, s', e, q⟩
      · simp only [if_neg hl] at e; cases e
    | _ => cases e)⟩
/-- targets = value -/
def dUn (p : Pt) (f : M VR) : M Flow := f >>= fun r => frz r >>= fun d => dBind p d
theorem ds_un {tg : Expr} {p : Pt} {fv : M VR} (hg : DG X tg p) (he : DV X Wx e fv) (hs : swapsWithSole [tg] e pos.line X.env = pure false := by rfl) (hw : swappedStores [tg] e X.env = pure none := by rfl)
    (h1 : (assignEach [tg] X.env).map (·.2) = [assign tg X.env] := by rfl) : DS X Wx (.Assign [tg] e pos) (dUn p fv) := ⟨fun pins s σ H D I h => (ps_asg he hg hs hw h1).run pins s σ H D I (by
  obtain ⟨g, s, c⟩ := h.start
  refine c.bind.mono fun x H1 ⟨r, g1, s1, c1, r1, e1⟩ => ?_
  have p0 := c1.post
  rw [bind_eq] at p0
  rcases frz_res r s1 with ⟨d, s2, e2⟩ | e2
  · rw [e2] at p0
    obtain ⟨g2, sd2, ev2, rp, _, _⟩ := frz_run e2 c1.ev c1.sd r1
    have p0 : PostS X.K Wx D g H σ s (dBind p d s2) := p0
    unfold dBind at p0
    cases e3 : bindP p d s2 with
    | some s3 =>
      rw [e3] at p0
      exact ⟨g2, s2, d, sd2, rp, s3, e3, fun σ' _ sd' ev' => p0 σ' g2 H1 sd' (ev2.trans ev')⟩
    | none => rw [e3] at p0; exact p0.elim
  · rw [e2] at p0; exact p0.elim)⟩
end
end DL

set_option Elab.async false
set_option linter.all false
set_option maxRecDepth 100000
set_option maxHeartbeats 1000000
/-! DLLoop: stores at several names, in lists and dicts; loops -/
namespace DL
open PySem PySem.Spec PyProof.Rows L2
section
variable {X : Cx} {Wx : WX} {e : Expr} {pos : Pos}
/-! ### a, b = x, y -/
def dPar (i j : Nat) (fl : M (List VR)) : M Flow := fl >>= fun rs s => match rs with
  | [.t t1, .t t2] => (setT i t1 >>= fun _ => setT j t2 >>= fun _ => dNx) s
  | _ => .bad
def dPar3 (i j l : Nat) (fl : M (List VR)) : M Flow := fl >>= fun rs s => match rs with
  | [.t t1, .t t2, .t t3] => (setT i t1 >>= fun _ => setT j t2 >>= fun _ => setT l t3 >>= fun _ => dNx) s
  | _ => .bad
section
variable {K : PySem.W.Frag} {g0 g : Gh} {H0 H : Hp} {σ0 σ : Slots} {s0 s s' : State} {i : Nat} {t t' : T} {v v' : V}
/-- another value, behind a store -/
theorem RT.setOther (h : setT i t s = .ok () s') (sd : SD K g H σ s) (r : RT K H0 g H σ s v' t') (ap : ∀ a d, t' = .ow d → v' = .ref a → ∀ d', t = .ow d' → v ≠ .ref a) : RT K H0 g H (σ.set i (some v)) s' v' t' := by
  unfold setT at h
  by_cases c : canSet s i = true
  · rw [if_pos c] at h
    cases h
    refine ⟨r.at_, fun d a e1 e2 => ⟨(r.new d a e1 e2).1, fun hh => ?_⟩⟩
    obtain ⟨j, u, e3, h3, x3⟩ := hh
    have il : i < σ.length := by
      rw [← sd.len]
      unfold canSet at c
      cases q : s.env[i]? with
      | none => rw [q] at c; cases c
      | some _ => exact (List.getElem?_eq_some_iff.mp q).1
    rcases getE_set e3 with ⟨z, z2⟩ | ⟨nj, e3⟩
    · subst z
      rw [List.getElem?_set_self il] at x3
      cases t with
      | fz d => rw [z2] at h3; cases h3
      | ow d' => exact ap a d e1 e2 d' rfl (Option.some.inj (Option.some.inj x3))
    · rw [List.getElem?_set_ne (Ne.symm nj)] at x3
      exact (r.new d a e1 e2).2 ⟨j, u, e3, h3, x3⟩
  · rw [if_neg c] at h; cases h
end
theorem bind_setT {i : Nat} {t : T} {k : Unit → M Flow} {s : State} : (setT i t >>= k) s = .bad ∨ ∃ s', setT i t s = .ok () s' ∧ (setT i t >>= k) s = k () s' := by
  rw [bind_eq]
  rcases setT_res i t s with ⟨s', e⟩ | e
  · exact .inr ⟨s', e, by rw [e]⟩
  · exact .inl (by rw [e])
theorem ds_par {i j : Nat} {x y : Str} {a b : Expr} {fl : M (List VR)} {px py pt : Pos} {kt k2 pt2} (hc : X.calm = true) (hN : X.N.Nodup) (hi : X.N[i]? = some x) (hj : X.N[j]? = some y) (hij : i ≠ j)
    (hx : X.env.scope.names.lookup x = some .local) (hy : X.env.scope.names.lookup y = some .local) (ha : DA X Wx [a, b] fl)
    (hw : swappedStores [.Tuple [.Name x px, .Name y py] kt pt] (.Tuple [a, b] k2 pt2) X.env = pure (some [x, y]) := by rfl)
    (hs : swapsWithSole [.Tuple [.Name x px, .Name y py] kt pt] (.Tuple [a, b] k2 pt2) pos.line X.env = pure false := by rfl) :
    DS X Wx (.Assign [.Tuple [.Name x px, .Name y py] kt pt] (.Tuple [a, b] k2 pt2) pos) (dPar i j fl) := ⟨fun pins s σ H D I h => (L2.ps_par hc hN hi hj hij hx hy ha hw hs).run pins s σ H D I (by
  obtain ⟨g, s, c⟩ := h.start
  refine c.bind.mono fun xs H1 ⟨rs, g1, s1, c1, r1, e1⟩ => ?_
  cases r1 with
  | nil => exact (c1.notBad rfl).elim
  | @cons v r vs rs r1 r2 ap1 =>
    cases r2 with
    | nil => cases r <;> exact (c1.notBad rfl).elim
    | @cons v' r' vs rs r2 r3 ap2 =>
      cases r with
      | slot i => exact (c1.notBad rfl).elim
      | t t =>
        cases r' with
        | slot i => cases rs <;> exact (c1.notBad rfl).elim
        | t t' =>
          cases r3 with
          | cons _ _ _ => exact (c1.notBad rfl).elim
          | nil =>
            refine ⟨v, v', rfl, ?_⟩
            have p := c1.post
            have p : PostS X.K Wx D g H σ s ((setT i t >>= fun _ => setT j t' >>= fun _ => dNx) s1) := p
            rcases bind_setT (i := i) (t := t) (k := fun _ => setT j t' >>= fun _ => dNx) (s := s1) with e2 | ⟨s2, e2, e3⟩
            · rw [e2] at p; exact p.elim
            · rw [e3] at p
              obtain ⟨sd2, ev2⟩ := setT_run e2 c1.ev c1.sd (show RT X.K H g1 H1 σ s1 v t from r1)
              have r2' := RT.setOther (v := v) e2 c1.sd (show RT X.K H g1 H1 σ s1 v' t' from r2) fun a d e4 e5 d' e6 e7 => ap1 a d' (by rw [e6]) e7 (v', .t t') (by simp) d (by rw [e4]) e5
              rcases bind_setT (i := j) (t := t') (k := fun _ => dNx) (s := s2) with e4 | ⟨s3, e4, e5⟩
              · rw [e4] at p; exact p.elim
              · rw [e5] at p
                obtain ⟨sd3, ev3⟩ := setT_run e4 ev2 sd2 r2'
                exact p _ _ _ sd3 ev3)⟩
theorem ds_par3 {i j l : Nat} {x y z : Str} {a b c : Expr} {fl : M (List VR)} {px py pz pt : Pos} {kt k2 pt2} (hc : X.calm = true) (hN : X.N.Nodup) (hi : X.N[i]? = some x) (hj : X.N[j]? = some y) (hl : X.N[l]? = some z) (hij : i ≠ j) (hil : i ≠ l) (hjl : j ≠ l)
    (hx : X.env.scope.names.lookup x = some .local) (hy : X.env.scope.names.lookup y = some .local) (hz : X.env.scope.names.lookup z = some .local) (ha : DA X Wx [a, b, c] fl)
    (hw : swappedStores [.Tuple [.Name x px, .Name y py, .Name z pz] kt pt] (.Tuple [a, b, c] k2 pt2) X.env = pure (some [x, y, z]) := by rfl)
    (hs : swapsWithSole [.Tuple [.Name x px, .Name y py, .Name z pz] kt pt] (.Tuple [a, b, c] k2 pt2) pos.line X.env = pure false := by rfl) :
    DS X Wx (.Assign [.Tuple [.Name x px, .Name y py, .Name z pz] kt pt] (.Tuple [a, b, c] k2 pt2) pos) (dPar3 i j l fl) := ⟨fun pins s σ H D I h => (L2.ps_par3 hc hN hi hj hl hij hil hjl hx hy hz ha hw hs).run pins s σ H D I (by
  obtain ⟨g, s, c⟩ := h.start
  refine c.bind.mono fun xs H1 ⟨rs, g1, s1, c1, r1, e1⟩ => ?_
  cases r1 with
  | nil => exact (c1.notBad rfl).elim
  | @cons v r vs rs r1 r2 ap1 =>
    cases r2 with
    | nil => cases r <;> exact (c1.notBad rfl).elim
    | @cons v' r' vs rs r2 r3 ap2 =>
      cases r3 with
      | nil => cases r <;> cases r' <;> exact (c1.notBad rfl).elim
      | @cons v'' r'' vs rs r3 r4 ap3 =>
      cases r with
      | slot i => exact (c1.notBad rfl).elim
      | t t =>
        cases r' with
        | slot i => exact (c1.notBad rfl).elim
        | t t' =>
          cases r'' with
          | slot i => cases rs <;> exact (c1.notBad rfl).elim
          | t t'' =>
            cases r4 with
            | cons _ _ _ => exact (c1.notBad rfl).elim
            | nil =>
              refine ⟨v, v', v'', rfl, ?_⟩
              have p := c1.post
              have p : PostS X.K Wx D g H σ s ((setT i t >>= fun _ => setT j t' >>= fun _ => setT l t'' >>= fun _ => dNx) s1) := p
              rcases bind_setT (i := i) (t := t) (k := fun _ => setT j t' >>= fun _ => setT l t'' >>= fun _ => dNx) (s := s1) with e2 | ⟨s2, e2, e3⟩
              · rw [e2] at p; exact p.elim
              · rw [e3] at p
                obtain ⟨sd2, ev2⟩ := setT_run e2 c1.ev c1.sd (show RT X.K H g1 H1 σ s1 v t from r1)
                have r2' := RT.setOther (v := v) e2 c1.sd (show RT X.K H g1 H1 σ s1 v' t' from r2) fun a d e4 e5 d' e6 e7 => ap1 a d' (by rw [e6]) e7 (v', .t t') (by simp) d (by rw [e4]) e5
                have r3' := RT.setOther (v := v) e2 c1.sd (show RT X.K H g1 H1 σ s1 v'' t'' from r3) fun a d e4 e5 d' e6 e7 => ap1 a d' (by rw [e6]) e7 (v'', .t t'') (by simp) d (by rw [e4]) e5
                rcases bind_setT (i := j) (t := t') (k := fun _ => setT l t'' >>= fun _ => dNx) (s := s2) with e4 | ⟨s3, e4, e5⟩
                · rw [e4] at p; exact p.elim
                · rw [e5] at p
                  obtain ⟨sd3, ev3⟩ := setT_run e4 ev2 sd2 r2'
                  have r3'' := RT.setOther (v := v') e4 sd2 r3' fun a d e6 e7 d' e8 e9 => ap2 a d' (by rw [e8]) e9 (v'', .t t'') (by simp) d (by rw [e6]) e7
                  rcases bind_setT (i := l) (t := t'') (k := fun _ => dNx) (s := s3) with e6 | ⟨s4, e6, e7⟩
                  · rw [e6] at p; exact p.elim
                  · rw [e7] at p
                    obtain ⟨sd4, ev4⟩ := setT_run e6 ev3 sd3 r3''
                    exact p _ _ _ sd4 ev4)⟩

/-! ### x.append(e), x.extend(e) -/
/-- what the slot i, its own or lent, holds -/
def heldD (i : Nat) : State → Option (W × D) := fun s => match s.env[i]? with
  | some (some (.own d)) => some (.own d, d)
  | some (some (.lent d)) => some (.lent d, d)
  | _ => none
def updD (i : Nat) (h : D → Option D) : M Unit := fun s => match heldD i s with
  | some (w, d) => match h d with
    | some d' => .ok () (putE s i (w.re d'))
    | none => .bad
  | none => .bad
def isLst : D → Bool
  | .lst _ => true
  | _ => false
def chkD (i : Nat) (p : D → Bool) : M Unit := fun s => match heldD i s with
  | some (_, d) => if p d then .ok () s else .bad
  | none => .bad
theorem heldD_some {i : Nat} {s : State} {w : W} {d : D} (h : heldD i s = some (w, d)) : s.env[i]? = some (some w) ∧ w.mut = true ∧ w.data = d := by
  unfold heldD at h
  cases e : s.env[i]? with
  | none => rw [e] at h; cases h
  | some u =>
    cases u with
    | none => rw [e] at h; cases h
    | some u =>
      cases u with
      | own d' => rw [e] at h; cases h; exact ⟨rfl, rfl, rfl⟩
      | lent d' => rw [e] at h; cases h; exact ⟨rfl, rfl, rfl⟩
      | fz d' => rw [e] at h; cases h
      | lk d' => rw [e] at h; cases h
      | lkl d' => rw [e] at h; cases h
section
variable {K : PySem.W.Frag} {g : Gh} {H : Hp} {σ : Slots} {s : State} {i : Nat} {w : W} {d : D}
theorem heldD_at (sd : SD K g H σ s) (h : heldD i s = some (w, d)) : ∃ a o, σ[i]? = some (some (V.ref a)) ∧ H a = some o ∧ ObAt K g o d := by
  obtain ⟨e, m, ed⟩ := heldD_some h
  obtain ⟨v, ev, wa⟩ := sd.slot i w e
  cases w with
  | own d' => obtain ⟨a, o, rfl, _, q, ob⟩ := wa; cases ed; exact ⟨a, o, ev, q, ob⟩
  | lent d' => obtain ⟨a, o, rfl, _, q, ob⟩ := wa; cases ed; exact ⟨a, o, ev, q, ob⟩
  | _ => cases m
theorem chkD_res (i : Nat) (p : D → Bool) (s : State) : (∃ w d, heldD i s = some (w, d) ∧ p d = true ∧ chkD i p s = .ok () s) ∨ chkD i p s = .bad := by
  unfold chkD
  cases e : heldD i s with
  | none => exact .inr rfl
  | some z =>
    obtain ⟨w, d⟩ := z
    cases q : p d with
    | false => exact .inr (by simp only [q]; rfl)
    | true => exact .inl ⟨w, d, rfl, q, by simp only [q]; rfl⟩
theorem updD_res (i : Nat) (h : D → Option D) (s : State) : (∃ w d d', heldD i s = some (w, d) ∧ h d = some d' ∧ updD i h s = .ok () (putE s i (w.re d'))) ∨ updD i h s = .bad := by
  unfold updD
  cases e : heldD i s with
  | none => exact .inr rfl
  | some z =>
    obtain ⟨w, d⟩ := z
    cases q : h d with
    | none => exact .inr (by simp only [q])
    | some d' => exact .inl ⟨w, d, d', rfl, q, by simp only [q]⟩
end
def pushD (d : D) : D → Option D
  | .lst ds => if ds.length < sizeLine then some (.lst (ds ++ [d])) else none
  | _ => none
def dAppend (i : Nat) (f : M VR) : M T := chkD i isLst >>= fun _ => f >>= fun r => frz r >>= fun d => updD i (pushD d) >>= fun _ => dC .non
def extD (d : D) : D → Option D
  | .lst ds => match d with
    | .lst es => if ds.length + es.length ≤ sizeLine then some (.lst (ds ++ es)) else none
    | _ => none
  | _ => none
def dExtend (i : Nat) (f : M VR) : M T := chkD i isLst >>= fun _ => f >>= fun r => frz r >>= fun d => updD i (extD d) >>= fun _ => dC .non
section
variable {α β : Type} {K : PySem.W.Frag} {Wx : WX} {σ : Slots} {R : Gh → Hp → State → β → α → Prop} {Q : β → Hp → Prop} {g0 g1 : Gh} {H0 H1 Hq : Hp} {s0 s1 : State}
theorem Cur.chkD {i : Nat} {p : D → Bool} {k : Unit → M α} (c : Cur K Wx σ R Q g0 H0 s0 ((chkD i p >>= k) s1) g1 H1 s1) :
    ∃ w d, heldD i s1 = some (w, d) ∧ p d = true ∧ Cur K Wx σ R Q g0 H0 s0 (k () s1) g1 H1 s1 := by
  rw [bind_eq] at c
  rcases chkD_res i p s1 with ⟨w, d, h1, h2, h3⟩ | h
  · rw [h3] at c; exact ⟨w, d, h1, h2, c⟩
  · rw [h] at c; exact (c.notBad rfl).elim
theorem Cur.updD {i : Nat} {h : D → Option D} {k : Unit → M α} (c : Cur K Wx σ R Q g0 H0 s0 ((updD i h >>= k) s1) g1 H1 s1) :
    ∃ w d d' a o, heldD i s1 = some (w, d) ∧ h d = some d' ∧ σ[i]? = some (some (V.ref a)) ∧ H1 a = some o ∧ ObAt K g1 o d ∧
      ∀ o', ObAt K g1 o' d' → Cur K Wx σ R Q g0 H0 s0 (k () (putE s1 i (w.re d'))) g1 (upd H1 a o') (putE s1 i (w.re d')) := by
  rw [bind_eq] at c
  rcases updD_res i h s1 with ⟨w, d, d', h1, h2, h3⟩ | h
  · rw [h3] at c
    obtain ⟨a, o, ea, eo, ob⟩ := heldD_at c.sd h1
    obtain ⟨e1, m, _⟩ := heldD_some h1
    refine ⟨w, d, d', a, o, h1, h2, ea, eo, ob, fun o' ob' => ?_⟩
    obtain ⟨sd2, ev2⟩ := c.sd.write e1 m ea ob'
    exact ⟨c.ev.trans ev2, sd2, c.post⟩
  · rw [h] at c; exact (c.notBad rfl).elim
end
/-- the list at a slot: a method of it that changes it -/
theorem lstMut_run {i : Nat} {f : M VR} {h : D → D → Option D} {r : V → List V → Hp → VK → Prop}
    (hl : ∀ d x d', h d x = some d' → ∃ ds, x = .lst ds) (hr : ∀ (g : Gh) (H : Hp) (σ : Slots) (s : State) (a : Addr) (xs : List V) (ds : List D) (y : V) (d d' : D) (Q : V → Hp → Prop), SD X.K g H σ s → H a = some (.lst xs) → Reps X.K g xs ds → Rep X.K g y d → h d (.lst ds) = some d' → (∀ o', ObAt X.K g o' d' → Q .non (upd H a o')) → r (.ref a) [y] H Q)
    {σ : Slots} {H : Hp} {Q : V → Hp → Prop} (q : tE X.K Wx (chkD i isLst >>= fun _ => f >>= fun r => frz r >>= fun d => updD i (h d) >>= fun _ => dC .non) σ H Q) :
    tBM X.K "list" r (tVar i) (tCons (tV X.K Wx f) tNil) σ H Q := by
  obtain ⟨g, s, c⟩ := q.start
  obtain ⟨w, d, h1, h2, c1⟩ := c.chkD
  obtain ⟨a, o, ea, eo, ob⟩ := heldD_at c.sd h1
  refine ⟨.ref a, ea, ?_, ?_⟩
  · cases d with
    | lst ds => obtain ⟨xs, rfl, _⟩ := ob; exact .inl ⟨rfl, xs, .of eo⟩
    | _ => cases h2
  · refine c1.bind.mono fun y H1 ⟨r1, g1, s1, c2, r2, e2⟩ => ?_
    obtain ⟨d1, g2, s2, c3, r3, le3⟩ := c2.frz r2
    obtain ⟨w', d', d'', a', o', h3, h4, ea', eo', ob', k⟩ := c3.updD
    rw [ea] at ea'; cases ea'
    obtain ⟨ds, rfl⟩ := hl _ _ _ h4
    obtain ⟨xs, rfl, rx⟩ := ob'
    refine hr g2 H1 σ s2 a xs ds y d1 d'' Q c3.sd eo' rx r3 h4 fun o' ob' => ?_
    exact (k o' ob').done rfl ⟨.non, fun _ _ z => nomatch z⟩
theorem de_append {i : Nat} {x : Str} {f : M VR} {p apos cpos : Pos} (hN : X.N[i]? = some x) (hv : Vis X.env.scope x) (he : DV X Wx e f) (hd : (x == ("__debug__" : Str)) = false := by decide) (hcd : (x == ("__classdict__" : Str)) = false := by decide)
    (h1 : attributeBase (.Name x p) "append" X.env (eval (.Name x p) X.env) = eval (.Name x p) X.env := by rfl)
    (h2 : ((backTo cpos (starEach (e :: []) X.env)).all (fun x => !x.1) && (backToKw cpos (keywordEach [] X.env)).all (fun x => x.1.isSome) && decide ((e :: []).length + ([] : List Keyword).length + (if ([] : List Keyword).isEmpty then 0 else 1) < 30)) = true := by rfl)
    (h3 : (apos.endLine == cpos.line) = true := by rfl) (h4 : starEach (e :: []) X.env = (false, eval e X.env) :: starEach [] X.env := by rfl) (h5 : (backTo cpos (starEach [] X.env)).any (·.1) = false := by rfl) :
    DE X Wx (.Call (.Attribute (.Name x p) "append" apos) [e] [] cpos) (dAppend i f) :=
  ⟨fun pins s σ H Q I q => (pe_bm PySem.F.plainAttrs_list PySem.F.slot_list_append PySem.F.type_list_append mt_append (pe_var hN hv hd hcd) (pa_cons he pa_nil h4) h1 h2 h3 h4 h5).run pins s σ H Q I (by
    refine lstMut_run (h := pushD) (fun d x d' h => ?_) (fun g H σ s a xs ds y d d' Q sd ha rx ry hh k => ?_) q
    · cases x with
      | lst ds => exact ⟨ds, rfl⟩
      | _ => cases h
    · unfold pushD at hh
      by_cases hz : ds.length < sizeLine
      · simp only [if_pos hz] at hh; cases hh
        exact ⟨a, xs, y, rfl, rfl, ha, by rw [rx.length]; exact hz, k _ (.lst (rx.append (.one ry)))⟩
      · simp only [if_neg hz] at hh; cases hh)⟩
theorem de_extend {i : Nat} {x : Str} {f : M VR} {p apos cpos : Pos} (hN : X.N[i]? = some x) (hv : Vis X.env.scope x) (he : DV X Wx e f) (hd : (x == ("__debug__" : Str)) = false := by decide) (hcd : (x == ("__classdict__" : Str)) = false := by decide)
    (h1 : attributeBase (.Name x p) "extend" X.env (eval (.Name x p) X.env) = eval (.Name x p) X.env := by rfl)
    (h2 : ((backTo cpos (starEach (e :: []) X.env)).all (fun x => !x.1) && (backToKw cpos (keywordEach [] X.env)).all (fun x => x.1.isSome) && decide ((e :: []).length + ([] : List Keyword).length + (if ([] : List Keyword).isEmpty then 0 else 1) < 30)) = true := by rfl)
    (h3 : (apos.endLine == cpos.line) = true := by rfl) (h4 : starEach (e :: []) X.env = (false, eval e X.env) :: starEach [] X.env := by rfl) (h5 : (backTo cpos (starEach [] X.env)).any (·.1) = false := by rfl) :
    DE X Wx (.Call (.Attribute (.Name x p) "extend" apos) [e] [] cpos) (dExtend i f) :=
  ⟨fun pins s σ H Q I q => (pe_bm PySem.F.plainAttrs_list PySem.F.slot_list_extend PySem.F.type_list_extend mt_extend (pe_var hN hv hd hcd) (pa_cons he pa_nil h4) h1 h2 h3 h4 h5).run pins s σ H Q I (by
    refine lstMut_run (h := extD) (fun d x d' h => ?_) (fun g H σ s a xs ds y d d' Q sd ha rx ry hh k => ?_) q
    · cases x with
      | lst ds => exact ⟨ds, rfl⟩
      | _ => cases h
    · unfold extD at hh
      cases d with
      | lst es =>
        by_cases hz : ds.length + es.length ≤ sizeLine
        · simp only [if_pos hz] at hh; cases hh
          obtain ⟨b, ys, rfl, hb, rb⟩ := VAt.lst sd (.inl ry)
          exact ⟨a, b, xs, ys, rfl, rfl, ha, hb, by rw [rx.length, rb.length]; exact hz, k _ (.lst (rx.append rb))⟩
        · simp only [if_neg hz] at hh; cases hh
      | _ => cases hh)⟩
/-! ### x[k] = v -/
def putKD {κ : Type} [DecidableEq κ] (kvs : List (κ × D)) (k : κ) (v : D) : List (κ × D) :=
  if kvs.any (fun kv => decide (kv.1 = k)) = true then kvs.map (fun kv => if kv.1 = k then (kv.1, v) else kv) else kvs ++ [(k, v)]
theorem putKD_rep {K : PySem.W.Frag} {g : Gh} {κ : Type} [DecidableEq κ] {kvs : List (κ × V)} {ds : List (κ × D)} {k : κ} {v : V} {d : D} (e : kvs.map Prod.fst = ds.map Prod.fst) (r : Reps K g (kvs.map Prod.snd) (ds.map Prod.snd)) (rv : Rep K g v d) :
    (putK kvs k v).map Prod.fst = (putKD ds k d).map Prod.fst ∧ Reps K g ((putK kvs k v).map Prod.snd) ((putKD ds k d).map Prod.snd) := by
  have ha : ∀ {kvs : List (κ × V)} {ds : List (κ × D)}, kvs.map Prod.fst = ds.map Prod.fst → kvs.any (fun kv => decide (kv.1 = k)) = ds.any (fun kv => decide (kv.1 = k)) := by
    intro kvs
    induction kvs with
    | nil => intro ds h; cases ds with
      | nil => rfl
      | cons _ _ => cases h
    | cons p ps ih => intro ds h; cases ds with
      | nil => cases h
      | cons q qs =>
        rw [List.any_cons, List.any_cons, ih (List.cons.inj h).2, show p.1 = q.1 from (List.cons.inj h).1]
  have hm : ∀ {kvs : List (κ × V)} {ds : List (κ × D)}, kvs.map Prod.fst = ds.map Prod.fst → Reps K g (kvs.map Prod.snd) (ds.map Prod.snd) →
      (kvs.map (fun kv => if kv.1 = k then (kv.1, v) else kv)).map Prod.fst = (ds.map (fun kv => if kv.1 = k then (kv.1, d) else kv)).map Prod.fst ∧
      Reps K g ((kvs.map (fun kv => if kv.1 = k then (kv.1, v) else kv)).map Prod.snd) ((ds.map (fun kv => if kv.1 = k then (kv.1, d) else kv)).map Prod.snd) := by
    intro kvs
    induction kvs with
    | nil => intro ds h _; cases ds with
      | nil => exact ⟨rfl, .nil⟩
      | cons _ _ => cases h
    | cons p ps ih => intro ds h r; cases ds with
      | nil => cases h
      | cons q qs =>
        cases r with
        | cons r1 r2 =>
          obtain ⟨i1, i2⟩ := ih (List.cons.inj h).2 r2
          have e1 : p.1 = q.1 := (List.cons.inj h).1
          by_cases z : p.1 = k
          · have z2 : q.1 = k := e1 ▸ z
            simp only [List.map_cons, z, z2, if_true]
            exact ⟨by rw [i1], .cons rv i2⟩
          · have z2 : ¬ q.1 = k := fun h => z (e1.trans h)
            simp only [List.map_cons, z, z2, if_false]
            exact ⟨by rw [i1, e1], .cons r1 i2⟩
  unfold putK putKD
  rw [ha e]
  split
  · exact hm e r
  · rw [List.map_append, List.map_append, List.map_append, List.map_append]
    exact ⟨by rw [e]; rfl, r.append (.one rv)⟩
/-- the object behind a store -/
def putD (k d : D) : D → Option D
  | .lst ds => match k with
    | .int i => (ixN ds.length i).map fun j => .lst (ds.set j d)
    | _ => none
  | .dk kvs => match keyD k with
    | some q => if kvs.length < sizeLine then some (.dk (putKD kvs q d)) else none
    | none => none
  | .dt kvs => match k with
    | .tup (x :: xs) => match keysD (x :: xs) with
      | some q => if kvs.length < sizeLine then some (.dt (putKD kvs q d)) else none
      | none => none
    | _ => none
  | _ => none
def rSetDD : TSet := fun o i v H Q => ∃ a H', o = .ref a ∧ DPut H a i v H' ∧ Q H'
theorem set_dict (hu : X.A.units + 1 < cLine) : PSet X rSetDD := by
  rintro pins s σ H o i v ov iv u Q I ro ri rv ⟨a, H', rfl, dp, q⟩
  cases ro
  exact d_setItem hu I dp ri rv fun s4 I4 => ⟨H', I4, q⟩
theorem PSet.or {t t' : TSet} (h : PSet X t) (h' : PSet X t') : PSet X (fun o i v H Q => t o i v H Q ∨ t' o i v H Q) := by
  rintro pins s σ H o i v ov iv u Q I ro ri rv (q | q)
  · exact h pins s σ H o i v ov iv u Q I ro ri rv q
  · exact h' pins s σ H o i v ov iv u Q I ro ri rv q
def dSub (i : Nat) (fv fk : M VR) : M Flow := fv >>= fun v => chkD i (fun _ => true) >>= fun _ => fk >>= fun k => readV k >>= fun kd => frz v >>= fun d => updD i (putD kd d) >>= fun _ => dNx
section
variable {K : PySem.W.Frag} {Wx : WX} {D : Ends} {g0 g1 g2 : Gh} {H0 H1 H2 : Hp} {σ0 σ1 σ2 : Slots} {s0 s1 s2 : State}
theorem CurS.read {x : VR} {v : V} {k : DL.D → M Flow} {Hq : Hp} (c : CurS K Wx D g0 H0 σ0 s0 ((readV x >>= k) s1) g1 H1 σ1 s1) (h : RVR K σ1 Hq g1 H1 s1 v x) :
    ∃ d, CurS K Wx D g0 H0 σ0 s0 (k d s1) g1 H1 σ1 s1 ∧ VAt K g1 H1 v d := by
  rw [bind_eq] at c
  rcases readV_res x s1 with ⟨d, e⟩ | e
  · rw [e] at c; exact ⟨d, c, (h.read c.sd e).2⟩
  · rw [e] at c; exact (c.notBad rfl).elim
theorem CurS.frz {r : VR} {v : V} {k : DL.D → M Flow} (c : CurS K Wx D g0 H0 σ0 s0 ((frz r >>= k) s1) g1 H1 σ1 s1) (h : RVR K σ1 H0 g1 H1 s1 v r) :
    ∃ d g2 s2, CurS K Wx D g0 H0 σ0 s0 (k d s2) g2 H1 σ1 s2 ∧ Rep K g2 v d ∧ Le g1 g2 := by
  rw [bind_eq] at c
  rcases frz_res r s1 with ⟨d, s2, e⟩ | e
  · rw [e] at c
    obtain ⟨g2, sd2, ev2, rp, _, le⟩ := frz_run e c.ev c.sd h
    exact ⟨d, g2, s2, ⟨ev2, sd2, c.post⟩, rp, le⟩
  · rw [e] at c; exact (c.notBad rfl).elim
theorem CurS.chkD {i : Nat} {p : DL.D → Bool} {k : Unit → M Flow} (c : CurS K Wx D g0 H0 σ0 s0 ((chkD i p >>= k) s1) g1 H1 σ1 s1) :
    ∃ w d, heldD i s1 = some (w, d) ∧ p d = true ∧ CurS K Wx D g0 H0 σ0 s0 (k () s1) g1 H1 σ1 s1 := by
  rw [bind_eq] at c
  rcases chkD_res i p s1 with ⟨w, d, h1, h2, h3⟩ | h
  · rw [h3] at c; exact ⟨w, d, h1, h2, c⟩
  · rw [h] at c; exact (c.notBad rfl).elim
theorem CurS.updD {i : Nat} {h : DL.D → Option DL.D} {k : Unit → M Flow} (c : CurS K Wx D g0 H0 σ0 s0 ((updD i h >>= k) s1) g1 H1 σ1 s1) :
    ∃ w d d' a o, heldD i s1 = some (w, d) ∧ h d = some d' ∧ σ1[i]? = some (some (V.ref a)) ∧ H1 a = some o ∧ ObAt K g1 o d ∧
      ∀ o', ObAt K g1 o' d' → CurS K Wx D g0 H0 σ0 s0 (k () (putE s1 i (w.re d'))) g1 (upd H1 a o') σ1 (putE s1 i (w.re d')) := by
  rw [bind_eq] at c
  rcases updD_res i h s1 with ⟨w, d, d', h1, h2, h3⟩ | h
  · rw [h3] at c
    obtain ⟨a, o, ea, eo, ob⟩ := heldD_at c.sd h1
    obtain ⟨e1, m, _⟩ := heldD_some h1
    refine ⟨w, d, d', a, o, h1, h2, ea, eo, ob, fun o' ob' => ?_⟩
    obtain ⟨sd2, ev2⟩ := c.sd.write e1 m ea ob'
    exact ⟨c.ev.trans ev2, sd2, c.post⟩
  · rw [h] at c; exact (c.notBad rfl).elim
end
theorem ds_sub {i : Nat} {x : Str} {p tpos : Pos} {k e : Expr} {fv fk : M VR} (hu : X.A.units + 1 < cLine) (hN : X.N[i]? = some x) (hv : Vis X.env.scope x) (he : DV X Wx e fv) (hk : DV X Wx k fk) (hd : (x == ("__debug__" : Str)) = false := by decide) (hcd : (x == ("__classdict__" : Str)) = false := by decide)
    (ha : ∀ v, assign (.Subscript (.Name x p) k tpos) X.env v = (do
      let ov ← holding [v] (eval (.Name x p) X.env)
      let iv ← holding [v, ov] (eval k X.env)
      standAt tpos
      holding [v, ov, iv] (setItem ov iv v)
      release [v, ov, iv] []) := by intro _; rfl)
    (hs : swapsWithSole [.Subscript (.Name x p) k tpos] e pos.line X.env = pure false := by rfl) (hw : swappedStores [.Subscript (.Name x p) k tpos] e X.env = pure none := by rfl)
    (h1 : (assignEach [.Subscript (.Name x p) k tpos] X.env).map (·.2) = [assign (.Subscript (.Name x p) k tpos) X.env] := by rfl) :
    DS X Wx (.Assign [.Subscript (.Name x p) k tpos] e pos) (dSub i fv fk) := ⟨fun pins s σ H D I h => (ps_asg he (pg_sub (pe_var hN hv hd hcd) hk (PSet.or set_list (set_dict hu)) ha) hs hw h1).run pins s σ H D I (by
  obtain ⟨g, s, c⟩ := h.start
  refine c.bind.mono fun v H1 ⟨v', g1, s1, c1, r1, e1⟩ => ?_
  obtain ⟨w, d, h1, _, c2⟩ := c1.chkD
  obtain ⟨a, o, ea, eo, ob⟩ := heldD_at c1.sd h1
  refine ⟨.ref a, ea, c2.bind.mono fun kv H2 ⟨k', g2, s2, c3, r3, e3⟩ => ?_⟩
  obtain ⟨kd, c4, v4⟩ := c3.read r3
  obtain ⟨dv, g3, s3, c5, r5, le5⟩ := c4.frz (r1.ev e3)
  obtain ⟨w', d', d'', a', o', h3, h4, ea', eo', ob', k⟩ := c5.updD
  rw [ea] at ea'; cases ea'
  have v5 := v4.le le5
  unfold putD at h4
  cases d' with
  | lst ds =>
    cases kd with
    | int j =>
      cases q : ixN ds.length j with
      | none => simp only [q] at h4; cases h4
      | some n =>
        simp only [q] at h4; cases h4
        obtain ⟨xs, rfl, rx⟩ := ob'
        cases v5.int
        exact .inl ⟨a, xs, j, n, rfl, rfl, eo', by rw [rx.length]; exact q, (k _ (.lst (rx.set n r5))).next rfl (k _ (.lst (rx.set n r5))).sd .refl⟩
    | _ => cases h4
  | dk kvs =>
    cases q : keyD kd with
    | none => simp only [q] at h4; cases h4
    | some qk =>
      by_cases hz : kvs.length < sizeLine
      · simp only [q, if_pos hz] at h4; cases h4
        obtain ⟨vs, rfl, ek, rx⟩ := ob'
        obtain ⟨p1, p2⟩ := putKD_rep (k := qk) ek rx r5
        have ey := keyD_rep v5 q
        have el := congrArg List.length ek
        rw [List.length_map, List.length_map] at el
        exact .inr ⟨a, _, rfl, .inl ⟨vs, qk, eo', ey, by rw [el]; exact hz, rfl⟩, (k _ (.dk p1 p2)).next rfl (k _ (.dk p1 p2)).sd .refl⟩
      · simp only [q, if_neg hz] at h4; cases h4
  | dt kvs =>
    cases kd with
    | tup ks =>
      cases ks with
      | nil => cases h4
      | cons k0 ks =>
        cases q : keysD (k0 :: ks) with
        | none => simp only [q] at h4; cases h4
        | some qk =>
          by_cases hz : kvs.length < sizeLine
          · simp only [q, if_pos hz] at h4; cases h4
            obtain ⟨vs, rfl, ek, rx⟩ := ob'
            obtain ⟨p1, p2⟩ := putKD_rep (k := qk) ek rx r5
            obtain ⟨b, xs, rfl, hb, rb⟩ := v5.tupH c5.sd
            rw [keysD_rep rb q] at hb
            have el := congrArg List.length ek
            rw [List.length_map, List.length_map] at el
            exact .inr ⟨a, _, rfl, .inr ⟨vs, qk, b, eo', rfl, hb, by rw [el]; exact hz, rfl⟩, (k _ (.dt p1 p2)).next rfl (k _ (.dt p1 p2)).sd .refl⟩
          · simp only [q, if_neg hz] at h4; cases h4
    | _ => cases h4
  | _ => cases h4)⟩

/-! ### while -/
def dWhile (c : M Bool) (b : M Flow) : Nat → M Flow
  | 0 => fun _ => .bad
  | n + 1 => c >>= fun t => if t = true then fun s => match b s with
      | .ok .nx s1 => dWhile c b n s1
      | .ok .ct s1 => dWhile c b n s1
      | .ok .bk s1 => .ok .nx s1
      | r => r
    else dNx
theorem ds_while {c : Expr} {body : List Stmt} {fc : M Bool} {fb : M Flow} (n : Nat) (hp : PassesOwn (model X.prog X.w) X.A X.env X.xe) (hc : DT X Wx c fc) (hb : DSs X Wx body fb) : DS X Wx (.While c body [] pos) (dWhile fc fb n) :=
  ⟨fun pins s σ H D I h => (ps_while hp hc hb).run pins s σ H D I (by
    refine ⟨fun m σ H => tS X.K Wx (dWhile fc fb m) D σ H, ⟨n, h⟩, fun m σ H hW => ?_⟩
    obtain ⟨g, s, c⟩ := hW.start
    cases m with
    | zero => exact (c.notBad rfl).elim
    | succ m =>
      unfold dWhile at c
      refine c.bind.mono fun t H1 ⟨t', g1, s1, c1, r1, e1⟩ => ?_
      cases (show t = t' from r1)
      cases t with
      | false =>
        rw [if_neg Bool.false_ne_true] at c1 ⊢
        exact c1.next rfl c1.sd .refl
      | true =>
        rw [if_pos rfl] at c1 ⊢
        refine ⟨fun σ' H' => tS X.K Wx (dWhile fc fb m) D σ' H', fun σ' H' hN => ⟨m, Nat.lt_succ_self m, hN⟩, g1, s1, c1.sd, ?_⟩
        have p := c1.post
        cases q : fb s1 with
        | bad => simp only [q] at p; exact p
        | err x s2 => simp only [q] at p; exact p.shift c1.ev
        | ok fl s2 =>
          simp only [q] at p
          cases fl with
          | nx => exact fun σ' g' H' sd' ev' => ⟨g', s2, sd', p.shift (c1.ev.trans ev')⟩
          | ct => exact fun σ' g' H' sd' ev' => ⟨g', s2, sd', p.shift (c1.ev.trans ev')⟩
          | bk => exact fun σ' g' H' sd' ev' => p σ' g' H' sd' (c1.ev.trans ev')
          | rt t => exact (show PostS X.K Wx D g H σ s (.ok (.rt t) s2) from p).shift c1.ev)⟩
end
end DL

set_option Elab.async false
set_option linter.all false
set_option maxRecDepth 100000
set_option maxHeartbeats 1000000
/-! DLFor: for -/
namespace DL
open PySem PySem.Spec PyProof.Rows L2

/-! ### locking a list at a slot while it is walked -/
def lockS (i : Nat) : State → State := fun s => match s.env[i]? with
  | some (some (.own d)) => putE s i (.lk d)
  | some (some (.lent d)) => putE s i (.lkl d)
  | _ => s
/-- .. back to what it was ahead -/
def unlockW (i : Nat) (w : Option (Option W)) (s : State) : State := match w with
  | some (some (.own _)) => (match s.env[i]? with
    | some (some (.lk d)) => putE s i (.own d)
    | _ => s)
  | some (some (.lent _)) => (match s.env[i]? with
    | some (some (.lkl d)) => putE s i (.lent d)
    | _ => s)
  | _ => s
section
variable {K : PySem.W.Frag} {g g' g0 g1 : Gh} {H H' H0 H1 : Hp} {σ σ' σ0 σ1 : Slots} {s s' s0 s1 : State} {a : Addr} {o : HO} {i : Nat} {d : D} {w u : W}
/-- a slot's holding changes its kind, the data stay -/
theorem SD.kind (sd : SD K g H σ s) (e : s.env[i]? = some (some w)) (hw : w.held = true) (hu : u.held = true) (wa : ∀ v, σ[i]? = some (some v) → WAt K g H v u) : SD K g H σ (putE s i u) where
  gh := sd.gh
  len := by show (s.env.set i _).length = _; rw [List.length_set]; exact sd.len
  slot := fun j x ej => by
    rcases getE_set ej with ⟨rfl, rfl⟩ | ⟨_, ej⟩
    · obtain ⟨v, ev, _⟩ := sd.slot j w e
      exact ⟨v, ev, wa v ev⟩
    · exact sd.slot j x ej
  inj := fun j k x y b e1 e2 h1 h2 x1 x2 => by
    have low : ∀ {l : Nat} {z : W}, (putE s i u).env[l]? = some (some z) → z.held = true → ∃ z', s.env[l]? = some (some z') ∧ z'.held = true := fun {l z} h hz => by
      rcases getE_set h with ⟨rfl, _⟩ | ⟨_, h⟩
      · exact ⟨w, e, hw⟩
      · exact ⟨z, h, hz⟩
    obtain ⟨x', e1', h1'⟩ := low e1 h1
    obtain ⟨y', e2', h2'⟩ := low e2 h2
    exact sd.inj j k x' y' b e1' e2' h1' h2' x1 x2
  stl := sd.stl
  sto := sd.sto
  nd := sd.nd
  ng := sd.ng
  dr := sd.dr
theorem SD.lock (sd : SD K g H σ s) : SD K g H σ (lockS i s) := by
  unfold lockS
  cases e : s.env[i]? with
  | none => exact sd
  | some x =>
    cases x with
    | none => exact sd
    | some w =>
      cases w with
      | own d =>
        refine sd.kind e rfl rfl fun v ev => ?_
        obtain ⟨v', ev', a, o, rfl, f, q, ob⟩ := sd.slot i _ e
        rw [ev] at ev'; cases ev'
        exact ⟨a, o, rfl, f, .inl q, ob⟩
      | lent d =>
        refine sd.kind e rfl rfl fun v ev => ?_
        obtain ⟨v', ev', a, o, rfl, f, q, ob⟩ := sd.slot i _ e
        rw [ev] at ev'; cases ev'
        exact ⟨a, o, rfl, f, .inl q, ob⟩
      | fz d => exact sd
      | lk d => exact sd
      | lkl d => exact sd
theorem putE_at (h : i < s.env.length) : (putE s i w).env[i]? = some (some w) := List.getElem?_set_self h
theorem putE_ne {j : Nat} (h : j ≠ i) : (putE s i w).env[j]? = s.env[j]? := List.getElem?_set_ne (Ne.symm h)
/-- from a lock to its end: the slot's holding k1 is k2 meanwhile -/
theorem Ev.kinds {k1 k2 : D → W} (hk : (k1 = W.own ∧ k2 = W.lk) ∨ (k1 = W.lent ∧ k2 = W.lkl)) (e : s.env[i]? = some (some (k1 d))) (e1 : Ev g H σ (putE s i (k2 d)) g1 H1 σ1 s1) :
    s1.env[i]? = some (some (k2 d)) ∧ σ1[i]? = σ[i]? ∧ Ev g H σ s g1 H1 σ1 (putE s1 i (k1 d)) := by
  have hl : i < s.env.length := (List.getElem?_eq_some_iff.mp e).1
  have at2 : (putE s i (k2 d)).env[i]? = some (some (k2 d)) := putE_at hl
  have fin : σ1[i]? = σ[i]? ∧ s1.env[i]? = some (some (k2 d)) := by
    rcases hk with ⟨rfl, rfl⟩ | ⟨rfl, rfl⟩
    · exact e1.lk i d at2
    · exact e1.lkl i d at2
  obtain ⟨es, eL⟩ := fin
  have hl1 : i < s1.env.length := (List.getElem?_eq_some_iff.mp eL).1
  have kmut : (k2 d).mut = false ∧ (k1 d).mut = true ∧ (k1 d).held = true ∧ (k2 d).held = true := by
    rcases hk with ⟨rfl, rfl⟩ | ⟨rfl, rfl⟩ <;> exact ⟨rfl, rfl, rfl, rfl⟩
  obtain ⟨m2, m1, h1, h2⟩ := kmut
  have muL : ∀ b, Mu g σ (putE s i (k2 d)) b → Mu g σ s b := fun b m => by
    rcases m with ⟨j, u, ej, mj, x⟩ | m
    · rcases getE_set ej with ⟨_, rfl⟩ | ⟨_, ej⟩
      · rw [m2] at mj; cases mj
      · exact .inl ⟨j, u, ej, mj, x⟩
    · exact .inr m
  have hdL : ∀ b, Hd σ (putE s i (k2 d)) b → Hd σ s b := fun b ⟨j, u, ej, mj, x⟩ => by
    rcases getE_set ej with ⟨rfl, _⟩ | ⟨_, ej⟩
    · exact ⟨j, _, e, h1, x⟩
    · exact ⟨j, u, ej, mj, x⟩
  have owL : ∀ b, OwnA σ (putE s i (k2 d)) b → OwnA σ s b := fun b ⟨j, x, ej, q⟩ => by
    by_cases z : j = i
    · subst z
      rcases hk with ⟨rfl, rfl⟩ | ⟨rfl, rfl⟩
      · exact ⟨j, d, .inl e, q⟩
      · rw [at2] at ej
        rcases ej with ej | ej <;> cases ej
    · rw [putE_ne z] at ej
      exact ⟨j, x, ej, q⟩
  refine ⟨eL, es, e1.le, fun b u hb nm => e1.keep b u hb fun m => nm (muL b m), e1.live, fun b l q => (e1.frz b l q).imp id (muL b), e1.eta, fun b m => ?_, fun b m => ?_, fun b m => ?_, fun j x h => ?_, fun j x h => ?_, fun j x h => ?_⟩
  · rcases m with ⟨j, u, ej, mj, x⟩ | m
    · rcases getE_set ej with ⟨rfl, rfl⟩ | ⟨_, ej⟩
      · exact .inl (.inl ⟨j, _, e, m1, by rw [← es]; exact x⟩)
      · exact (e1.mu b (.inl ⟨j, u, ej, mj, x⟩)).imp (muL b) id
    · exact (e1.mu b (.inr m)).imp (muL b) id
  · obtain ⟨j, u, ej, mj, x⟩ := m
    rcases getE_set ej with ⟨rfl, rfl⟩ | ⟨_, ej⟩
    · exact (e1.hd b ⟨j, _, eL, h2, x⟩).imp (hdL b) id
    · exact (e1.hd b ⟨j, u, ej, mj, x⟩).imp (hdL b) id
  · obtain ⟨j, x, ej, q⟩ := m
    by_cases z : j = i
    · subst z
      rcases hk with ⟨rfl, rfl⟩ | ⟨rfl, rfl⟩
      · exact (e1.ow b ⟨j, d, .inr eL, q⟩).imp (owL b) id
      · rw [putE_at hl1] at ej
        rcases ej with ej | ej <;> cases ej
    · rw [putE_ne z] at ej
      exact (e1.ow b ⟨j, x, ej, q⟩).imp (owL b) id
  · by_cases z : j = i
    · subst z
      rw [e] at h
      rcases hk with ⟨rfl, rfl⟩ | ⟨rfl, rfl⟩
      · cases h
      · exact ⟨es, d, .inl (putE_at hl1)⟩
    · obtain ⟨q1, d', q2⟩ := e1.fix j x (by rw [putE_ne z]; exact h)
      exact ⟨q1, d', by rw [putE_ne z]; exact q2⟩
  · have z : j ≠ i := fun z => by
      subst z
      rw [e] at h
      rcases hk with ⟨rfl, rfl⟩ | ⟨rfl, rfl⟩ <;> cases h
    obtain ⟨q1, q2⟩ := e1.lk j x (by rw [putE_ne z]; exact h)
    exact ⟨q1, by rw [putE_ne z]; exact q2⟩
  · have z : j ≠ i := fun z => by
      subst z
      rw [e] at h
      rcases hk with ⟨rfl, rfl⟩ | ⟨rfl, rfl⟩ <;> cases h
    obtain ⟨q1, q2⟩ := e1.lkl j x (by rw [putE_ne z]; exact h)
    exact ⟨q1, by rw [putE_ne z]; exact q2⟩
/-- a list or tuple (no dict) at the slot -/
def noDict : D → Bool
  | .dk _ => false
  | .dt _ => false
  | _ => true
theorem ObAt.noLock (h : ObAt K g o d) (n : noDict d = true) : lockable o = false := by
  cases d with
  | lst ds => obtain ⟨_, rfl, _⟩ := h; rfl
  | obj C ds => obtain ⟨_, _, rfl, _⟩ := h; rfl
  | dk _ => cases n
  | dt _ => cases n
  | _ => exact h.elim
/-- the lock's end -/
theorem SD.unlock (e0 : Ev g0 H0 σ0 s0 g H σ s) (sd : SD K g H σ s) (nd : ∀ w : W, s.env[i]? = some (some w) → noDict w.data = true) (e1 : Ev g H σ (lockS i s) g1 H1 σ1 s1) (sd1 : SD K g1 H1 σ1 s1) :
    SD K g1 H1 σ1 (unlockW i s.env[i]? s1) ∧ Ev g0 H0 σ0 s0 g1 H1 σ1 (unlockW i s.env[i]? s1) ∧ (∀ b, Hd σ1 (unlockW i s.env[i]? s1) b → Hd σ1 s1 b) ∧ ∀ b, OwnA σ (lockS i s) b → OwnA σ s b := by
  have plain : lockS i s = s → unlockW i s.env[i]? s1 = s1 → SD K g1 H1 σ1 (unlockW i s.env[i]? s1) ∧ Ev g0 H0 σ0 s0 g1 H1 σ1 (unlockW i s.env[i]? s1) ∧ (∀ b, Hd σ1 (unlockW i s.env[i]? s1) b → Hd σ1 s1 b) ∧ ∀ b, OwnA σ (lockS i s) b → OwnA σ s b := fun h1 h2 => by
    rw [h2]
    rw [h1] at e1 ⊢
    exact ⟨sd1, e0.trans e1, fun _ h => h, fun _ h => h⟩
  cases e : s.env[i]? with
  | none => rw [← e]; exact plain (by unfold lockS; rw [e]) (by rw [e]; rfl)
  | some x =>
    cases x with
    | none => rw [← e]; exact plain (by unfold lockS; rw [e]) (by rw [e]; rfl)
    | some w =>
      cases w with
      | fz d => rw [← e]; exact plain (by unfold lockS; rw [e]) (by rw [e]; rfl)
      | lk d => rw [← e]; exact plain (by unfold lockS; rw [e]) (by rw [e]; rfl)
      | lkl d => rw [← e]; exact plain (by unfold lockS; rw [e]) (by rw [e]; rfl)
      | own d =>
        have eL : lockS i s = putE s i (.lk d) := by unfold lockS; rw [e]
        rw [eL] at e1 ⊢
        obtain ⟨q1, q2, ev⟩ := Ev.kinds (k1 := W.own) (k2 := W.lk) (.inl ⟨rfl, rfl⟩) e e1
        have eU : unlockW i (some (some (.own d))) s1 = putE s1 i (.own d) := by unfold unlockW; rw [q1]
        rw [eU]
        refine ⟨sd1.kind q1 rfl rfl fun v hv => ?_, e0.trans ev, fun b ⟨j, u, ej, hj, x⟩ => ?_, fun b ⟨j, x, ej, q⟩ => ?_⟩
        · obtain ⟨v', ev', a, o, rfl, f, q, ob⟩ := sd1.slot i _ q1
          rw [hv] at ev'; cases ev'
          exact ⟨a, o, rfl, f, q.exact (ob.noLock (nd _ e)), ob⟩
        · rcases getE_set ej with ⟨rfl, _⟩ | ⟨_, ej⟩
          · exact ⟨j, _, q1, rfl, x⟩
          · exact ⟨j, u, ej, hj, x⟩
        · rcases ej with ej | ej
          · rcases getE_set ej with ⟨_, z⟩ | ⟨_, ej⟩
            · cases z
            · exact ⟨j, x, .inl ej, q⟩
          · rcases getE_set ej with ⟨rfl, z⟩ | ⟨_, ej⟩
            · exact ⟨j, d, .inl e, q⟩
            · exact ⟨j, x, .inr ej, q⟩
      | lent d =>
        have eL : lockS i s = putE s i (.lkl d) := by unfold lockS; rw [e]
        rw [eL] at e1 ⊢
        obtain ⟨q1, q2, ev⟩ := Ev.kinds (k1 := W.lent) (k2 := W.lkl) (.inr ⟨rfl, rfl⟩) e e1
        have eU : unlockW i (some (some (.lent d))) s1 = putE s1 i (.lent d) := by unfold unlockW; rw [q1]
        rw [eU]
        refine ⟨sd1.kind q1 rfl rfl fun v hv => ?_, e0.trans ev, fun b ⟨j, u, ej, hj, x⟩ => ?_, fun b ⟨j, x, ej, q⟩ => ?_⟩
        · obtain ⟨v', ev', a, o, rfl, f, q, ob⟩ := sd1.slot i _ q1
          rw [hv] at ev'; cases ev'
          exact ⟨a, o, rfl, f, q.exact (ob.noLock (nd _ e)), ob⟩
        · rcases getE_set ej with ⟨rfl, _⟩ | ⟨_, ej⟩
          · exact ⟨j, _, q1, rfl, x⟩
          · exact ⟨j, u, ej, hj, x⟩
        · rcases ej with ej | ej
          · rcases getE_set ej with ⟨_, z⟩ | ⟨_, ej⟩
            · cases z
            · exact ⟨j, x, .inl ej, q⟩
          · rcases getE_set ej with ⟨_, z⟩ | ⟨_, ej⟩
            · cases z
            · exact ⟨j, x, .inr ej, q⟩
end

/-! ### the loop -/
def mapS (f : State → State) : Rs Flow → Rs Flow
  | .ok fl s => .ok fl (f s)
  | .err x s => .err x (f s)
  | .bad => .bad
section
variable {K : PySem.W.Frag} {Wx : WX} {D : Ends} {g g0 g1 : Gh} {H H0 H1 : Hp} {σ σ0 σ1 : Slots} {s s0 s1 : State} {i : Nat} {r : Rs Flow}
theorem PostS.unlock (e0 : Ev g0 H0 σ0 s0 g H σ s) (sd : SD K g H σ s) (nd : ∀ w : W, s.env[i]? = some (some w) → noDict w.data = true) (p : PostS K Wx D g0 H0 σ0 s0 (mapS (unlockW i s.env[i]?) r)) : PostS K Wx D g H σ (lockS i s) r := by
  cases r with
  | ok fl s' =>
    cases fl with
    | nx => exact fun σ' g' H' sd' ev => let z := SD.unlock e0 sd nd ev sd'; p σ' g' H' z.1 z.2.1
    | bk => exact fun σ' g' H' sd' ev => let z := SD.unlock e0 sd nd ev sd'; p σ' g' H' z.1 z.2.1
    | ct => exact fun σ' g' H' sd' ev => let z := SD.unlock e0 sd nd ev sd'; p σ' g' H' z.1 z.2.1
    | rt t =>
      intro v σ' g' H' sd' ev rr
      obtain ⟨z1, z2, z3, z4⟩ := SD.unlock e0 sd nd ev sd'
      refine p v σ' g' H' z1 z2 ⟨rr.at_, fun d a e1 e2 => ⟨?_, fun hh => (rr.new d a e1 e2).2 (z3 a hh)⟩⟩
      rcases (rr.new d a e1 e2).1 with q | q
      · cases hq : H0 a with
        | none => exact .inl rfl
        | some o => exact absurd q (e0.live a (by rw [hq]; simp))
      · exact (e0.ow a (z4 a q)).symm
  | err x s' => exact fun cls d σ' g' H' sd' ev er => let z := SD.unlock e0 sd nd ev sd'; p cls d σ' g' H' z.1 z.2.1 er
  | bad => exact p
/-- what is walked: it stays -/
def Src (K : PySem.W.Frag) (g : Gh) (σ : Slots) (s : State) (v : V) (d : DL.D) : Prop :=
  Rep K g v d ∨ ∃ i : Nat, σ[i]? = some (some v) ∧ (s.env[i]? = some (some (.lk d)) ∨ s.env[i]? = some (some (.lkl d)))
theorem Src.rep {v : V} {d : DL.D} (h : Rep K g v d) : Src K g σ s v d := .inl h
theorem Src.ev {v : V} {d : DL.D} (e : Ev g H σ s g1 H1 σ1 s1) (h : Src K g σ s v d) : Src K g1 σ1 s1 v d := by
  rcases h with h | ⟨i, hv, h | h⟩
  · exact .inl (h.mono e.le)
  · obtain ⟨a, b⟩ := e.lk i d h
    exact .inr ⟨i, a.trans hv, .inl b⟩
  · obtain ⟨a, b⟩ := e.lkl i d h
    exact .inr ⟨i, a.trans hv, .inr b⟩
theorem Src.view {v : V} {d : DL.D} (sd : SD K g H σ s) (h : Src K g σ s v d) : VAt K g H v d := by
  rcases h with h | ⟨i, hv, h | h⟩
  · exact .inl h
  · obtain ⟨v', ev, wa⟩ := sd.slot i _ h
    rw [hv] at ev; cases ev
    exact wa.view
  · obtain ⟨v', ev, wa⟩ := sd.slot i _ h
    rw [hv] at ev; cases ev
    exact wa.view
/-- the iterator J yields the data ds -/
def Iter (K : PySem.W.Frag) (J : It) (g : Gh) (H : Hp) (σ : Slots) (s : State) (ds : List DL.D) : Prop :=
  ∀ (i : Nat) (g2 : Gh) (H2 : Hp) (σ2 : Slots) (s2 : State), SD K g2 H2 σ2 s2 → Ev g H σ s g2 H2 σ2 s2 →
    (ds.length ≤ i → J.stop i H2) ∧ ∀ d, ds[i]? = some d → J.go i H2 ∧ ∀ x H3, J.yld i H2 x H3 → ∃ g3, SD K g3 H3 σ2 s2 ∧ Ev g2 H2 σ2 s2 g3 H3 σ2 s2 ∧ Rep K g3 x d
def dForL (p : Pt) (b : M Flow) : List DL.D → M Flow
  | [] => dNx
  | d :: ds => fun s => match bindP p d s with
    | none => .bad
    | some s1 => match b s1 with
      | .ok .nx s2 => dForL p b ds s2
      | .ok .ct s2 => dForL p b ds s2
      | .ok .bk s2 => .ok .nx s2
      | r => r
theorem forL_run {p : Pt} {b : M Flow} {ds : List DL.D} {J : It} (sd : SD K g H σ s) (it : Iter K J g H σ s ds) (q : PostS K Wx D g H σ s (dForL p b ds s)) :
    ∃ W : Nat → Nat → Slots → Hp → Prop, (∃ m, W 0 m σ H) ∧ ∀ i m σ H, W i m σ H →
      (J.stop i H ∧ D.nx σ H) ∨ (J.go i H ∧ ∃ N : Slots → Hp → Prop, (∀ σ' H', N σ' H' → ∃ m', m' < m ∧ W (i + 1) m' σ' H') ∧ ∀ x H', J.yld i H x H' → tP K p x σ H' fun σ2 H2 => tS K Wx b { D with nx := N, ct := N, bk := D.nx } σ2 H2) := by
  refine ⟨fun i m σ' H' => m = ds.length - i ∧ i ≤ ds.length ∧ ∃ g' s', SD K g' H' σ' s' ∧ Ev g H σ s g' H' σ' s' ∧ PostS K Wx D g H σ s (dForL p b (ds.drop i) s'), ⟨ds.length, by simp, Nat.zero_le _, g, s, sd, .refl, q⟩, ?_⟩
  rintro i m σ1 H1 ⟨rfl, hi, g1, s1, sd1, ev1, p1⟩
  obtain ⟨stop, go⟩ := it i g1 H1 σ1 s1 sd1 ev1
  by_cases hlt : i < ds.length
  · have e : ds[i]? = some ds[i] := List.getElem?_eq_getElem hlt
    obtain ⟨g1', g2'⟩ := go _ e
    refine .inr ⟨g1', fun σ' H' => i + 1 ≤ ds.length ∧ ∃ g' s', SD K g' H' σ' s' ∧ Ev g H σ s g' H' σ' s' ∧ PostS K Wx D g H σ s (dForL p b (ds.drop (i + 1)) s'), fun σ' H' z => ⟨ds.length - (i + 1), by omega, rfl, z.1, z.2⟩, fun x H3 hy => ?_⟩
    obtain ⟨g3, sd3, ev3, rp3⟩ := g2' x H3 hy
    rw [List.drop_eq_getElem_cons hlt] at p1
    unfold dForL at p1
    cases q1 : bindP p ds[i] s1 with
    | none => simp only [q1] at p1; exact p1.elim
    | some s2 =>
      simp only [q1] at p1
      refine ⟨g3, s1, ds[i], sd3, rp3, s2, q1, fun σ4 _ sd4 ev4 => ⟨g3, s2, sd4, ?_⟩⟩
      have evA := ev1.trans (ev3.trans ev4)
      cases q2 : b s2 with
      | bad => simp only [q2] at p1; exact p1
      | err y s5 => simp only [q2] at p1; exact p1.shift evA
      | ok fl s5 =>
        simp only [q2] at p1
        cases fl with
        | nx => exact fun σ' g' H' sd' ev' => ⟨hlt, g', s5, sd', evA.trans ev', p1⟩
        | ct => exact fun σ' g' H' sd' ev' => ⟨hlt, g', s5, sd', evA.trans ev', p1⟩
        | bk => exact fun σ' g' H' sd' ev' => p1 σ' g' H' sd' (evA.trans ev')
        | rt t => exact fun v σ' g' H' sd' ev' rr => p1 v σ' g' H' sd' (evA.trans ev') (rr.past evA)
  · have e : i = ds.length := by omega
    subst e
    rw [List.drop_length] at p1
    exact .inl ⟨stop (Nat.le_refl _), p1 σ1 g1 H1 sd1 ev1⟩
/-! ### what is walked -/
/-- an operand that is held: frozen, or a slot -/
inductive HS where
  | d (d : DL.D) | slot (i : Nat)
def toHS : VR → M HS
  | .t t => frz (.t t) >>= fun d => pure (.d d)
  | .slot i => pure (.slot i)
def toHSs : List VR → M (List HS)
  | [] => pure []
  | r :: rs => toHS r >>= fun h => toHSs rs >>= fun hs => pure (h :: hs)
/-- slots are locked for the time of the walk -/
def dLock : List HS → (List DL.D → M Flow) → M Flow
  | [], k => k []
  | .d d :: rs, k => dLock rs fun ds => k (d :: ds)
  | .slot i :: rs, k => fun s => match s.env[i]? with
    | some (some w) => if noDict w.data = true then mapS (unlockW i s.env[i]?) (dLock rs (fun ds => k (w.data :: ds)) (lockS i s)) else .bad
    | _ => .bad
def dHold (rs : List VR) (k : List DL.D → M Flow) : M Flow := toHSs rs >>= fun hs => dLock hs k
inductive Srcs (K : PySem.W.Frag) (g : Gh) (σ : Slots) (s : State) : List V → List DL.D → Prop where
  | nil : Srcs K g σ s [] []
  | cons {v : V} {d : DL.D} {vs : List V} {ds : List DL.D} : Src K g σ s v d → Srcs K g σ s vs ds → Srcs K g σ s (v :: vs) (d :: ds)
theorem lockS_src {v : V} {w : W} (sd : SD K g H σ s) (e : s.env[i]? = some (some w)) (hv : σ[i]? = some (some v)) : Src K g σ (lockS i s) v w.data := by
  have hl : i < s.env.length := (List.getElem?_eq_some_iff.mp e).1
  cases w with
  | fz d =>
    obtain ⟨v', ev, wa⟩ := sd.slot i _ e
    rw [hv] at ev; cases ev
    exact .inl wa
  | own d => exact .inr ⟨i, hv, .inl (by unfold lockS; rw [e]; exact putE_at hl)⟩
  | lent d => exact .inr ⟨i, hv, .inr (by unfold lockS; rw [e]; exact putE_at hl)⟩
  | lk d => exact .inr ⟨i, hv, .inl (by unfold lockS; rw [e]; exact e)⟩
  | lkl d => exact .inr ⟨i, hv, .inr (by unfold lockS; rw [e]; exact e)⟩
def RH (K : PySem.W.Frag) (g : Gh) (σ : Slots) (v : V) : HS → Prop
  | .d d => Rep K g v d
  | .slot i => σ[i]? = some (some v)
inductive RHs (K : PySem.W.Frag) (g : Gh) (σ : Slots) : List V → List HS → Prop where
  | nil : RHs K g σ [] []
  | cons {v : V} {h : HS} {vs : List V} {hs : List HS} : RH K g σ v h → RHs K g σ vs hs → RHs K g σ (v :: vs) (h :: hs)
theorem RH.le {v : V} {h : HS} (l : Le g g1) (r : RH K g σ v h) : RH K g1 σ v h := by
  cases h with
  | d d => exact Rep.mono l r
  | slot i => exact r
theorem RHs.le (l : Le g g1) : ∀ {vs : List V} {hs : List HS}, RHs K g σ vs hs → RHs K g1 σ vs hs
  | _, _, .nil => .nil
  | _, _, .cons a r => .cons (a.le l) (RHs.le l r)
theorem toHSs_run : ∀ {rs : List VR} {vs : List V} {hs : List HS} {s s' : State} {g : Gh}, toHSs rs s = .ok hs s' → Ev g0 H0 σ0 s0 g H σ s → SD K g H σ s → RVRs K σ H0 g H s vs rs →
    ∃ g', SD K g' H σ s' ∧ Ev g0 H0 σ0 s0 g' H σ s' ∧ RHs K g' σ vs hs ∧ Le g g'
  | [], _, _, _, _, g, e, e0, sd, h => by
    cases h
    cases e
    exact ⟨g, sd, e0, .nil, .refl g⟩
  | .slot i :: rs, _, hs, s, s', g, e, e0, sd, .cons a b c => by
    unfold toHSs at e
    rw [bind_eq] at e
    have e : (toHSs rs >>= fun hs => pure (HS.slot i :: hs)) s = .ok hs s' := e
    rw [bind_eq] at e
    cases q2 : toHSs rs s with
    | bad => rw [q2] at e; cases e
    | err x s2 => rw [q2] at e; cases e
    | ok hs2 s2 =>
      rw [q2] at e
      cases e
      obtain ⟨g2, sd2, e2, rp2, le2⟩ := toHSs_run q2 e0 sd b
      exact ⟨g2, sd2, e2, .cons (show RH K g2 σ _ (.slot i) from a) rp2, le2⟩
  | .t t :: rs, _, hs, s, s', g, e, e0, sd, .cons (v := v) (vs := vs) a b c => by
    unfold toHSs at e
    rw [bind_eq] at e
    have e : (toHSs rs >>= fun hs => pure (HS.d t.data :: hs)) s = .ok hs s' := e
    rw [bind_eq] at e
    obtain ⟨g1, sd1, e1, rp, tr, le1⟩ := frz_run (r := .t t) (d := t.data) (s' := s) rfl e0 sd a
    have h3 : ∀ {us : List V} {ts : List VR}, RVRs K σ H0 g H s us ts → (∀ p ∈ us.zip ts, p ∈ vs.zip rs) → RVRs K σ H0 g1 H s us ts := by
      intro us ts hh
      induction hh with
      | nil => exact fun _ => .nil
      | cons a' b' c' ih =>
        intro hm
        exact .cons (tr _ _ a' fun b' d' d2 e1 e2 e3 => fun e4 => c b' d2 e3 e4 _ (hm _ List.mem_cons_self) d' e1 e2) (ih fun p hp => hm p (List.mem_cons_of_mem _ hp)) c'
    cases q2 : toHSs rs s with
    | bad => rw [q2] at e; cases e
    | err x s2 => rw [q2] at e; cases e
    | ok hs2 s2 =>
      rw [q2] at e
      cases e
      obtain ⟨g2, sd2, e2, rp2, le2⟩ := toHSs_run q2 e1 sd1 (h3 b fun _ h => h)
      exact ⟨g2, sd2, e2, .cons (show RH K g2 σ _ (.d t.data) from rp.mono le2) rp2, le1.trans le2⟩
theorem toHSs_res : ∀ (rs : List VR) (s : State), (∃ d s', toHSs rs s = .ok d s') ∨ toHSs rs s = .bad
  | [], s => .inl ⟨[], s, rfl⟩
  | r :: rs, s => by
    unfold toHSs
    rw [bind_eq]
    have e1 : ∃ h, toHS r s = .ok h s := by
      cases r with
      | t t => exact ⟨.d t.data, rfl⟩
      | slot i => exact ⟨.slot i, rfl⟩
    obtain ⟨h, e1⟩ := e1
    rw [e1]
    show (∃ d' s', (toHSs rs >>= fun ds => pure (h :: ds)) s = .ok d' s') ∨ (toHSs rs >>= fun ds => pure (h :: ds)) s = .bad
    rw [bind_eq]
    rcases toHSs_res rs s with ⟨ds, s2, e2⟩ | e2
    · rw [e2]; exact .inl ⟨_, _, rfl⟩
    · rw [e2]; exact .inr rfl
/-- the walk's body is reached with the operands held -/
theorem lock_run : ∀ {hs : List HS} {vs : List V} {k : List DL.D → M Flow} {s : State}, SD K g H σ s → RHs K g σ vs hs → PostS K Wx D g H σ s (dLock hs k s) →
    ∃ s1 ds, SD K g H σ s1 ∧ Srcs K g σ s1 vs ds ∧ PostS K Wx D g H σ s1 (k ds s1) ∧ ∀ v d, Src K g σ s v d → Src K g σ s1 v d
  | [], _, k, s, sd, .nil, p => ⟨s, [], sd, .nil, p, fun _ _ h => h⟩
  | .d d :: rs, _, k, s, sd, .cons (v := v) a b, p => by
    obtain ⟨s1, ds, sd1, sr, p1, k1⟩ := lock_run (k := fun ds => k (d :: ds)) sd b p
    exact ⟨s1, d :: ds, sd1, .cons (k1 _ _ (.inl a)) sr, p1, k1⟩
  | .slot i :: rs, _, k, s, sd, .cons (v := v) a b, p => by
    unfold dLock at p
    cases e : s.env[i]? with
    | none => simp only [e] at p; exact p.elim
    | some w =>
      cases w with
      | none => simp only [e] at p; exact p.elim
      | some w =>
        simp only [e] at p
        by_cases hn : noDict w.data = true
        · rw [if_pos hn] at p
          have p' := PostS.unlock (i := i) .refl sd (fun w' h => by rw [e] at h; cases h; exact hn) (by rw [e]; exact p)
          obtain ⟨s1, ds, sd1, sr, p1, k1⟩ := lock_run (k := fun ds => k (w.data :: ds)) (sd.lock (i := i)) b p'
          refine ⟨s1, w.data :: ds, sd1, .cons (k1 _ _ (lockS_src sd e a)) sr, p1, fun v' d' h => k1 _ _ ?_⟩
          rcases h with h | ⟨j, hv, h⟩
          · exact .inl h
          · refine .inr ⟨j, hv, ?_⟩
            have same : (lockS i s).env[j]? = s.env[j]? := by
              unfold lockS
              rw [e]
              cases w with
              | own d2 =>
                refine putE_ne fun z => ?_
                subst z; rw [e] at h
                rcases h with h | h <;> cases h
              | lent d2 =>
                refine putE_ne fun z => ?_
                subst z; rw [e] at h
                rcases h with h | h <;> cases h
              | fz d2 => rfl
              | lk d2 => rfl
              | lkl d2 => rfl
            rw [same]; exact h
        · rw [if_neg hn] at p; exact p.elim
theorem hold_run {rs : List VR} {vs : List V} {k : List DL.D → M Flow} (c : CurS K Wx D g0 H0 σ0 s0 (dHold rs k s) g H σ s) (h : RVRs K σ H0 g H s vs rs) :
    ∃ g1 s1 ds, SD K g1 H σ s1 ∧ Srcs K g1 σ s1 vs ds ∧ PostS K Wx D g1 H σ s1 (k ds s1) := by
  have p := c.post
  unfold dHold at p
  rw [bind_eq] at p
  rcases toHSs_res rs s with ⟨hs, s1, e⟩ | e
  · rw [e] at p
    obtain ⟨g1, sd1, e1, rh, le⟩ := toHSs_run e c.ev c.sd h
    obtain ⟨s2, ds, sd2, sr, p2, _⟩ := lock_run sd1 rh (PostS.shift e1 p)
    exact ⟨g1, s2, ds, sd2, sr, p2⟩
  · rw [e] at p; exact p.elim
end
end DL

set_option Elab.async false
set_option linter.all false
set_option maxRecDepth 100000
set_option maxHeartbeats 1000000
/-! DLForR: the rules of for -/
namespace DL
open PySem PySem.Spec PyProof.Rows L2
/-- a list or a tuple -/
def iSeq (K : PySem.W.Frag) (tl : TE) : TI := fun σ H R => tl σ H fun x H1 => ∃ a, x = .ref a ∧ (((∃ xs, SqL K H1 a xs) ∧ R (Itl K a) H1) ∨ ((∃ xs, SqT K H1 a xs) ∧ R (Itt K a) H1))
section
variable {X : Cx} {Wx : WX} {tg e l : Expr} {pos p p1 : Pos}
theorem pi_seq {tl : TE} (hl : PE X l tl) : PI X tg l (iSeq X.K tl) := by
  refine ⟨fun pins s σ H R I h => thn (hl.run pins s σ H _ I h) fun v s1 hh => ?_⟩
  obtain ⟨x, H1, I1, r1, a, e, q⟩ := hh
  subst e; cases r1
  have new : ∀ {o : Obj}, Inv X pins σ H1 { s1 with heap := s1.heap.push o } := I1.kept (t' := s1.toks) fun b o e => Heap.get?_push_of_some _ e
  have fp : ∀ b ∈ [s1.heap.objs.size], FpOk X pins H1 b := fun b hb => by
    cases List.mem_singleton.mp hb
    exact I1.fpOk (Nat.le_refl _) (I1.hok.fresh (Nat.le_refl _))
  rcases q with ⟨⟨xs, hq⟩, q⟩ | ⟨⟨xs, hq⟩, q⟩
  · obtain ⟨its, rv, pl, hz⟩ := I1.list hq
    exact wpAny_pyIter_list pl.isList ⟨_, [s1.heap.objs.size], _, _, H1, rfl, new, turn_list a _, ⟨_, Heap.get?_push_size _ rfl, rfl, rfl⟩, fp, q⟩
  · obtain ⟨its, rv, pl, hz⟩ := I1.tuple hq
    exact wpAny_pyIter_tuple (show s1.heap.IsTuple a its.toArray from pl) ⟨_, [s1.heap.objs.size], _, _, H1, rfl, new, turn_tuple a _, ⟨_, Heap.get?_push_size _ rfl, rfl, rfl⟩, fp, q⟩
def itS : List DL.D → Option (List DL.D)
  | [.lst ds] => some ds
  | [.tup ds] => some ds
  | [.frl ns] => some (ns.map DL.D.int)
  | _ => none
def enumL : Nat → List DL.D → List DL.D
  | _, [] => []
  | n, d :: ds => .tup [.int n, d] :: enumL (n + 1) ds
theorem enumL_length : ∀ (n : Nat) (ds : List DL.D), (enumL n ds).length = ds.length
  | _, [] => rfl
  | n, d :: ds => by show (enumL (n + 1) ds).length + 1 = _; rw [enumL_length (n + 1) ds]; rfl
theorem enumL_get : ∀ (n : Nat) (ds : List DL.D) (i : Nat) (d : DL.D), (enumL n ds)[i]? = some d → ∃ x, ds[i]? = some x ∧ d = .tup [.int (n + i : Nat), x]
  | _, [], i, _, h => by simp [enumL] at h
  | n, x :: ds, 0, d, h => by
    have h : some (DL.D.tup [.int n, x]) = some d := h
    cases h
    exact ⟨x, rfl, by simp⟩
  | n, x :: ds, i + 1, d, h => by
    obtain ⟨y, h1, h2⟩ := enumL_get (n + 1) ds i d h
    exact ⟨y, h1, by rw [h2, show n + 1 + i = n + (i + 1) from by omega]⟩
def itE : List DL.D → Option (List DL.D)
  | [.lst ds] => some (enumL 0 ds)
  | _ => none
def zipL : List DL.D → List DL.D → List DL.D
  | x :: xs, y :: ys => .tup [x, y] :: zipL xs ys
  | _, _ => []
theorem zipL_get : ∀ (xs ys : List DL.D) (i : Nat) (d : DL.D), (zipL xs ys)[i]? = some d → ∃ x y, xs[i]? = some x ∧ ys[i]? = some y ∧ d = .tup [x, y]
  | [], _, _, _, h => by simp [zipL] at h
  | _ :: _, [], _, _, h => by simp [zipL] at h
  | x :: xs, y :: ys, 0, d, h => by
    have h : some (DL.D.tup [x, y]) = some d := h
    cases h
    exact ⟨x, y, rfl, rfl, rfl⟩
  | x :: xs, y :: ys, i + 1, d, h => zipL_get xs ys i d h
theorem zipL_len : ∀ (xs ys : List DL.D), (zipL xs ys).length = min xs.length ys.length
  | [], _ => by simp [zipL]
  | _ :: _, [] => by simp [zipL]
  | x :: xs, y :: ys => by show (zipL xs ys).length + 1 = _; rw [zipL_len xs ys]; simp [List.length_cons]
def itZ : List DL.D → Option (List DL.D)
  | [.lst xs, .lst ys] => some (zipL xs ys)
  | _ => none
def rangeL : Int → Nat → List DL.D
  | _, 0 => []
  | i, n + 1 => .int i :: rangeL (i + 1) n
theorem rangeL_length : ∀ (i : Int) (n : Nat), (rangeL i n).length = n
  | _, 0 => rfl
  | i, n + 1 => by show (rangeL (i + 1) n).length + 1 = _; rw [rangeL_length]
theorem rangeL_get : ∀ (i : Int) (n j : Nat) (d : DL.D), (rangeL i n)[j]? = some d → d = .int (i + j) ∧ j < n
  | _, 0, j, _, h => by simp [rangeL] at h
  | i, n + 1, 0, d, h => by
    have h : some (DL.D.int i) = some d := h
    cases h
    simp
  | i, n + 1, j + 1, d, h => by
    obtain ⟨h1, h2⟩ := rangeL_get (i + 1) n j d h
    refine ⟨by rw [h1]; congr 1; omega, by omega⟩
def bnd62 (i : Int) : Bool := decide (-(2 ^ 62) ≤ i) && decide (i < 2 ^ 62)
def itR1 : List DL.D → Option (List DL.D)
  | [.int j] => if bnd62 j = true then some (rangeL 0 j.toNat) else none
  | _ => none
def itR2 : List DL.D → Option (List DL.D)
  | [.int i, .int j] => if bnd62 i = true ∧ bnd62 j = true then some (rangeL i (j - i).toNat) else none
  | _ => none
theorem bnd62_of {i : Int} (h : bnd62 i = true) : -(2 ^ 62) ≤ i ∧ i < 2 ^ 62 := by
  unfold bnd62 at h
  rw [Bool.and_eq_true, decide_eq_true_eq, decide_eq_true_eq] at h
  exact h
def dItems (h : List DL.D → Option (List DL.D)) (k : List DL.D → M Flow) (ds : List DL.D) : M Flow := match h ds with
  | some items => k items
  | none => .bad
def dFor (h : List DL.D → Option (List DL.D)) (pt : Pt) (b : M Flow) (fl : M (List VR)) : M Flow := fl >>= fun rs => dHold rs (dItems h (dForL pt b))
def dOne (f : M VR) : M (List VR) := f >>= fun x => pure [x]
section
variable {K : PySem.W.Frag} {g : Gh} {H : Hp} {σ : Slots} {s : State} {v w : V} {d : DL.D}
theorem Srcs.one (h : Srcs K g σ s [v] ds) : ∃ d, ds = [d] ∧ Src K g σ s v d := by
  cases h with
  | cons a b => cases b; exact ⟨_, rfl, a⟩
theorem Srcs.two (h : Srcs K g σ s [v, w] ds) : ∃ d e, ds = [d, e] ∧ Src K g σ s v d ∧ Src K g σ s w e := by
  cases h with
  | cons a b =>
    obtain ⟨e, rfl, q⟩ := b.one
    exact ⟨_, e, rfl, a, q⟩
theorem Srcs.two' {vs : List V} {d e : DL.D} (h : Srcs K g σ s vs [d, e]) : ∃ v w, vs = [v, w] ∧ Src K g σ s v d ∧ Src K g σ s w e := by
  cases h with
  | cons a b =>
    cases b with
    | cons a2 b =>
      cases b
      exact ⟨_, _, rfl, a, a2⟩
theorem Srcs.one' {vs : List V} {d : DL.D} (h : Srcs K g σ s vs [d]) : ∃ v, vs = [v] ∧ Src K g σ s v d := by
  cases h with
  | cons a b => cases b; exact ⟨_, rfl, a⟩
theorem iter_lst {a : Addr} {ds : List DL.D} (src : Src K g σ s (.ref a) (.lst ds)) : Iter K (Itl K a) g H σ s ds := fun i g2 H2 σ2 s2 sd2 ev2 => by
  obtain ⟨b, xs, e, hx, rx⟩ := ((src.ev ev2).view sd2).lst sd2
  cases e
  refine ⟨fun hi => ⟨xs, .of hx, by rw [rx.length]; exact hi⟩, fun d hd => ?_⟩
  obtain ⟨x, hv, rv⟩ := rx.get hd
  refine ⟨⟨xs, x, .of hx, hv⟩, fun y H3 hy => ?_⟩
  obtain ⟨rfl, q⟩ := hy
  have e := q xs (.of hx)
  rw [hv] at e; cases e
  exact ⟨g2, sd2, .refl, rv⟩
theorem iter_tup {a : Addr} {xs : List V} {ds : List DL.D} (src : Src K g σ s (.ref a) (.tup ds)) : Iter K (Itt K a) g H σ s ds := fun i g2 H2 σ2 s2 sd2 ev2 => by
  obtain ⟨b, xs, e, hx, rx⟩ := ((src.ev ev2).view sd2).tup sd2
  cases e
  refine ⟨fun hi => ⟨xs, hx, by rw [rx.length]; exact hi⟩, fun d hd => ?_⟩
  obtain ⟨x, hv, rv⟩ := rx.get hd
  refine ⟨⟨xs, x, hx, hv⟩, fun y H3 hy => ?_⟩
  obtain ⟨rfl, q⟩ := hy
  have e := q xs hx
  rw [hv] at e; cases e
  exact ⟨g2, sd2, .refl, rv⟩
theorem iter_frl {a : Addr} {ns : List Int} (src : Src K g σ s (.ref a) (.frl ns)) : Iter K (Itl K a) g H σ s (ns.map DL.D.int) := fun i g2 H2 σ2 s2 sd2 ev2 => by
  cases ((src.ev ev2).view sd2).sc (fun _ z => z) with
  | frl q =>
    have hx := sd2.seq q
    refine ⟨fun hi => ⟨_, hx, by rw [List.length_map] at hi ⊢; exact hi⟩, fun d hd => ?_⟩
    obtain ⟨x, hv, rv⟩ := (Reps.ints (K := K) (g := g2) ns).get hd
    refine ⟨⟨_, x, hx, hv⟩, fun y H3 hy => ?_⟩
    obtain ⟨rfl, q⟩ := hy
    have e := q _ hx
    rw [hv] at e; cases e
    exact ⟨g2, sd2, .refl, rv⟩
/-- a new tuple that is frozen at once -/
theorem SD.newTup {T : Addr} {xs : List V} {ds : List DL.D} (sd : SD K g H σ s) (hT : H T = none) (r : Reps K g xs ds) : ∃ g3, SD K g3 (upd H T (.tup xs)) σ s ∧ Ev g H σ s g3 (upd H T (.tup xs)) σ s ∧ Rep K g3 (.ref T) (.tup ds) := by
  have f1 := sd.free1 hT
  have sd1 := (sd.alloc (o := .tup xs) hT).freeze f1 (sd.noHd hT) upd_same
  exact ⟨g.frz T (.tup xs), sd1, (sd.allocEv hT).freeze f1 hT, .tup Gh.frz_at (r.mono (Gh.frz_le f1.1))⟩
theorem iter_enum {a : Addr} {ds : List DL.D} (src : Src K g σ s (.ref a) (.lst ds)) : Iter K (Ite K a) g H σ s (enumL 0 ds) := fun i g2 H2 σ2 s2 sd2 ev2 => by
  obtain ⟨b, xs, e, hx, rx⟩ := ((src.ev ev2).view sd2).lst sd2
  cases e
  refine ⟨fun hi => ⟨xs, .of hx, by rw [rx.length]; rw [enumL_length] at hi; exact hi⟩, fun d hd => ?_⟩
  obtain ⟨y, hy, rfl⟩ := enumL_get 0 ds i d hd
  obtain ⟨x, hv, rv⟩ := rx.get hy
  refine ⟨⟨xs, x, .of hx, hv⟩, fun z H3 hz => ?_⟩
  obtain ⟨T, x', rfl, hT, rfl, q⟩ := hz
  have e := q xs (.of hx)
  rw [hv] at e; cases e
  rw [Nat.zero_add]
  exact sd2.newTup hT (.cons (.int _) (.cons rv .nil))
theorem iter_zip {a b : Addr} {ds es : List DL.D} (src : Src K g σ s (.ref a) (.lst ds)) (src2 : Src K g σ s (.ref b) (.lst es)) : Iter K (Itz K a b) g H σ s (zipL ds es) := fun i g2 H2 σ2 s2 sd2 ev2 => by
  obtain ⟨a', xs, e, hx, rx⟩ := ((src.ev ev2).view sd2).lst sd2
  cases e
  obtain ⟨b', ys, e, hy, ry⟩ := ((src2.ev ev2).view sd2).lst sd2
  cases e
  refine ⟨fun hi => ⟨xs, ys, .of hx, .of hy, by rw [rx.length, ry.length]; rw [zipL_len] at hi; omega⟩, fun d hd => ?_⟩
  obtain ⟨d1, d2, h1, h2, rfl⟩ := zipL_get ds es i d hd
  obtain ⟨x, hv, rv⟩ := rx.get h1
  obtain ⟨y, hw, rw'⟩ := ry.get h2
  refine ⟨⟨xs, ys, x, y, .of hx, .of hy, hv, hw⟩, fun z H3 hz => ?_⟩
  obtain ⟨T, x', y', rfl, hT, rfl, q1, q2⟩ := hz
  have e1 := q1 xs (.of hx)
  have e2 := q2 ys (.of hy)
  rw [hv] at e1; cases e1
  rw [hw] at e2; cases e2
  exact sd2.newTup hT (.cons rv (.cons rw' .nil))
theorem iter_range {lo : Int} {n : Nat} : Iter K (Itr lo n) g H σ s (rangeL lo n) := fun i g2 H2 σ2 s2 sd2 ev2 => by
  refine ⟨fun hi => by rw [rangeL_length] at hi; exact hi, fun d hd => ?_⟩
  obtain ⟨rfl, hi⟩ := rangeL_get lo n i d hd
  refine ⟨hi, fun z H3 hz => ?_⟩
  obtain ⟨rfl, rfl⟩ := hz
  exact ⟨g2, sd2, .refl, .int _⟩
end
section
variable {body : List Stmt} {pt : Pt} {fb : M Flow} {fa : M VR} {fl : M (List VR)}
theorem ds_for (hp : PassesOwn (model X.prog X.w) X.A X.env X.xe) (hc : X.calm = true) (hi : DV X Wx e fa) (hg : DG X tg pt) (hb : DSs X Wx body fb) (hs : ∀ x, foldedSetIterable e X.env x = pure x := by intro _; rfl) :
    DS X Wx (.For tg e body [] pos) (dFor itS pt fb (dOne fa)) := ⟨fun pins s σ H D I h => (ps_for hp hc (pi_seq hi) hg hb hs).run pins s σ H D I (by
  obtain ⟨g, s, c⟩ := h.start
  have c : CurS X.K Wx D g H σ s ((fa >>= fun x => (fun rs => dHold rs (dItems itS (dForL pt fb))) [x]) s) g H σ s := by
    refine ⟨c.ev, c.sd, ?_⟩
    have p := c.post
    unfold dFor dOne at p
    rw [bind_eq] at p ⊢
    rw [bind_eq] at p
    cases q : fa s with
    | ok a s1 => rw [q] at p; exact p
    | err x s1 => rw [q] at p; exact p
    | bad => rw [q] at p; exact p
  refine c.bind.mono fun v H1 ⟨r, g1, s1, c1, r1, e1⟩ => ?_
  obtain ⟨g2, s2, ds, sd2, sr, p2⟩ := hold_run c1 (.cons r1 .nil fun _ _ _ _ _ hp => by simp at hp)
  obtain ⟨d, rfl, src⟩ := sr.one
  unfold dItems at p2
  cases q : itS [d] with
  | none => rw [q] at p2; exact p2.elim
  | some items =>
    rw [q] at p2
    unfold itS at q
    split at q
    · rename_i ds hd
      cases q; cases hd
      obtain ⟨a, xs, rfl, hx, _⟩ := (src.view sd2).lst sd2
      exact ⟨a, rfl, .inl ⟨⟨xs, .of hx⟩, forL_run sd2 (iter_lst src) p2⟩⟩
    · rename_i ds hd
      cases q; cases hd
      obtain ⟨a, xs, rfl, hx, _⟩ := (src.view sd2).tup sd2
      exact ⟨a, rfl, .inr ⟨⟨xs, hx⟩, forL_run sd2 (iter_tup (xs := xs) src) p2⟩⟩
    · rename_i ns hd
      cases q; cases hd
      cases e2 : (src.view sd2).sc (fun _ z => z) with
      | frl q2 => exact ⟨_, rfl, .inl ⟨⟨_, sd2.seq q2⟩, forL_run sd2 (iter_frl src) p2⟩⟩
    · cases q)⟩
theorem ds_forE {elts : List Expr} {kk : Nat} {tpos : Pos} (hp : PassesOwn (model X.prog X.w) X.A X.env X.xe) (hc : X.calm = true) (hgl : Gl X "enumerate") (hm : X.mg "enumerate" = none) (ha : DA X Wx [e] fl) (hg : DG X (.Tuple elts kk tpos) pt) (hb : DSs X Wx body fb)
    (hst : starEach [e] X.env = [(false, eval e X.env)] := by rfl) (hs : ∀ x, foldedSetIterable (.Call (.Name "enumerate" p) [e] [] p1) X.env x = pure x := by intro _; rfl) :
    DS X Wx (.For (.Tuple elts kk tpos) (.Call (.Name "enumerate" p) [e] [] p1) body [] pos) (dFor itE pt fb fl) := ⟨fun pins s σ H D I h => (ps_for hp hc (pi_enum hgl hm ha hst) hg hb hs).run pins s σ H D I (by
  obtain ⟨g, s, c⟩ := h.start
  refine c.bind.mono fun vs H1 ⟨rs, g1, s1, c1, r1, e1⟩ => ?_
  obtain ⟨g2, s2, ds, sd2, sr, p2⟩ := hold_run c1 r1
  unfold dItems at p2
  cases q : itE ds with
  | none => rw [q] at p2; exact p2.elim
  | some items =>
    rw [q] at p2
    unfold itE at q
    split at q
    · cases q
      cases sr with
      | cons src b =>
        cases b
        obtain ⟨a, xs, rfl, hx, _⟩ := (src.view sd2).lst sd2
        exact ⟨a, xs, rfl, .of hx, forL_run sd2 (iter_enum src) p2⟩
    · cases q)⟩
theorem ds_forZ {elts : List Expr} {kk : Nat} {tpos : Pos} {e2 : Expr} (hp : PassesOwn (model X.prog X.w) X.A X.env X.xe) (hc : X.calm = true) (hgl : Gl X "zip") (hm : X.mg "zip" = none) (ha : DA X Wx [e, e2] fl) (hg : DG X (.Tuple elts kk tpos) pt) (hb : DSs X Wx body fb)
    (hst : starEach [e, e2] X.env = (false, eval e X.env) :: starEach [e2] X.env := by rfl) (hpl : (backTo p1 (starEach [e2] X.env)).any (·.1) = false := by rfl) (hs : ∀ x, foldedSetIterable (.Call (.Name "zip" p) [e, e2] [] p1) X.env x = pure x := by intro _; rfl) :
    DS X Wx (.For (.Tuple elts kk tpos) (.Call (.Name "zip" p) [e, e2] [] p1) body [] pos) (dFor itZ pt fb fl) := ⟨fun pins s σ H D I h => (ps_for hp hc (pi_zip hgl hm ha hst hpl) hg hb hs).run pins s σ H D I (by
  obtain ⟨g, s, c⟩ := h.start
  refine c.bind.mono fun vs H1 ⟨rs, g1, s1, c1, r1, e1⟩ => ?_
  obtain ⟨g2, s2, ds, sd2, sr, p2⟩ := hold_run c1 r1
  unfold dItems at p2
  cases q : itZ ds with
  | none => rw [q] at p2; exact p2.elim
  | some items =>
    rw [q] at p2
    unfold itZ at q
    split at q
    · cases q
      obtain ⟨x, y, e, src, src2⟩ := sr.two'
      cases e
      obtain ⟨a, xs, rfl, hx, _⟩ := (src.view sd2).lst sd2
      obtain ⟨b, ys, rfl, hy, _⟩ := (src2.view sd2).lst sd2
      exact ⟨a, b, xs, ys, rfl, .of hx, .of hy, forL_run sd2 (iter_zip src src2) p2⟩
    · cases q)⟩
theorem ds_forR1 {a : Expr} (hp : PassesOwn (model X.prog X.w) X.A X.env X.xe) (hc : X.calm = true) (hgl : Gl X "range") (hm : X.mg "range" = none) (ha : DA X Wx [a] fl) (hg : DG X tg pt) (hb : DSs X Wx body fb)
    (hst : starEach [a] X.env = [(false, eval a X.env)] := by rfl) (hs : ∀ x, foldedSetIterable (.Call (.Name "range" p) [a] [] p1) X.env x = pure x := by intro _; rfl) :
    DS X Wx (.For tg (.Call (.Name "range" p) [a] [] p1) body [] pos) (dFor itR1 pt fb fl) := ⟨fun pins s σ H D I h => (ps_for hp hc (pi_range1 hgl hm ha hst) hg hb hs).run pins s σ H D I (by
  obtain ⟨g, s, c⟩ := h.start
  refine c.bind.mono fun vs H1 ⟨rs, g1, s1, c1, r1, e1⟩ => ?_
  obtain ⟨g2, s2, ds, sd2, sr, p2⟩ := hold_run c1 r1
  unfold dItems at p2
  cases q : itR1 ds with
  | none => rw [q] at p2; exact p2.elim
  | some items =>
    rw [q] at p2
    unfold itR1 at q
    split at q
    · rename_i j
      split at q
      · rename_i hj
        cases q
        obtain ⟨v, rfl, src⟩ := sr.one'
        cases (src.view sd2).int
        obtain ⟨b1, b2⟩ := bnd62_of hj
        exact ⟨j, rfl, b1, b2, forL_run sd2 iter_range p2⟩
      · cases q
    · cases q)⟩
theorem ds_forR2 {a b : Expr} (hp : PassesOwn (model X.prog X.w) X.A X.env X.xe) (hc : X.calm = true) (hgl : Gl X "range") (hm : X.mg "range" = none) (ha : DA X Wx [a, b] fl) (hg : DG X tg pt) (hb : DSs X Wx body fb)
    (hst : starEach [a, b] X.env = [(false, eval a X.env), (false, eval b X.env)] := by rfl) (hst2 : starEach [b] X.env = [(false, eval b X.env)] := by rfl) (hs : ∀ x, foldedSetIterable (.Call (.Name "range" p) [a, b] [] p1) X.env x = pure x := by intro _; rfl) :
    DS X Wx (.For tg (.Call (.Name "range" p) [a, b] [] p1) body [] pos) (dFor itR2 pt fb fl) := ⟨fun pins s σ H D I h => (ps_for hp hc (pi_range2 hgl hm ha hst hst2) hg hb hs).run pins s σ H D I (by
  obtain ⟨g, s, c⟩ := h.start
  refine c.bind.mono fun vs H1 ⟨rs, g1, s1, c1, r1, e1⟩ => ?_
  obtain ⟨g2, s2, ds, sd2, sr, p2⟩ := hold_run c1 r1
  unfold dItems at p2
  cases q : itR2 ds with
  | none => rw [q] at p2; exact p2.elim
  | some items =>
    rw [q] at p2
    unfold itR2 at q
    split at q
    · rename_i i j
      split at q
      · rename_i hj
        cases q
        obtain ⟨v, w, rfl, src, src2⟩ := sr.two'
        cases (src.view sd2).int
        cases (src2.view sd2).int
        obtain ⟨b1, b2⟩ := bnd62_of hj.1
        obtain ⟨b3, b4⟩ := bnd62_of hj.2
        exact ⟨i, j, rfl, ⟨b1, b2, b3, b4⟩, forL_run sd2 iter_range p2⟩
      · cases q
    · cases q)⟩
end
end
end DL

set_option Elab.async false
set_option linter.all false
set_option maxRecDepth 100000
set_option maxHeartbeats 1000000
/-! DLFn: room, with nothing being shown above (the guards are none), and defs that may lean on it.
    The names Room, FnOk, run_fnSD, pe_callSD, pe_prop, hu_of of this namespace stand for these ones from here on. -/
namespace DL
open PySem PySem.Spec PyProof.Rows L2

/-! ### room -/
structure Room (n : Nat) (A0 : Around) : Prop where
  old : L2.Room n A0
  gd : A0.guards = some []
section
variable {n m : Nat} {A0 : Around}
theorem Room.mono (q : Room m A0) (h : n ≤ m) : Room n A0 := ⟨q.old.mono h, q.gd⟩
theorem Room.deeper (q : Room (n + 1) A0) (env : Env) : Room n (A0.deeper env) := ⟨q.old.deeper env, q.gd⟩
theorem Room.in1 (q : Room (n + 1) A0) : Room n A0.in1 := ⟨q.old.in1, q.gd⟩
theorem make_guards {C : Addr} {us : List Value} {kw : List (Str × Value)} : (A0.under (.builtin "type.__call__" ⟨.ref C :: us, kw⟩)).guards = A0.guards := by
  obtain ⟨h, d, fr, gs, u⟩ := A0
  cases gs <;> simp [Around.under, pushGuards, Code.guards, Code.isGuard, guardIds]
theorem Room.make (q : Room (n + 1) A0) (C : Addr) (us : List Value) (kw : List (Str × Value)) : Room n (A0.under (.builtin "type.__call__" ⟨.ref C :: us, kw⟩)) := ⟨q.old.make C us kw, make_guards.trans q.gd⟩
theorem Room.depth (q : Room n A0) : A0.depth < recursionLimit := q.old.depth
theorem Room.units (q : Room n A0) : A0.units + 64 < cLine := q.old.units
theorem Room.units0 (q : Room n A0) : A0.units < cLine := q.old.units0
theorem hu_of (q : Room n A0) : A0.units + 1 < cLine := L2.hu_of q.old
end

/-! ### a def that keeps its promise where nothing is being shown -/
structure FnOk (prog : Program) (wd : World) (F : PySem.W.Frag) (gl : Str → Option Value) (b0 : Heap) (cx : CXT) (n : Nat) (fa : Addr) (fun_ : FuncData) (par : List Str) (pr : Sp) : Prop where
  len : ∀ xs Hx Qx Ex, pr xs Hx Qx Ex → xs.length = par.length
  run : ∀ (A0 : Around) (out : List Env) (st : Shared) (Hx : Hp) (ar : Args) (us : List Value) (xs : List V) (Qx : VK) (Ex : XK),
    Room n A0 → Env0 prog wd F gl b0 A0 out st Hx → BindsTo st fun_ ar (par.zip us) → Vals xs us → pr xs Hx Qx Ex → codeAny (model prog wd) A0 (.call (.ref fa) ar) (CR cx out prog wd Hx st Qx Ex) st
section
variable {prog : Program} {wd : World} {F : PySem.W.Frag} {gl : Str → Option Value} {b0 : Heap} {cx : CXT} {n m : Nat} {fa : Addr} {fun_ : FuncData} {par N : List Str} {pr : Sp}
theorem FnOk.mono (f : FnOk prog wd F gl b0 cx n fa fun_ par pr) (h : n ≤ m) : FnOk prog wd F gl b0 cx m fa fun_ par pr where
  len := f.len
  run := fun A0 out st Hx ar us xs Qx Ex hr => f.run A0 out st Hx ar us xs Qx Ex ⟨hr.old.mono h, hr.gd⟩
/-- such a def, by its body -/
theorem fn_okG {nm qn : Str} {prm : Arguments} {bd : List Stmt} {scp : Scope} {dV kV doc pm cdv ct oc : Value} {an od : Option Addr} {osl : Array (Option Value)}
    (hl : F.lookup fa = some ⟨oc, od, .func (PySem.W.fnOf nm qn prm bd scp dV kV doc pm an cdv ct), osl⟩) (hc : PySem.W.codeIn F cdv qn = true) (sc : FnScope N par scp) (hlen : ∀ xs Hx Qx Ex, pr xs Hx Qx Ex → xs.length = par.length)
    (body : ∀ (A0 : Around) (out : List Env) (st : Shared) (Hx : Hp) (xs : List V) (Qx : VK) (Ex : XK), Room n (A0.deeper (envOfC qn scp st.heap.objs.size fa cdv)) → pr xs Hx Qx Ex →
      ∃ rd, PSs (cxOf cx prog wd F gl b0 N qn scp fa cdv A0 out st Hx Ex) bd rd ∧ rd { nx := fun _ Hy => Qx .non Hy, rt := Qx } (start N xs) Hx) :
    FnOk prog wd F gl b0 cx (n + 1) fa (PySem.W.fnOf nm qn prm bd scp dV kV doc pm an cdv ct) par pr where
  len := hlen
  run := by
    intro A0 out st Hx ar us xs Qx Ex room env binds vals want
    have lens := hlen _ _ _ _ want
    have inF : F.In st.heap := env.mod.kin.keeps fun b o z => (env.bs b o z).1
    have noLim : st.heap.NoLimit := env.mod.nolimit.keeps fun b o z => (env.bs b o z).1
    have kinds : ∀ y ∈ par.zip us, scp.names.lookup y.1 = some .local ∨ (scp.names.lookup y.1 = some .cell ∧ ((cellsFrom (st.heap.objs.size + 1) scp.names []).lookup y.1).isSome = true) := by
      rintro ⟨nn, vv⟩ hy
      cases sc.par nn (List.of_mem_zip hy).1 with
      | inl z => exact Or.inl z
      | inr z => exact Or.inr ⟨z, PySem.W.cellsFrom_some _ _ _ (Or.inl z)⟩
    refine codeAny_call_function room.depth (inF _ _ hl) rfl sc.co sc.gen rfl (PySem.W.codeRec_of inF hc) (binds _ _ _ _ (wpAny_newFunctionEnv_cells sc.kind kinds fun ev hev s1 called => ?_))
    subst hev
    obtain ⟨rd, hrd, hrun⟩ := body A0 out st Hx xs Qx Ex (room.deeper _) want
    refine ⟨noLim.keeps called.toInCall.keep, codeAny_func (wpAny_mono (hrd.run [] s1 (start N xs) Hx _ (inv_start sc room.old.hd env lens vals called) hrun) (fun fl s2 done => ?_) fun _ _ z => z)⟩
    have leave : ∀ {σ2 : L2.St} {H2 : Hp} {v2 : V} {u2 : Value}, Inv (cxOf cx prog wd F gl b0 N qn scp fa cdv A0 out st Hx Ex) [] σ2 H2 s2 → RelV v2 u2 → Qx v2 H2 → CE out prog wd Hx st Qx u2 s2 := by
      intro σ2 H2 v2 u2 J rv q
      exact ⟨v2, H2, J.os, J.bare, J.base, J.hok, rv, q⟩
    match fl, done with
    | .ret u2, ⟨_, _, _, J, rv, q⟩ => exact leave J rv q
    | .next, ⟨_, _, J, q⟩ => exact leave (v2 := V.non) (u2 := Value.none) J rfl q
    | .brk, ⟨_, _, _, q⟩ => exact q.elim
    | .cont, ⟨_, _, _, q⟩ => exact q.elim
end
theorem _root_.L2.Fun.okG {prog : Program} {wd : World} {F : PySem.W.Frag} {gl : Str → Option Value} {b0 : Heap} {nm qn : Str} {sm : Stmt} {fa : Addr} {fun_ : FuncData} {N par : List Str} {n : Nat} {pr : Sp} (f : Fun F nm qn sm fa fun_) (sc : FnScope N par (defScope sm)) (hlen : ∀ xs Hx Qx Ex, pr xs Hx Qx Ex → xs.length = par.length)
    (body : ∀ (cdv : Value) (A0 : Around) (out : List Env) (st : Shared) (Hx : Hp) (xs : List V) (Qx : VK) (Ex : XK), Room n (A0.deeper (envOfC qn (defScope sm) st.heap.objs.size fa cdv)) → pr xs Hx Qx Ex →
      ∃ rd, PSs (cxOf (L2.CX prog wd) prog wd F gl b0 N qn (defScope sm) fa cdv A0 out st Hx Ex) (defBody sm) rd ∧ rd { nx := fun _ Hy => Qx .non Hy, rt := Qx } (start N xs) Hx) : FnOk prog wd F gl b0 (L2.CX prog wd) (n + 1) fa fun_ par pr := by
  obtain ⟨_, _, _, _, _, _, cdv, _, _, rfl, hl, hc⟩ := f.ex
  exact fn_okG hl hc sc hlen (body cdv)

/-! ### its calls -/
section
variable {X : Cx} {cx : CXT} {n : Nat} {fa : Addr} {fun_ : FuncData} {par : List Str} {pr : Sp} {dxs : List V} {dus : List Value} {Ex : L2.St → XK} {nm : Str} {p pos : Pos} {e : Expr} {es : List Expr} {t : TA}
theorem run_fnSD {pins : List (Addr × Obj)} {σ : L2.St} {H : Hp} {st : Shared} {Q : VK} {us : List Value} {xs : List V} (f : FnOk X.prog X.w X.K X.mg X.base cx n fa fun_ par pr) (room : Room n X.A) (hb : Binds X.K fun_ par dus) (hd : Vals dxs dus) (hx : PassesAt cx X σ (Ex σ))
    (I : Inv X pins σ H st) (rv : Vals xs us) (want : pr (xs ++ dxs) H Q (Ex σ)) : wpAny (model X.prog X.w) X.A (call (.ref fa) us) (EP X pins σ Q) X.xe st := by
  have all := rv.append hd
  have hl : (us ++ dus).length = par.length := all.length.symm.trans (f.len _ _ _ _ want)
  refine wpAny_call (codeAny_mono (f.run X.A X.stack st H ⟨us, []⟩ _ _ Q (Ex σ) room I.env0 (hb st us I.kIn hl) all want) fun res s2 out => ?_)
  match res, out with
  | .error er, out => exact hx pins H st er s2 I out
  | .ok (.ret u2), out => exact I.after out
  | .ok .next, out => exact out.elim
  | .ok .brk, out => exact out.elim
  | .ok .cont, out => exact out.elim
theorem pe_callSD (f : FnOk X.prog X.w X.K X.mg X.base cx n fa fun_ par pr) (room : Room n X.A) (hg : Gl X nm) (hm : X.mg nm = some (.ref fa)) (hk : PySem.W.keepIn X.K (.ref fa) = true) (hb : Binds X.K fun_ par dus) (hd : Vals dxs dus) (hx : ∀ σ, PassesAt cx X σ (Ex σ))
    (ha : PA X (e :: es) t) (hdb : (nm == ("__debug__" : Str)) = false := by decide) (he : starEach (e :: es) X.env = (false, eval e X.env) :: starEach es X.env := by rfl) (hpl : (backTo pos (starEach es X.env)).any (·.1) = false := by rfl) :
    PE X (.Call (.Name nm p) (e :: es) [] pos) (tCallSD pr dxs Ex t) where
  run := fun pins st σ H Q I want => wpAny_Call_Name_kw (ld_glob I hg hm (PySem.W.callWith_K (h₀ := X.base) I.ok.mod.kin hk (thn (ha.run pos pins st σ H _ I want) fun us s1 ⟨xs, H1, I1, rv, q⟩ => ⟨I1.kIn, run_fnSD f room hb hd (hx σ) I1 rv q⟩) he hpl) hdb)
theorem pe_prop {C pa : Addr} {ta : TE} {E1 : XK} (he : PE X e ta) (c : Cls X.K C) (hp : PropOf X.K C nm pa fa) (f : FnOk X.prog X.w X.K X.mg X.base cx n fa fun_ par pr) (room : Room (n + 1) X.A) (hb : Binds X.K fun_ par dus) (hd : Vals dxs dus) (hx : Passes cx X.nox E1)
    (hab : attributeBase e nm X.env (eval e X.env) = eval e X.env) : PE X (.Attribute e nm pos) (tProp C pr dxs E1 ta) where
  run := fun pins st σ H Q I want => attr_of hab (thn (he.run pins st σ H _ I want) fun u s1 ⟨x, H1, I1, rx, a, dx, fs, ex, ea, q⟩ => by
    subst ex
    obtain rfl : u = Value.ref a := rx
    obtain ⟨mA, O, _⟩ := ins_get I1.hok ea
    obtain ⟨od, J, _⟩ := O.look
    obtain ⟨rest, hrec⟩ := hp.rec_
    have I2 := I1.tok (s1.toks + 1)
    have all : Vals (V.ref a :: dxs) (Value.ref a :: dus) := .cons rfl hd
    have hl : ([Value.ref a] ++ dus).length = par.length := all.length.symm.trans (f.len _ _ _ _ q)
    have isC : (PySem.W.clsIn X.K C).isSome = true := by
      obtain ⟨_, z, _⟩ := PySem.W.any_some c.hd
      rw [z]; rfl
    have ran := f.run X.A.in1 X.stack { s1 with toks := s1.toks + 1 } H1 ⟨[.ref a], []⟩ _ _ Q E1 room.in1 I2.env0.in1 (hb _ [.ref a] I2.kIn hl) all q
    refine PySem.W.get_bind I1.kIn J (PySem.W.plainGet_of (c.get nm)).1 (PySem.W.findObj_data isC hp.at_ hp.get hp.tak) (PySem.W.plainGet_of (c.get nm)).2 (wpAny_call (PySem.W.prop_get (s := { s1 with toks := s1.toks + 1 }) I1.kIn hrec (codeAny_mono ran fun res s2 out => ?_)))
    match res, out with
    | .error er, out => exact (hx pins σ H1 { s1 with toks := s1.toks + 1 } er s2 (I2.wish _) out).elim
    | .ok (.ret u2), out =>
      obtain ⟨v2, H2, I3, r3, q3⟩ := I2.after out
      show wpAny _ _ (handedOut u2) _ _ _
      rw [PySem.W.handedOut_of (handed_of r3)]
      exact wpAny_pure ⟨v2, H2, I3, r3, q3⟩
    | .ok .next, out => exact out.elim
    | .ok .brk, out => exact out.elim
    | .ok .cont, out => exact out.elim)
end

/-! ### the law's end -/
theorem law_callG {prog : Program} {wd : World} {F : PySem.W.Frag} {gl bl : Str → Option Value} {cx : CXT} {n : Nat} {fa a : Addr} {fun_ : FuncData} {nm : Str} {pr : Sp} {st : Shared} {vs : List Value} {ns : List Int}
    (inF : F.In st.heap) (hgl : st.heap.Ns mainGlobals gl) (hbl : st.heap.Ns builtinsNs bl) (hbb : ∀ x : Str, x ≠ "__name__" → bl x = bootBuiltins x) (noLim : st.heap.NoLimit) (noGen : st.gens = #[])
    (ha : st.heap.get? a = some { cls := .type "list", data := .seq vs.toArray }) (hi : IntsAre vs ns) (hsz : ns.length ≤ sizeLine) (room : Room n callerA)
    (f : ∀ b0 : Heap, F.In b0 → b0.Ns mainGlobals gl → FnOk prog wd F gl b0 cx n fa fun_ [nm] pr) (bnd : ∀ (s : Shared) (u : Value), BindsTo s fun_ ⟨[u], []⟩ [(nm, u)])
    (want : ∀ H : Hp, Only H → SqL F H a (ns.map V.int) → pr [.ref a] H (fun v _ => v = .bl true) fun _ _ _ => False) (noX : ∀ H e s', cx [] H st (fun _ _ _ => False) e s' → False) :
    codeAny (model prog wd) callerA (.call (.ref fa) ⟨[.ref a], []⟩) (fun r s' => r = .ok (.ret (.bool true)) ∧ OldK st.heap s'.heap ∧ s'.os = st.os ∧ AllBare s'.gens) st := by
  have rvs := vals_ints hi
  have at_a : ∀ {o : Obj}, st.heap.get? a = some o → o = { cls := .type "list", data := .seq vs.toArray } := fun z => (Option.some.inj (ha.symm.trans z)).symm
  -- with the script tracked, or not
  have go : ∀ H : Hp, Only H → SqL F H a (ns.map V.int) → HOk prog wd H st.heap → (∀ b, H b ≠ none → b = a) → (H a ≠ none → F.lookup a = none) →
      codeAny (model prog wd) callerA (.call (.ref fa) ⟨[.ref a], []⟩) (fun r s' => r = .ok (.ret (.bool true)) ∧ OldK st.heap s'.heap ∧ s'.os = st.os ∧ AllBare s'.gens) st := by
    intro H only seq hok onlyA notF
    have free : ∀ {b : Addr}, b ≠ a → H b = none := fun {b} nb => by
      cases z : H b with
      | none => rfl
      | some u => exact (nb (onlyA b (by rw [z]; exact fun w => by cases w))).elim
    have nsTo : ∀ {b : Addr} {m : Str → Option Value}, st.heap.Ns b m → (hidT st.heap H).Ns b m := by
      rintro b m ⟨o, es, ep, e1, e2, e3⟩
      refine ⟨o, es, ep, hidT_get e1 (free fun z => ?_), e2, e3⟩
      subst z
      rw [at_a e1] at e2
      cases e2
    have inF2 : F.In (hidT st.heap H) := fun b o z => hidT_get (inF b o z) (by
      by_cases q : b = a
      · subst q
        cases y : H b with
        | none => rfl
        | some u => rw [notF (by rw [y]; exact fun w => by cases w)] at z; cases z
      · exact free q)
    have lim2 : (hidT st.heap H).NoLimit := let ⟨mc, l1, l2⟩ := noLim; ⟨mc, nsTo l1, l2⟩
    have env : Env0 prog wd F gl (hidT st.heap H) callerA [] st H := ⟨rfl, ⟨inF2, nsTo hgl, ⟨bl, nsTo hbl, hbb⟩, lim2⟩, fun _ _ z => of_hidT z, Nat.le_of_eq (hidT_size _ _), trivial, fun b z => (List.not_mem_nil z).elim, hok, .of_eq noGen⟩
    refine codeAny_mono ((f _ inF2 (nsTo hgl)).run callerA [] st H ⟨[.ref a], []⟩ [.ref a] [.ref a] _ _ room env (bnd st (.ref a)) (.cons rfl .nil) (want H only seq)) fun res s2 out => ?_
    match res, out with
    | .error er, out => exact (noX H er s2 out).elim
    | .ok .next, out => exact out.elim
    | .ok .brk, out => exact out.elim
    | .ok .cont, out => exact out.elim
    | .ok (.ret u2), out =>
      obtain ⟨v2, H2, os, bare, un, hok2, rv, rfl⟩ := out
      obtain rfl : u2 = Value.bool true := rv
      refine ⟨rfl, OldK.of_keep fun b o z => ?_, os, bare⟩
      rcases only b with y | ⟨ob, ys, y⟩
      · exact un.keep b o z y (fun w => (List.not_mem_nil w).elim) (by simp)
      · obtain ⟨e1, _⟩ := hok b _ y
        obtain ⟨e2, _⟩ := hok2 b _ (un.frzs b ob _ y)
        exact e2.trans (e1.symm.trans z)
  cases hk : F.lookup a with
  | some o =>
    obtain rfl := at_a (inF a o hk)
    exact go (fun _ => none) (fun _ => .inl rfl) (.inr ⟨_, vs.toArray, _, hk, rfl, rfl, rfl, by rw [List.size_toArray, hi.length]; exact hsz, by simpa using rvs⟩) (fun _ _ z => by cases z) (fun _ z => (z rfl).elim) (fun z => (z rfl).elim)
  | none =>
    have here : ∀ {b : Addr} {u : HO}, (if b = a then some (HO.frz { cls := .type "list", data := .seq vs.toArray } (.lst (ns.map V.int))) else none) = some u → b = a ∧ u = .frz { cls := .type "list", data := .seq vs.toArray } (.lst (ns.map V.int)) := by
      intro b u z
      split at z
      · rename_i q; exact ⟨q, (Option.some.inj z).symm⟩
      · cases z
    refine go (fun b => if b = a then some (.frz { cls := .type "list", data := .seq vs.toArray } (.lst (ns.map V.int))) else none) (fun b => ?_) (.inl (.inr ⟨_, if_pos rfl⟩)) (fun b u z => ?_) (fun b z => ?_) (fun _ => hk)
    · by_cases q : b = a
      · exact .inr ⟨_, _, if_pos q⟩
      · exact .inl (if_neg q)
    · obtain ⟨rfl, rfl⟩ := here z
      exact ⟨ha, by rw [List.length_map]; exact hsz, vs, _, rvs, ha⟩
    · by_cases q : b = a
      · exact q
      · exact (z (if_neg q)).elim
theorem walk_ofG {l : PySem.W.OpenLaw} {most n : Nat} {q : Program} {loose : List Str} {XP : (Str → Option Value) → Heap → Prop} {YP : World → Heap → Prop} {d : DefRec} {Kp : Params → PySem.W.Frag} {cx : World → CXT} {pr : World → Sp} {nm : Str}
    (hn : l.most = some most) (hn2 : most ≤ sizeLine) (hdf : d.params.defaults = []) (room : Room n callerA) (hY : ∀ (w : World) (h : Heap), YP w h → (Kp w.params).In h)
    (f : ∀ (w : World) (gl : Str → Option Value) (fa : Addr) (h : Heap), (Kp w.params).In h → h.Ns mainGlobals gl → gl d.name = some (.ref fa) →
      ∃ fun_ : FuncData, (∀ (s : Shared) (u : Value), BindsTo s fun_ ⟨[u], []⟩ [(nm, u)]) ∧ ∀ b0 : Heap, (Kp w.params).In b0 → b0.Ns mainGlobals gl → FnOk l.prog w (Kp w.params) gl b0 (cx w) n fa fun_ [nm] (pr w))
    (want : ∀ (w : World) (H : Hp) (a : Addr) (ns : List Int), ns.length ≤ most → Only H → SqL (Kp w.params) H a (ns.map V.int) → pr w [.ref a] H (fun v _ => v = .bl true) fun _ _ _ => False)
    (noX : ∀ (w : World) (H : Hp) (s : Shared) (e : Value) (s' : Shared), cx w [] H s (fun _ _ _ => False) e s' → False) :
    PySem.W.WalkO q loose XP YP l.row.toRowW d [] (fun f vs => PySem.call f vs) :=
  Att.attach_call hn hdf fun w s₀ s₁ gl bl fa o pm cd doc a vs ns G Y ho hd hcd hmg hobj hints hlen hg => by
    have inF := hY w _ Y
    obtain ⟨fun_, bnd, hf⟩ := f w gl fa _ inF G.T.g hmg
    exact law_callG inF G.T.g G.T.b G.T.builtins G.T.nolimit hg hobj hints (Nat.le_trans hlen hn2) room hf bnd (fun H hO hS => want w H a ns hlen hO hS) fun H e s' => noX w H s₁ e s'
end DL

set_option Elab.async false
set_option linter.all false
set_option maxRecDepth 100000
set_option maxHeartbeats 1000000
/-! DLCall: a def of the text, called -/
namespace DL
open PySem PySem.Spec PyProof.Rows L2

/-! ### the promise -/
/-- what a def with the locals N promises, its body doing b -/
def spF (K : PySem.W.Frag) (ps N : List Str) (b : M Flow) : Sp := fun vs H Q E => vs.length = ps.length ∧ tS K (fun cls d _ H' => E cls d H') b { nx := fun _ H' => Q .non H', rt := Q } (L2.start N vs) H

/-! ### arguments -/
/-- how an argument is passed: frozen, lent to be changed, lent to be read -/
inductive AM where
  | F | L | R
def holdS (i : Nat) : M HS := fun s => match s.env[i]? with
  | some (some (.fz d)) => .ok (.d d) s
  | some (some _) => .ok (.slot i) s
  | _ => .bad
def toHM : AM → VR → M HS
  | .F, r => frz r >>= fun d => pure (.d d)
  | _, .t t => frz (.t t) >>= fun d => pure (.d d)
  | _, .slot i => holdS i
def toHMs : List AM → List VR → M (List HS)
  | m :: ms, r :: rs => toHM m r >>= fun h => toHMs ms rs >>= fun hs => pure (h :: hs)
  | [], [] => pure []
  | _, _ => M.bad
def entW : AM → W → W
  | _, .fz d => .fz d
  | .L, .own d => .lent d
  | .L, .lent d => .lent d
  | _, w => .lkl w.data
def ent1 : AM → HS → State → Option W
  | _, .d d, _ => some (.fz d)
  | m, .slot i, s => match s.env[i]? with
    | some (some w) => some (entW m w)
    | _ => none
def ents : List AM → List HS → State → Option (List W)
  | m :: ms, h :: hs, s => match ent1 m h s, ents ms hs s with
    | some w, some ws => some (w :: ws)
    | _, _ => none
  | [], [], _ => some []
  | _, _, _ => none
def noSlot (i : Nat) : List HS → Bool
  | [] => true
  | .d _ :: hs => noSlot i hs
  | .slot j :: hs => j != i && noSlot i hs
def oneEach : List HS → Bool
  | [] => true
  | .d _ :: hs => oneEach hs
  | .slot j :: hs => noSlot j hs && oneEach hs
/-- what was lent is changed -/
def back1 (h : HS) (w : W) (c : Option W) (e : List (Option W)) : Option (List (Option W)) := match h, w with
  | .slot i, .lent _ => (match c with
    | some (.lent d) => (match e[i]? with
      | some (some (.own _)) => some (e.set i (some (.own d)))
      | some (some (.lent _)) => some (e.set i (some (.lent d)))
      | _ => none)
    | _ => none)
  | _, _ => some e
def backs : List HS → List W → List (Option W) → List (Option W) → Option (List (Option W))
  | h :: hs, w :: ws, c :: ce, e => (match back1 h w c e with
    | some e1 => backs hs ws ce e1
    | none => none)
  | [], [], _, e => some e
  | _, _, _, _ => none
def backS (hs : List HS) (ws : List W) (s sc : State) : Option State := match backs hs ws sc.env s.env with
  | some e => some { env := e, sto := sc.sto, dr := sc.dr }
  | none => none
def callR (hs : List HS) (ws : List W) (s : State) : Rs Flow → Rs T
  | .ok (.rt t) sc => (match backS hs ws s sc with | some s' => .ok t s' | none => .bad)
  | .ok .nx sc => (match backS hs ws s sc with | some s' => .ok (.fz .non) s' | none => .bad)
  | .ok _ _ => .bad
  | .err x sc => (match backS hs ws s sc with | some s' => .err x s' | none => .bad)
  | .bad => .bad
/-- n: the number of locals; dw: the defaults that stand in -/
def pass2 (n : Nat) (ms : List AM) (dw : List D) (b : M Flow) (hs : List HS) : M T := fun s => match ents ms hs s with
  | some ws => if oneEach hs = true then callR hs ws s (b { env := (ws ++ dw.map W.fz).map some ++ List.replicate (n - (ws.length + dw.length)) none, sto := s.sto, dr := s.dr }) else .bad
  | none => .bad
def dPass (n : Nat) (ms : List AM) (dw : List D) (b : M Flow) (rs : List VR) : M T := toHMs ms rs >>= pass2 n ms dw b
def dCall (n : Nat) (ms : List AM) (dw : List D) (b : M Flow) (fl : M (List VR)) : M T := fl >>= dPass n ms dw b

section
variable {K : PySem.W.Frag} {g g' g0 : Gh} {H H' H0 : Hp} {σ σ' σ0 : Slots} {s s' s0 : State}
theorem toHM_run {m : AM} {r : VR} {h : HS} {v : V} (e : toHM m r s = .ok h s') (e0 : Ev g0 H0 σ0 s0 g H σ s) (sd : SD K g H σ s) (x : RVR K σ H0 g H s v r) :
    ∃ g', SD K g' H σ s' ∧ Ev g0 H0 σ0 s0 g' H σ s' ∧ RH K g' σ v h ∧ (∀ v' r', RVR K σ H0 g H s v' r' → (∀ a d d2, r' = .t (.ow d) → v' = .ref a → r = .t (.ow d2) → v ≠ .ref a) → RVR K σ H0 g' H s' v' r') ∧ Le g g' := by
  have viaF : (frz r >>= fun d => pure (HS.d d)) s = .ok h s' → ∃ g', SD K g' H σ s' ∧ Ev g0 H0 σ0 s0 g' H σ s' ∧ RH K g' σ v h ∧ (∀ v' r', RVR K σ H0 g H s v' r' → (∀ a d d2, r' = .t (.ow d) → v' = .ref a → r = .t (.ow d2) → v ≠ .ref a) → RVR K σ H0 g' H s' v' r') ∧ Le g g' := fun e => by
    rw [bind_eq] at e
    cases q : frz r s with
    | bad => rw [q] at e; cases e
    | err x s1 => rw [q] at e; cases e
    | ok d s1 =>
      rw [q] at e
      cases e
      exact frz_run q e0 sd x
  have viaS : ∀ i, r = .slot i → holdS i s = .ok h s' → ∃ g', SD K g' H σ s' ∧ Ev g0 H0 σ0 s0 g' H σ s' ∧ RH K g' σ v h ∧ (∀ v' r', RVR K σ H0 g H s v' r' → (∀ a d d2, r' = .t (.ow d) → v' = .ref a → r = .t (.ow d2) → v ≠ .ref a) → RVR K σ H0 g' H s' v' r') ∧ Le g g' := fun i er eS => by
    subst er
    clear viaF e
    have e := eS
    clear eS
    unfold holdS at e
    split at e
    · rename_i d hd
      cases e
      obtain ⟨v', ev, wa⟩ := sd.slot i _ hd
      have x : σ[i]? = some (some v) := x
      rw [x] at ev; cases ev
      exact ⟨g, sd, e0, wa, fun _ _ z _ => z, .refl g⟩
    · cases e
      exact ⟨g, sd, e0, x, fun _ _ z _ => z, .refl g⟩
    · cases e
  cases m with
  | F => exact viaF e
  | L =>
    cases r with
    | slot i => exact viaS i rfl e
    | t t => exact viaF e
  | R =>
    cases r with
    | slot i => exact viaS i rfl e
    | t t => exact viaF e
theorem toHMs_run : ∀ {ms : List AM} {rs : List VR} {vs : List V} {hs : List HS} {s s' : State} {g : Gh}, toHMs ms rs s = .ok hs s' → Ev g0 H0 σ0 s0 g H σ s → SD K g H σ s → RVRs K σ H0 g H s vs rs →
    ∃ g', SD K g' H σ s' ∧ Ev g0 H0 σ0 s0 g' H σ s' ∧ RHs K g' σ vs hs ∧ Le g g'
  | [], [], _, _, _, _, g, e, e0, sd, h => by
    cases h
    cases e
    exact ⟨g, sd, e0, .nil, .refl g⟩
  | [], _ :: _, _, _, _, _, g, e, e0, sd, h => by cases e
  | _ :: _, [], _, _, _, _, g, e, e0, sd, h => by cases e
  | m :: ms, r :: rs, _, hs, s, s', g, e, e0, sd, .cons (v := v) (vs := vs) a b c => by
    unfold toHMs at e
    rw [bind_eq] at e
    cases q1 : toHM m r s with
    | bad => rw [q1] at e; cases e
    | err x s2 => rw [q1] at e; cases e
    | ok h1 s1 =>
      rw [q1] at e
      have e : (toHMs ms rs >>= fun hs => pure (h1 :: hs)) s1 = .ok hs s' := e
      rw [bind_eq] at e
      obtain ⟨g1, sd1, e1, rp, tr, le1⟩ := toHM_run q1 e0 sd a
      have h3 : ∀ {us : List V} {ts : List VR}, RVRs K σ H0 g H s us ts → (∀ p ∈ us.zip ts, p ∈ vs.zip rs) → RVRs K σ H0 g1 H s1 us ts := by
        intro us ts hh
        induction hh with
        | nil => exact fun _ => .nil
        | cons a' b' c' ih =>
          intro hm
          exact .cons (tr _ _ a' fun b' d' d2 e1 e2 e3 => fun e4 => c b' d2 e3 e4 _ (hm _ List.mem_cons_self) d' e1 e2) (ih fun p hp => hm p (List.mem_cons_of_mem _ hp)) c'
      cases q2 : toHMs ms rs s1 with
      | bad => rw [q2] at e; cases e
      | err x s2 => rw [q2] at e; cases e
      | ok hs2 s2 =>
        rw [q2] at e
        cases e
        obtain ⟨g2, sd2, e2, rp2, le2⟩ := toHMs_run q2 e1 sd1 (h3 b fun _ h => h)
        exact ⟨g2, sd2, e2, .cons (rp.le le2) rp2, le1.trans le2⟩
theorem toHMs_len : ∀ {ms : List AM} {rs : List VR} {s s' : State} {hs : List HS}, toHMs ms rs s = .ok hs s' → ms.length = rs.length
  | [], [], _, _, _, _ => rfl
  | [], _ :: _, _, _, _, e => by cases e
  | _ :: _, [], _, _, _, e => by cases e
  | m :: ms, r :: rs, s, s', hs, e => by
    unfold toHMs at e
    rw [bind_eq] at e
    cases q1 : toHM m r s with
    | bad => rw [q1] at e; cases e
    | err x s2 => rw [q1] at e; cases e
    | ok h1 s1 =>
      rw [q1] at e
      have e : (toHMs ms rs >>= fun hs => pure (h1 :: hs)) s1 = .ok hs s' := e
      rw [bind_eq] at e
      cases q2 : toHMs ms rs s1 with
      | bad => rw [q2] at e; cases e
      | err x s2 => rw [q2] at e; cases e
      | ok hs2 s2 => rw [List.length_cons, List.length_cons, toHMs_len q2]
theorem toHM_res (m : AM) (r : VR) (s : State) : (∃ d s', toHM m r s = .ok d s') ∨ toHM m r s = .bad := by
  have viaF : (∃ d s', (frz r >>= fun d => pure (HS.d d)) s = .ok d s') ∨ (frz r >>= fun d => pure (HS.d d)) s = .bad := by
    rw [bind_eq]
    rcases frz_res r s with ⟨d, s', e⟩ | e <;> rw [e]
    · exact .inl ⟨_, _, rfl⟩
    · exact .inr rfl
  have viaS : ∀ i, (∃ d s', holdS i s = .ok d s') ∨ holdS i s = .bad := fun i => by
    unfold holdS
    split
    · exact .inl ⟨_, _, rfl⟩
    · exact .inl ⟨_, _, rfl⟩
    · exact .inr rfl
  cases m with
  | F => exact viaF
  | L =>
    cases r with
    | slot i => exact viaS i
    | t t => exact viaF
  | R =>
    cases r with
    | slot i => exact viaS i
    | t t => exact viaF
theorem toHMs_res : ∀ (ms : List AM) (rs : List VR) (s : State), (∃ d s', toHMs ms rs s = .ok d s') ∨ toHMs ms rs s = .bad
  | [], [], s => .inl ⟨[], s, rfl⟩
  | [], _ :: _, s => .inr rfl
  | _ :: _, [], s => .inr rfl
  | m :: ms, r :: rs, s => by
    unfold toHMs
    rw [bind_eq]
    rcases toHM_res m r s with ⟨h, s1, e⟩ | e
    · rw [e]
      show (∃ d' s', (toHMs ms rs >>= fun ds => pure (h :: ds)) s1 = .ok d' s') ∨ (toHMs ms rs >>= fun ds => pure (h :: ds)) s1 = .bad
      rw [bind_eq]
      rcases toHMs_res ms rs s1 with ⟨ds, s2, e2⟩ | e2
      · rw [e2]; exact .inl ⟨_, _, rfl⟩
      · rw [e2]; exact .inr rfl
    · rw [e]; exact .inr rfl

/-! ### into the callee's frame -/
/-- each argument's address, where the callee holds it -/
theorem ents_at : ∀ {ms : List AM} {hs : List HS} {ws : List W} {vs : List V}, ents ms hs s = some ws → RHs K g σ vs hs → ∀ (j : Nat) (w : W), ws[j]? = some w →
    ∃ v, vs[j]? = some v ∧ ((∃ d, w = .fz d ∧ Rep K g v d) ∨ ∃ (i : Nat) (m : AM) (u : W), hs[j]? = some (.slot i) ∧ s.env[i]? = some (some u) ∧ w = entW m u ∧ σ[i]? = some (some v))
  | [], [], _, _, e, _, j, w, hj => by cases e; simp at hj
  | [], _ :: _, _, _, e, _, j, w, hj => by cases e
  | _ :: _, [], _, _, e, _, j, w, hj => by cases e
  | m :: ms, h :: hs, ws, _, e, .cons (v := v) (vs := vs) a b, j, w, hj => by
    unfold ents at e
    cases e1 : ent1 m h s with
    | none => simp only [e1] at e; cases e
    | some w1 =>
      cases e2 : ents ms hs s with
      | none => simp only [e1, e2] at e; cases e
      | some ws2 =>
        simp only [e1, e2] at e
        cases e
        cases j with
        | zero =>
          have hj : some w1 = some w := hj
          cases hj
          refine ⟨v, rfl, ?_⟩
          cases h with
          | d d => unfold ent1 at e1; cases e1; exact .inl ⟨d, rfl, a⟩
          | slot i =>
            have e1 : (match s.env[i]? with | some (some w) => some (entW m w) | _ => none) = some w := by cases m <;> exact e1
            split at e1
            · rename_i u hu
              cases e1
              exact .inr ⟨i, _, u, rfl, hu, rfl, a⟩
            · cases e1
        | succ j => exact ents_at e2 b j w hj
theorem ents_length : ∀ {ms : List AM} {hs : List HS} {ws : List W}, ents ms hs s = some ws → ws.length = hs.length
  | [], [], _, e => by cases e; rfl
  | [], _ :: _, _, e => by cases e
  | _ :: _, [], _, e => by cases e
  | m :: ms, h :: hs, ws, e => by
    unfold ents at e
    cases e1 : ent1 m h s with
    | none => simp only [e1] at e; cases e
    | some w1 =>
      cases e2 : ents ms hs s with
      | none => simp only [e1, e2] at e; cases e
      | some ws2 =>
        simp only [e1, e2] at e
        cases e
        rw [List.length_cons, List.length_cons, ents_length e2]
theorem RHs.length : ∀ {vs : List V} {hs : List HS}, RHs K g σ vs hs → vs.length = hs.length
  | _, _, .nil => rfl
  | _, _, .cons _ b => by rw [List.length_cons, List.length_cons, RHs.length b]
theorem noSlot_get : ∀ {hs : List HS} {i j k : Nat}, noSlot i hs = true → hs[j]? = some (.slot k) → k ≠ i
  | [], _, _, _, _, h => by simp at h
  | .d _ :: hs, i, 0, k, e, h => by cases h
  | .d _ :: hs, i, j + 1, k, e, h => noSlot_get (hs := hs) (show noSlot i hs = true from e) h
  | .slot l :: hs, i, 0, k, e, h => by
    have h : some (HS.slot l) = some (.slot k) := h
    cases h
    have e : (l != i && noSlot i hs) = true := e
    rw [Bool.and_eq_true] at e
    simpa using e.1
  | .slot l :: hs, i, j + 1, k, e, h => by
    have e : (l != i && noSlot i hs) = true := e
    rw [Bool.and_eq_true] at e
    exact noSlot_get e.2 h
theorem oneEach_inj : ∀ {hs : List HS} {j k i : Nat}, oneEach hs = true → hs[j]? = some (.slot i) → hs[k]? = some (.slot i) → j = k
  | [], _, _, _, _, h, _ => by simp at h
  | .d _ :: hs, 0, _, _, e, h, _ => by cases h
  | .d _ :: hs, j + 1, 0, _, e, _, h => by cases h
  | .d _ :: hs, j + 1, k + 1, _, e, h1, h2 => by rw [oneEach_inj (hs := hs) (show oneEach hs = true from e) h1 h2]
  | .slot l :: hs, 0, 0, _, e, _, _ => rfl
  | .slot l :: hs, 0, k + 1, i, e, h1, h2 => by
    have h : some (HS.slot l) = some (.slot i) := h1
    cases h
    have e : (noSlot l hs && oneEach hs) = true := e
    rw [Bool.and_eq_true] at e
    exact absurd rfl (noSlot_get e.1 h2)
  | .slot l :: hs, j + 1, 0, i, e, h1, h2 => by
    have h : some (HS.slot l) = some (.slot i) := h2
    cases h
    have e : (noSlot l hs && oneEach hs) = true := e
    rw [Bool.and_eq_true] at e
    exact absurd rfl (noSlot_get e.1 h1)
  | .slot l :: hs, j + 1, k + 1, i, e, h1, h2 => by
    have e : (noSlot l hs && oneEach hs) = true := e
    rw [Bool.and_eq_true] at e
    rw [oneEach_inj e.2 h1 h2]
/-- the callee's state at its entry -/
def inS (n : Nat) (ws : List W) (dw : List D) (s : State) : State := { env := (ws ++ dw.map W.fz).map some ++ List.replicate (n - (ws.length + dw.length)) none, sto := s.sto, dr := s.dr }
theorem inS_get {n : Nat} {ws : List W} {dw : List D} {j : Nat} {w : W} (h : (inS n ws dw s).env[j]? = some (some w)) : ws[j]? = some w ∨ ∃ d, w = .fz d ∧ ws.length ≤ j ∧ dw[j - ws.length]? = some d := by
  have h : ((ws ++ dw.map W.fz).map some ++ List.replicate (n - (ws.length + dw.length)) none)[j]? = some (some w) := h
  rw [List.getElem?_append] at h
  split at h
  · rw [List.getElem?_map, List.getElem?_append] at h
    split at h
    · cases q : ws[j]? with
      | none => rw [q] at h; cases h
      | some u => rw [q] at h; cases h; exact .inl rfl
    · rename_i hj
      rw [List.getElem?_map] at h
      cases q : dw[j - ws.length]? with
      | none => rw [q] at h; cases h
      | some u => rw [q] at h; cases h; exact .inr ⟨u, rfl, by omega, rfl⟩
  · rw [List.getElem?_replicate] at h
    split at h <;> cases h
theorem start_at {N : List Str} {vs : List V} {j : Nat} {v : V} (h : vs[j]? = some v) : (L2.start N vs)[j]? = some (some v) := by
  unfold L2.start
  have hl := (List.getElem?_eq_some_iff.mp h).1
  rw [List.getElem?_append_left (by rw [List.length_map]; exact hl), List.getElem?_map, h]
  rfl
theorem start_len {N : List Str} {vs : List V} : (L2.start N vs).length = vs.length + (N.length - vs.length) := by
  unfold L2.start
  rw [List.length_append, List.length_map, List.length_replicate]
/-- where an entry that is held comes from -/
theorem ents_held {ms : List AM} {hs : List HS} {ws : List W} {vs : List V} (e : ents ms hs s = some ws) (r : RHs K g σ vs hs) {j : Nat} {w : W} (hj : ws[j]? = some w) (hw : w.held = true) :
    ∃ (i : Nat) (m : AM) (u : W) (v : V), vs[j]? = some v ∧ hs[j]? = some (.slot i) ∧ s.env[i]? = some (some u) ∧ w = entW m u ∧ σ[i]? = some (some v) ∧ u.held = true := by
  obtain ⟨v, hv, h⟩ := ents_at e r j w hj
  rcases h with ⟨d, rfl, _⟩ | ⟨i, m, u, h1, h2, rfl, h4⟩
  · cases hw
  · refine ⟨i, m, u, v, hv, h1, h2, rfl, h4, ?_⟩
    cases u <;> first | rfl | (cases m <;> cases hw)
theorem SD.enter {ms : List AM} {hs : List HS} {ws : List W} {vs dvs : List V} {dw : List D} {N : List Str} (sd : SD K g H σ s) (e : ents ms hs s = some ws) (o : oneEach hs = true) (r : RHs K g σ vs hs) (hd : Reps K g dvs dw) :
    SD K g H (L2.start N (vs ++ dvs)) (inS N.length ws dw s) := by
  have hl : ws.length = vs.length := (ents_length e).trans r.length.symm
  have dl := hd.length
  refine ⟨sd.gh, ?_, fun j w hj => ?_, fun j k w u a hj hk hw hu xj xk => ?_, sd.stl, sd.sto, sd.nd, sd.ng, sd.dr⟩
  · rw [start_len]
    show ((ws ++ dw.map W.fz).map some ++ List.replicate (N.length - (ws.length + dw.length)) none).length = _
    simp only [List.length_append, List.length_map, List.length_replicate]
    omega
  · rcases inS_get hj with hj | ⟨d, rfl, h1, h2⟩
    · obtain ⟨v, hv, h⟩ := ents_at e r j w hj
      have hlt := (List.getElem?_eq_some_iff.mp hv).1
      refine ⟨v, start_at (by rw [List.getElem?_append_left hlt]; exact hv), ?_⟩
      rcases h with ⟨d, rfl, rp⟩ | ⟨i, m, u, _, h2, rfl, h4⟩
      · exact rp
      · obtain ⟨v', ev, wa⟩ := sd.slot i u h2
        rw [h4] at ev; cases ev
        cases u with
        | fz d => cases m <;> exact wa
        | own d =>
          obtain ⟨a, ob, ea, f, q, oa⟩ := wa
          cases m
          · exact ⟨a, ob, ea, f, .inl q, oa⟩
          · exact ⟨a, ob, ea, f, q, oa⟩
          · exact ⟨a, ob, ea, f, .inl q, oa⟩
        | lent d =>
          obtain ⟨a, ob, ea, f, q, oa⟩ := wa
          cases m
          · exact ⟨a, ob, ea, f, .inl q, oa⟩
          · exact ⟨a, ob, ea, f, q, oa⟩
          · exact ⟨a, ob, ea, f, .inl q, oa⟩
        | lk d => cases m <;> exact wa
        | lkl d => cases m <;> exact wa
    · obtain ⟨v, hv, rp⟩ := hd.get h2
      refine ⟨v, start_at (by rw [List.getElem?_append_right (by omega), ← hl]; exact hv), rp⟩
  · have low : ∀ {l : Nat} {z : W}, (inS N.length ws dw s).env[l]? = some (some z) → z.held = true → ws[l]? = some z := fun {l z} h hz => by
      rcases inS_get h with h | ⟨d, rfl, _⟩
      · exact h
      · cases hz
    obtain ⟨i1, m1, u1, v1, a1, b1, c1, _, e1, f1⟩ := ents_held e r (low hj hw) hw
    obtain ⟨i2, m2, u2, v2, a2, b2, c2, _, e2, f2⟩ := ents_held e r (low hk hu) hu
    rw [start_at (by rw [List.getElem?_append_left (List.getElem?_eq_some_iff.mp a1).1]; exact a1)] at xj
    rw [start_at (by rw [List.getElem?_append_left (List.getElem?_eq_some_iff.mp a2).1]; exact a2)] at xk
    cases xj; cases xk
    have := sd.inj i1 i2 u1 u2 a c1 c2 f1 f2 e1 e2
    subst this
    exact oneEach_inj o b1 b2

/-! ### .. and back -/
/-- what stands in the caller's slots behind the call -/
def BkAt (hs : List HS) (ws : List W) (ce e e' : List (Option W)) (i : Nat) : Prop :=
  ((∀ (j : Nat) (d : D), hs[j]? = some (.slot i) → ws[j]? = some (.lent d) → False) ∧ e'[i]? = e[i]?) ∨
  ∃ (j : Nat) (d0 d d1 : D), hs[j]? = some (.slot i) ∧ ws[j]? = some (.lent d0) ∧ ce[j]? = some (some (.lent d)) ∧ ((e[i]? = some (some (.own d1)) ∧ e'[i]? = some (some (.own d))) ∨ (e[i]? = some (some (.lent d1)) ∧ e'[i]? = some (some (.lent d))))
theorem BkAt.skip {h : HS} {w : W} {c : Option W} {hs : List HS} {ws : List W} {ce e e' : List (Option W)} {i : Nat} (n : ∀ d, h = .slot i → w = .lent d → False) (x : BkAt hs ws ce e e' i) : BkAt (h :: hs) (w :: ws) (c :: ce) e e' i := by
  rcases x with ⟨x, q⟩ | ⟨j, d0, d, d1, h1, h2, h3, h4⟩
  · refine .inl ⟨fun j d h1 h2 => ?_, q⟩
    cases j with
    | zero => exact n d (by simpa using h1) (by simpa using h2)
    | succ j => exact x j d h1 h2
  · exact .inr ⟨j + 1, d0, d, d1, h1, h2, h3, h4⟩
theorem BkAt.head {h : HS} {w : W} {c : Option W} {hs : List HS} {ws : List W} {ce e e' : List (Option W)} {i l : Nat} {dw dn d1 : D} {k : D → W} (hk : k = W.own ∨ k = W.lent) (o : noSlot l hs = true) (hh : h = .slot l) (hw : w = .lent dw) (hc : c = some (.lent dn)) (el : e[l]? = some (some (k d1)))
    (x : BkAt hs ws ce (e.set l (some (k dn))) e' i) : BkAt (h :: hs) (w :: ws) (c :: ce) e e' i := by
  subst hh hw hc
  have ll : l < e.length := (List.getElem?_eq_some_iff.mp el).1
  by_cases z : i = l
  · subst z
    rcases x with ⟨_, q⟩ | ⟨j, d0, d, d1, h1, _⟩
    · rw [List.getElem?_set_self ll] at q
      rcases hk with rfl | rfl
      · exact .inr ⟨0, dw, dn, d1, rfl, rfl, rfl, .inl ⟨el, q⟩⟩
      · exact .inr ⟨0, dw, dn, d1, rfl, rfl, rfl, .inr ⟨el, q⟩⟩
    · exact absurd rfl (noSlot_get o h1)
  · refine BkAt.skip (fun d h1 _ => z (by cases h1; rfl)) ?_
    unfold BkAt at x ⊢
    rw [List.getElem?_set_ne (Ne.symm z)] at x
    exact x
theorem back1_at {h : HS} {w : W} {c : Option W} {e e1 : List (Option W)} (q : back1 h w c e = some e1) :
    (∃ (l : Nat) (dw dn d1 : D) (k : D → W), (k = W.own ∨ k = W.lent) ∧ h = .slot l ∧ w = .lent dw ∧ c = some (.lent dn) ∧ e[l]? = some (some (k d1)) ∧ e1 = e.set l (some (k dn))) ∨ (e1 = e ∧ ∀ i d, h = .slot i → w = .lent d → False) := by
  unfold back1 at q
  split at q
  · rename_i i dw
    split at q
    · rename_i dn
      split at q
      · rename_i d1 h1
        cases q
        exact .inl ⟨i, dw, dn, d1, W.own, .inl rfl, rfl, rfl, rfl, h1, rfl⟩
      · rename_i d1 h1
        cases q
        exact .inl ⟨i, dw, dn, d1, W.lent, .inr rfl, rfl, rfl, rfl, h1, rfl⟩
      · cases q
    · cases q
  · rename_i n
    cases q
    exact .inr ⟨rfl, fun i d h1 h2 => n i d h1 h2⟩
theorem oneEach_tail {h : HS} {hs : List HS} (o : oneEach (h :: hs) = true) : oneEach hs = true := by
  cases h with
  | d d => exact o
  | slot l =>
    have o : (noSlot l hs && oneEach hs) = true := o
    rw [Bool.and_eq_true] at o
    exact o.2
theorem backs_at : ∀ {hs : List HS} {ws : List W} {ce e e' : List (Option W)}, backs hs ws ce e = some e' → oneEach hs = true → e'.length = e.length ∧ ∀ i, BkAt hs ws ce e e' i
  | [], [], ce, e, e', h, o => by
    unfold backs at h
    cases h
    exact ⟨rfl, fun i => .inl ⟨fun j d h => by simp at h, rfl⟩⟩
  | h :: hs, w :: ws, c :: ce, e, e', q, o => by
    unfold backs at q
    cases q1 : back1 h w c e with
    | none => simp only [q1] at q; cases q
    | some e1 =>
      simp only [q1] at q
      obtain ⟨l1, x1⟩ := backs_at q (oneEach_tail o)
      rcases back1_at q1 with ⟨l, dw, dn, d1, k, hk, rfl, rfl, rfl, el, rfl⟩ | ⟨rfl, n⟩
      · have o : (noSlot l hs && oneEach hs) = true := o
        rw [Bool.and_eq_true] at o
        exact ⟨by rw [l1, List.length_set], fun i => BkAt.head hk o.1 rfl rfl rfl el (x1 i)⟩
      · exact ⟨l1, fun i => BkAt.skip (n i) (x1 i)⟩
  | [], _ :: _, _, _, _, h, _ => by cases h
  | _ :: _, [], _, _, _, h, _ => by cases h
  | _ :: _, _ :: _, [], _, _, h, _ => by cases h
theorem BkAt.kinds {hs : List HS} {ws : List W} {ce e e' : List (Option W)} {i : Nat} (x : BkAt hs ws ce e e' i) {w : W} (h : e'[i]? = some (some w)) : ∃ u, e[i]? = some (some u) ∧ u.held = w.held ∧ u.mut = w.mut ∧ ((∃ d, w = .own d) ↔ ∃ d, u = .own d) ∧ ((∃ d, w = .lk d) ↔ ∃ d, u = .lk d) := by
  rcases x with ⟨_, q⟩ | ⟨j, d0, d, d1, _, _, _, ⟨e1, e2⟩ | ⟨e1, e2⟩⟩
  · rw [q] at h
    exact ⟨w, h, rfl, rfl, .rfl, .rfl⟩
  · rw [e2] at h; cases h
    exact ⟨_, e1, rfl, rfl, Iff.intro (fun _ => ⟨_, rfl⟩) (fun _ => ⟨_, rfl⟩), Iff.intro (fun z => by obtain ⟨_, z⟩ := z; cases z) (fun z => by obtain ⟨_, z⟩ := z; cases z)⟩
  · rw [e2] at h; cases h
    exact ⟨_, e1, rfl, rfl, Iff.intro (fun z => by obtain ⟨_, z⟩ := z; cases z) (fun z => by obtain ⟨_, z⟩ := z; cases z), Iff.intro (fun z => by obtain ⟨_, z⟩ := z; cases z) (fun z => by obtain ⟨_, z⟩ := z; cases z)⟩
theorem entW_mut {m : AM} {u : W} (h : (entW m u).mut = true) : u.mut = true ∧ ∃ d, entW m u = .lent d := by
  cases u with
  | fz d => cases m <;> cases h
  | own d =>
    cases m with
    | F => cases h
    | R => cases h
    | L => exact ⟨rfl, d, rfl⟩
  | lent d =>
    cases m with
    | F => cases h
    | R => cases h
    | L => exact ⟨rfl, d, rfl⟩
  | lk d => cases m <;> cases h
  | lkl d => cases m <;> cases h
theorem SD.leave {ms : List AM} {hs : List HS} {ws : List W} {vs dvs : List V} {dw : List D} {N : List Str} {sc s2 : State} (sd : SD K g H σ s) (e : ents ms hs s = some ws) (o : oneEach hs = true) (r : RHs K g σ vs hs) (hd : Reps K g dvs dw)
    (sdc : SD K g' H' σ' sc) (ev : Ev g H (L2.start N (vs ++ dvs)) (inS N.length ws dw s) g' H' σ' sc) (b : backS hs ws s sc = some s2) :
    SD K g' H' σ s2 ∧ Ev g H σ s g' H' σ s2 ∧ (∀ a, ¬ OwnA (L2.start N (vs ++ dvs)) (inS N.length ws dw s) a) ∧ ∀ a, Hd σ s2 a → Hd σ s a := by
  have sdin := sd.enter (N := N) e o r hd
  unfold backS at b
  cases q : backs hs ws sc.env s.env with
  | none => rw [q] at b; cases b
  | some e' =>
    rw [q] at b
    cases b
    obtain ⟨el, bk⟩ := backs_at q o
    -- what the callee may change, the caller may
    have low : ∀ {l : Nat} {z : W}, (inS N.length ws dw s).env[l]? = some (some z) → z.held = true → ws[l]? = some z := fun {l z} h hz => by
      rcases inS_get h with h | ⟨d, rfl, _⟩
      · exact h
      · cases hz
    have muIn : ∀ a, Mu g (L2.start N (vs ++ dvs)) (inS N.length ws dw s) a → (∃ (i j : Nat) (d : D) (u : W), hs[j]? = some (.slot i) ∧ ws[j]? = some (.lent d) ∧ s.env[i]? = some (some u) ∧ u.mut = true ∧ σ[i]? = some (some (.ref a))) ∨ a ∈ g.η ∨ IsDr g a := fun a m => by
      rcases m with ⟨j, w, ej, mj, x⟩ | m
      · have hw : w.held = true := by cases w <;> first | rfl | cases mj
        obtain ⟨i, m, u, v, a1, a2, a3, rfl, a5, _⟩ := ents_held e r (low ej hw) hw
        obtain ⟨um, d, ed⟩ := entW_mut mj
        rw [start_at (by rw [List.getElem?_append_left (List.getElem?_eq_some_iff.mp a1).1]; exact a1)] at x
        cases x
        exact .inl ⟨i, j, d, u, a2, by rw [low ej hw, ed], a3, um, a5⟩
      · exact .inr m
    have muUp : ∀ a, Mu g (L2.start N (vs ++ dvs)) (inS N.length ws dw s) a → Mu g σ s a := fun a m => by
      rcases muIn a m with ⟨i, j, d, u, _, _, h1, h2, h3⟩ | m
      · exact .inl ⟨i, u, h1, h2, h3⟩
      · exact .inr m
    have hdUp : ∀ a, Hd σ { env := e', sto := sc.sto, dr := sc.dr } a → Hd σ s a := fun a ⟨i, w, h1, h2, h3⟩ => by
      obtain ⟨u, k1, k2, _⟩ := (bk i).kinds h1
      exact ⟨i, u, k1, k2.trans h2, h3⟩
    have noOwn : ∀ a, ¬ OwnA (L2.start N (vs ++ dvs)) (inS N.length ws dw s) a := fun a ⟨j, d, h, x⟩ => by
      have key : ∀ w : W, (w = .own d ∨ w = .lk d) → (inS N.length ws dw s).env[j]? = some (some w) → False := fun w hw h => by
        have hh : w.held = true := by rcases hw with rfl | rfl <;> rfl
        obtain ⟨i, m, u, v, a1, a2, a3, a4, a5, a6⟩ := ents_held e r (low h hh) hh
        cases u <;> cases m <;> rcases hw with rfl | rfl <;> cases a4
      rcases h with h | h
      · exact key _ (.inl rfl) h
      · exact key _ (.inr rfl) h
    refine ⟨⟨sdc.gh, el.trans sd.len, fun i w hi => ?_, fun i j w u a h1 h2 h3 h4 h5 h6 => ?_, sdc.stl, sdc.sto, sdc.nd, sdc.ng, sdc.dr⟩,
      ⟨ev.le, fun a ob h nm => ev.keep a ob h fun m => nm (muUp a m), ev.live, fun a l z => (ev.frz a l z).imp id (muUp a), ev.eta, fun a m => ?_, fun a m => .inl (hdUp a m), fun a m => ?_, fun i d h => ?_, fun i d h => ?_, fun i d h => ?_⟩, noOwn, hdUp⟩
    · rcases bk i with ⟨n, q1⟩ | ⟨j, d0, d, d1, h1, h2, h3, h4⟩
      · -- not lent: as it was
        have hi : e'[i]? = some (some w) := hi
        rw [q1] at hi
        obtain ⟨v, ev', wa⟩ := sd.slot i w hi
        have nm : ∀ b, v = .ref b → w.held = true → Free1 g b → ¬ Mu g (L2.start N (vs ++ dvs)) (inS N.length ws dw s) b := fun b eb hw f m => by
          rcases muIn b m with ⟨i2, j2, d2, u2, k1, k2, k3, k4, k5⟩ | m
          · have hu2 : u2.held = true := by cases u2 <;> first | rfl | cases k4
            have := sd.inj i i2 w u2 b hi k3 hw hu2 (by rw [ev', eb]) k5
            subst this
            exact n j2 d2 k1 k2
          · rcases m with m | m
            · exact f.2.1 m
            · exact f.2.2 m
        have fr : ∀ b, v = .ref b → w.held = true → H b ≠ none → Free1 g b → Free1 g' b := fun b eb hw lv f => by
          refine ⟨?_, fun z => f.2.1 (ev.eta b lv z), fun z => f.2.2 (z.eq ev.le.dr)⟩
          cases q : g'.G b with
          | none => rfl
          | some ob => exact ((ev.frz b lv (by rw [q]; simp)).elim (fun z => z f.1) (nm b eb hw f)).elim
        refine ⟨v, ev', ?_⟩
        have free : w.held = true → ∀ b, v = .ref b → Free1 g b := fun hw b eb => by
          cases w with
          | fz d => cases hw
          | own d => obtain ⟨c, _, ec, f, _⟩ := wa; rw [ec] at eb; cases eb; exact f
          | lent d => obtain ⟨c, _, ec, f, _⟩ := wa; rw [ec] at eb; cases eb; exact f
          | lk d => obtain ⟨c, _, ec, f, _⟩ := wa; rw [ec] at eb; cases eb; exact f
          | lkl d => obtain ⟨c, _, ec, f, _⟩ := wa; rw [ec] at eb; cases eb; exact f
        refine wa.keep ev.le (fun b u eb hw h => ev.keep b u h (nm b eb hw (free hw b eb))) fun b eb hw f => fr b eb hw (sd.hdLive ⟨i, w, hi, hw, by rw [ev', eb]⟩) f
      · -- lent: what the callee left
        have hin : (inS N.length ws dw s).env[j]? = some (some (.lent d0)) := by
          have hl := (List.getElem?_eq_some_iff.mp h2).1
          show ((ws ++ dw.map W.fz).map some ++ List.replicate (N.length - (ws.length + dw.length)) none)[j]? = _
          rw [List.getElem?_append_left (by rw [List.length_map, List.length_append]; omega), List.getElem?_map, List.getElem?_append_left hl, h2]
          rfl
        obtain ⟨i', m, u, v, a1, a2, a3, a4, a5, a6⟩ := ents_held e r h2 rfl
        have : i' = i := by rw [h1] at a2; cases a2; rfl
        subst this
        obtain ⟨f1, _⟩ := ev.fix j d0 hin
        obtain ⟨v', ev', wa⟩ := sdc.slot j _ h3
        rw [f1, start_at (by rw [List.getElem?_append_left (List.getElem?_eq_some_iff.mp a1).1]; exact a1)] at ev'
        cases ev'
        refine ⟨v, a5, ?_⟩
        have hi : e'[i']? = some (some w) := hi
        rcases h4 with ⟨_, h4⟩ | ⟨_, h4⟩
        · rw [h4] at hi; cases hi; exact wa
        · rw [h4] at hi; cases hi; exact wa
    · obtain ⟨w', k1, k2, _⟩ := (bk i).kinds h1
      obtain ⟨u', k3, k4, _⟩ := (bk j).kinds h2
      exact sd.inj i j w' u' a k1 k3 (k2.trans h3) (k4.trans h4) h5 h6
    · rcases m with ⟨i, w, h1, h2, h3⟩ | m
      · obtain ⟨u, k1, _, k3, _⟩ := (bk i).kinds h1
        exact .inl (.inl ⟨i, u, k1, k3.trans h2, h3⟩)
      · rcases ev.mu a (.inr m) with z | z
        · exact .inl (muUp a z)
        · exact .inr z
    · obtain ⟨i, d, h1, h3⟩ := m
      rcases h1 with h1 | h1
      · obtain ⟨u, k1, _, _, k4, _⟩ := (bk i).kinds h1
        obtain ⟨d', rfl⟩ := k4.mp ⟨_, rfl⟩
        exact .inl ⟨i, d', .inl k1, h3⟩
      · obtain ⟨u, k1, _, _, _, k5⟩ := (bk i).kinds h1
        obtain ⟨d', rfl⟩ := k5.mp ⟨_, rfl⟩
        exact .inl ⟨i, d', .inr k1, h3⟩
    · refine ⟨rfl, ?_⟩
      rcases bk i with ⟨_, q1⟩ | ⟨j, d0, d2, d1, _, _, _, ⟨e1, e2⟩ | ⟨e1, e2⟩⟩
      · exact ⟨d, .inl (q1.trans h)⟩
      · rw [e1] at h; cases h
      · exact ⟨d2, .inl e2⟩
    · refine ⟨rfl, ?_⟩
      rcases bk i with ⟨_, q1⟩ | ⟨j, d0, d2, d1, _, _, _, ⟨e1, e2⟩ | ⟨e1, e2⟩⟩
      · exact q1.trans h
      · rw [e1] at h; cases h
      · rw [e1] at h; cases h
    · refine ⟨rfl, ?_⟩
      rcases bk i with ⟨_, q1⟩ | ⟨j, d0, d2, d1, _, _, _, ⟨e1, e2⟩ | ⟨e1, e2⟩⟩
      · exact q1.trans h
      · rw [e1] at h; cases h
      · rw [e1] at h; cases h
variable {Wx : WX} {R : Gh → Hp → State → V → T → Prop} {Q : V → Hp → Prop}
/-- the promise of the callee is met, and what it gives back is what the caller wants -/
theorem pass2_run {ms : List AM} {dw : List D} {b : M Flow} {hs : List HS} {vs dvs : List V} {ps N : List Str} {R : Gh → Hp → State → V → T → Prop} (c : Cur K Wx σ R Q g0 H0 s0 (pass2 N.length ms dw b hs s) g H s) (rh : RHs K g σ vs hs) (hd : ∀ g, Reps K g dvs dw)
    (hn : hs.length + dw.length = ps.length) (hR : ∀ g' H' s' v t, Ev g H σ s g' H' σ s' → RT K H g' H' σ s' v t → R g' H' s' v t) : spF K ps N b (vs ++ dvs) H Q (fun cls d H' => Wx cls d σ H') := by
  refine ⟨by rw [List.length_append, rh.length, (hd g).length]; exact hn, ?_⟩
  have p := c.post
  unfold pass2 at p
  cases q : ents ms hs s with
  | none => simp only [q] at p; exact p.elim
  | some ws =>
    simp only [q] at p
    by_cases ho : oneEach hs = true
    · rw [if_pos ho] at p
      refine ⟨g, inS N.length ws dw s, c.sd.enter q ho rh (hd g), ?_⟩
      have p : Post K Wx σ R Q g0 H0 s0 (callR hs ws s (b (inS N.length ws dw s))) := p
      cases q2 : b (inS N.length ws dw s) with
      | bad => rw [q2] at p; exact p
      | err x sc =>
        rw [q2] at p
        unfold callR at p
        cases q3 : backS hs ws s sc with
        | none => simp only [q3] at p; exact p.elim
        | some s2 =>
          simp only [q3] at p
          intro cls d σ' g' H' sdc ev er
          obtain ⟨k1, k2, _⟩ := c.sd.leave q ho rh (hd g) sdc ev q3
          exact p cls d g' H' k1 (c.ev.trans k2) er
      | ok fl sc =>
        rw [q2] at p
        cases fl with
        | bk => exact p.elim
        | ct => exact p.elim
        | nx =>
          unfold callR at p
          cases q3 : backS hs ws s sc with
          | none => simp only [q3] at p; exact p.elim
          | some s2 =>
            simp only [q3] at p
            intro σ' g' H' sdc ev
            obtain ⟨k1, k2, _⟩ := c.sd.leave q ho rh (hd g) sdc ev q3
            exact p .non g' H' k1 (c.ev.trans k2) (hR _ _ _ _ _ k2 ⟨.non, fun _ _ z => nomatch z⟩)
        | rt t =>
          unfold callR at p
          cases q3 : backS hs ws s sc with
          | none => simp only [q3] at p; exact p.elim
          | some s2 =>
            simp only [q3] at p
            intro v σ' g' H' sdc ev rr
            obtain ⟨k1, k2, k3, k4⟩ := c.sd.leave q ho rh (hd g) sdc ev q3
            refine p v g' H' k1 (c.ev.trans k2) (hR _ _ _ _ _ k2 ⟨rr.at_, fun d a h1 h2 => ?_⟩)
            have hn : H a = none := ((rr.new d a h1 h2).1).elim id fun z => (k3 a z).elim
            exact ⟨hn, fun z => c.sd.hdLive (k4 a z) hn⟩
    · rw [if_neg ho] at p; exact p.elim
theorem pass_run {ms : List AM} {dw : List D} {b : M Flow} {rs : List VR} {vs dvs : List V} {ps N : List Str} (c : Cur K Wx σ (fun g H s v t => RT K H0 g H σ s v t) Q g0 H0 s0 (dPass N.length ms dw b rs s) g H s) (r : RVRs K σ H0 g H s vs rs) (hd : ∀ g, Reps K g dvs dw)
    (hn : ms.length + dw.length = ps.length) : spF K ps N b (vs ++ dvs) H Q (fun cls d H' => Wx cls d σ H') := by
  have p := c.post
  unfold dPass at p
  rw [bind_eq] at p
  rcases toHMs_res ms rs s with ⟨hs, s1, e⟩ | e
  · rw [e] at p
    obtain ⟨g1, sd1, e1, rh, le⟩ := toHMs_run e c.ev c.sd r
    exact pass2_run ⟨e1, sd1, p⟩ rh hd (by rw [← rh.length, r.length, ← toHMs_len e]; exact hn) fun g' H' s' v t ev rt => rt.past e1.live
  · rw [e] at p; exact p.elim
end
section
variable {X : Cx} {Wx : WX} {k : Nat} {f : Addr} {fd : FuncData} {ps N : List Str} {b : M Flow} {dvs : List V} {ds : List Value} {dw : List D} {x : Str} {p pos : Pos} {e : Expr} {es : List Expr} {fl : M (List VR)} {ms : List AM}
/-- f(e, ..) -/
theorem de_call (F : FnOk X.prog X.w X.K X.mg X.base (L2.CX X.prog X.w) k f fd ps (spF X.K ps N b)) {n : Nat} (hl : N.length = n) (hr : Room k X.A) (hm : X.mg x = some (.ref f)) (hk : PySem.W.keepIn X.K (.ref f) = true) (hb : Binds X.K fd ps ds) (hd : Vals dvs ds) (hw : ∀ g, Reps X.K g dvs dw) (tk : Takes X Wx)
    (hn : ms.length + dw.length = ps.length) (ha : DA X Wx (e :: es) fl) (hg : Gl X x := by rfl) (hdb : (x == ("__debug__" : Str)) = false := by decide) (he : starEach (e :: es) X.env = (false, eval e X.env) :: starEach es X.env := by rfl) (hpl : (backTo pos (starEach es X.env)).any (·.1) = false := by rfl) :
    DE X Wx (.Call (.Name x p) (e :: es) [] pos) (dCall n ms dw b fl) := by
  subst hl
  exact ⟨fun pins s σ H Q I h => (pe_callSD F hr hg hm hk hb hd (fun σ => passAt tk σ) ha hdb he hpl).run pins s σ H Q I (by
  obtain ⟨g, s, c⟩ := h.start
  refine c.bind.mono fun vs H1 ⟨rs, g1, s1, c1, r1, e1⟩ => ?_
  exact pass_run c1 r1 hw hn)⟩
end
end DL

set_option Elab.async false
set_option linter.all false
set_option maxRecDepth 100000
set_option maxHeartbeats 1000000
/-! DLComp: list comprehensions with one for -/
namespace DL
open PySem PySem.Spec PyProof.Rows L2
abbrev WF : WX := fun _ _ _ _ => False

/-- what every rule of a body may ask of its context -/
structure Bd (X : Cx) (Wx : WX) (k : Nat) : Prop where
  calm : X.calm = true
  room : Room k X.A
  tk : Takes X Wx
  own : PassesOwn (model X.prog X.w) X.A X.env X.xe
  nd : X.N.Nodup
theorem Bd.blk {X : Cx} {Wx : WX} {k : Nat} (b : Bd X Wx k) {s : Shared} {H : Hp} {scope : Scope} {ce : Env} {fp : List Addr} : Bd (X.blk s H scope ce fp) WF k :=
  ⟨b.calm, b.room, fun u s' x => by obtain ⟨_, _, _, _, _, _, _, _, _, _, _, _, _, _, _, _, z⟩ := x; exact z.elim, PassesOwn.never, b.nd⟩

/-! ### the block's own slots -/
def wipeE (e : List (Option W)) : List Nat → List (Option W)
  | [] => e
  | v :: vs => (wipeE e vs).set v none
def wipeS (vs : List Nat) (s : State) : State := { s with env := wipeE s.env vs }
/-- .. hold data or nothing -/
def fzAt (e : List (Option W)) : List Nat → Bool
  | [] => true
  | v :: vs => (match e[v]? with
    | some none => true
    | some (some (.fz _)) => true
    | _ => false) && fzAt e vs
def restoreE (e0 e : List (Option W)) : List Nat → List (Option W)
  | [] => e
  | v :: vs => (restoreE e0 e vs).set v (match e0[v]? with | some x => x | none => none)
def restoreS (vs : List Nat) (s0 s : State) : State := { s with env := restoreE s0.env s.env vs }
theorem wipeE_length (e : List (Option W)) : ∀ vs, (wipeE e vs).length = e.length
  | [] => rfl
  | v :: vs => by unfold wipeE; rw [List.length_set, wipeE_length e vs]
theorem wipeE_some {e : List (Option W)} {i : Nat} {w : W} : ∀ {vs : List Nat}, (wipeE e vs)[i]? = some (some w) → e[i]? = some (some w) ∧ i ∉ vs
  | [], h => ⟨h, by simp⟩
  | v :: vs, h => by
    unfold wipeE at h
    by_cases z : v = i
    · subst z
      by_cases hl : v < (wipeE e vs).length
      · rw [List.getElem?_set_self hl] at h; cases h
      · rw [List.getElem?_eq_none (by rw [List.length_set]; omega)] at h; cases h
    · rw [List.getElem?_set_ne z] at h
      obtain ⟨h1, h2⟩ := wipeE_some h
      exact ⟨h1, fun m => by rcases List.mem_cons.mp m with m | m <;> first | exact z m.symm | exact h2 m⟩
theorem wipeE_out {e : List (Option W)} {i : Nat} : ∀ {vs : List Nat}, i ∉ vs → (wipeE e vs)[i]? = e[i]?
  | [], _ => rfl
  | v :: vs, h => by
    unfold wipeE
    rw [List.getElem?_set_ne fun z => h (by rw [z]; exact List.mem_cons_self), wipeE_out fun m => h (List.mem_cons_of_mem _ m)]
theorem restoreE_length (e0 e : List (Option W)) : ∀ vs, (restoreE e0 e vs).length = e.length
  | [] => rfl
  | v :: vs => by unfold restoreE; rw [List.length_set, restoreE_length e0 e vs]
theorem restoreE_out {e0 e : List (Option W)} {i : Nat} : ∀ {vs : List Nat}, i ∉ vs → (restoreE e0 e vs)[i]? = e[i]?
  | [], _ => rfl
  | v :: vs, h => by
    unfold restoreE
    rw [List.getElem?_set_ne fun z => h (by rw [z]; exact List.mem_cons_self), restoreE_out fun m => h (List.mem_cons_of_mem _ m)]
theorem restoreE_in {e0 e : List (Option W)} {i : Nat} {w : W} : ∀ {vs : List Nat}, i ∈ vs → (restoreE e0 e vs)[i]? = some (some w) → e0[i]? = some (some w)
  | v :: vs, h, q => by
    unfold restoreE at q
    by_cases z : v = i
    · subst z
      by_cases hl : v < (restoreE e0 e vs).length
      · rw [List.getElem?_set_self hl] at q
        cases q1 : e0[v]? with
        | none => rw [q1] at q; cases q
        | some x => rw [q1] at q; exact q
      · rw [List.getElem?_eq_none (by rw [List.length_set]; omega)] at q; cases q
    · rw [List.getElem?_set_ne z] at q
      rcases List.mem_cons.mp h with h | h
      · exact absurd h.symm z
      · exact restoreE_in h q
theorem fzAt_get {e : List (Option W)} {i : Nat} {w : W} : ∀ {vs : List Nat}, fzAt e vs = true → i ∈ vs → e[i]? = some (some w) → ∃ d, w = .fz d
  | v :: vs, h, m, q => by
    unfold fzAt at h
    rw [Bool.and_eq_true] at h
    rcases List.mem_cons.mp m with m | m
    · subst m
      rw [q] at h
      cases w with
      | fz d => exact ⟨d, rfl⟩
      | _ => cases h.1
    · exact fzAt_get h.2 m q
theorem wipe_at {σ : Slots} {i : Nat} : ∀ {vs : List Nat}, i ∉ vs → (wipe σ vs)[i]? = σ[i]? := fun h => wipe_out h
theorem wipe_upto {σ σ' : Slots} : ∀ {L vs : List Nat}, Upto L σ σ' → (∀ i ∈ L, i ∈ vs) → wipe σ' vs = wipe σ vs := fun {L vs} u h => by
  refine List.ext_getElem? fun i => ?_
  by_cases m : i ∈ vs
  · -- wiped in both
    have key : ∀ τ : Slots, (wipe τ vs)[i]? = if i < τ.length then some none else none := fun τ => by
      by_cases hl : i < τ.length
      · rw [if_pos hl]
        have hl2 : i < (wipe τ vs).length := by rw [wipe_length]; exact hl
        cases q : (wipe τ vs)[i]? with
        | none => rw [List.getElem?_eq_getElem hl2] at q; cases q
        | some x =>
          cases x with
          | none => rfl
          | some v => exact absurd m (wipe_some q).2
      · rw [if_neg hl, List.getElem?_eq_none (by rw [wipe_length]; omega)]
    rw [key, key, u.1]
  · rw [wipe_at m, wipe_at m, u.2 i fun z => m (h i z)]

section
variable {K : PySem.W.Frag} {g g' g0 : Gh} {H H' H0 : Hp} {σ σ' σ0 : Slots} {s s' s0 : State} {vs : List Nat} {Dd : Addr}
theorem SD.wipe (sd : SD K g H σ s) : SD K g H (L2.wipe σ vs) (wipeS vs s) where
  gh := sd.gh
  len := by show (wipeE s.env vs).length = _; rw [wipeE_length, wipe_length]; exact sd.len
  slot := fun i w e => by
    obtain ⟨e1, n⟩ := wipeE_some (show (wipeE s.env vs)[i]? = _ from e)
    obtain ⟨v, ev, wa⟩ := sd.slot i w e1
    exact ⟨v, by rw [wipe_at n]; exact ev, wa⟩
  inj := fun i j w u a e1 e2 h1 h2 x1 x2 => sd.inj i j w u a (wipeE_some (show (wipeE s.env vs)[i]? = _ from e1)).1 (wipeE_some (show (wipeE s.env vs)[j]? = _ from e2)).1 h1 h2 (wipe_some x1).1 (wipe_some x2).1
  stl := sd.stl
  sto := sd.sto
  nd := sd.nd
  ng := sd.ng
  dr := sd.dr
theorem Hd.wipe {a : Addr} (h : Hd (L2.wipe σ vs) (wipeS vs s) a) : Hd σ s a := by
  obtain ⟨i, w, e, hw, x⟩ := h
  exact ⟨i, w, (wipeE_some (show (wipeE s.env vs)[i]? = _ from e)).1, hw, (wipe_some x).1⟩
theorem Mu.wipe {a : Addr} (h : Mu g (L2.wipe σ vs) (wipeS vs s) a) : Mu g σ s a := by
  rcases h with ⟨i, w, e, m, x⟩ | h
  · exact .inl ⟨i, w, (wipeE_some (show (wipeE s.env vs)[i]? = _ from e)).1, m, (wipe_some x).1⟩
  · exact .inr h
theorem OwnA.wipe {a : Addr} (h : OwnA (L2.wipe σ vs) (wipeS vs s) a) : OwnA σ s a := by
  obtain ⟨i, d, e, x⟩ := h
  exact ⟨i, d, e.imp (fun e => (wipeE_some (show (wipeE s.env vs)[i]? = _ from e)).1) (fun e => (wipeE_some (show (wipeE s.env vs)[i]? = _ from e)).1), (wipe_some x).1⟩
theorem Ev.wipe (e : Ev g0 H0 σ0 s0 g H σ s) (n : ∀ i ∈ vs, ∀ w, s0.env[i]? = some (some w) → ∃ d, w = .fz d) : Ev g0 H0 σ0 s0 g H (L2.wipe σ vs) (wipeS vs s) where
  le := e.le
  keep := e.keep
  live := e.live
  frz := e.frz
  eta := e.eta
  mu := fun a m => e.mu a m.wipe
  hd := fun a m => e.hd a m.wipe
  ow := fun a m => e.ow a m.wipe
  fix := fun i d h => by
    have ni : i ∉ vs := fun m => by obtain ⟨d, z⟩ := n i m _ h; cases z
    obtain ⟨h1, d', h2⟩ := e.fix i d h
    refine ⟨by rw [wipe_at ni]; exact h1, d', ?_⟩
    show (wipeE s.env vs)[i]? = _ ∨ (wipeE s.env vs)[i]? = _
    rw [wipeE_out ni]; exact h2
  lk := fun i d h => by
    have ni : i ∉ vs := fun m => by obtain ⟨d, z⟩ := n i m _ h; cases z
    obtain ⟨h1, h2⟩ := e.lk i d h
    refine ⟨by rw [wipe_at ni]; exact h1, ?_⟩
    show (wipeE s.env vs)[i]? = _
    rw [wipeE_out ni]; exact h2
  lkl := fun i d h => by
    have ni : i ∉ vs := fun m => by obtain ⟨d, z⟩ := n i m _ h; cases z
    obtain ⟨h1, h2⟩ := e.lkl i d h
    refine ⟨by rw [wipe_at ni]; exact h1, ?_⟩
    show (wipeE s.env vs)[i]? = _
    rw [wipeE_out ni]; exact h2
/-- the block's end -/
theorem SD.restore (sd : SD K g H σ s) (z : fzAt s.env vs = true) (sd' : SD K g' H' (L2.wipe σ vs) s') (e : Ev g H σ s g' H' (L2.wipe σ vs) s') : SD K g' H' σ (restoreS vs s s') ∧ Ev g H σ s g' H' σ (restoreS vs s s') ∧ ∀ a, Hd σ (restoreS vs s s') a → Hd (L2.wipe σ vs) s' a := by
  have low : ∀ {i : Nat} {w : W}, (restoreE s.env s'.env vs)[i]? = some (some w) → w.held = true → s'.env[i]? = some (some w) ∧ i ∉ vs := fun {i w} h hw => by
    by_cases m : i ∈ vs
    · obtain ⟨d, rfl⟩ := fzAt_get z m (restoreE_in m h)
      cases hw
    · rw [restoreE_out m] at h
      exact ⟨h, m⟩
  have hdl : ∀ a, Hd σ (restoreS vs s s') a → Hd (L2.wipe σ vs) s' a := fun a ⟨i, w, h, hw, x⟩ => by
    obtain ⟨h1, n⟩ := low h hw
    exact ⟨i, w, h1, hw, by rw [wipe_at n]; exact x⟩
  have mul : ∀ a, Mu g' σ (restoreS vs s s') a → Mu g' (L2.wipe σ vs) s' a := fun a m => by
    rcases m with ⟨i, w, h, hw, x⟩ | m
    · obtain ⟨h1, n⟩ := low h (by cases w <;> first | rfl | cases hw)
      exact .inl ⟨i, w, h1, hw, by rw [wipe_at n]; exact x⟩
    · exact .inr m
  have owl : ∀ a, OwnA σ (restoreS vs s s') a → OwnA (L2.wipe σ vs) s' a := fun a ⟨i, d, h, x⟩ => by
    rcases h with h | h
    · obtain ⟨h1, n⟩ := low h rfl
      exact ⟨i, d, .inl h1, by rw [wipe_at n]; exact x⟩
    · obtain ⟨h1, n⟩ := low h rfl
      exact ⟨i, d, .inr h1, by rw [wipe_at n]; exact x⟩
  have out : ∀ {i : Nat} {w : W}, s.env[i]? = some (some w) → w.held = true → i ∉ vs := fun {i w} h hw m => by
    obtain ⟨d, rfl⟩ := fzAt_get z m h
    cases hw
  refine ⟨⟨sd'.gh, ?_, fun i w h => ?_, fun i j w u a h1 h2 hw hu x1 x2 => ?_, sd'.stl, sd'.sto, sd'.nd, sd'.ng, sd'.dr⟩,
    ⟨e.le, e.keep, e.live, e.frz, e.eta, fun a m => e.mu a (mul a m), fun a m => e.hd a (hdl a m), fun a m => e.ow a (owl a m), fun i d h => ?_, fun i d h => ?_, fun i d h => ?_⟩, hdl⟩
  · show (restoreE s.env s'.env vs).length = _
    rw [restoreE_length, sd'.len, wipe_length]
  · by_cases m : i ∈ vs
    · have h0 := restoreE_in m h
      obtain ⟨d, rfl⟩ := fzAt_get z m h0
      obtain ⟨v, ev, wa⟩ := sd.slot i _ h0
      exact ⟨v, ev, Rep.mono e.le wa⟩
    · have h : (restoreE s.env s'.env vs)[i]? = some (some w) := h
      rw [restoreE_out m] at h
      obtain ⟨v, ev, wa⟩ := sd'.slot i w h
      rw [wipe_at m] at ev
      exact ⟨v, ev, wa⟩
  · obtain ⟨k1, n1⟩ := low h1 hw
    obtain ⟨k2, n2⟩ := low h2 hu
    exact sd'.inj i j w u a k1 k2 hw hu (by rw [wipe_at n1]; exact x1) (by rw [wipe_at n2]; exact x2)
  · have n := out h rfl
    obtain ⟨_, d', h2⟩ := e.fix i d h
    refine ⟨rfl, d', ?_⟩
    show (restoreE s.env s'.env vs)[i]? = _ ∨ (restoreE s.env s'.env vs)[i]? = _
    rw [restoreE_out n]; exact h2
  · have n := out h rfl
    refine ⟨rfl, ?_⟩
    show (restoreE s.env s'.env vs)[i]? = _
    rw [restoreE_out n]; exact (e.lk i d h).2
  · have n := out h rfl
    refine ⟨rfl, ?_⟩
    show (restoreE s.env s'.env vs)[i]? = _
    rw [restoreE_out n]; exact (e.lkl i d h).2
/-- an object that nothing holds is written -/
theorem SD.updFree (sd : SD K g H σ s) {o : HO} (f : Free1 g Dd) (nh : ¬ Hd σ s Dd) : SD K g (upd H Dd o) σ s where
  gh := fun b u e => by
    have ne : b ≠ Dd := fun z => by subst z; rw [f.1] at e; cases e
    exact (sd.gh b u e).keep fun w q => by rw [upd_ne ne]; exact q
  len := sd.len
  slot := fun i w e => by
    obtain ⟨v, ev, wa⟩ := sd.slot i w e
    refine ⟨v, ev, wa.keep (.refl g) (fun b u eb hw q => ?_) fun _ _ _ x => x⟩
    rw [upd_ne fun z => nh ⟨i, w, e, hw, by rw [ev, eb, z]⟩]; exact q
  inj := sd.inj
  stl := sd.stl
  sto := fun i m b e1 e2 => by
    obtain ⟨u, q, m1⟩ := sd.sto i m b e1 e2
    exact ⟨u, by rw [upd_ne fun z => f.2.1 (by rw [← z]; exact List.mem_of_getElem? e2)]; exact q, m1⟩
  nd := sd.nd
  ng := sd.ng
  dr := sd.dr.map fun x l d e q => by
    obtain ⟨c, q1, q2⟩ := q.dict
    exact ⟨⟨c, by rw [upd_ne fun z => f.2.2 ⟨x, l, e, .inl z.symm⟩]; exact q1, q2⟩, by rw [upd_ne fun z => f.2.2 ⟨x, l, e, .inr z.symm⟩]; exact q.list, q.ne, q.ga, q.gl⟩
theorem Ev.updNew (e : Ev g0 H0 σ0 s0 g H σ s) {o : HO} (h : H0 Dd = none) : Ev g0 H0 σ0 s0 g (upd H Dd o) σ s where
  le := e.le
  keep := fun a u q n => by rw [upd_ne fun z => by rw [z, h] at q; cases q]; exact e.keep a u q n
  live := fun a q => by
    by_cases z : a = Dd
    · subst z; exact absurd h q
    · rw [upd_ne z]; exact e.live a q
  frz := e.frz
  eta := e.eta
  mu := e.mu
  hd := e.hd
  ow := e.ow
  fix := e.fix
  lk := e.lk
  lkl := e.lkl
theorem RT.updFree {o : HO} {d : D} (r : RT K H0 g H σ s (.ref Dd) (.ow d)) {d' : D} (ob : ObAt K g o d') : RT K H0 g (upd H Dd o) σ s (.ref Dd) (.ow d') := by
  obtain ⟨a, u, e, f, q, _⟩ := r.at_
  cases e
  exact ⟨⟨Dd, o, rfl, f, upd_same, ob⟩, fun d2 a _ ea => r.new d a rfl ea⟩
theorem RT.wipe {v : V} {t : T} (r : RT K H0 g H σ s v t) : RT K H0 g H (L2.wipe σ vs) (wipeS vs s) v t := ⟨r.at_, fun d a e1 e2 => ⟨(r.new d a e1 e2).1, fun z => (r.new d a e1 e2).2 z.wipe⟩⟩
end

/-! ### the loop -/
def loopC (pt : Pt) (vs : List Nat) (ft : M Bool) (fe : M VR) : List D → List D → State → Rs (List D)
  | [], acc, s => .ok acc s
  | d :: ds, acc, s => match bindP pt d s with
    | none => .bad
    | some s1 => match ft s1 with
      | .ok true s2 => (match (fe >>= frz) s2 with
        | .ok y s3 => loopC pt vs ft fe ds (acc ++ [y]) (wipeS vs s3)
        | _ => .bad)
      | .ok false s2 => loopC pt vs ft fe ds acc (wipeS vs s2)
      | _ => .bad
def dLoopC (pt : Pt) (vs : List Nat) (ft : M Bool) (fe : M VR) (items : List D) : M T := fun s =>
  if fzAt s.env vs = true ∧ items.length < sizeLine then match loopC pt vs ft fe items [] (wipeS vs s) with
    | .ok acc s' => .ok (.ow (.lst acc)) (restoreS vs s s')
    | _ => .bad
  else .bad
/-! sources: what is locked is read as it stands -/
def frzR : VR → M D
  | .slot i => fun s => match s.env[i]? with
    | some (some (.lk d)) => .ok d s
    | some (some (.lkl d)) => .ok d s
    | _ => frz (.slot i) s
  | .t t => frz (.t t)
def frzRs : List VR → M (List D)
  | [] => pure []
  | r :: rs => frzR r >>= fun d => frzRs rs >>= fun ds => pure (d :: ds)
def dComp (h : List D → Option (List D)) (pt : Pt) (vs : List Nat) (ft : M Bool) (fe : M VR) (fl : M (List VR)) : M T := fl >>= fun rs => frzRs rs >>= fun ds => match h ds with
  | some items => dLoopC pt vs ft fe items
  | none => M.bad
section
variable {K : PySem.W.Frag} {Wx : WX} {g g0 : Gh} {H H0 : Hp} {σ : Slots} {s s0 : State} {Q : V → Hp → Prop} {R : Gh → Hp → State → V → T → Prop}
theorem comp_run {pt : Pt} {vs : List Nat} {ft : M Bool} {fe : M VR} {items : List D} {J : It} (c : Cur K Wx σ (fun g H s v t => RT K H0 g H σ s v t) Q g0 H0 s0 (dLoopC pt vs ft fe items s) g H s) (it : Iter K J g H σ s items) (hv : ∀ i ∈ pt.vs, i ∈ vs) :
    ∀ D, H D = none → ∃ W : Nat → Nat → Hp → Prop, (∃ m, W 0 m (upd H D (.lst []))) ∧ ∀ i m H, W i m H →
      (J.stop i H ∧ Q (.ref D) H) ∨ (J.go i H ∧ ∃ Nx : Hp → Prop, (∀ H', Nx H' → ∃ m', m' < m ∧ W (i + 1) m' H') ∧ ∀ x H', J.yld i H x H' → tP K pt x (wipe σ vs) H' fun σ2 H2 => wipe σ2 vs = wipe σ vs ∧ tM K WF RB ft σ2 H2 fun b H3 =>
        if b = true then tV K WF fe σ2 H3 fun y H4 => ∃ acc, H4 D = some (.lst acc) ∧ acc.length < sizeLine ∧ Nx (upd H4 D (.lst (acc ++ [y]))) else Nx H3) := by
  intro D hD
  have p := c.post
  unfold dLoopC at p
  have hz : fzAt s.env vs = true ∧ items.length < sizeLine := by
    by_cases hz : fzAt s.env vs = true ∧ items.length < sizeLine
    · exact hz
    · rw [if_neg hz] at p; exact p.elim
  rw [if_pos hz] at p
  obtain ⟨hz, hlen⟩ := hz
  cases q : loopC pt vs ft fe items [] (wipeS vs s) with
  | bad => rw [q] at p; exact p.elim
  | err x s1 => rw [q] at p; exact p.elim
  | ok accF sF =>
    rw [q] at p
    have n0 : ∀ i ∈ vs, ∀ w, s.env[i]? = some (some w) → ∃ d, w = .fz d := fun i m w h => fzAt_get hz m h
    have f1 := c.sd.free1 hD
    refine ⟨fun i m H' => m = items.length - i ∧ i ≤ items.length ∧ ∃ g' s' accD, SD K g' H' (wipe σ vs) s' ∧ Ev g H σ s g' H' (wipe σ vs) s' ∧ RT K H g' H' (wipe σ vs) s' (.ref D) (.ow (.lst accD)) ∧ accD.length ≤ i ∧ loopC pt vs ft fe (items.drop i) accD s' = .ok accF sF,
      ⟨items.length, by simp, Nat.zero_le _, g, wipeS vs s, [], (c.sd.alloc hD).wipe, (c.sd.allocEv hD).wipe n0, ⟨⟨D, _, rfl, f1, upd_same, ⟨[], rfl, .nil⟩⟩, fun d a _ e => by cases e; exact ⟨hD, fun z => c.sd.noHd hD z.wipe⟩⟩, Nat.le_refl _, q⟩, ?_⟩
    rintro i m H1 ⟨rfl, hi, g1, s1, accD, sd1, ev1, rt1, hl1, lq⟩
    obtain ⟨stop, go⟩ := it i g1 H1 (wipe σ vs) s1 sd1 ev1
    by_cases hlt : i < items.length
    · have e : items[i]? = some items[i] := List.getElem?_eq_getElem hlt
      obtain ⟨go1, go2⟩ := go _ e
      refine .inr ⟨go1, fun H' => i + 1 ≤ items.length ∧ ∃ g' s' accD, SD K g' H' (wipe σ vs) s' ∧ Ev g H σ s g' H' (wipe σ vs) s' ∧ RT K H g' H' (wipe σ vs) s' (.ref D) (.ow (.lst accD)) ∧ accD.length ≤ i + 1 ∧ loopC pt vs ft fe (items.drop (i + 1)) accD s' = .ok accF sF,
        fun H' z => ⟨items.length - (i + 1), by omega, rfl, z.1, z.2⟩, fun x H3 hy => ?_⟩
      obtain ⟨g3, sd3, ev3, rp3⟩ := go2 x H3 hy
      rw [List.drop_eq_getElem_cons hlt] at lq
      unfold loopC at lq
      cases q1 : bindP pt items[i] s1 with
      | none => simp only [q1] at lq; cases lq
      | some s2 =>
        simp only [q1] at lq
        refine ⟨g3, s1, items[i], sd3, rp3, s2, q1, fun σ4 u4 sd4 ev4 => ?_⟩
        have wq : wipe σ4 vs = wipe σ vs := by
          have z := wipe_upto (vs := vs) u4 hv
          rw [z]
          refine List.ext_getElem? fun j => ?_
          rw [wipe_upto (vs := vs) (L := vs) (show Upto vs σ (wipe σ vs) from ⟨wipe_length .., fun i h => wipe_out h⟩) fun _ h => h]
        refine ⟨wq, g3, s2, sd4, ?_⟩
        have rt4 := (rt1.ev ev3).ev ev4
        have evA := ev1.trans (ev3.trans ev4)
        cases q2 : ft s2 with
        | bad => simp only [q2] at lq; cases lq
        | err y s5 => simp only [q2] at lq; cases lq
        | ok b s5 =>
          simp only [q2] at lq
          intro b' g5 H5 sd5 ev5 hb
          have hb : b' = b := hb
          subst hb
          have rt5 := rt4.ev ev5
          have evB := evA.trans ev5
          cases b' with
          | false =>
            rw [if_neg Bool.false_ne_true]
            simp only at lq
            exact ⟨hlt, g5, wipeS vs s5, accD, wq ▸ sd5.wipe, wq ▸ evB.wipe n0, wq ▸ rt5.wipe, Nat.le_succ_of_le hl1, lq⟩
          | true =>
            rw [if_pos rfl]
            simp only at lq
            refine ⟨g5, s5, sd5, ?_⟩
            rw [bind_eq] at lq
            cases q3 : fe s5 with
            | bad => rw [q3] at lq; simp only at lq; cases lq
            | err y s6 => rw [q3] at lq; simp only at lq; cases lq
            | ok r s6 =>
              rw [q3] at lq
              simp only at lq
              intro y g6 H6 sd6 ev6 rv
              have rt6 := rt5.ev ev6
              rcases frz_res r s6 with ⟨d, s7, q4⟩ | q4
              · rw [q4] at lq
                simp only at lq
                have lv5 : ∀ a, H a ≠ none → H5 a ≠ none := evB.live
                obtain ⟨g7, sd7, ev7, rp7, tr7, le7⟩ := frz_run q4 (evB.trans ev6) sd6 (RVR.past (H0 := H) (H1 := H5) lv5 rv)
                obtain ⟨a5, o5, ea5, _, h5, _⟩ := rt5.at_
                cases ea5
                have rt7 : RT K H g7 H6 σ4 s7 (.ref D) (.ow (.lst accD)) := tr7 (.ref D) (.t (.ow (.lst accD))) rt6 fun a d' d2 _ ea er ey => by
                  cases ea
                  subst er
                  have z := (RT.new (show RT K H5 g6 H6 σ4 s6 y (.ow d2) from rv) d2 D rfl ey).1
                  rw [h5] at z; cases z
                obtain ⟨a7, o7, ea7, f7, h7, xs, rfl, rx⟩ := rt7.at_
                cases ea7
                have nh7 := (rt7.new _ D rfl rfl).2
                refine ⟨xs, h7, by rw [rx.length]; omega, hlt, g7, wipeS vs s7, accD ++ [d], wq ▸ (sd7.updFree f7 nh7).wipe, wq ▸ (ev7.updNew hD).wipe n0, wq ▸ (RT.updFree (d' := .lst (accD ++ [d])) rt7 (show ObAt K g7 (.lst (xs ++ [y])) (.lst (accD ++ [d])) from ⟨_, rfl, rx.append (.one rp7)⟩)).wipe, by rw [List.length_append]; simpa using Nat.succ_le_succ hl1, lq⟩
              · rw [q4] at lq; simp only at lq; cases lq
    · have e : i = items.length := by omega
      subst e
      rw [List.drop_length] at lq
      unfold loopC at lq
      cases lq
      refine .inl ⟨stop (Nat.le_refl _), ?_⟩
      obtain ⟨k1, k2, k3⟩ := SD.restore c.sd hz sd1 ev1
      exact p (.ref D) g1 H1 k1 (c.ev.trans k2) (RT.past c.ev.live ⟨rt1.at_, fun d a e1 e2 => ⟨(rt1.new d a e1 e2).1, fun z => (rt1.new d a e1 e2).2 (k3 a z)⟩⟩)
end
def DTs (X : Cx) (Wx : WX) (ifs : List Expr) (f : M Bool) : Prop := PTs X ifs (tM X.K Wx RB f)
def dYes : M Bool := fun s => .ok true s
section
variable {K : PySem.W.Frag} {σ σ0 : Slots} {g g' g0 : Gh} {H0 H : Hp} {s s' s0 : State} {v : V}
theorem frz_keep {r : VR} {d : DL.D} (e : frz r s = .ok d s') {j : Nat} {w : W} (hw : s.env[j]? = some (some w)) (n : ∀ x, w ≠ .own x) : s'.env[j]? = some (some w) := by
  cases r with
  | t t => cases e; exact hw
  | slot i =>
    unfold frz at e
    cases e2 : s.env[i]? with
    | none => simp only [e2] at e; cases e
    | some u =>
      cases u with
      | none => simp only [e2] at e; cases e
      | some u =>
        cases u with
        | fz d' => simp only [e2] at e; cases e; exact hw
        | own d' =>
          simp only [e2] at e; cases e
          have ne : j ≠ i := fun z => by
            subst z; rw [hw] at e2; cases e2; exact n _ rfl
          exact (putE_ne ne).trans hw
        | lent d' => simp only [e2] at e; cases e
        | lk d' => simp only [e2] at e; cases e
        | lkl d' => simp only [e2] at e; cases e
theorem frzR_is (r : VR) (s : State) : frzR r s = frz r s ∨ ∃ i d, r = .slot i ∧ frzR r s = .ok d s ∧ (s.env[i]? = some (some (.lk d)) ∨ s.env[i]? = some (some (.lkl d))) := by
  cases r with
  | t t => exact .inl rfl
  | slot i =>
    cases e : s.env[i]? with
    | none => exact .inl (by simp only [frzR, e])
    | some u =>
      cases u with
      | none => exact .inl (by simp only [frzR, e])
      | some u =>
        cases u with
        | lk d => exact .inr ⟨i, d, rfl, by simp only [frzR, e], .inl e⟩
        | lkl d => exact .inr ⟨i, d, rfl, by simp only [frzR, e], .inr e⟩
        | _ => exact .inl (by simp only [frzR, e])
theorem frzR_res (r : VR) (s : State) : (∃ d s', frzR r s = .ok d s') ∨ frzR r s = .bad := by
  rcases frzR_is r s with e | ⟨_, d, _, e, _⟩
  · rw [e]; exact frz_res r s
  · exact .inl ⟨d, s, e⟩
theorem frzRs_res : ∀ (rs : List VR) (s : State), (∃ d s', frzRs rs s = .ok d s') ∨ frzRs rs s = .bad
  | [], s => .inl ⟨[], s, rfl⟩
  | r :: rs, s => by
    unfold frzRs
    rw [bind_eq]
    rcases frzR_res r s with ⟨d, s1, e⟩ | e
    · rw [e]
      show (∃ d' s', (frzRs rs >>= fun ds => pure (d :: ds)) s1 = .ok d' s') ∨ (frzRs rs >>= fun ds => pure (d :: ds)) s1 = .bad
      rw [bind_eq]
      rcases frzRs_res rs s1 with ⟨ds, s2, e2⟩ | e2
      · rw [e2]; exact .inl ⟨_, _, rfl⟩
      · rw [e2]; exact .inr rfl
    · rw [e]; exact .inr rfl
theorem frzR_keep {r : VR} {d : DL.D} (e : frzR r s = .ok d s') {j : Nat} {w : W} (hw : s.env[j]? = some (some w)) (n : ∀ x, w ≠ .own x) : s'.env[j]? = some (some w) := by
  rcases frzR_is r s with q | ⟨_, d', _, q, _⟩
  · rw [q] at e; exact frz_keep e hw n
  · rw [q] at e; cases e; exact hw
theorem frzRs_keep : ∀ {rs : List VR} {ds : List DL.D} {s s' : State}, frzRs rs s = .ok ds s' → ∀ {j : Nat} {w : W}, s.env[j]? = some (some w) → (∀ x, w ≠ .own x) → s'.env[j]? = some (some w)
  | [], _, _, _, e, _, _, hw, _ => by cases e; exact hw
  | r :: rs, ds, s, s', e, j, w, hw, n => by
    unfold frzRs at e
    rw [bind_eq] at e
    cases q : frzR r s with
    | bad => rw [q] at e; cases e
    | err x s1 => rw [q] at e; cases e
    | ok d s1 =>
      rw [q] at e
      have e : (frzRs rs >>= fun ds => pure (d :: ds)) s1 = .ok ds s' := e
      rw [bind_eq] at e
      cases q2 : frzRs rs s1 with
      | bad => rw [q2] at e; cases e
      | err x s2 => rw [q2] at e; cases e
      | ok ds2 s2 =>
        rw [q2] at e; cases e
        exact frzRs_keep q2 (frzR_keep q hw n) n
theorem Src.held {d : DL.D} (le : Le g g') (k : ∀ (j : Nat) (w : W), s.env[j]? = some (some w) → (∀ x, w ≠ .own x) → s'.env[j]? = some (some w)) (h : Src K g σ s v d) : Src K g' σ s' v d := by
  rcases h with h | ⟨i, hv, h | h⟩
  · exact .inl (h.mono le)
  · exact .inr ⟨i, hv, .inl (k i _ h fun _ z => by cases z)⟩
  · exact .inr ⟨i, hv, .inr (k i _ h fun _ z => by cases z)⟩
theorem frzR_run {r : VR} {d : DL.D} (e : frzR r s = .ok d s') (e0 : Ev g0 H0 σ0 s0 g H σ s) (sd : SD K g H σ s) (h : RVR K σ H0 g H s v r) :
    ∃ g', SD K g' H σ s' ∧ Ev g0 H0 σ0 s0 g' H σ s' ∧ Src K g' σ s' v d ∧ (∀ v' r', RVR K σ H0 g H s v' r' → (∀ a d d2, r' = .t (.ow d) → v' = .ref a → r = .t (.ow d2) → v ≠ .ref a) → RVR K σ H0 g' H s' v' r') ∧ Le g g' := by
  rcases frzR_is r s with q | ⟨i, d', rfl, q, hi⟩
  · rw [q] at e
    obtain ⟨g1, a1, a2, a3, a4, a5⟩ := frz_run e e0 sd h
    exact ⟨g1, a1, a2, .inl a3, a4, a5⟩
  · rw [q] at e; cases e
    exact ⟨g, sd, e0, .inr ⟨i, h, hi⟩, fun _ _ z _ => z, .refl g⟩
theorem frzRs_run : ∀ {rs : List VR} {vs : List V} {ds : List DL.D} {s s' : State} {g : Gh}, frzRs rs s = .ok ds s' → Ev g0 H0 σ0 s0 g H σ s → SD K g H σ s → RVRs K σ H0 g H s vs rs →
    ∃ g', SD K g' H σ s' ∧ Ev g0 H0 σ0 s0 g' H σ s' ∧ Srcs K g' σ s' vs ds ∧ Le g g'
  | [], _, _, _, _, g, e, e0, sd, h => by
    cases h
    cases e
    exact ⟨g, sd, e0, .nil, .refl g⟩
  | r :: rs, _, ds, s, s', g, e, e0, sd, h => by
    cases h with
    | @cons v _ vs _ h1 h2 ap =>
      unfold frzRs at e
      rw [bind_eq] at e
      cases q : frzR r s with
      | bad => rw [q] at e; cases e
      | err x s1 => rw [q] at e; cases e
      | ok d s1 =>
        rw [q] at e
        have e : (frzRs rs >>= fun ds => pure (d :: ds)) s1 = .ok ds s' := e
        rw [bind_eq] at e
        obtain ⟨g1, sd1, e1, rp, tr, le1⟩ := frzR_run q e0 sd h1
        have h3 : ∀ {us : List V} {ts : List VR}, RVRs K σ H0 g H s us ts → (∀ p ∈ us.zip ts, p ∈ vs.zip rs) → RVRs K σ H0 g1 H s1 us ts := by
          intro us ts hh
          induction hh with
          | nil => exact fun _ => .nil
          | cons a b c ih =>
            intro hm
            exact .cons (tr _ _ a fun b' d' d2 e1 e2 e3 => fun e4 => ap b' d2 e3 e4 _ (hm _ List.mem_cons_self) d' e1 e2) (ih fun p hp => hm p (List.mem_cons_of_mem _ hp)) c
        cases q2 : frzRs rs s1 with
        | bad => rw [q2] at e; cases e
        | err x s2 => rw [q2] at e; cases e
        | ok ds2 s2 =>
          rw [q2] at e
          cases e
          obtain ⟨g2, sd2, e2, rp2, le2⟩ := frzRs_run q2 e1 sd1 (h3 h2 fun _ h => h)
          exact ⟨g2, sd2, e2, .cons (rp.held le2 fun j w hw n => frzRs_keep q2 hw n) rp2, le1.trans le2⟩
theorem Cur.frzRs {α β : Type} {Wx : WX} {R : Gh → Hp → State → β → α → Prop} {Q : β → Hp → Prop} {g1 : Gh} {H1 : Hp} {s1 : State} {rs : List VR} {vs : List V} {k : List DL.D → M α} (c : Cur K Wx σ R Q g0 H0 s0 ((DL.frzRs rs >>= k) s1) g1 H1 s1) (h : RVRs K σ H0 g1 H1 s1 vs rs) :
    ∃ ds g2 s2, Cur K Wx σ R Q g0 H0 s0 (k ds s2) g2 H1 s2 ∧ Srcs K g2 σ s2 vs ds ∧ Le g1 g2 := by
  rw [bind_eq] at c
  rcases frzRs_res rs s1 with ⟨d, s2, e⟩ | e
  · rw [e] at c
    obtain ⟨g2, sd2, ev2, rp, le⟩ := frzRs_run e c.ev c.sd h
    exact ⟨d, g2, s2, ⟨ev2, sd2, c.post⟩, rp, le⟩
  · rw [e] at c
    exact (c.notBad rfl).elim
end
section
variable {X : Cx} {Wx : WX} {l : Expr} {pos p p1 : Pos} {fl : M (List VR)} {fa : M VR} {ft : M Bool} {fe : M VR} {pt : Pt} {elt tg iter c : Expr} {ifs : List Expr} {scope : Scope} {own : List (Str × Nat)}
theorem dts_nil : DTs X Wx [] dYes := ⟨fun pins s σ H Q I h => pts_nil.run pins s σ H Q I (by
  obtain ⟨g, s, c⟩ := h.start
  exact c.done rfl rfl)⟩
theorem dts_one (h : DT X Wx c ft) : DTs X Wx [c] ft := pts_one h
/-- what a comprehension's block asks -/
structure DBlk (X : Cx) (Wx : WX) (k : Nat) (scope : Scope) (own : List (Str × Nat)) (tg : Expr) (ifs : List Expr) (elt : Expr) (pt : Pt) (ft : M Bool) (fe : M VR) : Prop where
  bd : Bd X Wx k
  ok : BlkOk X.N X.env.scope scope own
  hg : ∀ (s : Shared) (H : Hp) (C : Addr) (cl : List (Str × Addr)) (fp : List Addr), Bd (X.blk s H scope (compEnvC scope cl C X.env) fp) WF k → DG (X.blk s H scope (compEnvC scope cl C X.env) fp) tg pt
  ht : ∀ (s : Shared) (H : Hp) (C : Addr) (cl : List (Str × Addr)) (fp : List Addr), Bd (X.blk s H scope (compEnvC scope cl C X.env) fp) WF k → DTs (X.blk s H scope (compEnvC scope cl C X.env) fp) WF ifs ft
  he : ∀ (s : Shared) (H : Hp) (C : Addr) (cl : List (Str × Addr)) (fp : List Addr), Bd (X.blk s H scope (compEnvC scope cl C X.env) fp) WF k → DV (X.blk s H scope (compEnvC scope cl C X.env) fp) WF elt fe
  hv : ∀ i ∈ pt.vs, i ∈ own.map (·.2)
/-- the walk of the source, from its data -/
def wI (K : PySem.W.Frag) (Wx : WX) (h : List DL.D → Option (List DL.D)) (fl : M (List VR)) : TI := fun σ H R => tM K Wx (RVL K) fl σ H fun vs H1 => ∃ g ds s, SD K g H1 σ s ∧ Srcs K g σ s vs ds ∧ ∃ items, h ds = some items ∧ ∀ J, Iter K J g H1 σ s items → R J H1
def DItr (X : Cx) (Wx : WX) (tg iter : Expr) (h : List DL.D → Option (List DL.D)) (fl : M (List VR)) : Prop := PI X tg iter (wI X.K Wx h fl)
theorem tM.one {K : PySem.W.Frag} {Wx : WX} {f : M VR} {σ : Slots} {H : Hp} {Q : List V → Hp → Prop} (q : tM K Wx (RVL K) (dOne f) σ H Q) : tM K Wx (RVR K) f σ H fun v H1 => Q [v] H1 := by
  obtain ⟨g, s, sd, p⟩ := q
  refine ⟨g, s, sd, ?_⟩
  unfold dOne at p
  rw [bind_eq] at p
  cases q : f s with
  | bad => rw [q] at p; exact p
  | err x s1 => rw [q] at p; exact p
  | ok r s1 =>
    rw [q] at p
    exact fun v g' H' sd' ev rv => p [v] g' H' sd' ev (.cons rv .nil fun _ _ _ _ _ hp => by simp at hp)
theorem di_seq {e : Expr} (h : DV X Wx e fa) : DItr X Wx tg e itS (dOne fa) := ⟨fun pins s σ H R I q => (pi_seq h).run pins s σ H R I (by
  refine q.one.mono fun v H1 ⟨g, ds, s, sd, rs, items, hi, k⟩ => ?_
  cases rs with
  | cons a b =>
    rename_i d ds
    cases b
    have src := a
    unfold itS at hi
    split at hi
    · rename_i ds hd
      cases hi; cases hd
      obtain ⟨ad, xs, rfl, hx, _⟩ := (src.view sd).lst sd
      exact ⟨ad, rfl, .inl ⟨⟨xs, .of hx⟩, k _ (iter_lst src)⟩⟩
    · rename_i ds hd
      cases hi; cases hd
      obtain ⟨ad, xs, rfl, hx, _⟩ := (src.view sd).tup sd
      exact ⟨ad, rfl, .inr ⟨⟨xs, hx⟩, k _ (iter_tup (xs := xs) src)⟩⟩
    · rename_i ns hd
      cases hi; cases hd
      cases e2 : (src.view sd).sc (fun _ z => z) with
      | frl q2 => exact ⟨_, rfl, .inl ⟨⟨_, sd.seq q2⟩, k _ (iter_frl src)⟩⟩
    · cases hi)⟩
theorem di_enum {e : Expr} {elts : List Expr} {kk : Nat} {tpos : Pos} (hgl : Gl X "enumerate") (hm : X.mg "enumerate" = none) (ha : DA X Wx [e] fl) (hst : starEach [e] X.env = [(false, eval e X.env)] := by rfl) :
    DItr X Wx (.Tuple elts kk tpos) (.Call (.Name "enumerate" p) [e] [] p1) itE fl := ⟨fun pins s σ H R I q => (pi_enum hgl hm ha hst).run pins s σ H R I (by
  refine tM.mono q fun vs H1 ⟨g, ds, s, sd, rs, items, hi, k⟩ => ?_
  unfold itE at hi
  split at hi
  · cases hi
    cases rs with
    | cons a b =>
      cases b
      have src := a
      obtain ⟨ad, xs, rfl, hx, _⟩ := (src.view sd).lst sd
      exact ⟨ad, xs, rfl, .of hx, k _ (iter_enum src)⟩
  · cases hi)⟩
theorem di_zip {e e2 : Expr} {elts : List Expr} {kk : Nat} {tpos : Pos} (hgl : Gl X "zip") (hm : X.mg "zip" = none) (ha : DA X Wx [e, e2] fl) (hst : starEach [e, e2] X.env = (false, eval e X.env) :: starEach [e2] X.env := by rfl) (hpl : (backTo p1 (starEach [e2] X.env)).any (·.1) = false := by rfl) :
    DItr X Wx (.Tuple elts kk tpos) (.Call (.Name "zip" p) [e, e2] [] p1) itZ fl := ⟨fun pins s σ H R I q => (pi_zip hgl hm ha hst hpl).run pins s σ H R I (by
  refine tM.mono q fun vs H1 ⟨g, ds, s, sd, rs, items, hi, k⟩ => ?_
  unfold itZ at hi
  split at hi
  · cases hi
    cases rs with
    | cons a b =>
      cases b with
      | cons a2 b =>
        cases b
        have src := a
        have src2 := a2
        obtain ⟨ad, xs, rfl, hx, _⟩ := (src.view sd).lst sd
        obtain ⟨bd, ys, rfl, hy, _⟩ := (src2.view sd).lst sd
        exact ⟨ad, bd, xs, ys, rfl, .of hx, .of hy, k _ (iter_zip src src2)⟩
  · cases hi)⟩
theorem di_r1 {a : Expr} (hgl : Gl X "range") (hm : X.mg "range" = none) (ha : DA X Wx [a] fl) (hst : starEach [a] X.env = [(false, eval a X.env)] := by rfl) : DItr X Wx tg (.Call (.Name "range" p) [a] [] p1) itR1 fl := ⟨fun pins s σ H R I q => (pi_range1 hgl hm ha hst).run pins s σ H R I (by
  refine tM.mono q fun vs H1 ⟨g, ds, s, sd, rs, items, hi, k⟩ => ?_
  unfold itR1 at hi
  split at hi
  · rename_i j
    split at hi
    · rename_i hj
      cases hi
      cases rs with
      | cons a b =>
        cases b; cases (a.view sd).int
        obtain ⟨b1, b2⟩ := bnd62_of hj
        exact ⟨j, rfl, b1, b2, k _ iter_range⟩
    · cases hi
  · cases hi)⟩
theorem di_r2 {a b : Expr} (hgl : Gl X "range") (hm : X.mg "range" = none) (ha : DA X Wx [a, b] fl) (hst : starEach [a, b] X.env = [(false, eval a X.env), (false, eval b X.env)] := by rfl) (hst2 : starEach [b] X.env = [(false, eval b X.env)] := by rfl) : DItr X Wx tg (.Call (.Name "range" p) [a, b] [] p1) itR2 fl := ⟨fun pins s σ H R I q => (pi_range2 hgl hm ha hst hst2).run pins s σ H R I (by
  refine tM.mono q fun vs H1 ⟨g, ds, s, sd, rs, items, hi, k⟩ => ?_
  unfold itR2 at hi
  split at hi
  · rename_i i j
    split at hi
    · rename_i hj
      cases hi
      cases rs with
      | cons a b =>
        cases b with
        | cons a2 b =>
          cases b; cases (a.view sd).int; cases (a2.view sd).int
          obtain ⟨b1, b2⟩ := bnd62_of hj.1
          obtain ⟨b3, b4⟩ := bnd62_of hj.2
          exact ⟨i, j, rfl, ⟨b1, b2, b3, b4⟩, k _ iter_range⟩
    · cases hi
  · cases hi)⟩
/-- the reading of a comprehension from what it does to data -/
theorem comp_lc {K : PySem.W.Frag} {σ : Slots} {H H0 : Hp} {g0 : Gh} {s0 : State} {g : Gh} {s : State} {Q : V → Hp → Prop} {h : List DL.D → Option (List DL.D)} {vs : List Nat} (hv : ∀ i ∈ pt.vs, i ∈ vs)
    (c : Cur K Wx σ (fun g H s v t => RT K H0 g H σ s v t) Q g0 H0 s0 (dComp h pt vs ft fe fl s) g H s) : tLc (wI K Wx h fl) (tP K pt) (tM K WF RB ft) (tV K WF fe) vs σ H Q := by
  refine c.bind.mono fun xs H1 ⟨rs, g1, s1, c1, r1, e1⟩ => ?_
  obtain ⟨ds, g2, s2, c2, r2, _⟩ := c1.frzRs (RVRs.past c.ev.live r1)
  cases q : h ds with
  | none => exact (c2.notBad (by rw [q]; rfl)).elim
  | some items =>
    refine ⟨g2, ds, s2, c2.sd, r2, items, q, fun J it => ?_⟩
    exact comp_run (by rw [q] at c2; exact c2) it hv
theorem de_lc {h : List DL.D → Option (List DL.D)} {k : Nat} (b : DBlk X Wx k scope own tg ifs elt pt ft fe) (hi : DItr X Wx tg iter h fl) (hs : ∀ x, foldedSetIterable iter X.env x = pure x := by intro _; rfl) :
    DE X Wx (.ListComp elt [⟨tg, iter, ifs, 0⟩] scope pos) (dComp h pt (own.map (·.2)) ft fe fl) := ⟨fun pins s σ H Q I q => (pe_lc (g := tP X.K pt) (tt := tM X.K WF RB ft) (te := tV X.K WF fe) b.bd.calm b.bd.nd hi b.ok (fun s H C cl fp => b.hg s H C cl fp b.bd.blk) (fun s H C cl fp => b.ht s H C cl fp b.bd.blk) (fun s H C cl fp => b.he s H C cl fp b.bd.blk) hs).run pins s σ H Q I (by
  obtain ⟨g, s, c⟩ := q.start
  exact comp_lc b.hv c)⟩
/-- y = [..] -/
theorem ds_setLc {i : Nat} {y : Str} {py spos : Pos} {h : List DL.D → Option (List DL.D)} {k : Nat} (b : DBlk X Wx k scope own tg ifs elt pt ft fe) (hi : DItr X Wx tg iter h fl) (hy : X.N[i]? = some y) (hyl : X.env.scope.names.lookup y = some .local)
    (hsw : swapsWith (.ListComp elt [⟨tg, iter, ifs, 0⟩] scope pos) (some (.Name y py)) spos.line X.env = pure true) (hs : ∀ x, foldedSetIterable iter X.env x = pure x := by intro _; rfl) :
    DS X Wx (.Assign [.Name y py] (.ListComp elt [⟨tg, iter, ifs, 0⟩] scope pos) spos) (dAsg i (dComp h pt (own.map (·.2)) ft fe fl)) := ⟨fun pins s σ H D I q => (ps_setLc (g := tP X.K pt) (tt := tM X.K WF RB ft) (te := tV X.K WF fe) b.bd.calm b.bd.nd hy hyl hsw hi b.ok (fun s H C cl fp => b.hg s H C cl fp b.bd.blk) (fun s H C cl fp => b.ht s H C cl fp b.bd.blk) (fun s H C cl fp => b.he s H C cl fp b.bd.blk) hs).run pins s σ H D I (by
  obtain ⟨g, s, c⟩ := tM.start (asg_run q)
  exact comp_lc b.hv c)⟩
end
end DL

set_option Elab.async false
set_option linter.all false
set_option maxRecDepth 100000
set_option maxHeartbeats 1000000
/-! DLObj: defs of the text, instances -/
namespace DL
open PySem PySem.Spec PyProof.Rows L2

/-! ### a def of the text -/
theorem fn_dl {P : Program} {w : World} {K : PySem.W.Frag} {mg : Str → Option Value} {base : Heap} {x qual : Str} {st : Stmt} {f : Addr} {fd : FuncData} {N ps : List Str} {k : Nat} {b : M Flow} (F : Fun K x qual st f fd) (S : FnScope N ps (defScope st))
    (h : ∀ (cdv : Value) (A : Around) (outer : List Env) (s : Shared) (H : Hp) (E : XK) (X : Cx), X = cxOf (L2.CX P w) P w K mg base N qual (defScope st) f cdv A outer s H E → Bd X (fun cls d _ H' => E cls d H') k → DSs X (fun cls d _ H' => E cls d H') (defBody st) b) :
    FnOk P w K mg base (L2.CX P w) (k + 1) f fd ps (spF K ps N b) :=
  F.okG S (fun vs H Q E q => q.1) fun cdv A outer s H vs Q E hr q => ⟨_, h cdv A outer s H E _ rfl ⟨rfl, hr, takes_of rfl rfl rfl rfl, passes_of rfl, S.nd⟩, q.2⟩

/-! ### instances -/
/-- the attributes of an instance of the class at C -/
def readO (C : Addr) (r : VR) : M (List (Str × DL.D)) := readV r >>= fun d => match d with
  | .obj C' fs => if C' = C then pure fs else M.bad
  | .ptr i => fun s => (match s.sto[i]? with
    | some (.ins C' fs) => if C' = C then .ok fs s else .bad
    | none => .bad)
  | _ => M.bad
theorem fst_lookup {K : PySem.W.Frag} {g : Gh} {f : Str} : ∀ {fx : List (Str × V)} {fs : List (Str × DL.D)}, fx.map Prod.fst = fs.map Prod.fst → Reps K g (fx.map Prod.snd) (fs.map Prod.snd) →
    (∀ d, fs.lookup f = some d → ∃ v, fx.lookup f = some v ∧ Rep K g v d) ∧ (fs.lookup f = none → fx.lookup f = none)
  | [], [], _, _ => ⟨fun d h => (by cases h), fun _ => rfl⟩
  | [], _ :: _, h, _ => by cases h
  | _ :: _, [], h, _ => by cases h
  | (k, v) :: fx, (k', d0) :: fs, h, r => by
    have h1 : k = k' := (List.cons.inj h).1
    have h2 := (List.cons.inj h).2
    subst h1
    cases r with
    | cons a b =>
      obtain ⟨i1, i2⟩ := fst_lookup (f := f) h2 b
      unfold List.lookup
      cases hb : f == k with
      | true => exact ⟨fun d e => by cases e; exact ⟨v, rfl, a⟩, fun e => by cases e⟩
      | false => exact ⟨i1, i2⟩
section
variable {K : PySem.W.Frag} {Wx : WX} {g g' g0 : Gh} {H H' H0 : Hp} {σ σ0 : Slots} {s s' s0 : State} {v : V} {C : Addr}
theorem readO_run {r : VR} {fs : List (Str × DL.D)} (sd : SD K g H σ s) (h : RVR K σ H0 g H s v r) (e : readO C r s = .ok fs s') :
    s' = s ∧ ∃ a dx fx, v = .ref a ∧ H a = some (.ins C dx fx) ∧ fx.map Prod.fst = fs.map Prod.fst ∧ Reps K g (fx.map Prod.snd) (fs.map Prod.snd) := by
  unfold readO at e
  rw [bind_eq] at e
  rcases readV_res r s with ⟨d, e1⟩ | e1
  · rw [e1] at e
    obtain ⟨_, va⟩ := h.read sd e1
    cases d with
    | obj C' fs' =>
      have e : (if C' = C then (pure fs' : M (List (Str × DL.D))) else M.bad) s = .ok fs s' := e
      by_cases hC : C' = C
      · rw [if_pos hC] at e
        cases e
        subst hC
        obtain ⟨a, dx, fx, h1, h2, h3, h4⟩ := va.obj sd
        exact ⟨rfl, a, dx, fx, h1, h2, h3, h4⟩
      · rw [if_neg hC] at e; cases e
    | ptr i =>
      have e : (match s.sto[i]? with | some (.ins C' fs) => if C' = C then Rs.ok fs s else .bad | none => .bad) = .ok fs s' := e
      cases va.sc (fun _ z => z) with
      | ptr hη =>
        rename_i a
        cases q : s.sto[i]? with
        | none => rw [q] at e; cases e
        | some m =>
          cases m with
          | ins C' fs' =>
            rw [q] at e
            simp only at e
            by_cases hC : C' = C
            · rw [if_pos hC] at e
              cases e
              subst hC
              obtain ⟨o, ho, dx, fx, rfl, h3, h4⟩ := sd.sto i _ a q hη
              exact ⟨rfl, a, dx, fx, rfl, ho, h3, h4⟩
            · rw [if_neg hC] at e; cases e
    | _ => cases e
  · rw [e1] at e; cases e
theorem readO_res (r : VR) (s : State) : (∃ fs, readO C r s = .ok fs s) ∨ readO C r s = .bad := by
  unfold readO
  rw [bind_eq]
  rcases readV_res r s with ⟨d, e1⟩ | e1
  · rw [e1]
    cases d with
    | obj C' fs' =>
      show (∃ fs, (if C' = C then (pure fs' : M (List (Str × DL.D))) else M.bad) s = .ok fs s) ∨ (if C' = C then (pure fs' : M (List (Str × DL.D))) else M.bad) s = .bad
      by_cases hC : C' = C
      · rw [if_pos hC]; exact .inl ⟨_, rfl⟩
      · rw [if_neg hC]; exact .inr rfl
    | ptr i =>
      show (∃ fs, (match s.sto[i]? with | some (.ins C' fs) => if C' = C then Rs.ok fs s else .bad | none => .bad) = .ok fs s) ∨ (match s.sto[i]? with | some (.ins C' fs) => if C' = C then Rs.ok fs s else .bad | none => .bad) = .bad
      cases q : s.sto[i]? with
      | none => exact .inr rfl
      | some m =>
        cases m with
        | ins C' fs' =>
          simp only
          by_cases hC : C' = C
          · rw [if_pos hC]; exact .inl ⟨_, rfl⟩
          · rw [if_neg hC]; exact .inr rfl
    | _ => exact .inr rfl
  · rw [e1]; exact .inr rfl
end
def dFld (C : Addr) (f : Str) (fv : M VR) : M T := fv >>= fun r => readO C r >>= fun fs => match fs.lookup f with
  | some d => pure (.fz d)
  | none => M.bad
section
variable {X : Cx} {Wx : WX} {C : Addr} {f : Str} {e o : Expr} {pos pos' : Pos} {fv fo : M VR}
theorem de_fld (c : Cls X.K C) (n : NoAttr X.K C f) (he : DV X Wx e fv) (hb : attributeBase e f X.env (eval e X.env) = eval e X.env := by rfl) : DE X Wx (.Attribute e f pos) (dFld C f fv) := ⟨fun pins s σ H Q I h => (pe_fld he hb).run pins s σ H Q I (by
  obtain ⟨g, s, k⟩ := h.start
  refine k.bind.mono fun x H1 ⟨r, g1, s1, k1, r1, e1⟩ => ?_
  rcases readO_res (C := C) r s1 with ⟨fs, q⟩ | q
  · obtain ⟨_, a, dx, fx, rfl, ea, h3, h4⟩ := readO_run k1.sd r1 q
    cases q2 : fs.lookup f with
    | none => exact (k1.notBad (by rw [bind_eq, q]; simp only [q2]; rfl)).elim
    | some d =>
      obtain ⟨v, hv, rp⟩ := (fst_lookup h3 h4).1 d q2
      exact ⟨a, C, dx, fx, v, rfl, ea, c, n, hv, k1.done (a := .fz d) (by rw [bind_eq, q]; simp only [q2]; rfl) ⟨show TAt X.K g1 H1 v (.fz d) from rp, fun _ _ z => nomatch z⟩⟩
  · exact (k1.notBad (by rw [bind_eq, q])).elim)⟩

/-! ### o.f = e -/
def putFD (f : Str) (d : DL.D) : List (Str × DL.D) → List (Str × DL.D)
  | [] => [(f, d)]
  | (g, x) :: r => if g = f then (g, d) :: r else (g, x) :: putFD f d r
theorem putF_reps {K : PySem.W.Frag} {g : Gh} {v : V} {d : DL.D} (rp : Rep K g v d) : ∀ {fx : List (Str × V)} {fs : List (Str × DL.D)}, fx.map Prod.fst = fs.map Prod.fst → Reps K g (fx.map Prod.snd) (fs.map Prod.snd) →
    (putF f v fx).map Prod.fst = (putFD f d fs).map Prod.fst ∧ Reps K g ((putF f v fx).map Prod.snd) ((putFD f d fs).map Prod.snd)
  | [], [], _, _ => ⟨rfl, .one rp⟩
  | [], _ :: _, h, _ => by cases h
  | _ :: _, [], h, _ => by cases h
  | (k, v0) :: fx, (k', d0) :: fs, h, r => by
    have h1 : k = k' := (List.cons.inj h).1
    have h2 := (List.cons.inj h).2
    subst h1
    cases r with
    | cons a b =>
      obtain ⟨i1, i2⟩ := putF_reps rp h2 b
      unfold putF putFD
      by_cases hk : k = f
      · rw [if_pos hk, if_pos hk]
        exact ⟨h, .cons rp b⟩
      · rw [if_neg hk, if_neg hk]
        exact ⟨by rw [List.map_cons, List.map_cons, i1], .cons a i2⟩
/-- an instance of the class at C takes an attribute -/
def putM (C : Addr) (f : Str) (d : DL.D) (i : Nat) : M Flow := fun s => match s.sto[i]? with
  | some (.ins C' fs) => if C' = C ∧ fs.length < 1000 then .ok .nx { s with sto := s.sto.set i (.ins C (putFD f d fs)) } else .bad
  | none => .bad
def putO (C : Addr) (f : Str) (r : VR) (d : DL.D) : M Flow := match r with
  | .t (.fz (.ptr i)) => putM C f d i
  | .slot j => fun s => (match s.env[j]? with
    | some (some (.fz (.ptr i))) => putM C f d i s
    | some (some (.own (.obj C' fs))) => if C' = C ∧ fs.length < 1000 then .ok .nx (putE s j (.own (.obj C (putFD f d fs)))) else .bad
    | some (some (.lent (.obj C' fs))) => if C' = C ∧ fs.length < 1000 then .ok .nx (putE s j (.lent (.obj C (putFD f d fs)))) else .bad
    | _ => .bad)
  | _ => M.bad
def dSetF (C : Addr) (f : Str) (fo fv : M VR) : M Flow := fv >>= fun r => frz r >>= fun d => fo >>= fun ro => putO C f ro d
end
section
variable {K : PySem.W.Frag} {g g' : Gh} {H H' : Hp} {σ σ' : Slots} {s s' : State} {a : Addr} {o' : HO} {i : Nat} {m m' : MO}
/-- a numbered object is written -/
theorem SD.writeM (sd : SD K g H σ s) (e : s.sto[i]? = some m) (ea : g.η[i]? = some a) (ob : MObAt K g o' m') :
    SD K g (upd H a o') σ { s with sto := s.sto.set i m' } ∧ Ev g H σ s g (upd H a o') σ { s with sto := s.sto.set i m' } := by
  have mem : a ∈ g.η := List.mem_of_getElem? ea
  obtain ⟨ga, nd⟩ := sd.ng a mem
  obtain ⟨o, ho, _⟩ := sd.sto i m a e ea
  have il : i < s.sto.length := (List.getElem?_eq_some_iff.mp e).1
  refine ⟨⟨fun b u eb => ?_, sd.len, fun j w ej => ?_, sd.inj, by show (s.sto.set i m').length = _; rw [List.length_set]; exact sd.stl, fun j mo b e1 e2 => ?_, sd.nd, sd.ng, ?_⟩,
    ⟨.refl g, fun b u eb nm => ?_, fun b l => ?_, fun b _ z => .inl z, fun _ _ z => z, fun b mm => .inl mm, fun b mm => .inl mm, fun b mm => .inl mm, fun j x h => ⟨rfl, x, .inl h⟩, fun j x h => ⟨rfl, h⟩, fun j x h => ⟨rfl, h⟩⟩⟩
  · have ne : b ≠ a := fun z => by subst z; rw [ga] at eb; cases eb
    exact (sd.gh b u eb).keep fun _ q => by rw [upd_ne ne]; exact q
  · obtain ⟨v, ev, wa⟩ := sd.slot j w ej
    have fr : w.held = true → ∀ b, v = .ref b → Free1 g b := fun hw b eb => by
      cases w with
      | fz d => cases hw
      | own d => obtain ⟨c, _, ec, f, _⟩ := wa; rw [ec] at eb; cases eb; exact f
      | lent d => obtain ⟨c, _, ec, f, _⟩ := wa; rw [ec] at eb; cases eb; exact f
      | lk d => obtain ⟨c, _, ec, f, _⟩ := wa; rw [ec] at eb; cases eb; exact f
      | lkl d => obtain ⟨c, _, ec, f, _⟩ := wa; rw [ec] at eb; cases eb; exact f
    exact ⟨v, ev, wa.keep (.refl g) (fun b u eb hw q => by rw [upd_ne fun z => (fr hw b eb).2.1 (by rw [z]; exact mem)]; exact q) fun _ _ _ z => z⟩
  · have e1 : (s.sto.set i m')[j]? = some mo := e1
    by_cases z : i = j
    · subst z
      rw [List.getElem?_set_self il] at e1
      cases e1
      rw [ea] at e2; cases e2
      exact ⟨o', upd_same, ob⟩
    · rw [List.getElem?_set_ne z] at e1
      obtain ⟨u, q, mm⟩ := sd.sto j mo b e1 e2
      have ne : b ≠ a := fun w => by
        subst w
        obtain ⟨l1, q1⟩ := List.getElem?_eq_some_iff.mp ea
        exact z ((List.getElem?_inj l1 sd.nd).mp (ea.trans e2.symm))
      exact ⟨u, by rw [upd_ne ne]; exact q, mm⟩
  · have dd : DrOk g H g.dr s.dr := sd.dr
    refine (show DrOk g (upd H a o') g.dr s.dr from dd.map fun x l y eq q => ?_)
    obtain ⟨c, q1, q2⟩ := q.dict
    have n1 : x ≠ a := fun z => nd ⟨x, l, eq, .inl z.symm⟩
    have n2 : l ≠ a := fun z => nd ⟨x, l, eq, .inr z.symm⟩
    exact ⟨⟨c, by rw [upd_ne n1]; exact q1, q2⟩, by rw [upd_ne n2]; exact q.list, q.ne, q.ga, q.gl⟩
  · rw [upd_ne fun z => nm (.inr (.inl (by rw [z]; exact mem)))]; exact eb
  · by_cases z : b = a
    · subst z; rw [upd_same]; simp
    · rw [upd_ne z]; exact l
end
section
variable {K : PySem.W.Frag} {g : Gh} {H H0 : Hp} {σ : Slots} {s s' : State} {C : Addr} {f : Str} {v y : V} {d : DL.D} {fl : Flow}
theorem putM_run {i : Nat} (sd : SD K g H σ s) (hr : Rep K g v (.ptr i)) (rp : Rep K g y d) (e : putM C f d i s = .ok fl s') :
    fl = .nx ∧ ∃ a dx fx, v = .ref a ∧ H a = some (.ins C dx fx) ∧ fx.length < 1000 ∧ SD K g (upd H a (.ins C dx (putF f y fx))) σ s' ∧ Ev g H σ s g (upd H a (.ins C dx (putF f y fx))) σ s' := by
  unfold putM at e
  cases hr with
  | ptr hη =>
    rename_i a
    cases q : s.sto[i]? with
    | none => simp only [q] at e; cases e
    | some m =>
      cases m with
      | ins C' fs =>
        simp only [q] at e
        by_cases hC : C' = C ∧ fs.length < 1000
        · rw [if_pos hC] at e
          obtain ⟨rfl, hl⟩ := hC
          cases e
          obtain ⟨o, ho, dx, fx, rfl, h3, h4⟩ := sd.sto i _ a q hη
          have hp := putF_reps (f := f) rp h3 h4
          obtain ⟨sd2, ev2⟩ := sd.writeM (o' := .ins C' dx (putF f y fx)) (m' := .ins C' (putFD f d fs)) q hη ⟨dx, _, rfl, hp.1, hp.2⟩
          have hx : fx.length = fs.length := by have := congrArg List.length h3; rwa [List.length_map, List.length_map] at this
          exact ⟨rfl, a, dx, fx, rfl, ho, by rw [hx]; exact hl, sd2, ev2⟩
        · rw [if_neg hC] at e; cases e
theorem putO_run {r : VR} (sd : SD K g H σ s) (h : RVR K σ H0 g H s v r) (rp : Rep K g y d) (e : putO C f r d s = .ok fl s') :
    fl = .nx ∧ ∃ a dx fx, v = .ref a ∧ H a = some (.ins C dx fx) ∧ fx.length < 1000 ∧ SD K g (upd H a (.ins C dx (putF f y fx))) σ s' ∧ Ev g H σ s g (upd H a (.ins C dx (putF f y fx))) σ s' := by
  unfold putO at e
  split at e
  · exact putM_run sd h.at_ rp e
  · rename_i j
    have h : σ[j]? = some (some v) := h
    split at e
    · rename_i i hi
      obtain ⟨v', ev, wa⟩ := sd.slot j _ hi
      rw [h] at ev; cases ev
      exact putM_run sd wa rp e
    · rename_i C' fs hi
      by_cases hC : C' = C ∧ fs.length < 1000
      · rw [if_pos hC] at e
        obtain ⟨rfl, hl⟩ := hC
        cases e
        obtain ⟨v', ev, a, o, rfl, fr, ho, dx, fx, rfl, h3, h4⟩ := sd.slot j _ hi
        rw [h] at ev; cases ev
        have hp := putF_reps (f := f) rp h3 h4
        obtain ⟨sd2, ev2⟩ := sd.write (o' := .ins C' dx (putF f y fx)) (d' := .obj C' (putFD f d fs)) hi rfl h ⟨dx, _, rfl, hp.1, hp.2⟩
        have hx : fx.length = fs.length := by have := congrArg List.length h3; rwa [List.length_map, List.length_map] at this
        exact ⟨rfl, a, dx, fx, rfl, ho, by rw [hx]; exact hl, sd2, ev2⟩
      · rw [if_neg hC] at e; cases e
    · rename_i C' fs hi
      by_cases hC : C' = C ∧ fs.length < 1000
      · rw [if_pos hC] at e
        obtain ⟨rfl, hl⟩ := hC
        cases e
        obtain ⟨v', ev, a, o, rfl, fr, ho, dx, fx, rfl, h3, h4⟩ := sd.slot j _ hi
        rw [h] at ev; cases ev
        have hp := putF_reps (f := f) rp h3 h4
        obtain ⟨sd2, ev2⟩ := sd.write (o' := .ins C' dx (putF f y fx)) (d' := .obj C' (putFD f d fs)) hi rfl h ⟨dx, _, rfl, hp.1, hp.2⟩
        have hx : fx.length = fs.length := by have := congrArg List.length h3; rwa [List.length_map, List.length_map] at this
        exact ⟨rfl, a, dx, fx, rfl, ho, by rw [hx]; exact hl, sd2, ev2⟩
      · rw [if_neg hC] at e; cases e
    · cases e
  · cases e
end
section
variable {X : Cx} {Wx : WX} {C : Addr} {f : Str} {e o : Expr} {pos pos' : Pos} {fv fo : M VR}
theorem putO_ok (r : VR) (d : DL.D) (s : State) : (∃ s', putO C f r d s = .ok .nx s') ∨ putO C f r d s = .bad := by
  have hM : ∀ i, (∃ s', putM C f d i s = .ok .nx s') ∨ putM C f d i s = .bad := fun i => by
    unfold putM
    cases q : s.sto[i]? with
    | none => exact .inr rfl
    | some m =>
      cases m with
      | ins C' fs =>
        simp only
        by_cases hC : C' = C ∧ fs.length < 1000
        · rw [if_pos hC]; exact .inl ⟨_, rfl⟩
        · rw [if_neg hC]; exact .inr rfl
  unfold putO
  split
  · exact hM _
  · split
    · exact hM _
    · rename_i C' fs _
      by_cases hC : C' = C ∧ fs.length < 1000
      · rw [if_pos hC]; exact .inl ⟨_, rfl⟩
      · rw [if_neg hC]; exact .inr rfl
    · rename_i C' fs _
      by_cases hC : C' = C ∧ fs.length < 1000
      · rw [if_pos hC]; exact .inl ⟨_, rfl⟩
      · rw [if_neg hC]; exact .inr rfl
    · exact .inr rfl
  · exact .inr rfl
theorem ds_setF (c : Cls X.K C) (n : NoAttr X.K C f) (ho : DV X Wx o fo) (hv : DV X Wx e fv) (hs : swapsWith e (some (.Attribute o f pos')) pos.line X.env = pure false := by rfl) : DS X Wx (.Assign [.Attribute o f pos'] e pos) (dSetF C f fo fv) := ⟨fun pins s σ H D I h => (ps_fld ho hv hs).run pins s σ H D I (by
  obtain ⟨g, s, k⟩ := h.start
  refine k.bind.mono fun y H1 ⟨r, g1, s1, k1, r1, e1⟩ => ?_
  rcases frz_res r s1 with ⟨d, s2, q⟩ | q
  · obtain ⟨g2, sd2, ev2, rp, _, _⟩ := frz_run q k1.ev k1.sd r1
    have k2 : CurS X.K Wx D g H σ s ((fo >>= fun ro => putO C f ro d) s2) g2 H1 σ s2 := ⟨ev2, sd2, by have p := k1.post; rw [bind_eq, q] at p; exact p⟩
    refine k2.bind.mono fun x H2 ⟨ro, g3, s3, k3, r3, e3⟩ => ?_
    rcases putO_ok (C := C) (f := f) ro d s3 with ⟨s4, q4⟩ | q4
    · obtain ⟨_, a, dx, fx, h1, h2, h3, sd4, ev4⟩ := putO_run k3.sd r3 (rp.mono e3.le) q4
      exact ⟨a, C, dx, fx, h1, h2, c, n, h3, k3.next q4 sd4 ev4⟩
    · exact (k3.notBad q4).elim
  · exact (k1.notBad (by rw [bind_eq, q])).elim)⟩
end
end DL

set_option Elab.async false
set_option linter.all false
set_option maxRecDepth 100000
set_option maxHeartbeats 1000000
/-! DLMeth: methods, new instances, properties -/
namespace DL
open PySem PySem.Spec PyProof.Rows L2

/-! ### o.m(..) -/
def isOw : VR → Bool
  | .t (.ow _) => true
  | _ => false
/-- the receiver: an instance of the class at C without an attribute of that name, nothing new -/
def recv (C : Addr) (m : Str) (r : VR) : M Unit := readO C r >>= fun fs => if isOw r = false ∧ (fs.lookup m).isNone = true then pure () else M.bad
def dMeth (C : Addr) (m : Str) (n : Nat) (ms : List AM) (dw : List DL.D) (b : M Flow) (fo : M VR) (fl : M (List VR)) : M T := fo >>= fun r => recv C m r >>= fun _ => fl >>= fun rs => dPass n ms dw b (r :: rs)
def dNil' : M (List VR) := pure []
section
variable {K : PySem.W.Frag} {g : Gh} {H H0 : Hp} {σ : Slots} {s : State} {v : V} {C : Addr} {m : Str} {r : VR}
theorem recv_run (sd : SD K g H σ s) (h : RVR K σ H0 g H s v r) : (recv C m r s = .ok () s ∧ isOw r = false ∧ ∃ a dx fx, v = .ref a ∧ H a = some (.ins C dx fx) ∧ fx.lookup m = none) ∨ recv C m r s = .bad := by
  unfold recv
  rw [bind_eq]
  rcases readO_res (C := C) r s with ⟨fs, q⟩ | q
  · obtain ⟨_, a, dx, fx, h1, h2, h3, h4⟩ := readO_run sd h q
    rw [q]
    show ((if isOw r = false ∧ (fs.lookup m).isNone = true then (pure () : M Unit) else M.bad) s = _ ∧ _) ∨ (if isOw r = false ∧ (fs.lookup m).isNone = true then (pure () : M Unit) else M.bad) s = _
    by_cases c : isOw r = false ∧ (fs.lookup m).isNone = true
    · rw [if_pos c]
      exact .inl ⟨rfl, c.1, a, dx, fx, h1, h2, (fst_lookup h3 h4).2 (Option.isNone_iff_eq_none.mp c.2)⟩
    · rw [if_neg c]; exact .inr rfl
  · rw [q]; exact .inr rfl
theorem apart_of {vs : List V} {rs : List VR} (h : isOw r = false) : Apart v r vs rs := fun a d e => by
  rw [e] at h
  cases h
end
section
variable {X : Cx} {Wx : WX} {k : Nat} {C f : Addr} {fd : FuncData} {ps N : List Str} {b : M Flow} {dvs : List V} {ds : List Value} {dw : List DL.D} {x m : Str} {p pos apos : Pos} {o e : Expr} {es : List Expr} {fo : M VR} {fl : M (List VR)} {ms : List AM}
theorem de_meth {pl : Sem Bool} (c : Cls X.K C) (hm : Meth X.K C m f) (F : FnOk X.prog X.w X.K X.mg X.base (L2.CX X.prog X.w) k f fd ps (spF X.K ps N b)) {n : Nat} (hl : N.length = n) (hr : Room k X.A) (hb : Binds X.K fd ps ds) (hd : Vals dvs ds) (hw : ∀ g, Reps X.K g dvs dw) (tk : Takes X Wx)
    (hn : ms.length + dw.length = ps.length) (ho : DV X Wx o fo) (ha : DA X Wx (e :: es) fl)
    (hst : starEach (e :: es) X.env = (false, eval e X.env) :: starEach es X.env := by rfl) (hpl : (backTo pos (starEach es X.env)).any (·.1) = false := by rfl)
    (ht : eval (.Call (.Attribute o m apos) (e :: es) [] pos) X.env = (do
      let ov ← eval o X.env
      standAt apos.atName
      let (f, first) ← holding [ov] (getMethod ov m pl)
      callWith pos f first (backTo pos (starEach (e :: es) X.env)) (backToKw pos (keywordEach [] X.env))) := by rfl) :
    DE X Wx (.Call (.Attribute o m apos) (e :: es) [] pos) (dMeth C m n ms dw b fo fl) := by
  subst hl
  exact ⟨fun pins s σ H Q I h => by
  obtain ⟨g, st, c0⟩ := h.start
  refine PySem.W.methodCall_KW (pl := pl) (thn (ho.run pins s σ H _ I (c0.bind (R1 := RVR X.K))) fun u s1 ⟨z, H1, I1, rz, r, g1, st1, c1, r1, e1⟩ => ?_) ht
  rcases recv_run (C := C) (m := m) c1.sd r1 with ⟨q, now, a, dx, fx, rfl, h2, h3⟩ | q
  · obtain rfl : u = Value.ref a := rz
    have c2 : Cur X.K Wx σ (RTt X.K σ H) Q g H st ((fl >>= fun rs => dPass N.length ms dw b (r :: rs)) st1) g1 H1 st1 := ⟨c1.ev, c1.sd, by have p := c1.post; rw [bind_eq, q] at p; exact p⟩
    refine getmeth_ok I1 h2 c hm h3 (PySem.W.callWith_K (h₀ := X.base) (first := [.ref a]) I.ok.mod.kin hm.kp (thn (ha.run pos pins s1 σ H1 _ I1 (c2.bind (R1 := RVL X.K))) fun us s2 ⟨vs, H2, I2, rv, rs, g2, st2, c3, r3, e3⟩ => ⟨I2.kIn, ?_⟩) hst hpl)
    have all : RVRs X.K σ H g2 H2 st2 (V.ref a :: vs) (r :: rs) := .cons (r1.ev e3) (RVRs.past c1.ev.live r3) (apart_of now)
    exact run_fnSD (us := Value.ref a :: us) (xs := V.ref a :: vs) F hr hb hd (passAt tk σ) I2 (.cons (show RelV (V.ref a) (Value.ref a) from rfl) rv) (pass_run c3 all hw hn)
  · exact (c1.notBad (by rw [bind_eq, q])).elim⟩
theorem de_meth0 {pl : Sem Bool} (c : Cls X.K C) (hm : Meth X.K C m f) (F : FnOk X.prog X.w X.K X.mg X.base (L2.CX X.prog X.w) k f fd ps (spF X.K ps N b)) {n : Nat} (hl : N.length = n) (hr : Room k X.A) (hb : Binds X.K fd ps ds) (hd : Vals dvs ds) (hw : ∀ g, Reps X.K g dvs dw) (tk : Takes X Wx)
    (hn : ms.length + dw.length = ps.length) (ho : DV X Wx o fo)
    (ht : eval (.Call (.Attribute o m apos) [] [] pos) X.env = (do
      let ov ← eval o X.env
      standAt apos.atName
      let (f, first) ← holding [ov] (getMethod ov m pl)
      callWith pos f first (backTo pos (starEach [] X.env)) (backToKw pos (keywordEach [] X.env))) := by rfl) :
    DE X Wx (.Call (.Attribute o m apos) [] [] pos) (dMeth C m n ms dw b fo dNil') := by
  subst hl
  exact ⟨fun pins s σ H Q I h => by
  obtain ⟨g, st, c0⟩ := h.start
  refine PySem.W.methodCall_KW (pl := pl) (thn (ho.run pins s σ H _ I (c0.bind (R1 := RVR X.K))) fun u s1 ⟨z, H1, I1, rz, r, g1, st1, c1, r1, e1⟩ => ?_) ht
  rcases recv_run (C := C) (m := m) c1.sd r1 with ⟨q, now, a, dx, fx, rfl, h2, h3⟩ | q
  · obtain rfl : u = Value.ref a := rz
    have c2 : Cur X.K Wx σ (RTt X.K σ H) Q g H st (dPass N.length ms dw b [r] st1) g1 H1 st1 := ⟨c1.ev, c1.sd, by have p := c1.post; rw [bind_eq, q] at p; exact p⟩
    have all : RVRs X.K σ H g1 H1 st1 [V.ref a] [r] := .cons r1 .nil (apart_of now)
    exact getmeth_ok I1 h2 c hm h3 (PySem.W.callWith_K0 (first := [.ref a]) I1.kIn hm.kp (run_fnSD (us := [Value.ref a]) (xs := [V.ref a]) F hr hb hd (passAt tk σ) I1 (.cons (show RelV (V.ref a) (Value.ref a) from rfl) .nil) (pass_run c2 all hw hn)))
  · exact (c1.notBad (by rw [bind_eq, q])).elim⟩

/-! ### o.p, a property -/
def noErr {α : Type} (f : M α) : M α := fun s => match f s with
  | .err _ _ => .bad
  | r => r
def dProp (C : Addr) (n : Nat) (m : AM) (b : M Flow) (fo : M VR) : M T := fo >>= fun r => readO C r >>= fun _ => if isOw r = false then noErr (dPass n [m] [] b [r]) else M.bad
theorem Cur.noErr {K : PySem.W.Frag} {σ : Slots} {α β : Type} {R : Gh → Hp → State → β → α → Prop} {Q : β → Hp → Prop} {g0 g1 : Gh} {H0 H1 : Hp} {s0 s1 s : State} {f : M α} (c : Cur K Wx σ R Q g0 H0 s0 (noErr f s) g1 H1 s1) : Cur K WF σ R Q g0 H0 s0 (f s) g1 H1 s1 := ⟨c.ev, c.sd, by
  have p := c.post
  unfold DL.noErr at p
  cases q : f s with
  | ok a s2 => rw [q] at p; exact p
  | err y s2 => rw [q] at p; exact p.elim
  | bad => rw [q] at p; exact p⟩
theorem de_prop {fp : Addr} {am : AM} (c : Cls X.K C) (hp : PropOf X.K C m fp f) (F : FnOk X.prog X.w X.K X.mg X.base (L2.CX X.prog X.w) k f fd ["self"] (spF X.K ["self"] N b)) {n : Nat} (hl : N.length = n) (hr : Room (k + 1) X.A) (hb : Binds X.K fd ["self"] []) (ho : DV X Wx o fo)
    (hab : attributeBase o m X.env (eval o X.env) = eval o X.env := by rfl) : DE X Wx (.Attribute o m pos) (dProp C n am b fo) := by
  subst hl
  exact ⟨fun pins s σ H Q I h => (pe_prop (E1 := E0) ho c hp F hr hb .nil passL hab).run pins s σ H Q I (by
  obtain ⟨g, st, c0⟩ := h.start
  refine c0.bind.mono fun z H1 ⟨r, g1, st1, c1, r1, e1⟩ => ?_
  rcases readO_res (C := C) r st1 with ⟨fs, q⟩ | q
  · obtain ⟨_, a, dx, fx, rfl, h2, h3, h4⟩ := readO_run c1.sd r1 q
    refine ⟨a, dx, fx, rfl, h2, ?_⟩
    have c2 : Cur X.K Wx σ (RTt X.K σ H) Q g H st ((if isOw r = false then noErr (dPass N.length [am] [] b [r]) else M.bad) st1) g1 H1 st1 := ⟨c1.ev, c1.sd, by have p := c1.post; rw [bind_eq, q] at p; exact p⟩
    by_cases now : isOw r = false
    · rw [if_pos now] at c2
      exact pass_run (dvs := []) (Wx := WF) c2.noErr (.cons r1 .nil (apart_of now)) (fun _ => .nil) rfl
    · rw [if_neg now] at c2
      exact (c2.notBad rfl).elim
  · exact (c1.notBad (by rw [bind_eq, q])).elim)⟩
end

/-! ### C(..) -/
/-- the caller's slots and one more, that holds the new instance -/
def pushW (s : State) (w : W) : State := { s with env := s.env ++ [some w] }
section
variable {K : PySem.W.Frag} {g g' g0 : Gh} {H H' H0 : Hp} {σ σ0 : Slots} {s s' s0 : State} {a dx C : Addr}
theorem push_get {w u : W} {i : Nat} (h : (pushW s w).env[i]? = some (some u)) : s.env[i]? = some (some u) ∨ (i = s.env.length ∧ u = w) := by
  have h : (s.env ++ [some w])[i]? = some (some u) := h
  rw [List.getElem?_append] at h
  split at h
  · exact .inl h
  · rename_i hl
    cases q : i - s.env.length with
    | zero => rw [q] at h; cases h; exact .inr ⟨by omega, rfl⟩
    | succ n => rw [q] at h; cases h
theorem SD.push {w : W} (sd : SD K g H σ s) (wa : WAt K g H (.ref a) w) (nh : ¬ Hd σ s a) : SD K g H (σ ++ [some (.ref a)]) (pushW s w) where
  gh := sd.gh
  len := by show (s.env ++ [some w]).length = _; rw [List.length_append, List.length_append, sd.len]; rfl
  slot := fun i u h => by
    rcases push_get h with h | ⟨rfl, rfl⟩
    · obtain ⟨v, ev, wa⟩ := sd.slot i u h
      exact ⟨v, by rw [List.getElem?_append_left (by rw [← sd.len]; exact (List.getElem?_eq_some_iff.mp h).1)]; exact ev, wa⟩
    · exact ⟨.ref a, by rw [sd.len, List.getElem?_append_right (Nat.le_refl _), Nat.sub_self]; rfl, wa⟩
  inj := fun i j u1 u2 c e1 e2 h1 h2 x1 x2 => by
    have at_ : ∀ {l : Nat} {u : W}, s.env[l]? = some (some u) → (σ ++ [some (V.ref a)])[l]? = σ[l]? := fun {l u} e => List.getElem?_append_left (by rw [← sd.len]; exact (List.getElem?_eq_some_iff.mp e).1)
    have top : (σ ++ [some (V.ref a)])[s.env.length]? = some (some (V.ref a)) := by rw [sd.len, List.getElem?_append_right (Nat.le_refl _), Nat.sub_self]; rfl
    rcases push_get e1 with e1 | ⟨z1, _⟩
    · rw [at_ e1] at x1
      rcases push_get e2 with e2 | ⟨z2, _⟩
      · rw [at_ e2] at x2
        exact sd.inj i j u1 u2 c e1 e2 h1 h2 x1 x2
      · rw [z2, top] at x2; cases x2
        exact (nh ⟨i, u1, e1, h1, x1⟩).elim
    · rw [z1, top] at x1; cases x1
      rcases push_get e2 with e2 | ⟨z2, _⟩
      · rw [at_ e2] at x2
        exact (nh ⟨j, u2, e2, h2, x2⟩).elim
      · rw [z1, z2]
  stl := sd.stl
  sto := sd.sto
  nd := sd.nd
  ng := sd.ng
  dr := sd.dr
def popS (l : Nat) (s : State) : State := { s with env := s.env.take l }
theorem pop_get {l i : Nat} {u : W} (h : (popS l s).env[i]? = some (some u)) : s.env[i]? = some (some u) ∧ i < l := by
  have h : (s.env.take l)[i]? = some (some u) := h
  rw [List.getElem?_take] at h
  split at h
  · rename_i hl; exact ⟨h, hl⟩
  · cases h
/-- .. and without it -/
theorem SD.pop {x : Option V} (sd : SD K g H (σ ++ [x]) s) : SD K g H σ (popS σ.length s) where
  gh := sd.gh
  len := by
    show (s.env.take σ.length).length = _
    rw [List.length_take, sd.len, List.length_append]
    simp
  slot := fun i u h => by
    obtain ⟨h, hl⟩ := pop_get h
    obtain ⟨v, ev, wa⟩ := sd.slot i u h
    exact ⟨v, by rw [List.getElem?_append_left hl] at ev; exact ev, wa⟩
  inj := fun i j u1 u2 c e1 e2 h1 h2 x1 x2 => by
    obtain ⟨e1, l1⟩ := pop_get e1
    obtain ⟨e2, l2⟩ := pop_get e2
    exact sd.inj i j u1 u2 c e1 e2 h1 h2 (by rw [List.getElem?_append_left l1]; exact x1) (by rw [List.getElem?_append_left l2]; exact x2)
  stl := sd.stl
  sto := sd.sto
  nd := sd.nd
  ng := sd.ng
  dr := sd.dr
theorem pop_hd {b : Addr} {x : Option V} (h : Hd σ (popS σ.length s) b) : Hd (σ ++ [x]) s b := by
  obtain ⟨i, w, e, hw, q⟩ := h
  obtain ⟨e, l⟩ := pop_get e
  exact ⟨i, w, e, hw, by rw [List.getElem?_append_left l]; exact q⟩
/-- from ahead of the new instance to behind it -/
theorem Ev.pushPop {w : W} {x : Option V} (sd : SD K g H σ s) (hn : H a = none) (e : Ev g H' (σ ++ [some (.ref a)]) (pushW s w) g' H0 (σ ++ [x]) s') (hx : x = some (.ref a)) (k : ∀ b o, H b = some o → H' b = some o) : Ev g H σ s g' H0 σ (popS σ.length s') := by
  subst hx
  have at_ : ∀ {l : Nat} {u : W}, s.env[l]? = some (some u) → (pushW s w).env[l]? = some (some u) := fun {l u} h => by
    show (s.env ++ [some w])[l]? = _
    rw [List.getElem?_append_left (List.getElem?_eq_some_iff.mp h).1]; exact h
  have lt : ∀ {l : Nat} {u : W}, s.env[l]? = some (some u) → l < σ.length := fun {l u} h => by rw [← sd.len]; exact (List.getElem?_eq_some_iff.mp h).1
  have ins : ∀ {l : Nat} {u : W} {c : Addr}, (pushW s w).env[l]? = some (some u) → (σ ++ [some (V.ref a)])[l]? = some (some (V.ref c)) → (s.env[l]? = some (some u) ∧ σ[l]? = some (some (V.ref c))) ∨ c = a := fun {l u c} h q => by
    rcases push_get h with h | ⟨rfl, rfl⟩
    · rw [List.getElem?_append_left (lt h)] at q
      exact .inl ⟨h, q⟩
    · rw [sd.len, List.getElem?_append_right (Nat.le_refl _), Nat.sub_self] at q
      cases q; exact .inr rfl
  have mu : ∀ b, Mu g (σ ++ [some (V.ref a)]) (pushW s w) b → Mu g σ s b ∨ b = a := fun b m => by
    rcases m with ⟨i, u, h, hm, q⟩ | m
    · rcases ins h q with ⟨h, q⟩ | z
      · exact .inl (.inl ⟨i, u, h, hm, q⟩)
      · exact .inr z
    · exact .inl (.inr m)
  have hd : ∀ b, Hd (σ ++ [some (V.ref a)]) (pushW s w) b → Hd σ s b ∨ b = a := fun b ⟨i, u, h, hm, q⟩ => by
    rcases ins h q with ⟨h, q⟩ | z
    · exact .inl ⟨i, u, h, hm, q⟩
    · exact .inr z
  have live : ∀ b, H b ≠ none → H' b ≠ none := fun b l => by
    cases q : H b with
    | none => exact absurd q l
    | some o => rw [k b o q]; simp
  have none' : ∀ b, H' b = none → H b = none := fun b z => by
    cases q : H b with
    | none => rfl
    | some o => rw [k b o q] at z; cases z
  refine ⟨e.le, fun b o h nm => e.keep b o (k b o h) fun m => ?_, fun b l => e.live b (live b l), fun b l q => ?_, fun b l => e.eta b (live b l), fun b m => ?_, fun b m => ?_, fun b m => ?_, fun i d h => ?_, fun i d h => ?_, fun i d h => ?_⟩
  · rcases mu b m with m | rfl
    · exact nm m
    · rw [hn] at h; cases h
  · rcases e.frz b (live b l) q with z | z
    · exact .inl z
    · rcases mu b z with z | rfl
      · exact .inr z
      · exact absurd hn l
  · have m2 : Mu g' (σ ++ [some (V.ref a)]) s' b := by
      rcases m with ⟨i, u, h, hm, q⟩ | m
      · obtain ⟨h, hl⟩ := pop_get h
        exact .inl ⟨i, u, h, hm, by rw [List.getElem?_append_left hl]; exact q⟩
      · exact .inr m
    rcases e.mu b m2 with z | z
    · rcases mu b z with z | rfl
      · exact .inl z
      · exact .inr hn
    · exact .inr (none' b z)
  · rcases e.hd b (pop_hd m) with z | z
    · rcases hd b z with z | rfl
      · exact .inl z
      · exact .inr hn
    · exact .inr (none' b z)
  · obtain ⟨i, d, h, q⟩ := m
    have m2 : OwnA (σ ++ [some (V.ref a)]) s' b := by
      have key : ∀ u : W, (popS σ.length s').env[i]? = some (some u) → s'.env[i]? = some (some u) ∧ (σ ++ [some (V.ref a)])[i]? = some (some (V.ref b)) := fun u h => by
        obtain ⟨h, hl⟩ := pop_get h
        exact ⟨h, by rw [List.getElem?_append_left hl]; exact q⟩
      rcases h with h | h
      · exact ⟨i, d, .inl (key _ h).1, (key _ h).2⟩
      · exact ⟨i, d, .inr (key _ h).1, (key _ h).2⟩
    rcases e.ow b m2 with ⟨j, d', h', q'⟩ | z
    · rcases h' with h' | h'
      · rcases ins h' q' with ⟨h1, q1⟩ | rfl
        · exact .inl ⟨j, d', .inl h1, q1⟩
        · exact .inr hn
      · rcases ins h' q' with ⟨h1, q1⟩ | rfl
        · exact .inl ⟨j, d', .inr h1, q1⟩
        · exact .inr hn
    · exact .inr (none' b z)
  · obtain ⟨h1, d', h2⟩ := e.fix i d (at_ h)
    refine ⟨rfl, d', ?_⟩
    show (s'.env.take σ.length)[i]? = _ ∨ (s'.env.take σ.length)[i]? = _
    rw [List.getElem?_take, if_pos (lt h)]; exact h2
  · obtain ⟨h1, h2⟩ := e.lk i d (at_ h)
    refine ⟨rfl, ?_⟩
    show (s'.env.take σ.length)[i]? = _
    rw [List.getElem?_take, if_pos (lt h)]; exact h2
  · obtain ⟨h1, h2⟩ := e.lkl i d (at_ h)
    refine ⟨rfl, ?_⟩
    show (s'.env.take σ.length)[i]? = _
    rw [List.getElem?_take, if_pos (lt h)]; exact h2
end
/-- n: the number of __init__'s locals -/
def make2 (C : Addr) (n : Nat) (ms : List AM) (dw : List DL.D) (b : M Flow) (hs : List HS) : M T := fun s => match pass2 n (.L :: ms) dw b (.slot s.env.length :: hs) (pushW s (.own (.obj C []))) with
  | .ok (.fz .non) s' => (match s'.env[s.env.length]? with
    | some (some (.own d)) => .ok (.ow d) (popS s.env.length s')
    | _ => .bad)
  | .ok _ _ => .bad
  | .err x s' => .err x (popS s.env.length s')
  | .bad => .bad
def dMake (C : Addr) (n : Nat) (ms : List AM) (dw : List DL.D) (b : M Flow) (fl : M (List VR)) : M T := fl >>= fun rs => toHMs ms rs >>= make2 C n ms dw b
section
variable {K : PySem.W.Frag} {Wx : WX} {g g0 : Gh} {H H0 : Hp} {σ : Slots} {s s0 : State} {C : Addr} {Q : V → Hp → Prop}
theorem RHs.push {x : Option V} : ∀ {vs : List V} {hs : List HS}, RHs K g σ vs hs → RHs K g (σ ++ [x]) vs hs
  | _, _, .nil => .nil
  | v :: _, .d d :: _, .cons a r => .cons (show RH K g (σ ++ [x]) v (.d d) from a) (RHs.push r)
  | v :: _, .slot i :: _, .cons a r => by
    have a : σ[i]? = some (some v) := a
    refine .cons ?_ (RHs.push r)
    show (σ ++ [x])[i]? = some (some v)
    rw [List.getElem?_append_left (List.getElem?_eq_some_iff.mp a).1]; exact a
theorem make2_run {ms : List AM} {dw : List DL.D} {b : M Flow} {hs : List HS} {vs dvs : List V} {ps N : List Str} (c : Cur K Wx σ (fun g H s v t => RT K H0 g H σ s v t) Q g0 H0 s0 (make2 C N.length ms dw b hs s) g H s) (rh : RHs K g σ vs hs) (hd : ∀ g, Reps K g dvs dw)
    (hn : hs.length + 1 + dw.length = ps.length) {x dx : Addr} (hx : H x = none) (hdx : H dx = none) (ne : dx ≠ x) :
    spF K ps N b (.ref x :: (vs ++ dvs)) (upd (upd H dx (.own x)) x (.ins C dx [])) (fun v H2 => v = .non ∧ Q (.ref x) H2) (fun cls d H' => Wx cls d σ H') := by
  have hx2 : (upd H dx (.own x)) x = none := by rw [upd_ne (Ne.symm ne)]; exact hx
  have sd1 : SD K g (upd (upd H dx (.own x)) x (.ins C dx [])) σ s := (c.sd.alloc hdx).alloc hx2
  have keep : ∀ b o, H b = some o → (upd (upd H dx (.own x)) x (.ins C dx [])) b = some o := fun b o e => by
    rw [upd_ne (ne_of_none e hx), upd_ne (ne_of_none e hdx)]; exact e
  generalize hH : upd (upd H dx (.own x)) x (.ins C dx []) = H1 at sd1 keep
  have h1x : H1 x = some (.ins C dx []) := by rw [← hH, upd_same]
  have nhx : ¬ Hd σ s x := c.sd.noHd hx
  have sd2 := sd1.push (w := .own (.obj C [])) ⟨x, .ins C dx [], rfl, c.sd.free1 hx, h1x, dx, [], rfl, rfl, .nil⟩ nhx
  have lσ : s.env.length = σ.length := c.sd.len
  have top : (σ ++ [some (V.ref x)])[σ.length]? = some (some (V.ref x)) := by rw [List.getElem?_append_right (Nat.le_refl _), Nat.sub_self]; rfl
  have rh2 : RHs K g (σ ++ [some (.ref x)]) (V.ref x :: vs) (.slot s.env.length :: hs) := by
    refine .cons (show (σ ++ [some (V.ref x)])[s.env.length]? = some (some (V.ref x)) from by rw [lσ]; exact top) ?_
    exact rh.push
  have p := c.post
  unfold make2 at p
  have c2 : Cur K (fun cls d _ H' => Wx cls d σ H') (σ ++ [some (.ref x)]) (fun g' H' s' v t => RT K H1 g' H' (σ ++ [some (.ref x)]) s' v t) (fun v H2 => v = .non ∧ Q (.ref x) H2) g H1 (pushW s (.own (.obj C []))) (pass2 N.length (.L :: ms) dw b (.slot s.env.length :: hs) (pushW s (.own (.obj C [])))) g H1 (pushW s (.own (.obj C []))) := by
    refine ⟨.refl, sd2, ?_⟩
    cases q : pass2 N.length (.L :: ms) dw b (.slot s.env.length :: hs) (pushW s (.own (.obj C []))) with
    | bad => rw [q] at p; exact p
    | err y s' =>
      rw [q] at p
      intro cls d g2 H2 sdE evE er
      exact p cls d g2 H2 (by rw [lσ]; exact sdE.pop) (c.ev.trans (by rw [lσ]; exact Ev.pushPop c.sd hx evE rfl keep)) er
    | ok t s' =>
      rw [q] at p
      intro v g2 H2 sdE evE rt
      cases t with
      | ow d => exact p.elim
      | fz d =>
        cases d with
        | non =>
          simp only at p
          have hv : v = .non := by cases (show Rep K g2 v .non from rt.at_); rfl
          refine ⟨hv, ?_⟩
          cases q2 : s'.env[s.env.length]? with
          | none => rw [q2] at p; exact p.elim
          | some w =>
            cases w with
            | none => rw [q2] at p; exact p.elim
            | some w =>
              cases w with
              | own d =>
                rw [q2] at p
                obtain ⟨v', ev', a, o, ea, fr, ho, ob⟩ := sdE.slot _ _ q2
                rw [lσ, top] at ev'
                cases ev'
                cases ea
                refine p (.ref x) g2 H2 (by rw [lσ]; exact sdE.pop) (c.ev.trans (by rw [lσ]; exact Ev.pushPop c.sd hx evE rfl keep)) ⟨⟨x, o, rfl, fr, ho, ob⟩, fun d' a' _ ea' => ?_⟩
                cases ea'
                refine ⟨?_, fun ⟨i, w, h1, h2, h3⟩ => ?_⟩
                · cases q3 : H0 x with
                  | none => rfl
                  | some u => exact absurd hx (c.ev.live x (by rw [q3]; simp))
                · obtain ⟨h1, hl⟩ := pop_get h1
                  have z := sdE.inj i s.env.length w _ x h1 q2 h2 rfl (by rw [List.getElem?_append_left (by rw [← lσ]; exact hl)]; exact h3) (by rw [lσ]; exact top)
                  omega
              | _ => rw [q2] at p; exact p.elim
        | _ => exact p.elim
  exact pass2_run (Wx := fun cls d _ H' => Wx cls d σ H') (σ := σ ++ [some (.ref x)]) (vs := V.ref x :: vs) c2 rh2 hd (by rw [List.length_cons]; exact hn) fun _ _ _ _ _ _ rt => rt
end
section
variable {X : Cx} {Wx : WX} {k : Nat} {C f : Addr} {fd : FuncData} {ps N : List Str} {b : M Flow} {dvs : List V} {ds : List Value} {dw : List DL.D} {x : Str} {p pos : Pos} {e : Expr} {es : List Expr} {fl : M (List VR)} {ms : List AM}
/-- a new instance, where what is raised is wished for at the caller's slots -/
theorem make_at {pins : List (Addr × Obj)} {σ : Slots} {H : Hp} {s : Shared} {Q : VK} {ws : List Value} {vs : List V} {sp : Sp} {E : Slots → XK} (mk : Mk X.K C f) (Fi : FnOk X.prog X.w X.K X.mg X.base (L2.CX X.prog X.w) k f fd ps sp) (rm : Room (k + 1) X.A) (bi : Binds X.K fd ps ds) (vd : Vals dvs ds)
    (ps_ : PassesAt (L2.CX X.prog X.w) X σ (E σ)) (I0 : Inv X pins σ H s) (rl : Vals vs ws) (hq : ∀ x dx, H x = none → H dx = none → dx ≠ x → sp (.ref x :: (vs ++ dvs)) (upd (upd H dx (.own x)) x (.ins C dx [])) (fun v H2 => v = .non ∧ Q (.ref x) H2) (E σ)) :
    wpAny (model X.prog X.w) X.A (call (.ref C) ws) (EP X pins σ Q) X.xe s := by
  have big := I0.hok.fresh (Nat.le_succ s.heap.objs.size)
  have low := I0.hok.fresh (Nat.le_refl s.heap.objs.size)
  have q0 := hq _ _ big low (Nat.ne_of_lt (Nat.lt_succ_self _))
  have J := Inv.made (C := C) I0
  have all : Vals (V.ref (s.heap.objs.size + 1) :: (vs ++ dvs)) (Value.ref (s.heap.objs.size + 1) :: (ws ++ ds)) := .cons rfl (rl.append vd)
  have ln : (Value.ref (s.heap.objs.size + 1) :: ws ++ ds).length = ps.length := (all.length.symm.trans (Fi.len _ _ _ _ q0))
  have run := Fi.run (X.A.under (.builtin "type.__call__" ⟨.ref C :: ws, []⟩)) X.stack _ _ ⟨Value.ref (s.heap.objs.size + 1) :: ws, []⟩ _ _ _ _ (rm.make C ws []) (J.env0.make C ws []) (bi _ (Value.ref (s.heap.objs.size + 1) :: ws) J.kIn ln) all q0
  refine wpAny_call (make_map (f := f) I0.kIn mk.makes mk.init (beq_iff_eq.mp mk.fn) (codeAny_mono run fun res s' out => ?_))
  match res, out with
  | .error er, out => exact ps_ pins _ _ er s' J out
  | .ok (.ret u), out =>
    obtain ⟨v, H', J2, rv, ev, q3⟩ := J.after out
    subst ev
    exact ⟨rv, V.ref (s.heap.objs.size + 1), H', J2, rfl, q3⟩
  | .ok .next, out => exact out.elim
  | .ok .brk, out => exact out.elim
  | .ok .cont, out => exact out.elim
theorem de_make (mk : Mk X.K C f) (F : FnOk X.prog X.w X.K X.mg X.base (L2.CX X.prog X.w) k f fd ps (spF X.K ps N b)) {n : Nat} (hl : N.length = n) (hr : Room (k + 1) X.A) (hm : X.mg x = some (.ref C)) (hb : Binds X.K fd ps ds) (hd : Vals dvs ds) (hw : ∀ g, Reps X.K g dvs dw) (tk : Takes X Wx)
    (hn : ms.length + 1 + dw.length = ps.length) (ha : DA X Wx (e :: es) fl) (hg : Gl X x := by rfl) (hdb : (x == ("__debug__" : Str)) = false := by decide) (he : starEach (e :: es) X.env = (false, eval e X.env) :: starEach es X.env := by rfl) (hpl : (backTo pos (starEach es X.env)).any (·.1) = false := by rfl) :
    DE X Wx (.Call (.Name x p) (e :: es) [] pos) (dMake C n ms dw b fl) := by
  subst hl
  exact ⟨fun pins s σ H Q I h => by
  obtain ⟨g, st, c0⟩ := h.start
  refine wpAny_Call_Name_kw (ld_glob I hg hm (PySem.W.callWith_K (h₀ := X.base) I.ok.mod.kin mk.kp (thn (ha.run pos pins s σ H _ I (c0.bind (R1 := RVL X.K))) fun us s1 ⟨vs, H1, I1, rv, rs, g1, st1, c1, r1, e1⟩ => ⟨I1.kIn, ?_⟩) he hpl) hdb)
  refine make_at (E := WE Wx) mk F hr hb hd (passAt tk σ) I1 rv fun x dx hx hdx ne => ?_
  have p := c1.post
  rw [bind_eq] at p
  rcases toHMs_res ms rs st1 with ⟨hs, st2, q⟩ | q
  · rw [q] at p
    obtain ⟨g2, sd2, e2, rh, le⟩ := toHMs_run q c1.ev c1.sd (RVRs.past c0.ev.live r1)
    exact make2_run ⟨e2, sd2, p⟩ rh hw (by rw [← rh.length, r1.length, ← toHMs_len q]; exact hn) hx hdx ne
  · rw [q] at p; exact p.elim⟩
end
end DL

set_option Elab.async false
set_option linter.all false
set_option maxRecDepth 100000
set_option maxHeartbeats 1000000
/-! DLDraw: the law's drawing: its dict and the list in it -/
namespace DL
open PySem PySem.Spec PyProof.Rows L2
inductive DK where
  | rest | turn | mix | cells
def DK.str : DK → Str
  | .rest => "rest" | .turn => "turn" | .mix => "mix" | .cells => "cells"
def DrawSt.set (st : DrawSt) (k : DK) (n : Int) : DrawSt := match k with
  | .rest => { st with rest := n }
  | .turn => { st with turn := n }
  | .mix => { st with mix := n }
  | .cells => st
/-- the drawing that slot i holds -/
def drOf (i : Nat) : M DrawSt := fun s => match s.env[i]?, s.dr with
  | some (some (.fz .draw)), some st => .ok st s
  | _, _ => .bad
def putDr (st : DrawSt) : M Flow := fun s => .ok .nx { s with dr := some st }
def DrawSt.get (st : DrawSt) : DK → DL.D
  | .rest => .int st.rest
  | .turn => .int st.turn
  | .mix => .int st.mix
  | .cells => .lst (st.cells.map D.int)
def DrawSt.val (st : DrawSt) (c : Addr) : DK → V
  | .rest => .int st.rest
  | .turn => .int st.turn
  | .mix => .int st.mix
  | .cells => .ref c
def drGet (k : DK) (i : Nat) : M T := drOf i >>= fun st => pure (.fz (st.get k))
def drSet (k : DK) (i : Nat) (fv : M VR) : M Flow := fv >>= fun r => frz r >>= fun d => drOf i >>= fun st => match d, k with
  | .int n, .rest => putDr (st.set .rest n)
  | .int n, .turn => putDr (st.set .turn n)
  | .int n, .mix => putDr (st.set .mix n)
  | _, _ => M.bad
def drPop (i : Nat) : M Flow := drOf i >>= fun st => match st.large with
  | x :: xs => putDr { st with rest := x, large := xs }
  | [] => M.bad
def drNe (i : Nat) : M Bool := drOf i >>= fun st => match neT (.lst (st.large.map D.int)) (.lst []) with
  | some (.fz (.bl b)) => pure b
  | _ => M.bad
/-- rest, found = divmod(rest, size) -/
def drDiv (i j k : Nat) : M Flow := drOf i >>= fun st s => match s.env[j]? with
  | some (some (.fz (.int n))) => if 0 < n ∧ n < 1073741824 then (match setO k (.fz (.int (st.rest % n))) { s with dr := some (st.set .rest (st.rest / n)) } with
    | some s' => .ok .nx s'
    | none => .bad) else .bad
  | _ => .bad
section
variable {K : PySem.W.Frag} {g g' : Gh} {H H' : Hp} {σ : Slots} {s s' : State} {a l c : Addr} {st st' : DrawSt} {i : Nat}
theorem drOf_run (sd : SD K g H σ s) (i : Nat) : (∃ st a l, drOf i s = .ok st s ∧ s.env[i]? = some (some (.fz .draw)) ∧ s.dr = some st ∧ σ[i]? = some (some (.ref a)) ∧ g.dr = some (a, l) ∧ DrAt g H a l st) ∨ drOf i s = .bad := by
  unfold drOf
  split
  · rename_i st h1 h2
    obtain ⟨v, ev, wa⟩ := sd.slot i _ h1
    cases (show Rep K g v .draw from wa) with
    | draw e =>
      rename_i a l
      have q := sd.dr
      rw [e, h2] at q
      exact .inl ⟨st, a, l, rfl, h1, h2, ev, e, q⟩
  · exact .inr rfl
theorem SD.drUpd (sd : SD K g H σ s) (e : g.dr = some (a, l)) (q : DrAt g H' a l st') (k : ∀ b, b ≠ a → b ≠ l → H' b = H b) : SD K g H' σ { s with dr := some st' } ∧ Ev g H σ s g H' σ { s with dr := some st' } := by
  have dr : ∀ b, b = a ∨ b = l → IsDr g b := fun b h => ⟨a, l, e, h⟩
  have live : ∀ b, H b ≠ none → H' b ≠ none := fun b hb => by
    by_cases z : b = a
    · subst z; obtain ⟨c, h, _⟩ := q.dict; rw [h]; simp
    · by_cases z2 : b = l
      · subst z2; rw [q.list]; simp
      · rw [k b z z2]; exact hb
  refine ⟨⟨fun b u eb => ?_, sd.len, fun j w ej => ?_, sd.inj, sd.stl, fun j mo b e1 e2 => ?_, sd.nd, sd.ng, ?_⟩,
    ⟨.refl g, fun b u eb nm => ?_, live, fun b _ z => .inl z, fun _ _ z => z, fun b mm => .inl mm, fun b mm => .inl mm, fun b mm => .inl mm, fun j x h => ⟨rfl, x, .inl h⟩, fun j x h => ⟨rfl, h⟩, fun j x h => ⟨rfl, h⟩⟩⟩
  · have n1 : b ≠ a := fun z => by subst z; rw [q.ga] at eb; cases eb
    have n2 : b ≠ l := fun z => by subst z; rw [q.gl] at eb; cases eb
    exact (sd.gh b u eb).keep fun _ h => by rw [k b n1 n2]; exact h
  · obtain ⟨v, ev, wa⟩ := sd.slot j w ej
    have fr : w.held = true → ∀ b, v = .ref b → Free1 g b := fun hw b eb => by
      cases w with
      | fz d => cases hw
      | own d => obtain ⟨c, _, ec, f, _⟩ := wa; rw [ec] at eb; cases eb; exact f
      | lent d => obtain ⟨c, _, ec, f, _⟩ := wa; rw [ec] at eb; cases eb; exact f
      | lk d => obtain ⟨c, _, ec, f, _⟩ := wa; rw [ec] at eb; cases eb; exact f
      | lkl d => obtain ⟨c, _, ec, f, _⟩ := wa; rw [ec] at eb; cases eb; exact f
    exact ⟨v, ev, wa.keep (.refl g) (fun b u eb hw h => by
      rw [k b (fun z => (fr hw b eb).2.2 (dr b (.inl z))) fun z => (fr hw b eb).2.2 (dr b (.inr z))]; exact h) fun _ _ _ z => z⟩
  · obtain ⟨u, h, mm⟩ := sd.sto j mo b e1 e2
    have nd := (sd.ng b (List.mem_of_getElem? e2)).2
    exact ⟨u, by rw [k b (fun z => nd (dr b (.inl z))) fun z => nd (dr b (.inr z))]; exact h, mm⟩
  · show DrOk g H' g.dr (some st')
    rw [e]; exact q
  · rw [k b (fun z => nm (.inr (.inr (dr b (.inl z))))) fun z => nm (.inr (.inr (dr b (.inr z))))]; exact eb
theorem DrAt.key (q : DrAt g H a l st) : ∃ c, H a = some (.dK (drKvs l c st)) ∧ g.G c = some (.lst (st.cells.map V.int)) := q.dict
/-- an int of it is set -/
theorem SD.drSet (sd : SD K g H σ s) (e : g.dr = some (a, l)) (q : DrAt g H a l st) (hc : g.G c = some (.lst (st'.cells.map V.int))) (hl : st'.large = st.large) : SD K g (upd H a (.dK (drKvs l c st'))) σ { s with dr := some st' } ∧ Ev g H σ s g (upd H a (.dK (drKvs l c st'))) σ { s with dr := some st' } :=
  sd.drUpd e ⟨⟨c, upd_same, hc⟩, by rw [upd_ne q.ne.symm, hl]; exact q.list, q.ne, q.ga, q.gl⟩ fun b n1 _ => upd_ne n1
theorem ints_reps {xs : List V} : ∀ {ns : List Int}, Reps K g xs (ns.map D.int) → xs = ns.map V.int := fun {ns} h => by
  induction ns generalizing xs with
  | nil => cases h; rfl
  | cons n ns ih =>
    cases h with
    | cons a b => cases a; rw [ih b]; rfl
end
section
variable {X : Cx} {Wx : WX} {x y : Str} {p p2 p3 p4 pos tpos apos cpos : Pos} {i j k n : Nat} {e : Expr} {fv : M VR}
theorem kvs_get (kk : DK) (l c : Addr) (st : DrawSt) : valV (drKvs l c st) (.inr kk.str) = some (st.val c kk) := by
  cases kk <;> rfl
theorem de_drGet (kk : DK) {ks : Str} (hks : ks = kk.str) (hu : X.A.units + 1 < cLine) (hN : X.N[i]? = some x) (hv : Vis X.env.scope x) (hd : (x == ("__debug__" : Str)) = false := by decide) (hcd : (x == ("__classdict__" : Str)) = false := by decide) (hs : PlainIx (.Constant (.str ks) n p2) := by exact fun _ _ => rfl) :
    DE X Wx (.Subscript (.Name x p) (.Constant (.str ks) n p2) pos) (drGet kk i) := ⟨fun pins s σ H Q I q => (pe_ix (ix_dict hu) (pe_var hN hv hd hcd) pe_str hs).run pins s σ H Q I (by
  subst hks
  obtain ⟨g, st, k0⟩ := q.start
  rcases drOf_run k0.sd i with ⟨dr, a, l, q1, _, _, ea, eg, da⟩ | q1
  · obtain ⟨c, hc, gc⟩ := da.key
    refine ⟨.ref a, ea, a, _, rfl, .inl ⟨_, .inr kk.str, .inl hc, rfl, (kvs_get kk l c dr).symm⟩, ?_⟩
    refine k0.done (a := .fz (dr.get kk)) (by unfold drGet; rw [bind_eq, q1]; rfl) ⟨show TAt X.K g H (dr.val c kk) (.fz (dr.get kk)) from ?_, fun _ _ z => nomatch z⟩
    show Rep X.K g (dr.val c kk) (dr.get kk)
    cases kk with
    | rest => exact .int _
    | turn => exact .int _
    | mix => exact .int _
    | cells => exact .lst gc (.ints _)
  · exact (k0.notBad (by unfold drGet; rw [bind_eq, q1])).elim)⟩
theorem kvs_put (kk : DK) (l c : Addr) (st : DrawSt) (m : Int) (h : kk ≠ .cells) : putK (drKvs l c st) (.inr kk.str) (V.int m) = drKvs l c (st.set kk m) := by
  cases kk with
  | cells => exact (h rfl).elim
  | _ => rfl
theorem ds_drSet (kk : DK) {ks : Str} (hks : ks = kk.str) (hu : X.A.units + 1 < cLine) (hN : X.N[i]? = some x) (hv : Vis X.env.scope x) (he : DV X Wx e fv) (hd : (x == ("__debug__" : Str)) = false := by decide) (hcd : (x == ("__classdict__" : Str)) = false := by decide)
    (ha : ∀ v, assign (.Subscript (.Name x p) (.Constant (.str ks) n p2) tpos) X.env v = (do
      let ov ← holding [v] (eval (.Name x p) X.env)
      let iv ← holding [v, ov] (eval (.Constant (.str ks) n p2) X.env)
      standAt tpos
      holding [v, ov, iv] (setItem ov iv v)
      release [v, ov, iv] []) := by intro _; rfl)
    (hs : swapsWithSole [.Subscript (.Name x p) (.Constant (.str ks) n p2) tpos] e pos.line X.env = pure false := by rfl) (hw : swappedStores [.Subscript (.Name x p) (.Constant (.str ks) n p2) tpos] e X.env = pure none := by rfl)
    (h1 : (assignEach [.Subscript (.Name x p) (.Constant (.str ks) n p2) tpos] X.env).map (·.2) = [assign (.Subscript (.Name x p) (.Constant (.str ks) n p2) tpos) X.env] := by rfl) :
    DS X Wx (.Assign [.Subscript (.Name x p) (.Constant (.str ks) n p2) tpos] e pos) (drSet kk i fv) := ⟨fun pins s σ H D I q => (ps_asg he (pg_sub (pe_var hN hv hd hcd) pe_str (set_dict hu) ha) hs hw h1).run pins s σ H D I (by
  subst hks
  obtain ⟨g, st, k0⟩ := q.start
  refine k0.bind.mono fun v H1 ⟨r, g1, s1, k1, r1, e1⟩ => ?_
  obtain ⟨d, g2, s2, k2, rp, _⟩ := k1.frz r1
  rcases drOf_run k2.sd i with ⟨dr, a, l, q1, _, _, ea, eg, da⟩ | q1
  · obtain ⟨c, hc, gc⟩ := da.key
    have k3 : CurS X.K Wx D g H σ st ((match d, kk with
      | .int n, .rest => putDr (dr.set .rest n)
      | .int n, .turn => putDr (dr.set .turn n)
      | .int n, .mix => putDr (dr.set .mix n)
      | _, _ => M.bad) s2) g2 H1 σ s2 := ⟨k2.ev, k2.sd, by have p := k2.post; rw [bind_eq, q1] at p; exact p⟩
    have key : ∃ m, d = .int m ∧ kk ≠ .cells := by
      cases kk with
      | cells => cases d <;> exact (k3.notBad rfl).elim
      | _ =>
        cases d with
        | int m => exact ⟨m, rfl, fun z => nomatch z⟩
        | _ => exact (k3.notBad rfl).elim
    obtain ⟨m, rfl, hk⟩ := key
    have k4 : CurS X.K Wx D g H σ st (putDr (dr.set kk m) s2) g2 H1 σ s2 := by
      cases kk with
      | cells => exact (hk rfl).elim
      | _ => exact k3
    cases rp
    obtain ⟨sd5, ev5⟩ := k4.sd.drSet (st' := dr.set kk m) eg da (c := c) (by cases kk <;> exact gc) (by cases kk <;> rfl)
    refine ⟨.ref a, ea, a, _, rfl, .inl ⟨_, .inr kk.str, hc, rfl, (by decide : 5 < sizeLine), rfl⟩, ?_⟩
    rw [kvs_put kk l c dr m hk]
    exact k4.next rfl sd5 ev5
  · exact (k2.notBad (by rw [bind_eq, q1])).elim)⟩
theorem dt_drNe (hu : X.A.units + 64 < cLine) (hN : X.N[i]? = some x) (hv : Vis X.env.scope x) (hd : (x == ("__debug__" : Str)) = false := by decide) (hcd : (x == ("__classdict__" : Str)) = false := by decide) (hs : PlainIx (.Constant (.str "large") n p2) := by exact fun _ _ => rfl) (hm : behindInMarks .NotEq (.List [] p4) = false := by rfl) :
    DT X Wx (.Compare (.Subscript (.Name x p) (.Constant (.str "large") n p2) p3) [.NotEq] [.List [] p4] pos) (drNe i) := ⟨fun pins s σ H Q I q => (pt_cmpR (op_neD hu) (pe_ix (ix_dict (by omega)) (pe_var hN hv hd hcd) pe_str hs) (pe_lst pa_nil) hm).run pins s σ H Q I (by
  obtain ⟨g, st, k0⟩ := q.start
  rcases drOf_run k0.sd i with ⟨dr, a, l, q1, _, _, ea, eg, da⟩ | q1
  · obtain ⟨c, hc, gc⟩ := da.key
    refine ⟨.ref a, ea, a, .ref l, rfl, .inl ⟨_, .inr "large", .inl hc, rfl, rfl⟩, Nat.zero_le _, fun p hp => ?_⟩
    have f1 := k0.sd.free1 hp
    have sd2 := k0.sd.alloc (o := .lst []) hp
    have hl2 : (upd H p (.lst [])) l = some (.lst (dr.large.map V.int)) := by rw [upd_ne (ne_of_none da.list hp)]; exact da.list
    have hx : VAt X.K g (upd H p (.lst [])) (.ref l) (.lst (dr.large.map D.int)) := .inr ⟨l, _, rfl, .inl hl2, _, rfl, .ints _⟩
    have hy : VAt X.K g (upd H p (.lst [])) (.ref p) (.lst []) := .inr ⟨p, _, rfl, .inl upd_same, _, rfl, .nil⟩
    have k1 : Cur X.K Wx σ (RB σ H) Q g H st ((match neT (.lst (dr.large.map D.int)) (.lst []) with | some (.fz (.bl b)) => pure b | _ => M.bad) st) g H st := ⟨k0.ev, k0.sd, by have p := k0.post; unfold drNe at p; rw [bind_eq, q1] at p; exact p⟩
    cases hq : eqD (.lst (dr.large.map D.int)) (.lst []) with
    | none =>
      have z : neT (.lst (dr.large.map D.int)) (.lst []) = none := by unfold neT; rw [hq]; rfl
      exact (k1.notBad (by rw [z]; rfl)).elim
    | some b =>
      obtain ⟨p1, p2, e1, e2, s1, s2, rfl⟩ := eqD_some hq
      refine ⟨p1, p2, hx.dp sd2 e1, hy.dp sd2 e2, s1, s2, _, rfl, ?_⟩
      exact k1.done' (a := !(PyData.eqv p1 p2)) (by rw [show neT (.lst (dr.large.map D.int)) (.lst []) = some (.fz (.bl (!(PyData.eqv p1 p2)))) from by unfold neT; rw [hq]; rfl]; rfl) sd2 (k0.sd.allocEv hp) rfl
  · exact (k0.notBad (by unfold drNe; rw [bind_eq, q1])).elim)⟩
theorem ds_drPop (hu : X.A.units + 1 < cLine) (hN : X.N[i]? = some x) (hv : Vis X.env.scope x) {q1 q2 q3 q4 : Pos} {m1 m2 : Nat} (hd : (x == ("__debug__" : Str)) = false := by decide) (hcd : (x == ("__classdict__" : Str)) = false := by decide) (hs1 : PlainIx (.Constant (.str "large") m1 q2) := by exact fun _ _ => rfl)
    (hbase : attributeBase (.Subscript (.Name x q1) (.Constant (.str "large") m1 q2) q3) "pop" X.env (eval (.Subscript (.Name x q1) (.Constant (.str "large") m1 q2) q3) X.env) = eval (.Subscript (.Name x q1) (.Constant (.str "large") m1 q2) q3) X.env := by rfl)
    (hfew : ((backTo cpos (starEach [.Constant (.int 0) m2 q4] X.env)).all (fun x => !x.1) && (backToKw cpos (keywordEach [] X.env)).all (fun x => x.1.isSome)
      && decide (([.Constant (.int 0) m2 q4] : List Expr).length + ([] : List Keyword).length + (if ([] : List Keyword).isEmpty then 0 else 1) < 30)) = true := by rfl)
    (hline : (apos.endLine == cpos.line) = true := by rfl) (hst : starEach [.Constant (.int 0) m2 q4] X.env = (false, eval (.Constant (.int 0) m2 q4) X.env) :: starEach [] X.env := by rfl) (hplain : (backTo cpos (starEach [] X.env)).any (·.1) = false := by rfl)
    (ha : ∀ v, assign (.Subscript (.Name x p) (.Constant (.str "rest") n p2) tpos) X.env v = (do
      let ov ← holding [v] (eval (.Name x p) X.env)
      let iv ← holding [v, ov] (eval (.Constant (.str "rest") n p2) X.env)
      standAt tpos
      holding [v, ov, iv] (setItem ov iv v)
      release [v, ov, iv] []) := by intro _; rfl)
    (hs : swapsWithSole [.Subscript (.Name x p) (.Constant (.str "rest") n p2) tpos] (.Call (.Attribute (.Subscript (.Name x q1) (.Constant (.str "large") m1 q2) q3) "pop" apos) [.Constant (.int 0) m2 q4] [] cpos) pos.line X.env = pure false := by rfl)
    (hw : swappedStores [.Subscript (.Name x p) (.Constant (.str "rest") n p2) tpos] (.Call (.Attribute (.Subscript (.Name x q1) (.Constant (.str "large") m1 q2) q3) "pop" apos) [.Constant (.int 0) m2 q4] [] cpos) X.env = pure none := by rfl)
    (h1 : (assignEach [.Subscript (.Name x p) (.Constant (.str "rest") n p2) tpos] X.env).map (·.2) = [assign (.Subscript (.Name x p) (.Constant (.str "rest") n p2) tpos) X.env] := by rfl) :
    DS X Wx (.Assign [.Subscript (.Name x p) (.Constant (.str "rest") n p2) tpos] (.Call (.Attribute (.Subscript (.Name x q1) (.Constant (.str "large") m1 q2) q3) "pop" apos) [.Constant (.int 0) m2 q4] [] cpos) pos) (drPop i) :=
  ⟨fun pins s σ H D I q => (ps_asg (pe_bm PySem.F.plainAttrs_list PySem.F.slot_list_pop PySem.F.type_list_pop mt_popAt (pe_ix (ix_dict hu) (pe_var hN hv hd hcd) pe_str hs1) (pa_cons pe_int pa_nil) hbase hfew hline hst hplain) (pg_sub (pe_var hN hv hd hcd) pe_str (set_dict hu) ha) hs hw h1).run pins s σ H D I (by
  obtain ⟨g, st, k0⟩ := q.start
  rcases drOf_run k0.sd i with ⟨dr, a, l, q1, _, _, ea, eg, da⟩ | q1
  · obtain ⟨c, hc, gc⟩ := da.key
    have k1 : CurS X.K Wx D g H σ st ((match dr.large with | x :: xs => putDr { dr with rest := x, large := xs } | [] => M.bad) st) g H σ st := ⟨k0.ev, k0.sd, by have p := k0.post; unfold drPop at p; rw [bind_eq, q1] at p; exact p⟩
    cases hl : dr.large with
    | nil => rw [hl] at k1; exact (k1.notBad rfl).elim
    | cons y ys =>
      rw [hl] at k1
      have hL : H l = some (.lst ((y :: ys).map V.int)) := by rw [← hl]; exact da.list
      refine ⟨.ref a, ea, a, .ref l, rfl, .inl ⟨_, .inr "large", .inl hc, rfl, rfl⟩, .inl ⟨rfl, _, .of hL⟩, l, _, 0, 0, .int y, rfl, rfl, hL, by decide, by decide, by simp [seqIndex?], rfl, .ref a, ea, a, _, rfl, .inl ⟨drKvs l c dr, .inr "rest", by rw [upd_ne da.ne]; exact hc, rfl, (by decide : 5 < sizeLine), rfl⟩, ?_⟩
      have hp : putK (drKvs l c dr) (.inr ("rest" : Str)) (V.int y) = drKvs l c { dr with rest := y, large := ys } := rfl
      rw [hp]
      obtain ⟨sd5, ev5⟩ := k1.sd.drUpd (a := a) (l := l) (st' := { dr with rest := y, large := ys }) (H' := upd (upd H l (.lst (((y :: ys).map V.int).eraseIdx 0))) a (.dK (drKvs l c { dr with rest := y, large := ys }))) eg ⟨⟨c, upd_same, gc⟩, by rw [upd_ne da.ne.symm, upd_same]; rfl, da.ne, da.ga, da.gl⟩ fun b n1 n2 => by rw [upd_ne n1, upd_ne n2]
      exact k1.next rfl sd5 ev5
  · exact (k0.notBad (by unfold drPop; rw [bind_eq, q1])).elim)⟩
theorem ds_drDiv {z : Str} {q1 q2 q3 q4 q5 q6 q7 q8 : Pos} {m1 kk : Nat} (hc : X.calm = true) (hnd : X.N.Nodup) (hu : X.A.units + 1 < cLine) (hgl : Gl X "divmod") (hm : X.mg "divmod" = none) (hbt : bootBuiltins "divmod" = some (.builtin "divmod")) (hN : X.N[i]? = some x) (hv : Vis X.env.scope x) (hNy : X.N[j]? = some y) (hvy : Vis X.env.scope y) (hNz : X.N[k]? = some z) (hlz : Loc X.env.scope z)
    (hf : X.fn z = true ∨ X.env.scope.names.lookup z = some .local := by first | exact .inl rfl | exact .inr rfl | assumption)
    (hd : (x == ("__debug__" : Str)) = false := by decide) (hcd : (x == ("__classdict__" : Str)) = false := by decide) (hdy : (y == ("__debug__" : Str)) = false := by decide) (hcdy : (y == ("__classdict__" : Str)) = false := by decide) (hs1 : PlainIx (.Constant (.str "rest") m1 q2) := by exact fun _ _ => rfl)
    (he : starEach [.Subscript (.Name x q1) (.Constant (.str "rest") m1 q2) q3, .Name y q4] X.env = (false, eval (.Subscript (.Name x q1) (.Constant (.str "rest") m1 q2) q3) X.env) :: starEach [.Name y q4] X.env := by rfl) (hpl : (backTo q5 (starEach [.Name y q4] X.env)).any (·.1) = false := by rfl)
    (ha : ∀ v, assign (.Subscript (.Name x p) (.Constant (.str "rest") n p2) tpos) X.env v = (do
      let ov ← holding [v] (eval (.Name x p) X.env)
      let iv ← holding [v, ov] (eval (.Constant (.str "rest") n p2) X.env)
      standAt tpos
      holding [v, ov, iv] (setItem ov iv v)
      release [v, ov, iv] []) := by intro _; rfl)
    (hn : (assignEach [.Subscript (.Name x p) (.Constant (.str "rest") n p2) tpos, .Name z q6] X.env).length = 2 := by rfl) (hst : (assignEach [.Subscript (.Name x p) (.Constant (.str "rest") n p2) tpos, .Name z q6] X.env).findIdx? (·.1) = none := by rfl)
    (hs2 : (assignEach [.Subscript (.Name x p) (.Constant (.str "rest") n p2) tpos, .Name z q6] X.env).map (·.2) = assign (.Subscript (.Name x p) (.Constant (.str "rest") n p2) tpos) X.env :: (assignEach [.Name z q6] X.env).map (·.2) := by rfl)
    (hs3 : (assignEach [.Name z q6] X.env).map (·.2) = assign (.Name z q6) X.env :: (assignEach [] X.env).map (·.2) := by rfl)
    (hs : swapsWithSole [.Tuple [.Subscript (.Name x p) (.Constant (.str "rest") n p2) tpos, .Name z q6] kk q7] (.Call (.Name "divmod" q8) [.Subscript (.Name x q1) (.Constant (.str "rest") m1 q2) q3, .Name y q4] [] q5) pos.line X.env = pure false := by rfl)
    (hw : swappedStores [.Tuple [.Subscript (.Name x p) (.Constant (.str "rest") n p2) tpos, .Name z q6] kk q7] (.Call (.Name "divmod" q8) [.Subscript (.Name x q1) (.Constant (.str "rest") m1 q2) q3, .Name y q4] [] q5) X.env = pure none := by rfl)
    (h1 : (assignEach [.Tuple [.Subscript (.Name x p) (.Constant (.str "rest") n p2) tpos, .Name z q6] kk q7] X.env).map (·.2) = [assign (.Tuple [.Subscript (.Name x p) (.Constant (.str "rest") n p2) tpos, .Name z q6] kk q7) X.env] := by rfl) :
    DS X Wx (.Assign [.Tuple [.Subscript (.Name x p) (.Constant (.str "rest") n p2) tpos, .Name z q6] kk q7] (.Call (.Name "divmod" q8) [.Subscript (.Name x q1) (.Constant (.str "rest") m1 q2) q3, .Name y q4] [] q5) pos) (drDiv i j k) :=
  ⟨fun pins s σ H D I q => (ps_asg (pe_callB call_divmod hgl hm hbt (pa_cons (pe_ix (ix_dict hu) (pe_var hN hv hd hcd) pe_str hs1) (pa_cons (pe_var hNy hvy hdy hcdy) pa_nil)) (by decide) (by decide) he hpl) (pg_tup hc (pgs_cons (pg_sub (pe_var hN hv hd hcd) pe_str (set_dict hu) ha) (pgs_cons (pg_name hnd hNz hlz hf) pgs_nil hs3) hs2) hn hst) hs hw h1).run pins s σ H D I (by
  obtain ⟨g, st, k0⟩ := q.start
  rcases drOf_run k0.sd i with ⟨dr, a, l, q1, e0, edr, ea, eg, da⟩ | q1
  · obtain ⟨c, hc, gc⟩ := da.key
    have p := k0.post
    unfold drDiv at p
    rw [bind_eq, q1] at p
    simp only at p
    split at p
    · rename_i nn hj
      by_cases hb : 0 < nn ∧ nn < 1073741824
      · rw [if_pos hb] at p
        obtain ⟨v, evj, wa⟩ := k0.sd.slot j _ hj
        cases (show Rep X.K g v (.int nn) from wa)
        refine ⟨.ref a, ea, a, _, rfl, .inl ⟨_, .inr "rest", .inl hc, rfl, rfl⟩, .int nn, evj, dr.rest, nn, rfl, hb, fun t ht => ?_⟩
        have nta : a ≠ t := ne_of_none hc ht
        have ntl : l ≠ t := ne_of_none da.list ht
        refine ⟨t, _, rfl, .inl (.inl upd_same), rfl, _, _, rfl, ⟨.ref a, ea, a, _, rfl, .inl ⟨drKvs l c dr, .inr "rest", by rw [upd_ne nta]; exact hc, rfl, (by decide : 5 < sizeLine), rfl⟩, _, _, rfl, ?_⟩⟩
        refine ⟨rfl, ?_⟩
        have hp : putK (drKvs l c dr) (.inr ("rest" : Str)) (V.int (dr.rest / nn)) = drKvs l c (dr.set .rest (dr.rest / nn)) := rfl
        rw [hp]
        have sd1 := k0.sd.alloc (o := .tup [V.int (dr.rest / nn), V.int (dr.rest % nn)]) ht
        have ev1 := k0.sd.allocEv (o := .tup [V.int (dr.rest / nn), V.int (dr.rest % nn)]) ht
        have da1 : DrAt g (upd H t (.tup [V.int (dr.rest / nn), V.int (dr.rest % nn)])) a l dr := ⟨⟨c, by rw [upd_ne nta]; exact hc, gc⟩, by rw [upd_ne ntl]; exact da.list, da.ne, da.ga, da.gl⟩
        obtain ⟨sd2, ev2⟩ := sd1.drSet (st' := dr.set .rest (dr.rest / nn)) eg da1 gc rfl
        unfold setO at p
        by_cases cs : canSet { st with dr := some (dr.set .rest (dr.rest / nn)) } k = true
        · simp only [if_pos cs] at p
          obtain ⟨sd3, ev3⟩ := setT_run (i := k) (t := .fz (.int (dr.rest % nn))) (s' := putE { st with dr := some (dr.set .rest (dr.rest / nn)) } k (.fz (.int (dr.rest % nn)))) (v := V.int (dr.rest % nn)) (by unfold setT; rw [if_pos cs]; rfl) .refl sd2 ⟨show TAt X.K g _ (V.int (dr.rest % nn)) (.fz (.int _)) from (show Rep X.K g _ (.int _) from .int _), fun _ _ z => nomatch z⟩
          exact p _ _ _ sd3 ((ev1.trans ev2).trans ev3)
        · simp only [if_neg cs] at p; exact p.elim
      · rw [if_neg hb] at p; exact p.elim
    · exact p.elim
  · exact (k0.notBad (by unfold drDiv; rw [bind_eq, q1])).elim)⟩
end
end DL

set_option Elab.async false
set_option linter.all false
set_option maxRecDepth 100000
set_option maxHeartbeats 1000000
/-! DLLaw: the law's def: its drawing is made, the rest is data -/
namespace DL
open PySem PySem.Spec PyProof.Rows L2
/-! ### comprehensions that only look -/
theorem loopC_pure {pt : Pt} {vs : List Nat} {ft : M Bool} {fe : M VR} {s : State} {p : D → Bool} {q : D → D} : ∀ (items acc : List D),
    (∀ d ∈ items, ∃ s1, bindP pt d s = some s1 ∧ ft s1 = .ok (p d) s1 ∧ (p d = true → (fe >>= frz) s1 = .ok (q d) s1) ∧ wipeS vs s1 = s) → loopC pt vs ft fe items acc s = .ok (acc ++ (items.filter p).map q) s
  | [], acc, _ => by unfold loopC; simp
  | d :: ds, acc, h => by
    obtain ⟨s1, h1, h2, h3, h4⟩ := h d List.mem_cons_self
    unfold loopC
    rw [h1]
    simp only [h2]
    cases hp : p d with
    | true =>
      simp only [h3 hp, h4]
      rw [loopC_pure ds _ fun d' hd => h d' (List.mem_cons_of_mem _ hd), List.filter_cons_of_pos (by simpa using hp), List.map_cons, List.append_assoc]
      rfl
    | false =>
      simp only [h4]
      rw [loopC_pure ds _ fun d' hd => h d' (List.mem_cons_of_mem _ hd), List.filter_cons_of_neg (by simp [hp])]
/-! ### the drawing is made -/
def absI (n : Int) : Int := if n < 0 then -n else n
def bigI (n : Int) : Bool := decide (10 ^ 18 ≤ absI n)
def largeOf (ns : List Int) : List Int := (ns.filter bigI).map absI
def beginSt (ns : List Int) : DrawSt := { large := largeOf ns, cells := ns, rest := 0, turn := 0, mix := 7 }
def dLarge : M Flow := dAsg 1 (dComp itS (.name 2) [2] (dB (dOp2 geD (dV (dCallB absD (dCons (dSlot 2) dNil))) (dV (dOp2 powD (dV (dC (.int 10))) (dV (dC (.int 18))))))) (dV (dCallB absD (dCons (dSlot 2) dNil))) (dOne (dSlot 0)))
def begSt (ns : List Int) : State := { env := [some (.fz (.frl ns)), none, none], sto := [], dr := none }
theorem large_eq (ns : List Int) (h : ns.length < sizeLine) : dLarge (begSt ns) = .ok .nx { begSt ns with env := [some (.fz (.frl ns)), some (.own (.lst ((largeOf ns).map D.int))), none] } := by
  have lp : loopC (.name 2) [2] (dB (dOp2 geD (dV (dCallB absD (dCons (dSlot 2) dNil))) (dV (dOp2 powD (dV (dC (.int 10))) (dV (dC (.int 18))))))) (dV (dCallB absD (dCons (dSlot 2) dNil))) (ns.map D.int) [] (begSt ns) = .ok ([] ++ ((ns.map D.int).filter (fun d => match d with | .int n => bigI n | _ => false)).map (fun d => match d with | .int n => .int (absI n) | d => d)) (begSt ns) := by
    refine loopC_pure _ _ fun d hd => ?_
    obtain ⟨n, _, rfl⟩ := List.mem_map.mp hd
    exact ⟨{ begSt ns with env := [some (.fz (.frl ns)), none, some (.fz (.int n))] }, rfl, rfl, fun _ => rfl, rfl⟩
  have e2 : ((ns.map D.int).filter (fun d => match d with | .int n => bigI n | _ => false)).map (fun d => match d with | .int n => .int (absI n) | d => d) = (largeOf ns).map D.int := by
    unfold largeOf
    rw [List.filter_map, List.map_map, List.map_map]
    rfl
  rw [e2] at lp
  have e3 : dLoopC (.name 2) [2] (dB (dOp2 geD (dV (dCallB absD (dCons (dSlot 2) dNil))) (dV (dOp2 powD (dV (dC (.int 10))) (dV (dC (.int 18))))))) (dV (dCallB absD (dCons (dSlot 2) dNil))) (ns.map D.int) (begSt ns) = .ok (.ow (.lst ((largeOf ns).map D.int))) (begSt ns) := by
    unfold dLoopC
    rw [if_pos ⟨rfl, by rw [List.length_map]; exact h⟩]
    have e4 : wipeS [2] (begSt ns) = begSt ns := rfl
    rw [e4, lp]
    rfl
  show (dComp itS (.name 2) [2] _ _ (dOne (dSlot 0)) >>= fun t => setT 1 t >>= fun _ => dNx) (begSt ns) = _
  rw [bind_eq]
  have e5 : dComp itS (.name 2) [2] (dB (dOp2 geD (dV (dCallB absD (dCons (dSlot 2) dNil))) (dV (dOp2 powD (dV (dC (.int 10))) (dV (dC (.int 18))))))) (dV (dCallB absD (dCons (dSlot 2) dNil))) (dOne (dSlot 0)) (begSt ns) = .ok (.ow (.lst ((largeOf ns).map D.int))) (begSt ns) := e3
  rw [e5]
  rfl
/-- what _law_begin promises: a new dict with two new lists in it -/
def spBegin (K : PySem.W.Frag) : Sp := fun vs H Q _ => ∃ (a : Addr) (ns : List Int), vs = [.ref a] ∧ SqL K H a (ns.map V.int) ∧ ns.length ≤ 63 ∧
  ∀ (H' : Hp) (d l c : Addr), (∀ b o, H b = some o → H' b = some o) → H d = none → H l = none → H c = none → d ≠ l → c ≠ l → c ≠ d → H' d = some (.dK (drKvs l c (beginSt ns))) → H' l = some (.lst ((beginSt ns).large.map V.int)) → H' c = some (.lst (ns.map V.int)) → Q (.ref d) H'
theorem seqAt {K : PySem.W.Frag} {H H' : Hp} {a : Addr} {xs : List V} (h : SqL K H a xs) (e : H' a = H a) : SqL K H' a xs := by
  rcases h with (h | ⟨o, h⟩) | h
  · exact .inl (.inl (e.trans h))
  · exact .inl (.inr ⟨o, e.trans h⟩)
  · exact .inr h
theorem sd_begin {K : PySem.W.Frag} {H : Hp} {a : Addr} {ns : List Int} (h : SqL K H a (ns.map V.int)) : SD K ⟨fun b => if b = a then H a else none, [], none⟩ H [some (.ref a), none, none] (begSt ns) where
  gh := fun b o e => by
    have e : (if b = a then H a else none) = some o := e
    by_cases z : b = a
    · rw [if_pos z] at e; rw [z]; exact .inl e
    · rw [if_neg z] at e; cases e
  len := rfl
  slot := fun i w e => by
    match i, e with
    | 0, e => cases e; exact ⟨_, rfl, show Rep K _ _ (.frl ns) from .frl (seqAt h (if_pos rfl))⟩
    | 1, e => cases e
    | 2, e => cases e
    | i + 3, e => cases e
  inj := fun i j w u b e1 e2 h1 _ _ _ => by
    match i, e1 with
    | 0, e1 => cases e1; cases h1
    | 1, e1 => cases e1
    | 2, e1 => cases e1
    | i + 3, e1 => cases e1
  stl := rfl
  sto := fun i m b e _ => by cases e
  nd := .nil
  ng := fun b hb => by cases hb
  dr := trivial
theorem begin_run {K : PySem.W.Frag} {H : Hp} {vs : List V} {Q : VK} {E : XK} (h : spBegin K vs H Q E) :
    tSeq (tS K (fun cls d _ H' => E cls d H') dLarge) (tRet (tDisp [(tC (.str "large"), tVar 1), (tC (.str "cells"), tCB (fun xs H Q => ∃ p ys, xs = [.ref p] ∧ (SqL K H p ys ∨ SqT K H p ys) ∧ ∀ l, H l = none → Q (.ref l) (upd H l (.lst ys))) (tCons (tVar 0) tNil)), (tC (.str "rest"), tC (.int 0)), (tC (.str "turn"), tC (.int 0)), (tC (.str "mix"), tC (.int 7))]))
      { nx := fun _ H' => Q .non H', rt := Q } (L2.start ["_law_script", "_law_large", "_law_cell"] vs) H := by
  obtain ⟨a, ns, rfl, hS, hl, k⟩ := h
  refine ⟨_, begSt ns, sd_begin hS, ?_⟩
  rw [large_eq ns (Nat.lt_of_le_of_lt hl (by decide))]
  intro σ' g' H' sd ev p hp
  obtain ⟨v1, e1, l, o, rfl, f1, hl1, xs, rfl, rx⟩ := sd.slot 1 _ rfl
  have ex := ints_reps rx
  subst ex
  obtain ⟨v0, e0, r0⟩ := sd.slot 0 (.fz (.frl ns)) rfl
  have keep : ∀ b o, H b = some o → H' b = some o := fun b o hb => ev.keep b o hb fun m => by
    rcases m with ⟨i, w, em, hm, _⟩ | m | ⟨x, y, m, _⟩
    · match i, em with
      | 0, em => cases em; cases hm
      | 1, em => cases em
      | 2, em => cases em
      | i + 3, em => cases em
    · cases m
    · cases m
  have hlN : H l = none := by
    rcases ev.mu l (.inl ⟨1, _, rfl, rfl, e1⟩) with m | m
    · rcases m with ⟨i, w, em, hm, _⟩ | m | ⟨x, y, m, _⟩
      · match i, em with
        | 0, em => cases em; cases hm
        | 1, em => cases em
        | 2, em => cases em
        | i + 3, em => cases em
      · cases m
      · cases m
    · exact m
  cases (show Rep K g' v0 (.frl ns) from r0) with
  | frl q0 =>
    rename_i a0
    have hs0 : SqL K H' a0 (ns.map V.int) := sd.seq q0
    have lp : l ≠ p := ne_of_none hl1 hp
    have hs1 : SqL K (upd H' p (.dK [])) a0 (ns.map V.int) := by
      rcases hs0 with (h | ⟨o, h⟩) | h
      · exact .inl (.inl (by rw [upd_ne (ne_of_none h hp)]; exact h))
      · exact .inl (.inr ⟨o, by rw [upd_ne (ne_of_none h hp)]; exact h⟩)
      · exact .inr h
    refine ⟨.ref l, e1, .ref a0, e0, a0, _, rfl, .inl hs1, fun c hc => ?_⟩
    have cp : c ≠ p := fun z => by rw [z, upd_same] at hc; cases hc
    have cl : c ≠ l := fun z => by rw [z, upd_ne lp, hl1] at hc; cases hc
    have hcN : H' c = none := by rw [upd_ne cp] at hc; exact hc
    have old : ∀ b, H' b = none → H b = none := fun b z => by
      cases q : H b with
      | none => rfl
      | some o => rw [keep b o q] at z; cases z
    refine ⟨by rw [upd_ne cp.symm, upd_same], [(.inr "large", .ref l), (.inr "cells", .ref c), (.inr "rest", .int 0), (.inr "turn", .int 0), (.inr "mix", .int 7)], rfl, (Nat.le_of_ble_eq_true rfl : 5 ≤ 15), ?_⟩
    refine k _ p l c (fun b o hb => ?_) (old p hp) hlN (old c hcN) lp.symm cl cp upd_same ?_ ?_
    · have h1 := keep b o hb
      rw [upd_ne (ne_of_none h1 hp), upd_ne (ne_of_none h1 hcN), upd_ne (ne_of_none h1 hp)]
      exact h1
    · rw [upd_ne lp, upd_ne cl.symm, upd_ne lp]; exact hl1
    · rw [upd_ne cp, upd_same]
/-! ### the law -/
def spLaw (K : PySem.W.Frag) : Sp := fun vs H Q _ => ∃ (a : Addr) (ns : List Int), vs = [.ref a] ∧ SqL K H a (ns.map V.int) ∧ ns.length ≤ 63 ∧ ∀ H', Q (.bl true) H'
def lawSt (ns : List Int) (n : Nat) : State := { env := some (.fz (.frl ns)) :: some (.fz .draw) :: List.replicate n none, sto := [], dr := some (beginSt ns) }
theorem law_run {K : PySem.W.Frag} {H : Hp} {vs : List V} {Q : VK} {E : XK} {E' : Slots → XK} {x y : Str} {N : List Str} {rest : M Flow} (h : spLaw K vs H Q E) (hm : ∀ ns : List Int, ns.length ≤ 63 → ∃ s', rest (lawSt ns N.length) = .ok (.rt (.fz (.bl true))) s') :
    tSeq (tAsg (tCallSD (spBegin K) [] E' (tCons (tVar 0) tNil)) (gName 1)) (tS K (fun cls d _ H' => E cls d H') rest) { nx := fun _ H' => Q .non H', rt := Q } (L2.start (x :: y :: N) vs) H := by
  obtain ⟨a, ns, rfl, hS, hl, k⟩ := h
  refine ⟨.ref a, rfl, a, ns, rfl, hS, hl, fun H' d l c keep hd hlN hc dl cl cd ed el ec => ?_⟩
  obtain ⟨s', hs⟩ := hm ns hl
  have noA : ∀ b, H b = none → b = a → H a = none := fun b z e => by rw [← e]; exact z
  refine ⟨⟨fun b => if b = c then some (.lst (ns.map V.int)) else if b = a then H a else none, [], some (d, l)⟩, lawSt ns N.length, ⟨fun b o e => ?_, ?_, fun i w e => ?_, fun i j w u b e1 e2 h1 h2 x1 x2 => ?_, rfl, (fun i m b e _ => by cases e), .nil, fun b hb => (by cases hb), ?_⟩, ?_⟩
  · have e : (if b = c then some (.lst (ns.map V.int)) else if b = a then H a else none) = some o := e
    by_cases z : b = c
    · rw [if_pos z] at e; cases e; rw [z]; exact .inl ec
    · rw [if_neg z] at e
      by_cases z2 : b = a
      · rw [if_pos z2] at e; rw [z2]; exact .inl (keep a o e)
      · rw [if_neg z2] at e; cases e
  · show (some (W.fz (.frl ns)) :: some (W.fz .draw) :: List.replicate N.length none).length = _
    unfold L2.start
    simp
  · match i, e with
    | 0, e =>
      cases e
      refine ⟨.ref a, rfl, show Rep K _ _ (.frl ns) from .frl ?_⟩
      cases q : H a with
      | none =>
        rcases hS with (h | ⟨o, h⟩) | h
        · rw [q] at h; cases h
        · rw [q] at h; cases h
        · exact .inr h
      | some o =>
        refine seqAt hS ?_
        show (if a = c then some (HO.lst (List.map V.int ns)) else if a = a then some o else none) = H a
        rw [if_neg (ne_of_none q hc), if_pos rfl, q]
    | 1, e =>
      cases e
      exact ⟨.ref d, rfl, show Rep K _ _ .draw from .draw rfl⟩
    | i + 2, e =>
      have e : (List.replicate N.length (none : Option W))[i]? = some (some w) := e
      rw [List.getElem?_replicate] at e
      split at e <;> cases e
  · match i, e1 with
    | 0, e1 => cases e1; cases h1
    | 1, e1 => cases e1; cases h1
    | i + 2, e1 =>
      have e1 : (List.replicate N.length (none : Option W))[i]? = some (some w) := e1
      rw [List.getElem?_replicate] at e1
      split at e1 <;> cases e1
  · refine DrAt.mk ⟨c, ed, ?_⟩ el dl ?_ ?_
    · show (if c = c then some (HO.lst (List.map V.int ns)) else if c = a then H a else none) = _
      rw [if_pos rfl]; rfl
    · show (if d = c then _ else if d = a then H a else none) = none
      rw [if_neg cd.symm]
      by_cases z : d = a
      · rw [if_pos z]; exact noA d hd z
      · rw [if_neg z]
    · show (if l = c then _ else if l = a then H a else none) = none
      rw [if_neg cl.symm]
      by_cases z : l = a
      · rw [if_pos z]; exact noA l hlN z
      · rw [if_neg z]
  · rw [hs]
    intro v σ' g' H2 sd ev rr
    cases (show Rep K g' v (.bl true) from rr.at_)
    exact k H2
/-! ### what stands in the built-in names -/
theorem bt_abs : bootBuiltins "abs" = some (.builtin "abs") := by decide +kernel
theorem bt_len : bootBuiltins "len" = some (.builtin "len") := by decide +kernel
theorem bt_max : bootBuiltins "max" = some (.builtin "max") := by decide +kernel
theorem bt_min : bootBuiltins "min" = some (.builtin "min") := by decide +kernel
theorem bt_sum : bootBuiltins "sum" = some (.builtin "sum") := by decide +kernel
theorem bt_all : bootBuiltins "all" = some (.builtin "all") := by decide +kernel
theorem bt_any : bootBuiltins "any" = some (.builtin "any") := by decide +kernel
theorem bt_divmod : bootBuiltins "divmod" = some (.builtin "divmod") := by decide +kernel
theorem bt_isinstance : bootBuiltins "isinstance" = some (.builtin "isinstance") := by decide +kernel
theorem bt_sorted : bootBuiltins "sorted" = some (.builtin "sorted") := by decide +kernel
theorem bt_repr : bootBuiltins "repr" = some (.builtin "repr") := by decide +kernel
theorem bt_int : bootBuiltins "int" = some (.type "int") := by decide +kernel
theorem bt_str : bootBuiltins "str" = some (.type "str") := by decide +kernel
theorem bt_bool : bootBuiltins "bool" = some (.type "bool") := by decide +kernel
theorem bt_list : bootBuiltins "list" = some (.type "list") := by decide +kernel
theorem bt_tuple : bootBuiltins "tuple" = some (.type "tuple") := by decide +kernel
theorem bt_dict : bootBuiltins "dict" = some (.type "dict") := by decide +kernel
theorem bt_set : bootBuiltins "set" = some (.type "set") := by decide +kernel
theorem bt_range : bootBuiltins "range" = some (.type "range") := by decide +kernel
theorem bt_zip : bootBuiltins "zip" = some (.type "zip") := by decide +kernel
theorem bt_enumerate : bootBuiltins "enumerate" = some (.type "enumerate") := by decide +kernel
/-- what is never reached -/
theorem ds_bad {X : Cx} {Wx : WX} {st : Stmt} : DS X Wx st M.bad := ⟨fun pins s σ H D I h => by
  obtain ⟨_, _, _, p⟩ := h
  exact p.elim⟩
theorem de_bad {X : Cx} {Wx : WX} {e : Expr} : DE X Wx e M.bad := ⟨fun pins s σ H Q I h => by
  obtain ⟨_, _, _, p⟩ := h
  exact p.elim⟩
theorem cx_none {P : Program} {w : World} {l : List Env} {H : Hp} {s : Shared} {e : Value} {s' : Shared} (z : L2.CX P w l H s (fun _ _ _ => False) e s') : False := by
  obtain ⟨_, _, _, _, _, _, _, _, _, _, _, _, z⟩ := z
  exact z
end DL

set_option Elab.async false
set_option linter.all false
set_option maxRecDepth 100000
set_option maxHeartbeats 1000000
/-! DLEval: what a denotation gives, for plain mathematics -/
namespace DL
open PySem
section
variable {α β : Type} {s s1 s2 : State}
theorem yes {A B : Prop} (h : A) : if true = true then A else B := by rw [if_pos rfl]; exact h
theorem no {A B : Prop} (h : B) : if false = true then A else B := by rw [if_neg Bool.false_ne_true]; exact h
/-- it gives a, behind it Q -/
def ok (m : M α) (s : State) (Q : α → State → Prop) : Prop := ∃ a s', m s = .ok a s' ∧ Q a s'
theorem ok.eq {m : M α} {Q : α → State → Prop} {a : α} (h : m s = .ok a s1) (q : Q a s1) : ok m s Q := ⟨a, s1, h, q⟩
theorem ok.bind {f : M α} {k : α → M β} {Q : β → State → Prop} (h : ok f s fun a s1 => ok (k a) s1 Q) : ok (f >>= k) s Q := by
  obtain ⟨a, s1, e, b, s2, e2, q⟩ := h
  exact ⟨b, s2, by rw [bind_eq, e]; exact e2, q⟩
theorem ok.step {f : M α} {k : α → M β} {Q : β → State → Prop} {a : α} (e : f s = .ok a s1) (h : ok (k a) s1 Q) : ok (f >>= k) s Q := .bind ⟨a, s1, e, h⟩
theorem ok.mono {m : M α} {Q Q' : α → State → Prop} (h : ok m s Q) (k : ∀ a s', Q a s' → Q' a s') : ok m s Q' := by
  obtain ⟨a, s1, e, q⟩ := h
  exact ⟨a, s1, e, k _ _ q⟩
theorem ok.ite {c : M Bool} {a b : M α} {Q : α → State → Prop} (h : ok c s fun t s1 => if t = true then ok a s1 Q else ok b s1 Q) : ok (dIf c a b) s Q := by
  refine ok.bind (h.mono fun t s1 q => ?_)
  cases t with
  | true => rw [if_pos rfl] at q ⊢; exact q
  | false => rw [if_neg Bool.false_ne_true] at q ⊢; exact q
/-- a test that is decided -/
theorem ok.dec {c : M Bool} {P : Prop} [Decidable P] {Q : Bool → State → Prop} (e : c s = .ok (decide P) s1) (h1 : P → Q true s1) (h2 : ¬ P → Q false s1) : ok c s Q := by
  refine ok.eq e ?_
  by_cases h : P
  · rw [decide_eq_true h]; exact h1 h
  · rw [decide_eq_false h]; exact h2 h
theorem ok.tt {a b : M α} {Q : α → State → Prop} (h : ok a s Q) : if true = true then ok a s Q else ok b s Q := by rw [if_pos rfl]; exact h
theorem ok.ff {a b : M α} {Q : α → State → Prop} (h : ok b s Q) : if false = true then ok a s Q else ok b s Q := by rw [if_neg Bool.false_ne_true]; exact h
theorem ok.and {f k : M Bool} {Q : Bool → State → Prop} (h : ok f s fun t s1 => if t = true then ok k s1 Q else Q false s1) : ok (dAnd f k) s Q := by
  refine ok.bind (h.mono fun t s1 q => ?_)
  cases t with
  | true => rw [if_pos rfl] at q ⊢; exact q
  | false => rw [if_neg Bool.false_ne_true] at q ⊢; exact ⟨_, _, rfl, q⟩
theorem ok.or {f k : M Bool} {Q : Bool → State → Prop} (h : ok f s fun t s1 => if t = true then Q true s1 else ok k s1 Q) : ok (dOr f k) s Q := by
  refine ok.bind (h.mono fun t s1 q => ?_)
  cases t with
  | true => rw [if_pos rfl] at q ⊢; exact ⟨_, _, rfl, q⟩
  | false => rw [if_neg Bool.false_ne_true] at q ⊢; exact q
theorem ok.not {f : M Bool} {Q : Bool → State → Prop} (h : ok f s fun t s1 => Q (!t) s1) : ok (dNot f) s Q := by
  refine ok.bind (h.mono fun t s1 q => ?_)
  exact ⟨_, _, rfl, q⟩
end
section
variable {s s1 s2 : State}
/-- a statement: it goes on, or hands back -/
def okS (m : M Flow) (s : State) (Nx : State → Prop) (Rt : T → State → Prop) : Prop := match m s with
  | .ok .nx s' => Nx s'
  | .ok (.rt t) s' => Rt t s'
  | _ => False
variable {Nx Nx' : State → Prop} {Rt Rt' : T → State → Prop}
theorem okS.nx {m : M Flow} (e : m s = .ok .nx s1) (h : Nx s1) : okS m s Nx Rt := by unfold okS; rw [e]; exact h
theorem okS.rt {m : M Flow} {t : T} (e : m s = .ok (.rt t) s1) (h : Rt t s1) : okS m s Nx Rt := by unfold okS; rw [e]; exact h
theorem okS.mono {m : M Flow} (h : okS m s Nx Rt) (k1 : ∀ s', Nx s' → Nx' s') (k2 : ∀ t s', Rt t s' → Rt' t s') : okS m s Nx' Rt' := by
  unfold okS at h ⊢
  cases q : m s with
  | bad => rw [q] at h; exact h
  | err x s' => rw [q] at h; exact h
  | ok f s' =>
    rw [q] at h
    cases f with
    | nx => exact k1 _ h
    | rt t => exact k2 _ _ h
    | bk => exact h
    | ct => exact h
theorem okS.seq {f k : M Flow} (h : okS f s (fun s1 => okS k s1 Nx Rt) Rt) : okS (dSeq f k) s Nx Rt := by
  unfold okS dSeq at *
  cases q : f s with
  | bad => rw [q] at h; exact h
  | err x s' => rw [q] at h; exact h
  | ok fl s' =>
    rw [q] at h
    cases fl with
    | nx => exact h
    | rt t => exact h
    | bk => exact h
    | ct => exact h
theorem okS.ite {c : M Bool} {a b : M Flow} (h : ok c s fun t s1 => if t = true then okS a s1 Nx Rt else okS b s1 Nx Rt) : okS (dIf c a b) s Nx Rt := by
  obtain ⟨t, s1, e, q⟩ := h
  unfold okS dIf at *
  rw [bind_eq, e]
  cases t with
  | true => rw [if_pos rfl] at q; exact q
  | false => rw [if_neg Bool.false_ne_true] at q; exact q
theorem okS.tt {a b : M Flow} (h : okS a s Nx Rt) : if true = true then okS a s Nx Rt else okS b s Nx Rt := by rw [if_pos rfl]; exact h
theorem okS.ff {a b : M Flow} (h : okS b s Nx Rt) : if false = true then okS a s Nx Rt else okS b s Nx Rt := by rw [if_neg Bool.false_ne_true]; exact h
theorem okS.bind {α : Type} {f : M α} {k : α → M Flow} (h : ok f s fun a s1 => okS (k a) s1 Nx Rt) : okS (f >>= k) s Nx Rt := by
  obtain ⟨a, s1, e, q⟩ := h
  unfold okS at *
  rw [bind_eq, e]
  exact q
theorem okS.ret {f : M T} (h : ok f s fun t s1 => Rt t s1) : okS (dRet f) s Nx Rt := okS.bind (h.mono fun t s1 q => okS.rt rfl q)
theorem okS.expr {f : M T} (h : ok f s fun _ s1 => Nx s1) : okS (dExpr f) s Nx Rt := okS.bind (h.mono fun t s1 q => okS.nx rfl q)
theorem okS.asg {i : Nat} {f : M T} (h : ok f s fun t s1 => canSet s1 i = true ∧ Nx (putE s1 i t.w)) : okS (dAsg i f) s Nx Rt := by
  refine okS.bind (h.mono fun t s1 q => okS.bind ⟨(), putE s1 i t.w, ?_, okS.nx rfl q.2⟩)
  unfold setT
  rw [if_pos q.1]
theorem okS.skip (h : Nx s) : okS dNx s Nx Rt := okS.nx rfl h
theorem okS.turn {p : Pt} {b : M Flow} {d : D} {ds : List D} (e : bindP p d s = some s1) (h : okS b s1 (fun s2 => okS (dForL p b ds) s2 Nx Rt) Rt) : okS (dForL p b (d :: ds)) s Nx Rt := by
  unfold okS at h ⊢
  unfold dForL
  rw [e]
  simp only
  cases q : b s1 with
  | bad => rw [q] at h; exact h.elim
  | err x s' => rw [q] at h; exact h.elim
  | ok f s' =>
    rw [q] at h
    cases f with
    | nx => exact h
    | rt t => exact h
    | bk => exact h.elim
    | ct => exact h.elim
/-- a walk: I holds behind each turn -/
theorem okS.forL {p : Pt} {b : M Flow} {items : List D} (I : Nat → State → Prop) : ∀ (k : Nat) (rest : List D), items.drop k = rest → k ≤ items.length → ∀ s, I k s →
    (∀ (i : Nat) (d : D) (s : State), items[i]? = some d → I i s → ∃ s1, bindP p d s = some s1 ∧ okS b s1 (I (i + 1)) Rt) → okS (dForL p b rest) s (I items.length) Rt
  | k, [], e, hk, s, h0, _ => by
    have : k = items.length := by
      have := congrArg List.length e
      rw [List.length_drop] at this
      simp at this
      omega
    subst this
    exact okS.nx rfl h0
  | k, d :: rest, e, hk, s, h0, hs => by
    have hd : items[k]? = some d := by
      have := congrArg (fun l => l[0]?) e
      simp [List.getElem?_drop] at this
      exact this
    have hl : k < items.length := (List.getElem?_eq_some_iff.mp hd).1
    have hr : items.drop (k + 1) = rest := by
      have := congrArg List.tail e
      rw [List.tail_drop] at this
      exact this
    obtain ⟨s1, e1, e2⟩ := hs k d s hd h0
    unfold okS dForL
    rw [e1]
    simp only
    unfold okS at e2
    cases q : b s1 with
    | bad => rw [q] at e2; exact e2.elim
    | err x s' => rw [q] at e2; exact e2.elim
    | ok f s' =>
      rw [q] at e2
      cases f with
      | nx =>
        simp only at e2 ⊢
        exact okS.forL I (k + 1) rest hr hl s' e2 hs
      | rt t => exact e2
      | bk => exact e2.elim
      | ct => exact e2.elim
theorem okS.walk {p : Pt} {b : M Flow} {items : List D} (I : Nat → State → Prop) (h0 : I 0 s) (hs : ∀ (i : Nat) (d : D) (s : State), items[i]? = some d → I i s → ∃ s1, bindP p d s = some s1 ∧ okS b s1 (I (i + 1)) Rt) (hn : ∀ s', I items.length s' → Nx s') : okS (dForL p b items) s Nx Rt :=
  (okS.forL I 0 items rfl (Nat.zero_le _) s h0 hs).mono hn fun _ _ h => h
theorem mapS_id {r : Rs Flow} {f : State → State} (h : ∀ s, f s = s) : mapS f r = r := by
  cases r <;> simp [mapS, h]
/-- for over frozen data -/
theorem okS.forV {h : List D → Option (List D)} {p : Pt} {b : M Flow} {fl : M (List VR)} {rs : List VR} {ds items : List D} (e : fl s = .ok rs s1) (e2 : toHSs rs s1 = .ok (ds.map HS.d) s2) (e3 : h ds = some items) (k : okS (dForL p b items) s2 Nx Rt) : okS (dFor h p b fl) s Nx Rt := by
  unfold dFor
  refine okS.bind ⟨rs, s1, e, ?_⟩
  unfold dHold
  refine okS.bind ⟨_, s2, e2, ?_⟩
  show okS (dLock (ds.map HS.d) (dItems h (dForL p b))) s2 Nx Rt
  have key : ∀ (ds' : List D) (k : List D → M Flow), dLock (ds'.map HS.d) k = k ds' := by
    intro ds'
    induction ds' with
    | nil => intro k; rfl
    | cons d ds' ih => intro k; show dLock (ds'.map HS.d) (fun ds => k (d :: ds)) = _; rw [ih]
  rw [key]
  unfold dItems
  rw [e3]
  exact k
/-- for over what a slot holds frozen -/
theorem okS.forS {h : List D → Option (List D)} {p : Pt} {b : M Flow} {i : Nat} {d : D} {items : List D} (e : s.env[i]? = some (some (.fz d))) (e1 : noDict d = true) (e3 : h [d] = some items) (k : okS (dForL p b items) s Nx Rt) : okS (dFor h p b (dOne (dSlot i))) s Nx Rt := by
  have q : dFor h p b (dOne (dSlot i)) s = mapS (unlockW i (some (some (.fz d)))) (dItems h (dForL p b) [d] s) := by
    have f1 : dOne (dSlot i) s = .ok [.slot i] s := by
      unfold dOne
      rw [bind_eq]
      unfold dSlot
      simp only [e]
      rfl
    unfold dFor
    rw [bind_eq, f1]
    show dHold [VR.slot i] (dItems h (dForL p b)) s = _
    unfold dHold
    rw [bind_eq]
    have f2 : toHSs [VR.slot i] s = .ok [.slot i] s := rfl
    rw [f2]
    show dLock [HS.slot i] (dItems h (dForL p b)) s = _
    unfold dLock
    simp only [e]
    have f3 : (W.fz d).data = d := rfl
    rw [f3, if_pos e1]
    have f4 : lockS i s = s := by unfold lockS; rw [e]
    rw [f4]
    rfl
  unfold okS
  rw [q, mapS_id (by intro s; rfl)]
  unfold dItems
  rw [e3]
  exact k
/-- for over what a slot holds frozen -/
theorem okS.forS1 {fl : M (List VR)} {h : List D → Option (List D)} {p : Pt} {b : M Flow} {i : Nat} {d : D} {items : List D} (f1 : fl s = .ok [.slot i] s) (e : s.env[i]? = some (some (.fz d))) (e1 : noDict d = true) (e3 : h [d] = some items) (k : okS (dForL p b items) s Nx Rt) : okS (dFor h p b fl) s Nx Rt := by
  have q : dFor h p b fl s = mapS (unlockW i (some (some (.fz d)))) (dItems h (dForL p b) [d] s) := by
    unfold dFor
    rw [bind_eq, f1]
    show dHold [VR.slot i] (dItems h (dForL p b)) s = _
    unfold dHold
    rw [bind_eq]
    have f2 : toHSs [VR.slot i] s = .ok [.slot i] s := rfl
    rw [f2]
    show dLock [HS.slot i] (dItems h (dForL p b)) s = _
    unfold dLock
    simp only [e]
    have f3 : (W.fz d).data = d := rfl
    rw [f3, if_pos e1]
    have f4 : lockS i s = s := by unfold lockS; rw [e]
    rw [f4]
    rfl
  unfold okS
  rw [q, mapS_id (by intro s; rfl)]
  unfold dItems
  rw [e3]
  exact k
end
/-! ### values -/
section
variable {s s1 s2 s3 : State}
theorem dOp2_eq {h : D → D → Option T} {fa fb : M VR} {x y : VR} {d e : D} {t : T} (ha : fa s = .ok x s1) (hb : fb s1 = .ok y s2) (hd : readV x s2 = .ok d s2) (he : readV y s2 = .ok e s2) (hh : h d e = some t) : dOp2 h fa fb s = .ok t s2 := by
  unfold dOp2
  rw [bind_eq, ha]
  show (fb >>= fun y => readV x >>= fun d => readV y >>= fun e => opt (h d e)) s1 = _
  rw [bind_eq, hb]
  show (readV x >>= fun d => readV y >>= fun e => opt (h d e)) s2 = _
  rw [bind_eq, hd]
  show (readV y >>= fun e => opt (h d e)) s2 = _
  rw [bind_eq, he]
  show opt (h d e) s2 = _
  rw [hh]
  rfl
theorem dV_eq {f : M T} {t : T} (h : f s = .ok t s1) : dV f s = .ok (.t t) s1 := by
  unfold dV
  rw [bind_eq, h]
  rfl
theorem dUn_eq {p : Pt} {fv : M VR} {r : VR} {d : D} (h : fv s = .ok r s1) (h2 : frz r s1 = .ok d s2) (h3 : bindP p d s2 = some s3) : dUn p fv s = .ok .nx s3 := by
  unfold dUn
  rw [bind_eq, h]
  show (frz r >>= fun d => dBind p d) s1 = _
  rw [bind_eq, h2]
  show dBind p d s2 = _
  unfold dBind
  rw [h3]
theorem dB_eq {f : M T} {b : Bool} (h : f s = .ok (.fz (.bl b)) s1) : dB f s = .ok b s1 := by
  unfold dB
  rw [bind_eq, h]
theorem dFld_eq {C : Addr} {f : Str} {fv : M VR} {r : VR} {fs : List (Str × D)} {d : D} (h : fv s = .ok r s1) (h2 : readO C r s1 = .ok fs s1) (h3 : fs.lookup f = some d) : dFld C f fv s = .ok (.fz d) s1 := by
  unfold dFld
  rw [bind_eq, h]
  show (readO C r >>= fun fs => (match fs.lookup f with | some d => (pure (T.fz d) : M T) | none => M.bad)) s1 = _
  rw [bind_eq, h2]
  simp only [h3]
  rfl
theorem readO_slot {C : Addr} {i : Nat} {w : W} {fs : List (Str × D)} (h : s.env[i]? = some (some w)) (h2 : w.data = .obj C fs) : readO C (.slot i) s = .ok fs s := by
  unfold readO
  rw [bind_eq]
  unfold readV
  simp only [h, h2]
  rfl
theorem recv_slot {C : Addr} {m : Str} {i : Nat} {w : W} {fs : List (Str × D)} (h : s.env[i]? = some (some w)) (h2 : w.data = .obj C fs) (h3 : (fs.lookup m).isNone = true) : recv C m (.slot i) s = .ok () s := by
  unfold recv
  rw [bind_eq, readO_slot h h2]
  show (if isOw (.slot i) = false ∧ (fs.lookup m).isNone = true then (pure () : M Unit) else M.bad) s = _
  rw [if_pos ⟨rfl, h3⟩]
  rfl
theorem chain_le {fa fb fc : M VR} {x y z : VR} {a v b : Int} (ha : fa s = .ok x s) (hb : fb s = .ok y s) (hx : readV x s = .ok (.int a) s) (hy : readV y s = .ok (.int v) s) (hc : fc s = .ok z s) (hz : readV z s = .ok (.int b) s) : dChain leD leD fa fb fc s = .ok (.fz (.bl (decide (a ≤ v ∧ v ≤ b)))) s := by
  unfold dChain
  simp only [bind_eq, ha, hb, hx, hy]
  by_cases h1 : a ≤ v
  · have e : leD (.int a) (.int v) = some (.fz (.bl true)) := by show some (T.fz (.bl (decide (a ≤ v)))) = _; rw [decide_eq_true h1]
    rw [e]
    simp only [opt, hc, hy, hz]
    show Rs.ok (T.fz (.bl (decide (v ≤ b)))) s = _
    simp [h1]
  · have e : leD (.int a) (.int v) = some (.fz (.bl false)) := by show some (T.fz (.bl (decide (a ≤ v)))) = _; rw [decide_eq_false h1]
    rw [e]
    simp only [opt]
    simp [h1]
theorem dTup_eq {fl : M (List VR)} {rs : List VR} {ds : List D} (h : fl s = .ok rs s1) (h2 : frzs rs s1 = .ok ds s2) (hz : ds.length ≤ sizeLine) : dTup fl s = .ok (.fz (.tup ds)) s2 := by
  unfold dTup
  simp only [bind_eq, h, h2, if_pos hz]
  rfl
theorem dLst_eq {fl : M (List VR)} {rs : List VR} {ds : List D} (h : fl s = .ok rs s1) (h2 : frzs rs s1 = .ok ds s2) (hz : ds.length ≤ sizeLine) : dLst fl s = .ok (.ow (.lst ds)) s2 := by
  unfold dLst
  simp only [bind_eq, h, h2, if_pos hz]
  rfl
theorem append_eq {i : Nat} {f : M VR} {r : VR} {ds : List D} {d : D} (h1 : s.env[i]? = some (some (.own (.lst ds)))) (h2 : f s = .ok r s1) (h3 : frz r s1 = .ok d s2) (h4 : s2.env[i]? = some (some (.own (.lst ds)))) (hz : ds.length < sizeLine) : dAppend i f s = .ok (.fz .non) (putE s2 i (.own (.lst (ds ++ [d])))) := by
  unfold dAppend
  have c : chkD i isLst s = .ok () s := by unfold chkD heldD; rw [h1]; rfl
  have u : updD i (pushD d) s2 = .ok () (putE s2 i (.own (.lst (ds ++ [d])))) := by
    unfold updD heldD
    rw [h4]
    simp only [pushD, if_pos hz]
    rfl
  simp only [bind_eq, c, h2, h3, u]
  rfl
theorem dOne_eq {f : M VR} {r : VR} (h : f s = .ok r s1) : dOne f s = .ok [r] s1 := by
  unfold dOne
  rw [bind_eq, h]
  rfl
theorem dCons_eq {f : M VR} {k : M (List VR)} {r : VR} {rs : List VR} (h : f s = .ok r s1) (h2 : k s1 = .ok rs s2) : dCons f k s = .ok (r :: rs) s2 := by
  unfold dCons
  rw [bind_eq, h]
  show (k >>= fun xs => pure (r :: xs)) s1 = _
  rw [bind_eq, h2]
  rfl
theorem dCallB_eq {h : List D → Option T} {fl : M (List VR)} {rs : List VR} {ds : List D} {t : T} (hl : fl s = .ok rs s1) (hr : readVs rs s1 = .ok ds s1) (hh : h ds = some t) : dCallB h fl s = .ok t s1 := by
  unfold dCallB
  rw [bind_eq, hl]
  show (readVs rs >>= fun ds => opt (h ds)) s1 = _
  rw [bind_eq, hr]
  show opt (h ds) s1 = _
  rw [hh]
  rfl
theorem mul_r {i j : Int} (h : bnd64 j = true) : mulD (.int i) (.int j) = some (.fz (.int (i * j))) := by
  show (if (bnd64 i || bnd64 j) = true then _ else _) = _
  rw [h, Bool.or_true, if_pos rfl]
theorem mul_l {i j : Int} (h : bnd64 i = true) : mulD (.int i) (.int j) = some (.fz (.int (i * j))) := by
  show (if (bnd64 i || bnd64 j) = true then _ else _) = _
  rw [h, Bool.true_or, if_pos rfl]
theorem bnd_of {i : Int} (h1 : -(2 ^ 64) < i) (h2 : i < 2 ^ 64) : bnd64 i = true := by
  unfold bnd64
  rw [decide_eq_true h1, decide_eq_true h2]
  rfl
theorem mod_pos {i j : Int} (h : 0 < j) : modD (.int i) (.int j) = some (.fz (.int (i % j))) := if_pos h
theorem fdiv_pos {i j : Int} (h : 0 < j) (h2 : j < 1073741824) : fdivD (.int i) (.int j) = some (.fz (.int (i / j))) := if_pos ⟨h, h2⟩
theorem pow_ok {i j : Int} (h : 0 ≤ j) (h2 : j ≤ 1000000) (h3 : i.natAbs < 2 ^ 64) : powD (.int i) (.int j) = some (.fz (.int (i ^ j.toNat))) := if_pos ⟨h, h2, h3⟩
end
/-! ### calls -/
section
variable {s s1 s2 : State}
theorem backs_d : ∀ {ds : List D} {ws : List W} {ce e : List (Option W)}, ws.length = ds.length → ds.length ≤ ce.length → backs (ds.map HS.d) ws ce e = some e
  | [], [], _, _, _, _ => by unfold backs; rfl
  | [], _ :: _, _, _, h, _ => by cases h
  | _ :: _, [], _, _, h, _ => by cases h
  | d :: ds, w :: ws, [], e, _, h => by simp at h
  | d :: ds, w :: ws, c :: ce, e, h1, h2 => by
    show backs (HS.d d :: ds.map HS.d) (w :: ws) (c :: ce) e = some e
    unfold backs
    have : back1 (HS.d d) w c e = some e := rfl
    rw [this]
    exact backs_d (Nat.succ.inj h1) (Nat.le_of_succ_le_succ h2)
theorem ents_d : ∀ {ds : List D} {ms : List AM}, ms.length = ds.length → ents ms (ds.map HS.d) s = some (ds.map W.fz)
  | [], [], _ => rfl
  | [], _ :: _, h => by cases h
  | _ :: _, [], h => by cases h
  | d :: ds, m :: ms, h => by
    show ents (m :: ms) (HS.d d :: ds.map HS.d) s = _
    unfold ents
    have : ent1 m (HS.d d) s = some (.fz d) := by cases m <;> rfl
    rw [this, ents_d (Nat.succ.inj h)]
    rfl
theorem oneEach_d : ∀ ds : List D, oneEach (ds.map HS.d) = true
  | [] => rfl
  | d :: ds => oneEach_d ds
/-- what a def gives for data -/
def gives (F : M Flow) (n : Nat) (args : List D) (s : State) (Q : T → State → Prop) : Prop :=
  ∃ t s', F { env := args.map (fun d => some (.fz d)) ++ List.replicate (n - args.length) none, sto := s.sto, dr := s.dr } = .ok (.rt t) s' ∧ args.length ≤ s'.env.length ∧ Q t { s with sto := s'.sto, dr := s'.dr }
/-- a call with data alone -/
theorem ok.call {n : Nat} {ms : List AM} {F : M Flow} {fl : M (List VR)} {rs : List VR} {ds : List D} {Q : T → State → Prop} (e : fl s = .ok rs s1) (e2 : toHMs ms rs s1 = .ok (ds.map HS.d) s2) (h : gives F n ds s2 Q) : ok (dCall n ms [] F fl) s Q := by
  obtain ⟨t, s', e3, hl, q⟩ := h
  have lm : ms.length = ds.length := by
    have a := toHMs_len e2
    have b : ∀ {ms : List AM} {rs : List VR} {s s' : State} {hs : List HS}, toHMs ms rs s = .ok hs s' → hs.length = ms.length := by
      intro ms
      induction ms with
      | nil =>
        intro rs s s' hs e
        cases rs with
        | nil => cases e; rfl
        | cons _ _ => cases e
      | cons m ms ih =>
        intro rs s s' hs e
        cases rs with
        | nil => cases e
        | cons r rs =>
          unfold toHMs at e
          rw [bind_eq] at e
          cases q1 : toHM m r s with
          | bad => rw [q1] at e; cases e
          | err x s2 => rw [q1] at e; cases e
          | ok h1 s1 =>
            rw [q1] at e
            have e : (toHMs ms rs >>= fun hs => pure (h1 :: hs)) s1 = .ok hs s' := e
            rw [bind_eq] at e
            cases q2 : toHMs ms rs s1 with
            | bad => rw [q2] at e; cases e
            | err x s2 => rw [q2] at e; cases e
            | ok hs2 s2 =>
              rw [q2] at e
              cases e
              rw [List.length_cons, List.length_cons, ih q2]
    have c := b e2
    rw [List.length_map] at c
    exact c.symm
  unfold dCall
  refine ok.step e ?_
  unfold dPass
  refine ok.step e2 ?_
  refine ⟨t, { s2 with sto := s'.sto, dr := s'.dr }, ?_, q⟩
  unfold pass2
  rw [ents_d lm]
  simp only
  rw [if_pos (oneEach_d ds)]
  have e4 : { env := (ds.map W.fz ++ ([] : List D).map W.fz).map some ++ List.replicate (n - ((ds.map W.fz).length + ([] : List D).length)) none, sto := s2.sto, dr := s2.dr : State } = { env := ds.map (fun d => some (.fz d)) ++ List.replicate (n - ds.length) none, sto := s2.sto, dr := s2.dr } := by
    simp [List.map_map]
  rw [e4, e3]
  show (match backS (ds.map HS.d) (ds.map W.fz) s2 s' with | some s' => Rs.ok t s' | none => .bad) = _
  unfold backS
  rw [backs_d (by rw [List.length_map]) hl]
end
/-! ### defs that only look -/
/-- what it hands back for what its slots hold -/
def pureG (F : M Flow) (n : Nat) (ws : List W) (v : T) : Prop := ∀ (sto : List MO) (dr : Option DrawSt), ∃ e', F { env := ws.map some ++ List.replicate (n - ws.length) none, sto := sto, dr := dr } = .ok (.rt v) { env := e', sto := sto, dr := dr } ∧ ws.length ≤ e'.length
theorem pureG.of {F : M Flow} {n : Nat} {ws : List W} {v : T} (h : ∀ (sto : List MO) (dr : Option DrawSt), okS F { env := ws.map some ++ List.replicate (n - ws.length) none, sto := sto, dr := dr } (fun _ => False) fun t s' => t = v ∧ ws.length ≤ s'.env.length ∧ s'.sto = sto ∧ s'.dr = dr) : pureG F n ws v := fun sto dr => by
  have h := h sto dr
  unfold okS at h
  cases q : F { env := ws.map some ++ List.replicate (n - ws.length) none, sto := sto, dr := dr } with
  | bad => rw [q] at h; exact h.elim
  | err x s' => rw [q] at h; exact h.elim
  | ok f s' =>
    rw [q] at h
    cases f with
    | nx => exact h.elim
    | bk => exact h.elim
    | ct => exact h.elim
    | rt t =>
      obtain ⟨rfl, hl, h1, h2⟩ := h
      obtain ⟨e', sto', dr'⟩ := s'
      cases h1; cases h2
      exact ⟨e', rfl, hl⟩
def notLent : W → Bool
  | .lent _ => false
  | _ => true
theorem backs_no : ∀ {hs : List HS} {ws : List W} {ce e : List (Option W)}, hs.length = ws.length → ws.all notLent = true → ws.length ≤ ce.length → backs hs ws ce e = some e
  | [], [], _, _, _, _, _ => by unfold backs; rfl
  | [], _ :: _, _, _, h, _, _ => by cases h
  | _ :: _, [], _, _, h, _, _ => by cases h
  | h :: hs, w :: ws, [], e, _, _, z => by simp at z
  | h :: hs, w :: ws, c :: ce, e, h1, h2, h3 => by
    rw [List.all_cons, Bool.and_eq_true] at h2
    unfold backs
    have : back1 h w c e = some e := by
      cases h with
      | d d => rfl
      | slot i =>
        cases w with
        | lent d => cases h2.1
        | _ => rfl
    rw [this]
    exact backs_no (Nat.succ.inj h1) h2.2 (Nat.le_of_succ_le_succ h3)
theorem pass_pure {F : M Flow} {n : Nat} {ms : List AM} {rs : List VR} {hs : List HS} {ws : List W} {v : T} {s s1 : State} (e2 : toHMs ms rs s = .ok hs s1) (e3 : ents ms hs s1 = some ws) (e4 : oneEach hs = true) (e5 : ws.all notLent = true) (h : pureG F n ws v) : dPass n ms [] F rs s = .ok v s1 := by
  obtain ⟨e', q, hl⟩ := h s1.sto s1.dr
  unfold dPass
  rw [bind_eq, e2]
  show pass2 n ms [] F hs s1 = _
  unfold pass2
  rw [e3]
  simp only
  rw [if_pos e4]
  have e6 : { env := (ws ++ ([] : List D).map W.fz).map some ++ List.replicate (n - (ws.length + ([] : List D).length)) none, sto := s1.sto, dr := s1.dr : State } = { env := ws.map some ++ List.replicate (n - ws.length) none, sto := s1.sto, dr := s1.dr } := by simp
  rw [e6, q]
  show (match backS hs ws s1 { env := e', sto := s1.sto, dr := s1.dr } with | some s' => Rs.ok v s' | none => .bad) = _
  unfold backS
  rw [backs_no (ents_length e3).symm e5 hl]
theorem call_pure {F : M Flow} {n : Nat} {ms : List AM} {fl : M (List VR)} {rs : List VR} {hs : List HS} {ws : List W} {v : T} {s s1 s2 : State} (h : pureG F n ws v) (e : fl s = .ok rs s1) (e2 : toHMs ms rs s1 = .ok hs s2) (e3 : ents ms hs s2 = some ws) (e4 : oneEach hs = true) (e5 : ws.all notLent = true) : dCall n ms [] F fl s = .ok v s2 := by
  unfold dCall
  rw [bind_eq, e]
  exact pass_pure e2 e3 e4 e5 h
theorem meth_pure {C : Addr} {m : Str} {F : M Flow} {n : Nat} {ms : List AM} {fo : M VR} {fl : M (List VR)} {r : VR} {rs : List VR} {hs : List HS} {ws : List W} {v : T} {s s0 s1 s2 : State} (h : pureG F n ws v) (e0 : fo s = .ok r s0) (er : recv C m r s0 = .ok () s0) (e : fl s0 = .ok rs s1) (e2 : toHMs ms (r :: rs) s1 = .ok hs s2) (e3 : ents ms hs s2 = some ws) (e4 : oneEach hs = true) (e5 : ws.all notLent = true) : dMeth C m n ms [] F fo fl s = .ok v s2 := by
  unfold dMeth
  rw [bind_eq, e0]
  show (recv C m r >>= fun _ => fl >>= fun rs => dPass n ms [] F (r :: rs)) s0 = _
  rw [bind_eq, er]
  show (fl >>= fun rs => dPass n ms [] F (r :: rs)) s0 = _
  rw [bind_eq, e]
  exact pass_pure e2 e3 e4 e5 h
/-! ### objects that change -/
section
variable {s s1 s2 : State}
theorem setF_eq {C : Addr} {f : Str} {j : Nat} {fv : M VR} {r : VR} {d : D} {fs : List (Str × D)} (h1 : fv s = .ok r s1) (h2 : frz r s1 = .ok d s2) (h3 : s2.env[j]? = some (some (.lent (.obj C fs)))) (hl : fs.length < 1000) : dSetF C f (dSlot j) fv s = .ok .nx (putE s2 j (.lent (.obj C (putFD f d fs)))) := by
  unfold dSetF
  have e : dSlot j s2 = .ok (.slot j) s2 := by unfold dSlot; rw [h3]
  simp only [bind_eq, h1, h2, e]
  unfold putO
  simp only [h3]
  rw [if_pos ⟨trivial, hl⟩]
theorem toHMs_hs : ∀ {ms : List AM} {rs : List VR} {s s' : State} {hs : List HS}, toHMs ms rs s = .ok hs s' → hs.length = ms.length
  | [], [], _, _, _, e => by cases e; rfl
  | [], _ :: _, _, _, _, e => by cases e
  | _ :: _, [], _, _, _, e => by cases e
  | m :: ms, r :: rs, s, s', hs, e => by
    unfold toHMs at e
    rw [bind_eq] at e
    cases q1 : toHM m r s with
    | bad => rw [q1] at e; cases e
    | err x s2 => rw [q1] at e; cases e
    | ok h1 s1 =>
      rw [q1] at e
      have e : (toHMs ms rs >>= fun hs => pure (h1 :: hs)) s1 = .ok hs s' := e
      rw [bind_eq] at e
      cases q2 : toHMs ms rs s1 with
      | bad => rw [q2] at e; cases e
      | err x s2 => rw [q2] at e; cases e
      | ok hs2 s2 =>
        rw [q2] at e
        cases e
        rw [List.length_cons, List.length_cons, toHMs_hs q2]
theorem noSlot_d (i : Nat) : ∀ ds : List D, noSlot i (ds.map HS.d) = true
  | [] => rfl
  | _ :: ds => noSlot_d i ds
/-- one object is lent, the rest is data -/
theorem pass2_lend {n : Nat} {ms : List AM} {F : M Flow} {ds : List D} {i : Nat} {d0 : D} {r : Rs Flow} (lm : ms.length = ds.length) (h1 : s.env[i]? = some (some (.own d0))) (h : F { env := some (.lent d0) :: (ds.map fun d => some (.fz d)) ++ List.replicate (n - (ds.length + 1)) none, sto := s.sto, dr := s.dr } = r) :
    pass2 n (.L :: ms) [] F (.slot i :: ds.map HS.d) s = callR (.slot i :: ds.map HS.d) (.lent d0 :: ds.map W.fz) s r := by
  unfold pass2
  have e3 : ents (.L :: ms) (.slot i :: ds.map HS.d) s = some (.lent d0 :: ds.map W.fz) := by
    unfold ents
    have : ent1 .L (.slot i) s = some (.lent d0) := by unfold ent1; simp only [h1]; rfl
    rw [this, ents_d lm]
  rw [e3]
  simp only
  have e4 : oneEach (.slot i :: ds.map HS.d) = true := by
    show (noSlot i (ds.map HS.d) && oneEach (ds.map HS.d)) = true
    rw [noSlot_d, oneEach_d]
    rfl
  rw [if_pos e4]
  have e6 : { env := ((.lent d0 :: ds.map W.fz) ++ ([] : List D).map W.fz).map some ++ List.replicate (n - ((.lent d0 :: ds.map W.fz).length + ([] : List D).length)) none, sto := s.sto, dr := s.dr : State } = { env := some (.lent d0) :: (ds.map fun d => some (.fz d)) ++ List.replicate (n - (ds.length + 1)) none, sto := s.sto, dr := s.dr } := by
    simp [List.map_map]
  rw [e6, h]
theorem backS_lend {ds : List D} {i : Nat} {d0 d1 : D} {e' : List (Option W)} {sto : List MO} {dr : Option DrawSt} (h1 : s.env[i]? = some (some (.own d0))) (hl : ds.length ≤ e'.length) :
    backS (.slot i :: ds.map HS.d) (.lent d0 :: ds.map W.fz) s { env := some (.lent d1) :: e', sto := sto, dr := dr } = some { env := s.env.set i (some (.own d1)), sto := sto, dr := dr } := by
  unfold backS backs
  have : back1 (.slot i) (.lent d0) (some (.lent d1)) s.env = some (s.env.set i (some (.own d1))) := by unfold back1; simp only [h1]
  simp only [this]
  rw [backs_d (by rw [List.length_map]) hl]
theorem meth_lend {C : Addr} {m : Str} {n : Nat} {ms : List AM} {F : M Flow} {i : Nat} {fl : M (List VR)} {rs : List VR} {ds : List D} {fs fs1 : List (Str × D)} {t : T} {e' : List (Option W)} {sto : List MO} {dr : Option DrawSt} (h0 : s.env[i]? = some (some (.own (.obj C fs)))) (hm : (fs.lookup m).isNone = true)
    (e : fl s = .ok rs s1) (e2 : toHMs ms rs s1 = .ok (ds.map HS.d) s2) (h1 : s1.env[i]? = some (some (.own (.obj C fs)))) (h2 : s2.env[i]? = some (some (.own (.obj C fs))))
    (h : F { env := some (.lent (.obj C fs)) :: (ds.map fun d => some (.fz d)) ++ List.replicate (n - (ds.length + 1)) none, sto := s2.sto, dr := s2.dr } = .ok (.rt t) { env := some (.lent (.obj C fs1)) :: e', sto := sto, dr := dr }) (hl : ds.length ≤ e'.length) :
    dMeth C m n (.L :: ms) [] F (dSlot i) fl s = .ok t { env := s2.env.set i (some (.own (.obj C fs1))), sto := sto, dr := dr } := by
  have lm : ms.length = ds.length := by have := toHMs_hs e2; rw [List.length_map] at this; exact this.symm
  have f0 : dSlot i s = .ok (.slot i) s := by unfold dSlot; rw [h0]
  have f1 : toHMs (.L :: ms) (.slot i :: rs) s1 = .ok (.slot i :: ds.map HS.d) s2 := by
    unfold toHMs
    have : toHM .L (.slot i) s1 = .ok (.slot i) s1 := by show holdS i s1 = _; unfold holdS; rw [h1]
    simp only [bind_eq, this, e2]
    rfl
  unfold dMeth
  simp only [bind_eq, f0, recv_slot h0 rfl hm, e]
  unfold dPass
  simp only [bind_eq, f1]
  rw [pass2_lend lm h2 h]
  unfold callR
  simp only [backS_lend h2 hl]
theorem make_eq {C : Addr} {n : Nat} {ms : List AM} {F : M Flow} {fl : M (List VR)} {rs : List VR} {ds : List D} {fs : List (Str × D)} {e' : List (Option W)} {sto : List MO} {dr : Option DrawSt} (e : fl s = .ok rs s1) (e2 : toHMs ms rs s1 = .ok (ds.map HS.d) s2)
    (h : F { env := some (.lent (.obj C [])) :: (ds.map fun d => some (.fz d)) ++ List.replicate (n - (ds.length + 1)) none, sto := s2.sto, dr := s2.dr } = .ok .nx { env := some (.lent (.obj C fs)) :: e', sto := sto, dr := dr }) (hl : ds.length ≤ e'.length) :
    dMake C n ms [] F fl s = .ok (.ow (.obj C fs)) { env := s2.env, sto := sto, dr := dr } := by
  have lm : ms.length = ds.length := by have := toHMs_hs e2; rw [List.length_map] at this; exact this.symm
  have top : (pushW s2 (.own (.obj C []))).env[s2.env.length]? = some (some (.own (.obj C []))) := by
    show (s2.env ++ [some (W.own (.obj C []))])[s2.env.length]? = _
    rw [List.getElem?_append_right (Nat.le_refl _), Nat.sub_self]
    rfl
  unfold dMake
  simp only [bind_eq, e, e2]
  unfold make2
  rw [pass2_lend (s := pushW s2 (.own (.obj C []))) lm top h]
  unfold callR
  simp only [backS_lend top hl]
  have e5 : (s2.env ++ [some (W.own (.obj C []))]).set s2.env.length (some (.own (.obj C fs))) = s2.env ++ [some (W.own (.obj C fs))] := by
    rw [List.set_append_right _ _ (Nat.le_refl _), Nat.sub_self]
    rfl
  have e6 : (pushW s2 (.own (.obj C []))).env.set s2.env.length (some (.own (.obj C fs))) = s2.env ++ [some (W.own (.obj C fs))] := e5
  rw [e6, List.getElem?_append_right (Nat.le_refl _), Nat.sub_self]
  show Rs.ok (T.ow (.obj C fs)) (popS s2.env.length _) = _
  unfold popS
  simp
end
theorem okS.toNx {m : M Flow} {s s1 : State} (h : okS m s (fun s' => s' = s1) fun _ _ => False) : m s = .ok .nx s1 := by
  unfold okS at h
  cases q : m s with
  | bad => rw [q] at h; exact h.elim
  | err x s' => rw [q] at h; exact h.elim
  | ok f s' =>
    rw [q] at h
    cases f with
    | nx => rw [show s' = s1 from h]
    | rt t => exact h.elim
    | bk => exact h.elim
    | ct => exact h.elim
theorem okS.toRt {m : M Flow} {s s1 : State} {t : T} (h : okS m s (fun _ => False) fun t' s' => t' = t ∧ s' = s1) : m s = .ok (.rt t) s1 := by
  unfold okS at h
  cases q : m s with
  | bad => rw [q] at h; exact h.elim
  | err x s' => rw [q] at h; exact h.elim
  | ok f s' =>
    rw [q] at h
    cases f with
    | nx => exact h.elim
    | rt t' => obtain ⟨rfl, rfl⟩ := h; rfl
    | bk => exact h.elim
    | ct => exact h.elim
theorem ok.op2R {h : D → D → Option T} {fa : M VR} {f : M T} {x : VR} {s s1 : State} {Q : T → State → Prop} (ha : fa s = .ok x s1) (hf : ok f s1 fun t s2 => ∃ d r, readV x s2 = .ok d s2 ∧ h d t.data = some r ∧ Q r s2) : ok (dOp2 h fa (dV f)) s Q := by
  obtain ⟨t, s2, e, d, r, e1, e2, q⟩ := hf
  exact ⟨r, s2, dOp2_eq ha (dV_eq e) e1 rfl e2, q⟩
theorem ok.op2L {h : D → D → Option T} {fb : M VR} {f : M T} {s : State} {Q : T → State → Prop} (hf : ok f s fun t s1 => ∃ y s2 e r, fb s1 = .ok y s2 ∧ readV y s2 = .ok e s2 ∧ h t.data e = some r ∧ Q r s2) : ok (dOp2 h (dV f) fb) s Q := by
  obtain ⟨t, s1, e, y, s2, d, r, e1, e2, e3, q⟩ := hf
  exact ⟨r, s2, dOp2_eq (dV_eq e) e1 rfl e2 e3, q⟩
theorem setT_eq {i : Nat} {t : T} {s : State} (h : canSet s i = true) : setT i t s = .ok () (putE s i t.w) := by
  unfold setT
  rw [if_pos h]
theorem okS.par {i j : Nat} {f1 f2 : M T} {s : State} {Nx : State → Prop} {Rt : T → State → Prop} (h : ok f1 s fun t1 s1 => ok f2 s1 fun t2 s2 => canSet s2 i = true ∧ canSet (putE s2 i t1.w) j = true ∧ Nx (putE (putE s2 i t1.w) j t2.w)) : okS (dPar i j (dCons (dV f1) (dCons (dV f2) dNil))) s Nx Rt := by
  obtain ⟨t1, s1, e1, t2, s2, e2, c1, c2, q⟩ := h
  refine okS.nx (s1 := putE (putE s2 i t1.w) j t2.w) ?_ q
  unfold dPar
  rw [bind_eq, dCons_eq (dV_eq e1) (dCons_eq (dV_eq e2) (k := dNil) rfl)]
  show (setT i t1 >>= fun _ => setT j t2 >>= fun _ => dNx) s2 = _
  simp only [bind_eq, setT_eq c1, setT_eq c2]
  rfl
theorem okS.par3 {i j l : Nat} {f1 f2 f3 : M T} {s : State} {Nx : State → Prop} {Rt : T → State → Prop} (h : ok f1 s fun t1 s1 => ok f2 s1 fun t2 s2 => ok f3 s2 fun t3 s3 => canSet s3 i = true ∧ canSet (putE s3 i t1.w) j = true ∧ canSet (putE (putE s3 i t1.w) j t2.w) l = true ∧ Nx (putE (putE (putE s3 i t1.w) j t2.w) l t3.w)) : okS (dPar3 i j l (dCons (dV f1) (dCons (dV f2) (dCons (dV f3) dNil)))) s Nx Rt := by
  obtain ⟨t1, s1, e1, t2, s2, e2, t3, s3, e3, c1, c2, c3, q⟩ := h
  refine okS.nx (s1 := putE (putE (putE s3 i t1.w) j t2.w) l t3.w) ?_ q
  unfold dPar3
  rw [bind_eq, dCons_eq (dV_eq e1) (dCons_eq (dV_eq e2) (dCons_eq (dV_eq e3) (k := dNil) rfl))]
  show (setT i t1 >>= fun _ => setT j t2 >>= fun _ => setT l t3 >>= fun _ => dNx) s3 = _
  simp only [bind_eq, setT_eq c1, setT_eq c2, setT_eq c3]
  rfl
theorem ok.cons1 {f : M T} {s : State} {Q : List VR → State → Prop} (h : ok f s fun t s1 => Q [.t t] s1) : ok (dCons (dV f) dNil) s Q := by
  obtain ⟨t, s1, e, q⟩ := h
  exact ⟨_, _, dCons_eq (dV_eq e) rfl, q⟩
theorem okS.forO {h : List D → Option (List D)} {p : Pt} {b : M Flow} {fl : M (List VR)} {s : State} {Nx : State → Prop} {Rt : T → State → Prop} (k : ok fl s fun rs s1 => ∃ (ds items : List D) (s2 : State), toHSs rs s1 = .ok (ds.map HS.d) s2 ∧ h ds = some items ∧ okS (dForL p b items) s2 Nx Rt) : okS (dFor h p b fl) s Nx Rt := by
  obtain ⟨rs, s1, e, ds, items, s2, e2, e3, q⟩ := k
  exact okS.forV e e2 e3 q
end DL

set_option Elab.async false
set_option linter.all false
set_option maxRecDepth 100000
set_option maxHeartbeats 1000000
/-! DLTake: the law's drawing: what a draw gives -/
namespace Law
open PySem DL
def F_law_take : M DL.Flow := dSeq (dIf (dAnd (dB (dOp2 eqT (dV (drGet .rest 0)) (dV (dC (.int 0))))) (drNe 0)) (drPop 0) (dIf (dB (dOp2 eqT (dV (drGet .rest 0)) (dV (dC (.int 0))))) (dSeq (drSet .turn 0 (dV (dOp2 addD (dV (drGet .turn 0)) (dV (dC (.int 1)))))) 
            (dSeq (dFor itS (.name 2) (drSet .mix 0 (dV (dOp2 modD (dV (dCallB intD (dCons (dV (dOp2 addD (dV (dOp2 addD (dV (dOp2 mulD (dV (drGet .mix 0)) (dV (dC (.int 69621))))) (dV (dOp2 mulD (dSlot 2) (dV (dC (.int 48271))))))) (dV (dC (.int 12345))))) (dNil)))) (dV (dC (.int 2147483629)))))) (dOne (dV (dOp2 addD (dV (dLst (dCons (dV (drGet .turn 0)) (dNil)))) (dV (drGet .cells 0)))))) 
            (drSet .rest 0 (dV (dOp2 modD (dV (dCallB intD (dCons (dV (dOp2 powD (dV (drGet .mix 0)) (dV (dC (.int 5))))) (dNil)))) (dV (dC (.int 2305843009213693951)))))))) (dNx))) 
        (dSeq (drDiv 0 1 3) 
        (dRetV 3))
def F_law_pick : M DL.Flow := dRet (dOp2 ixD (dSlot 1) (dV (dCall 4 [.F, .F] [] F_law_take (dCons (dSlot 0) (dCons (dV (dCallB lenD (dCons (dSlot 1) (dNil)))) (dNil))))))
end Law
namespace DL
open PySem
theorem gives.of {F : M Flow} {n : Nat} {args : List D} {s : State} {Q : T → State → Prop} (h : okS F { env := args.map (fun d => some (.fz d)) ++ List.replicate (n - args.length) none, sto := s.sto, dr := s.dr } (fun _ => False) (fun t s' => args.length ≤ s'.env.length ∧ Q t { s with sto := s'.sto, dr := s'.dr })) : gives F n args s Q := by
  unfold okS at h
  cases q : F { env := args.map (fun d => some (.fz d)) ++ List.replicate (n - args.length) none, sto := s.sto, dr := s.dr } with
  | bad => rw [q] at h; exact h.elim
  | err x s' => rw [q] at h; exact h.elim
  | ok f s' =>
    rw [q] at h
    cases f with
    | nx => exact h.elim
    | bk => exact h.elim
    | ct => exact h.elim
    | rt t => exact ⟨t, s', q, h.1, h.2⟩
/-- the drawing's numbers stay small where they must -/
structure DrOk1 (st : DrawSt) : Prop where
  lo : 0 ≤ st.mix
  hi : st.mix < 2147483629
  la : st.large.length ≤ 63
  ce : st.cells.length ≤ 63
theorem toPys_ints : ∀ ns : List Int, toPys (ns.map D.int) = some (ns.map PyData.int)
  | [] => rfl
  | n :: ns => by
    show toPys (D.int n :: ns.map D.int) = _
    unfold toPys
    rw [toPys_ints ns]
    rfl
theorem lay_ints : ∀ ns : List Int, PyData.canLayAll0 (ns.map PyData.int) = true
  | [] => rfl
  | n :: ns => by
    show PyData.canLayAll0 (PyData.int n :: ns.map PyData.int) = true
    unfold PyData.canLayAll0
    rw [lay_ints ns]
    rfl
theorem deep_ints : ∀ ns : List Int, PyData.depthAll (ns.map PyData.int) ≤ 1
  | [] => Nat.zero_le _
  | n :: ns => by
    show PyData.depthAll (PyData.int n :: ns.map PyData.int) ≤ 1
    unfold PyData.depthAll
    have h := deep_ints ns
    have h2 : PyData.depth (.int n) ≤ 1 := by unfold PyData.depth; omega
    omega
theorem shaped_ints (ns : List Int) : SeqAt.shaped (.list (ns.map PyData.int)) = true := by
  unfold SeqAt.shaped
  rw [Bool.and_eq_true]
  refine ⟨?_, decide_eq_true ?_⟩
  · unfold PyData.canLay0
    exact lay_ints ns
  · unfold PyData.depth
    have h := deep_ints ns
    omega
theorem ne_nil (ns : List Int) : neT (.lst (ns.map D.int)) (.lst []) = some (.fz (.bl (decide (ns ≠ [])))) := by
  have e : eqD (.lst (ns.map D.int)) (.lst []) = some (decide (ns = [])) := by
    unfold eqD
    have e1 : toPy (.lst (ns.map D.int)) = some (.list (ns.map PyData.int)) := by
      unfold toPy
      rw [toPys_ints ns]
      rfl
    have e2 : toPy (.lst []) = some (.list []) := rfl
    rw [e1, e2]
    have e3 : SeqAt.shaped (.list []) = true := shaped_ints []
    simp only [shaped_ints, e3, Bool.and_self, if_true]
    cases ns with
    | nil => rfl
    | cons n ns => rfl
  unfold neT
  rw [e]
  cases ns <;> rfl
def isDrawn (n : Int) (s : State) (Q : Int → State → Prop) : Prop := ∀ (r : Int) (st' : DrawSt), 0 ≤ r → r < n → DrOk1 st' → Q r { s with dr := some st' }
example (a b : Int) : eqT (.int a) (.int b) = some (.fz (.bl (decide (a = b)))) := rfl
theorem take_gives {s : State} {st : DrawSt} {n : Int} {Q : T → State → Prop} (hs : s.dr = some st) (hd : DrOk1 st) (h0 : 0 < n) (h1 : n < 1073741824) (h : ∀ (r : Int) (st' : DrawSt), 0 ≤ r → r < n → DrOk1 st' → Q (.fz (.int r)) { s with dr := some st' }) : gives Law.F_law_take 4 [.draw, .int n] s Q := by
  refine .of ?_
  obtain ⟨env, sto, dr⟩ := s
  cases hs
  show okS Law.F_law_take { env := [some (.fz .draw), some (.fz (.int n)), none, none], sto := sto, dr := some st } _ _
  unfold Law.F_law_take
  -- the end: rest, found = divmod(rest, size); return found
  have fin : ∀ (st : DrawSt) (w : Option W), DrOk1 st → okS (dSeq (drDiv 0 1 3) (dRetV 3)) { env := [some (.fz .draw), some (.fz (.int n)), w, none], sto := sto, dr := some st } (fun _ => False) (fun t s' => [D.draw, D.int n].length ≤ s'.env.length ∧ Q t { env := env, sto := s'.sto, dr := s'.dr }) := fun st w hst => by
    refine okS.seq (okS.nx (s1 := { env := [some (.fz .draw), some (.fz (.int n)), w, some (.fz (.int (st.rest % n)))], sto := sto, dr := some (st.set .rest (st.rest / n)) }) ?_ (okS.rt rfl ⟨by show 2 ≤ 4; decide, ?_⟩))
    · unfold drDiv
      show (if 0 < n ∧ n < 1073741824 then _ else _) = _
      rw [if_pos ⟨h0, h1⟩]
      rfl
    · exact h _ _ (Int.emod_nonneg _ (by omega)) (Int.emod_lt_of_pos _ h0) ⟨hst.lo, hst.hi, hst.la, hst.ce⟩
  -- the other way: turn, mix, rest
  have mid : st.rest = 0 → okS (dIf (dB (dOp2 eqT (dV (drGet .rest 0)) (dV (dC (.int 0))))) (dSeq (drSet .turn 0 (dV (dOp2 addD (dV (drGet .turn 0)) (dV (dC (.int 1)))))) (dSeq (dFor itS (.name 2) (drSet .mix 0 (dV (dOp2 modD (dV (dCallB intD (dCons (dV (dOp2 addD (dV (dOp2 addD (dV (dOp2 mulD (dV (drGet .mix 0)) (dV (dC (.int 69621))))) (dV (dOp2 mulD (dSlot 2) (dV (dC (.int 48271))))))) (dV (dC (.int 12345))))) (dNil)))) (dV (dC (.int 2147483629)))))) (dOne (dV (dOp2 addD (dV (dLst (dCons (dV (drGet .turn 0)) (dNil)))) (dV (drGet .cells 0))))))
      (drSet .rest 0 (dV (dOp2 modD (dV (dCallB intD (dCons (dV (dOp2 powD (dV (drGet .mix 0)) (dV (dC (.int 5))))) (dNil)))) (dV (dC (.int 2305843009213693951)))))))) (dNx)) { env := [some (.fz .draw), some (.fz (.int n)), none, none], sto := sto, dr := some st } (fun s1 => okS (dSeq (drDiv 0 1 3) (dRetV 3)) s1 (fun _ => False) (fun t s' => [D.draw, D.int n].length ≤ s'.env.length ∧ Q t { env := env, sto := s'.sto, dr := s'.dr })) (fun t s' => [D.draw, D.int n].length ≤ s'.env.length ∧ Q t { env := env, sto := s'.sto, dr := s'.dr }) := fun hr => by
    refine okS.ite (ok.dec (P := st.rest = 0) rfl (fun _ => yes ?_) fun z => (z hr).elim)
    refine okS.seq (okS.nx (s1 := { env := [some (.fz .draw), some (.fz (.int n)), none, none], sto := sto, dr := some (st.set .turn (st.turn + 1)) }) rfl ?_)
    refine okS.seq (okS.forV (rs := [.t (.ow (.lst (D.int (st.turn + 1) :: st.cells.map D.int)))]) (s1 := { env := [some (.fz .draw), some (.fz (.int n)), none, none], sto := sto, dr := some (st.set .turn (st.turn + 1)) }) (ds := [.lst (D.int (st.turn + 1) :: st.cells.map D.int)]) (items := D.int (st.turn + 1) :: st.cells.map D.int) ?_ rfl rfl ?_)
    · have hl : ([D.int (st.turn + 1)] : List D).length + (st.cells.map D.int).length ≤ sizeLine := by
        rw [List.length_map]
        have := hd.ce
        exact Nat.le_trans (Nat.add_le_add_left this 1) (by decide)
      have e : addD (.lst [D.int (st.turn + 1)]) (.lst (st.cells.map D.int)) = some (.ow (.lst (D.int (st.turn + 1) :: st.cells.map D.int))) := by
        show (if ([D.int (st.turn + 1)] : List D).length + (st.cells.map D.int).length ≤ sizeLine then _ else _) = _
        rw [if_pos hl]
        rfl
      exact dOne_eq (dV_eq (dOp2_eq rfl rfl rfl rfl e))
    · refine okS.walk (fun i s => ∃ (st2 : DrawSt) (w : Option W), (w = none ∨ ∃ d, w = some (.fz d)) ∧ s = { env := [some (.fz .draw), some (.fz (.int n)), w, none], sto := sto, dr := some st2 } ∧ DrOk1 st2) ⟨_, none, .inl rfl, rfl, hd.lo, hd.hi, hd.la, hd.ce⟩ ?_ ?_
      · rintro i d s hi ⟨st2, w, hw, rfl, h2⟩
        obtain ⟨c, rfl⟩ : ∃ c, d = .int c := by
          cases i with
          | zero => cases hi; exact ⟨_, rfl⟩
          | succ i =>
            have hi : (st.cells.map D.int)[i]? = some d := hi
            rw [List.getElem?_map] at hi
            cases q : st.cells[i]? with
            | none => rw [q] at hi; cases hi
            | some c => rw [q] at hi; cases hi; exact ⟨c, rfl⟩
        refine ⟨{ env := [some (.fz .draw), some (.fz (.int n)), some (.fz (.int c)), none], sto := sto, dr := some st2 }, by rcases hw with rfl | ⟨_, rfl⟩ <;> rfl, ?_⟩
        refine okS.nx (s1 := { env := [some (.fz .draw), some (.fz (.int n)), some (.fz (.int c)), none], sto := sto, dr := some (st2.set .mix ((st2.mix * 69621 + c * 48271 + 12345) % 2147483629)) }) ?_ ⟨_, _, .inr ⟨_, rfl⟩, rfl, Int.emod_nonneg _ (by decide), Int.emod_lt_of_pos _ (by decide), h2.la, h2.ce⟩
        have e : ∀ (fv : M VR) (s2 : State) (v : Int), fv s2 = .ok (.t (.fz (.int v))) s2 → s2.env[0]? = some (some (.fz .draw)) → s2.dr = some st2 → drSet .mix 0 fv s2 = .ok .nx { s2 with dr := some (st2.set .mix v) } := fun fv s2 v h1 h2 h3 => by
          unfold drSet
          rw [bind_eq, h1]
          show (frz (.t (.fz (.int v))) >>= _) s2 = _
          rw [bind_eq]
          show (drOf 0 >>= _) s2 = _
          have h4 : drOf 0 s2 = .ok st2 s2 := by unfold drOf; rw [h2, h3]
          rw [bind_eq, h4]
          rfl
        exact e _ _ _ (dV_eq (dOp2_eq (dV_eq (dCallB_eq (dCons_eq (dV_eq (dOp2_eq (dV_eq (dOp2_eq (dV_eq (dOp2_eq rfl rfl rfl rfl (mul_r rfl))) (dV_eq (dOp2_eq rfl rfl rfl rfl (mul_r rfl))) rfl rfl rfl)) rfl rfl rfl rfl)) rfl) rfl rfl)) rfl rfl rfl (mod_pos (by decide)))) rfl rfl
      · rintro s' ⟨st2, w, hw, rfl, h2⟩
        refine okS.nx (s1 := { env := [some (.fz .draw), some (.fz (.int n)), w, none], sto := sto, dr := some (st2.set .rest (st2.mix ^ 5 % 2305843009213693951)) }) ?_ (fin _ w ⟨h2.lo, h2.hi, h2.la, h2.ce⟩)
        have e : ∀ (fv : M VR) (s2 : State) (v : Int), fv s2 = .ok (.t (.fz (.int v))) s2 → s2.env[0]? = some (some (.fz .draw)) → s2.dr = some st2 → drSet .rest 0 fv s2 = .ok .nx { s2 with dr := some (st2.set .rest v) } := fun fv s2 v h1 h2 h3 => by
          unfold drSet
          rw [bind_eq, h1]
          show (frz (.t (.fz (.int v))) >>= _) s2 = _
          rw [bind_eq]
          show (drOf 0 >>= _) s2 = _
          have h4 : drOf 0 s2 = .ok st2 s2 := by unfold drOf; rw [h2, h3]
          rw [bind_eq, h4]
          rfl
        have hm : st2.mix.natAbs < 2 ^ 64 := by
          have := h2.lo
          have := h2.hi
          omega
        exact e _ _ _ (dV_eq (dOp2_eq (dV_eq (dCallB_eq (dCons_eq (dV_eq (dOp2_eq rfl rfl rfl rfl (pow_ok (by decide) (by decide) hm))) rfl) rfl rfl)) rfl rfl rfl (mod_pos (by decide)))) rfl rfl
  refine okS.seq (okS.ite (ok.and (ok.dec (P := st.rest = 0) rfl (fun hr => yes (ok.dec (P := st.large ≠ []) ?_ (fun hl => yes ?_) fun _ => no (mid hr))) fun hr => no (no ?_))))
  · unfold drNe
    show (match neT (.lst (st.large.map D.int)) (.lst []) with | some (.fz (.bl b)) => (pure b : M Bool) | _ => M.bad) _ = _
    rw [ne_nil]
    rfl
  · -- a large number is taken
    cases hq : st.large with
    | nil => exact (hl hq).elim
    | cons x xs =>
      refine okS.nx (s1 := { env := [some (.fz .draw), some (.fz (.int n)), none, none], sto := sto, dr := some { st with rest := x, large := xs } }) ?_ (fin _ _ ⟨hd.lo, hd.hi, ?_, hd.ce⟩)
      · unfold drPop
        show (match st.large with | x :: xs => putDr { st with rest := x, large := xs } | [] => M.bad) _ = _
        rw [hq]
        rfl
      · have := hd.la
        rw [hq] at this
        show xs.length ≤ 63
        rw [List.length_cons] at this
        omega
  · exact okS.ite (ok.dec (P := st.rest = 0) rfl (fun z => (hr z).elim) fun _ => no (okS.skip (fin _ _ hd)))
theorem pick_gives {s : State} {st : DrawSt} {ds : List D} {Q : T → State → Prop} (hs : s.dr = some st) (hd : DrOk1 st) (h0 : 0 < ds.length) (h1 : ds.length < 1073741824) (h : ∀ d ∈ ds, ∀ st', DrOk1 st' → Q (.fz d) { s with dr := some st' }) : gives Law.F_law_pick 2 [.draw, .lst ds] s Q := by
  refine .of ?_
  obtain ⟨env, sto, dr⟩ := s
  cases hs
  show okS Law.F_law_pick { env := [some (.fz .draw), some (.fz (.lst ds))], sto := sto, dr := some st } _ _
  unfold Law.F_law_pick
  refine okS.ret (ok.op2R rfl (ok.call (ds := [.draw, .int ds.length]) rfl rfl (take_gives (st := st) rfl hd (by omega) (by omega) fun r st' hr0 hr1 hst => ?_)))
  obtain ⟨j, rfl⟩ : ∃ j : Nat, r = j := ⟨r.toNat, by omega⟩
  have hj : j < ds.length := by omega
  refine ⟨.lst ds, .fz ds[j], rfl, ?_, by show 2 ≤ 2; decide, h _ (List.getElem_mem hj) st' hst⟩
  show (L2.atI ds (j : Int)).map T.fz = _
  rw [L2.atI_nat (List.getElem?_eq_getElem hj)]
  rfl
end DL

set_option Elab.async false
set_option linter.all false
set_option maxRecDepth 100000
set_option maxHeartbeats 1000000
/-! DLPtr: a new object gets a number: it may change, and more than one may know it -/
namespace DL
open PySem PySem.Spec PyProof.Rows L2
def Gh.pub (g : Gh) (a : Addr) : Gh := { g with η := g.η ++ [a] }
section
variable {K : PySem.W.Frag} {g g0 : Gh} {H H0 : Hp} {σ σ0 : Slots} {s s0 : State} {a : Addr} {o : HO}
theorem Gh.pub_le : Le g (g.pub a) := ⟨fun _ _ h => h, fun i b h => by show (g.η ++ [a])[i]? = _; rw [List.getElem?_append_left (List.getElem?_eq_some_iff.mp h).1]; exact h, rfl⟩
theorem mem_pub {b : Addr} (h : b ∈ (g.pub a).η) : b ∈ g.η ∨ b = a := by
  have h : b ∈ g.η ++ [a] := h
  rcases List.mem_append.mp h with h | h
  · exact .inl h
  · exact .inr (by simpa using h)
theorem Free1.pub {b : Addr} (f : Free1 g b) (ne : b ≠ a) : Free1 (g.pub a) b := ⟨f.1, fun z => (mem_pub z).elim f.2.1 ne, f.2.2⟩
theorem SD.publish (sd : SD K g H σ s) (f : Free1 g a) (nh : ¬ Hd σ s a) (h : H a = some o) {m : MO} (ob : MObAt K g o m) : SD K (g.pub a) H σ { s with sto := s.sto ++ [m] } where
  gh := sd.gh
  len := sd.len
  slot := fun i w e => by
    obtain ⟨v, ev, wa⟩ := sd.slot i w e
    exact ⟨v, ev, wa.keep Gh.pub_le (fun _ _ _ _ q => q) fun b eb hw x => x.pub fun z => nh ⟨i, w, e, hw, by rw [ev, eb, z]⟩⟩
  inj := sd.inj
  stl := by
    show (s.sto ++ [m]).length = (g.η ++ [a]).length
    rw [List.length_append, List.length_append, sd.stl]
    rfl
  sto := fun i m' b e1 e2 => by
    have e1 : (s.sto ++ [m])[i]? = some m' := e1
    have e2 : (g.η ++ [a])[i]? = some b := e2
    rw [List.getElem?_append, sd.stl] at e1
    rw [List.getElem?_append] at e2
    by_cases hi : i < g.η.length
    · rw [if_pos hi] at e1 e2
      obtain ⟨u, q, m1⟩ := sd.sto i m' b e1 e2
      exact ⟨u, q, m1.mono Gh.pub_le⟩
    · rw [if_neg hi] at e1 e2
      have z : i - g.η.length = 0 := by
        have := (List.getElem?_eq_some_iff.mp e1).1
        simp at this
        omega
      rw [z] at e1 e2
      cases e1; cases e2
      exact ⟨o, h, ob.mono Gh.pub_le⟩
  nd := by
    show (g.η ++ [a]).Nodup
    rw [List.nodup_append]
    refine ⟨sd.nd, by simp, fun x hx y hy => ?_⟩
    have hy : y = a := by simpa using hy
    subst hy
    exact fun z => f.2.1 (z ▸ hx)
  ng := fun b hb => by
    rcases mem_pub hb with hb | rfl
    · exact sd.ng b hb
    · exact ⟨f.1, f.2.2⟩
  dr := show DrOk (g.pub a) H g.dr s.dr from DrOk.map (g := g) (g' := g.pub a) (H := H) (H' := H) (fun x l d _ q => ⟨q.dict, q.list, q.ne, q.ga, q.gl⟩) (show DrOk g H g.dr s.dr from sd.dr)
theorem Ev.publish (e : Ev g0 H0 σ0 s0 g H σ s) (h0 : H0 a = none) {m : MO} : Ev g0 H0 σ0 s0 (g.pub a) H σ { s with sto := s.sto ++ [m] } where
  le := e.le.trans Gh.pub_le
  keep := e.keep
  live := e.live
  frz := e.frz
  eta := fun b l z => by
    rcases mem_pub z with z | rfl
    · exact e.eta b l z
    · exact absurd h0 l
  mu := fun b z => by
    rcases z with z | z | z
    · exact e.mu b (.inl z)
    · rcases mem_pub z with z | rfl
      · exact e.mu b (.inr (.inl z))
      · exact .inr h0
    · exact e.mu b (.inr (.inr z))
  hd := e.hd
  ow := e.ow
  fix := e.fix
  lk := e.lk
  lkl := e.lkl
end
/-- a new object gets the next number -/
def dPub (f : M T) : M T := f >>= fun t s => match t with
  | .ow (.obj C fs) => .ok (.fz (.ptr s.sto.length)) { s with sto := s.sto ++ [.ins C fs] }
  | _ => .bad
section
variable {X : Cx} {Wx : WX} {e : Expr} {f : M T}
theorem de_pub (he : DE X Wx e f) : DE X Wx e (dPub f) := ⟨fun pins s σ H Q I h => by
  obtain ⟨g, st, c⟩ := h.start
  refine he.run pins s σ H Q I (c.bind.mono fun v H1 ⟨t, g1, s1, c1, r1, e1⟩ => ?_)
  cases t with
  | fz d => exact (c1.notBad rfl).elim
  | ow d =>
    cases d with
    | obj C fs =>
      obtain ⟨a, o, rfl, fr, ho, dx, fx, rfl, h3, h4⟩ := r1.at_
      obtain ⟨n1, n2⟩ := r1.new _ a rfl rfl
      have p := c1.post
      refine p (.ref a) (g1.pub a) H1 (c1.sd.publish fr n2 ho (m := .ins C fs) ⟨dx, fx, rfl, h3, h4⟩) (c1.ev.publish n1) ⟨.ptr ?_, fun _ _ z => nomatch z⟩
      show (g1.η ++ [a])[s1.sto.length]? = some a
      rw [c1.sd.stl, List.getElem?_append_right (Nat.le_refl _), Nat.sub_self]
      rfl
    | _ => exact (c1.notBad rfl).elim⟩
end
theorem pub_eq {f : M T} {s s1 : State} {C : Addr} {fs : List (Str × D)} (h : f s = .ok (.ow (.obj C fs)) s1) : dPub f s = .ok (.fz (.ptr s1.sto.length)) { s1 with sto := s1.sto ++ [.ins C fs] } := by
  unfold dPub
  rw [bind_eq, h]
end DL

set_option Elab.async false
set_option linter.all false
set_option maxRecDepth 100000
set_option maxHeartbeats 1000000
/-! DLDisp: a dict that is written out -/
namespace DL
open PySem PySem.Spec PyProof.Rows L2
def flatP : List (V × V) → List V
  | [] => []
  | (x, y) :: r => x :: y :: flatP r
def dP2 (f g : M VR) (k : M (List VR)) : M (List VR) := f >>= fun x => g >>= fun y => k >>= fun xs => pure (x :: y :: xs)
/-- the pairs of a display: keys and values in turn -/
def DPs (X : Cx) (Wx : WX) (pos : Pos) (keys : List (Option Expr)) (values : List Expr) (fl : M (List VR)) : Prop :=
  ∃ trs, PPs X pos keys values trs ∧ ∀ σ H (Q : List (V × V) → Hp → Prop), tL X.K Wx fl σ H (fun vs H' => ∃ ps, vs = flatP ps ∧ Q ps H') → tPairs trs σ H Q
section
variable {X : Cx} {Wx : WX} {pos : Pos} {keys : List (Option Expr)} {values : List Expr} {fl : M (List VR)} {k v : Expr} {fk fv : M VR}
theorem apart_new {K : PySem.W.Frag} {σ : Slots} {H0 H1 : Hp} {g1 : Gh} {s1 : State} {x : V} {x' : VR} {g2 : Gh} {H2 : Hp} {s2 : State} {xs : List V} {xs' : List VR} (r1 : RVR K σ H0 g1 H1 s1 x x') (r2 : RVRs K σ H1 g2 H2 s2 xs xs') : Apart x x' xs xs' := fun a d er ev p hp d' e' ep => by
  subst er
  obtain ⟨b, o, eb, _, ho, _⟩ := RT.at_ r1
  rw [ev] at eb
  cases eb
  have r := RVRs.mem r2 p hp
  rw [e', ep] at r
  have z := (RT.new r d' a rfl rfl).1
  rw [ho] at z
  cases z
theorem dps_nil : DPs X Wx pos [] [] dNil := ⟨[], pps_nil, fun σ H Q q => by
  obtain ⟨g, s, sd, p⟩ := q
  obtain ⟨ps, e, h⟩ := p [] g H sd .refl .nil
  cases ps with
  | nil => exact h
  | cons p ps => cases e⟩
theorem dps_cons (hk : DV X Wx k fk) (hv : DV X Wx v fv) (hr : DPs X Wx pos keys values fl) : DPs X Wx pos (some k :: keys) (v :: values) (dP2 fk fv fl) := by
  obtain ⟨trs, h1, h2⟩ := hr
  refine ⟨_, pps_cons hk hv h1, fun σ H Q q => ?_⟩
  obtain ⟨g, s, c⟩ := q.start
  refine c.bind.mono fun x H1 ⟨x', g1, s1, c1, r1, e1⟩ => ?_
  refine c1.bind.mono fun y H2 ⟨y', g2, s2, c2, r2, e2⟩ => ?_
  refine h2 σ H2 _ (c2.bind.mono fun xs H3 ⟨xs', g3, s3, c3, r3, e3⟩ => ?_)
  have a2 := apart_new r2 r3
  have r23 : RVRs X.K σ H1 g3 H3 s3 (y :: xs) (y' :: xs') := .cons (r2.ev e3) (RVRs.past e2.live r3) a2
  obtain ⟨ps, e, h⟩ := c3.done (a := x' :: y' :: xs') rfl (show RVRs X.K σ H g3 H3 s3 (x :: y :: xs) (x' :: y' :: xs') from .cons ((r1.ev e2).ev e3) (RVRs.past e1.live r23) (apart_new r1 r23))
  match ps, e with
  | (_, _) :: ps, e =>
    cases e
    exact ⟨ps, rfl, h⟩
end
def kvsD : List D → Option (List (Key × D))
  | [] => some []
  | [_] => none
  | k :: v :: r => match keyD k, kvsD r with
    | some q, some kvs => some ((q, v) :: kvs)
    | _, _ => none
def mergeD (acc : List (Key × D)) : List (Key × D) → List (Key × D)
  | [] => acc
  | (k, v) :: r => mergeD (putKD acc k v) r
def dDisp (fl : M (List VR)) : M T := fl >>= fun rs => frzs rs >>= fun ds s => match kvsD ds with
  | some kvs => if kvs.length ≤ 15 then .ok (.ow (.dk (mergeD [] kvs))) s else .bad
  | none => .bad
section
variable {K : PySem.W.Frag} {g : Gh}
theorem kvsD_rep : ∀ {vs : List V} {ds : List D} {kvs : List (Key × D)}, Reps K g vs ds → kvsD ds = some kvs → ∃ kws : List (Key × V), vs = flatP (kws.map fun kv => (kV kv.1, kv.2)) ∧ kws.map Prod.fst = kvs.map Prod.fst ∧ Reps K g (kws.map Prod.snd) (kvs.map Prod.snd)
  | _, [], _, .nil, e => by cases e; exact ⟨[], rfl, rfl, .nil⟩
  | _, [_], _, _, e => by cases e
  | _, kd :: vd :: ds, kvs, .cons a (.cons b r), e => by
    unfold kvsD at e
    cases q1 : keyD kd with
    | none => simp only [q1] at e; cases e
    | some q =>
      cases q2 : kvsD ds with
      | none => simp only [q1, q2] at e; cases e
      | some kvs' =>
        simp only [q1, q2] at e
        cases e
        obtain ⟨kws, h1, h2, h3⟩ := kvsD_rep r q2
        have hk := keyD_rep (H := fun _ => none) (.inl a) q1
        subst hk
        exact ⟨(q, _) :: kws, by rw [h1]; rfl, by rw [List.map_cons, List.map_cons, h2], .cons b h3⟩
theorem mergeD_rep : ∀ {more : List (Key × V)} {mds : List (Key × D)} {kvs : List (Key × V)} {ds : List (Key × D)}, more.map Prod.fst = mds.map Prod.fst → Reps K g (more.map Prod.snd) (mds.map Prod.snd) → kvs.map Prod.fst = ds.map Prod.fst → Reps K g (kvs.map Prod.snd) (ds.map Prod.snd) →
    (mergeK kvs more).map Prod.fst = (mergeD ds mds).map Prod.fst ∧ Reps K g ((mergeK kvs more).map Prod.snd) ((mergeD ds mds).map Prod.snd)
  | [], [], _, _, _, _, e, r => ⟨e, r⟩
  | [], _ :: _, _, _, h, _, _, _ => by cases h
  | _ :: _, [], _, _, h, _, _, _ => by cases h
  | (k, v) :: more, (k', d) :: mds, kvs, ds, h, r, e0, r0 => by
    have h1 : k = k' := (List.cons.inj h).1
    subst h1
    cases r with
    | cons a b =>
      obtain ⟨i1, i2⟩ := putKD_rep (k := k) e0 r0 a
      exact mergeD_rep (more := more) (mds := mds) (kvs := putK kvs k v) (ds := putKD ds k d) (List.cons.inj h).2 b i1 i2
end
section
variable {X : Cx} {Wx : WX} {pos : Pos} {keys : List (Option Expr)} {values : List Expr} {fl : M (List VR)}
theorem flatP_inj : ∀ {ps qs : List (V × V)}, flatP ps = flatP qs → ps = qs
  | [], [], _ => rfl
  | [], (_, _) :: _, h => by cases h
  | (_, _) :: _, [], h => by cases h
  | (a, b) :: ps, (c, d) :: qs, h => by
    have h1 := List.cons.inj h
    have h2 := List.cons.inj h1.2
    rw [h1.1, h2.1, flatP_inj h2.2]
theorem de_disp (h : DPs X Wx pos keys values fl) (hall : keys.all (·.isSome) = true) (hl : keys.length = values.length) (h0 : keys ≠ []) (h15 : keys.length ≤ 15) : DE X Wx (.Dict keys values pos) (dDisp fl) := by
  obtain ⟨trs, hp, ht⟩ := h
  refine ⟨fun pins s σ H Q I q => (pe_disp hp hall hl h0 h15).run pins s σ H Q I fun p np => ?_⟩
  obtain ⟨g, st, c⟩ := q.start
  have sd1 : SD X.K g (upd H p (.dK [])) σ st := c.sd.alloc np
  have ev1 : Ev g H σ st g (upd H p (.dK [])) σ st := c.sd.allocEv np
  have f0 : Free1 g p := c.sd.free1 np
  have n0 : ¬ Hd σ st p := c.sd.noHd np
  have m0 : ¬ Mu g σ st p := c.sd.noMu np
  have l0 : (upd H p (.dK [])) p ≠ none := by rw [upd_same]; simp
  have c0 : Cur X.K Wx σ (RTt X.K σ H) Q g H st (dDisp fl st) g (upd H p (.dK [])) st := ⟨ev1, sd1, c.post⟩
  refine ht σ _ _ (c0.bind.mono fun vs H1 ⟨rs, g1, s1, c1, r1, e1⟩ => ?_)
  have here : H1 p = some (.dK []) := e1.keep p _ upd_same m0
  have c1' := c1.post
  rw [bind_eq] at c1'
  rcases frzs_res rs s1 with ⟨ds, s2, q2⟩ | q2
  · rw [q2] at c1'
    obtain ⟨g2, sd2, ev2, rp, le⟩ := frzs_run q2 e1 c1.sd r1
    obtain ⟨f2, n2⟩ := f0.ev ev2 l0 n0
    cases q3 : kvsD ds with
    | none => simp only [q3] at c1'; exact c1'.elim
    | some kvs =>
      simp only [q3] at c1'
      by_cases hz : kvs.length ≤ 15
      · rw [if_pos hz] at c1'
        obtain ⟨kws, k1, k2, k3⟩ := kvsD_rep rp q3
        obtain ⟨m1, m2⟩ := mergeD_rep (kvs := []) (ds := []) k2 k3 rfl .nil
        have lk : kws.length = kvs.length := by have := congrArg List.length k2; rwa [List.length_map, List.length_map] at this
        refine ⟨_, k1, here, kws, rfl, by rw [lk]; exact hz, ?_⟩
        exact c1' (.ref p) g2 _ (sd2.updFree f2 n2) ((ev1.trans ev2).updNew np) ⟨⟨p, _, rfl, f2, upd_same, .dk m1 m2⟩, fun d a _ ea => by cases ea; exact ⟨np, n2⟩⟩
      · rw [if_neg hz] at c1'; exact c1'.elim
  · rw [q2] at c1'; exact c1'.elim
end
end DL

set_option Elab.async false
set_option linter.all false
set_option maxRecDepth 100000
set_option maxHeartbeats 1000000
/-! DLPar: a, b = c, d where a comprehension knows a or b: by way of a tuple -/
namespace DL
open PySem PySem.Spec PyProof.Rows L2
section
variable {X : Cx} {Wx : WX} {pos : Pos}
theorem ds_parT {i j : Nat} {x y : Str} {a b : Expr} {fl : M (List VR)} {px py pt : Pos} {kt k2 pt2} (hc : X.calm = true) (hN : X.N.Nodup) (hi : X.N[i]? = some x) (hj : X.N[j]? = some y)
    (hx : Loc X.env.scope x) (hy : Loc X.env.scope y) (ha : DA X Wx [a, b] fl)
    (fx : X.fn x = true ∨ X.env.scope.names.lookup x = some .local := by first | exact .inl rfl | exact .inr rfl) (fy : X.fn y = true ∨ X.env.scope.names.lookup y = some .local := by first | exact .inl rfl | exact .inr rfl)
    (hw : swappedStores [.Tuple [.Name x px, .Name y py] kt pt] (.Tuple [a, b] k2 pt2) X.env = pure none := by rfl)
    (hs : swapsWithSole [.Tuple [.Name x px, .Name y py] kt pt] (.Tuple [a, b] k2 pt2) pos.line X.env = pure false := by rfl)
    (h1 : (assignEach [.Tuple [.Name x px, .Name y py] kt pt] X.env).map (·.2) = [assign (.Tuple [.Name x px, .Name y py] kt pt) X.env] := by rfl)
    (a1 : (assignEach [.Name x px, .Name y py] X.env).map (·.2) = assign (.Name x px) X.env :: (assignEach [.Name y py] X.env).map (·.2) := by rfl)
    (a2 : (assignEach [.Name y py] X.env).map (·.2) = assign (.Name y py) X.env :: (assignEach [] X.env).map (·.2) := by rfl)
    (al : (assignEach [.Name x px, .Name y py] X.env).length = 2 := by rfl) (as : (assignEach [.Name x px, .Name y py] X.env).findIdx? (·.1) = none := by rfl) :
    DS X Wx (.Assign [.Tuple [.Name x px, .Name y py] kt pt] (.Tuple [a, b] k2 pt2) pos) (dPar i j fl) :=
  ⟨fun pins s σ H D I h => (ps_asg (pe_tup ha) (pg_tup hc (pgs_cons (pg_name hN hi hx fx) (pgs_cons (pg_name hN hj hy fy) pgs_nil a2) a1) al as) hs hw h1).run pins s σ H D I (by
  obtain ⟨g, s, c⟩ := h.start
  refine c.bind.mono fun xs H1 ⟨rs, g1, s1, c1, r1, e1⟩ => ?_
  cases r1 with
  | nil => exact (c1.notBad rfl).elim
  | @cons v r vs rs r1 r2 ap1 =>
    cases r2 with
    | nil => cases r <;> exact (c1.notBad rfl).elim
    | @cons v' r' vs rs r2 r3 ap2 =>
      cases r with
      | slot i => exact (c1.notBad rfl).elim
      | t t =>
        cases r' with
        | slot i => cases rs <;> exact (c1.notBad rfl).elim
        | t t' =>
          cases r3 with
          | cons _ _ _ => exact (c1.notBad rfl).elim
          | nil =>
            refine ⟨by show 2 ≤ sizeLine; decide, fun q hq => ⟨q, [v, v'], rfl, .inl (.inl upd_same), rfl, v, [v'], rfl, v', [], rfl, rfl, ?_⟩⟩
            have p := c1.post
            have p : PostS X.K Wx D g H σ s ((setT i t >>= fun _ => setT j t' >>= fun _ => dNx) s1) := p
            have sd1 := c1.sd.alloc (o := .tup [v, v']) hq
            have ev1 := c1.ev.trans (c1.sd.allocEv (o := .tup [v, v']) hq)
            have q1 : RT X.K H g1 (upd H1 q (.tup [v, v'])) σ s1 v t := RT.ev (c1.sd.allocEv hq) r1
            have q2 : RT X.K H g1 (upd H1 q (.tup [v, v'])) σ s1 v' t' := RT.ev (c1.sd.allocEv hq) r2
            rcases bind_setT (i := i) (t := t) (k := fun _ => setT j t' >>= fun _ => dNx) (s := s1) with e2 | ⟨s2, e2, e3⟩
            · rw [e2] at p; exact p.elim
            · rw [e3] at p
              obtain ⟨sd2, ev2⟩ := setT_run e2 ev1 sd1 q1
              have r2' := RT.setOther (v := v) e2 sd1 q2 fun a d e4 e5 d' e6 e7 => ap1 a d' (by rw [e6]) e7 (v', .t t') (by simp) d (by rw [e4]) e5
              rcases bind_setT (i := j) (t := t') (k := fun _ => dNx) (s := s2) with e4 | ⟨s3, e4, e5⟩
              · rw [e4] at p; exact p.elim
              · rw [e5] at p
                obtain ⟨sd3, ev3⟩ := setT_run e4 ev2 sd2 r2'
                exact p _ _ _ sd3 ev3)⟩
theorem ds_parT3 {i j l : Nat} {x y z : Str} {a b c : Expr} {fl : M (List VR)} {px py pz pt : Pos} {kt k2 pt2} (hc : X.calm = true) (hN : X.N.Nodup) (hi : X.N[i]? = some x) (hj : X.N[j]? = some y) (hl : X.N[l]? = some z)
    (hx : Loc X.env.scope x) (hy : Loc X.env.scope y) (hz : Loc X.env.scope z) (ha : DA X Wx [a, b, c] fl)
    (fx : X.fn x = true ∨ X.env.scope.names.lookup x = some .local := by first | exact .inl rfl | exact .inr rfl) (fy : X.fn y = true ∨ X.env.scope.names.lookup y = some .local := by first | exact .inl rfl | exact .inr rfl) (fz : X.fn z = true ∨ X.env.scope.names.lookup z = some .local := by first | exact .inl rfl | exact .inr rfl)
    (hw : swappedStores [.Tuple [.Name x px, .Name y py, .Name z pz] kt pt] (.Tuple [a, b, c] k2 pt2) X.env = pure none := by rfl)
    (hs : swapsWithSole [.Tuple [.Name x px, .Name y py, .Name z pz] kt pt] (.Tuple [a, b, c] k2 pt2) pos.line X.env = pure false := by rfl)
    (h1 : (assignEach [.Tuple [.Name x px, .Name y py, .Name z pz] kt pt] X.env).map (·.2) = [assign (.Tuple [.Name x px, .Name y py, .Name z pz] kt pt) X.env] := by rfl)
    (a1 : (assignEach [.Name x px, .Name y py, .Name z pz] X.env).map (·.2) = assign (.Name x px) X.env :: (assignEach [.Name y py, .Name z pz] X.env).map (·.2) := by rfl)
    (a2 : (assignEach [.Name y py, .Name z pz] X.env).map (·.2) = assign (.Name y py) X.env :: (assignEach [.Name z pz] X.env).map (·.2) := by rfl)
    (a3 : (assignEach [.Name z pz] X.env).map (·.2) = assign (.Name z pz) X.env :: (assignEach [] X.env).map (·.2) := by rfl)
    (al : (assignEach [.Name x px, .Name y py, .Name z pz] X.env).length = 3 := by rfl) (as : (assignEach [.Name x px, .Name y py, .Name z pz] X.env).findIdx? (·.1) = none := by rfl) :
    DS X Wx (.Assign [.Tuple [.Name x px, .Name y py, .Name z pz] kt pt] (.Tuple [a, b, c] k2 pt2) pos) (dPar3 i j l fl) :=
  ⟨fun pins s σ H D I h => (ps_asg (pe_tup ha) (pg_tup hc (pgs_cons (pg_name hN hi hx fx) (pgs_cons (pg_name hN hj hy fy) (pgs_cons (pg_name hN hl hz fz) pgs_nil a3) a2) a1) al as) hs hw h1).run pins s σ H D I (by
  obtain ⟨g, s, c⟩ := h.start
  refine c.bind.mono fun xs H1 ⟨rs, g1, s1, c1, r1, e1⟩ => ?_
  cases r1 with
  | nil => exact (c1.notBad rfl).elim
  | @cons v r vs rs r1 r2 ap1 =>
    cases r2 with
    | nil => cases r <;> exact (c1.notBad rfl).elim
    | @cons v' r' vs rs r2 r3 ap2 =>
      cases r3 with
      | nil => cases r <;> cases r' <;> exact (c1.notBad rfl).elim
      | @cons v'' r'' vs rs r3 r4 ap3 =>
      cases r with
      | slot i => exact (c1.notBad rfl).elim
      | t t =>
        cases r' with
        | slot i => exact (c1.notBad rfl).elim
        | t t' =>
          cases r'' with
          | slot i => cases rs <;> exact (c1.notBad rfl).elim
          | t t'' =>
            cases r4 with
            | cons _ _ _ => exact (c1.notBad rfl).elim
            | nil =>
              refine ⟨by show 3 ≤ sizeLine; decide, fun q hq => ⟨q, [v, v', v''], rfl, .inl (.inl upd_same), rfl, v, [v', v''], rfl, v', [v''], rfl, v'', [], rfl, rfl, ?_⟩⟩
              have p := c1.post
              have p : PostS X.K Wx D g H σ s ((setT i t >>= fun _ => setT j t' >>= fun _ => setT l t'' >>= fun _ => dNx) s1) := p
              have sd1 := c1.sd.alloc (o := .tup [v, v', v'']) hq
              have ev1 := c1.ev.trans (c1.sd.allocEv (o := .tup [v, v', v'']) hq)
              have q1 : RT X.K H g1 (upd H1 q (.tup [v, v', v''])) σ s1 v t := RT.ev (c1.sd.allocEv hq) r1
              have q2 : RT X.K H g1 (upd H1 q (.tup [v, v', v''])) σ s1 v' t' := RT.ev (c1.sd.allocEv hq) r2
              have q3 : RT X.K H g1 (upd H1 q (.tup [v, v', v''])) σ s1 v'' t'' := RT.ev (c1.sd.allocEv hq) r3
              rcases bind_setT (i := i) (t := t) (k := fun _ => setT j t' >>= fun _ => setT l t'' >>= fun _ => dNx) (s := s1) with e2 | ⟨s2, e2, e3⟩
              · rw [e2] at p; exact p.elim
              · rw [e3] at p
                obtain ⟨sd2, ev2⟩ := setT_run e2 ev1 sd1 q1
                have r2' := RT.setOther (v := v) e2 sd1 q2 fun a d e4 e5 d' e6 e7 => ap1 a d' (by rw [e6]) e7 (v', .t t') (by simp) d (by rw [e4]) e5
                have r3' := RT.setOther (v := v) e2 sd1 q3 fun a d e4 e5 d' e6 e7 => ap1 a d' (by rw [e6]) e7 (v'', .t t'') (by simp) d (by rw [e4]) e5
                rcases bind_setT (i := j) (t := t') (k := fun _ => setT l t'' >>= fun _ => dNx) (s := s2) with e4 | ⟨s3, e4, e5⟩
                · rw [e4] at p; exact p.elim
                · rw [e5] at p
                  obtain ⟨sd3, ev3⟩ := setT_run e4 ev2 sd2 r2'
                  have r3'' := RT.setOther (v := v') e4 sd2 r3' fun a d e6 e7 d' e8 e9 => ap2 a d' (by rw [e8]) e9 (v'', .t t'') (by simp) d (by rw [e6]) e7
                  rcases bind_setT (i := l) (t := t'') (k := fun _ => dNx) (s := s3) with e6 | ⟨s4, e6, e7⟩
                  · rw [e6] at p; exact p.elim
                  · rw [e7] at p
                    obtain ⟨sd4, ev4⟩ := setT_run e6 ev3 sd3 r3''
                    exact p _ _ _ sd4 ev4)⟩
end
end DL

set_option Elab.async false
set_option linter.all false
set_option maxRecDepth 100000
set_option maxHeartbeats 1000000
/-! DLEvB: more of what a denotation gives: comprehensions step by step, calls that change what is lent -/
namespace DL
open PySem
section
variable {s s1 s2 s3 s4 : State}
theorem loopC_step {pt : Pt} {vs : List Nat} {ft : M Bool} {fe : M VR} {d y : D} {ds acc : List D} {r : Rs (List D)} (h1 : bindP pt d s = some s1) (h2 : ft s1 = .ok true s2) (h3 : (fe >>= frz) s2 = .ok y s3) (h4 : wipeS vs s3 = s4) (h5 : loopC pt vs ft fe ds (acc ++ [y]) s4 = r) : loopC pt vs ft fe (d :: ds) acc s = r := by
  conv => lhs; unfold loopC
  rw [h1]
  simp only [h2, h3, h4]
  exact h5
theorem loopC_skip {pt : Pt} {vs : List Nat} {ft : M Bool} {fe : M VR} {d : D} {ds acc : List D} {r : Rs (List D)} (h1 : bindP pt d s = some s1) (h2 : ft s1 = .ok false s2) (h4 : wipeS vs s2 = s4) (h5 : loopC pt vs ft fe ds acc s4 = r) : loopC pt vs ft fe (d :: ds) acc s = r := by
  conv => lhs; unfold loopC
  rw [h1]
  simp only [h2, h4]
  exact h5
theorem loopC_nil {pt : Pt} {vs : List Nat} {ft : M Bool} {fe : M VR} {acc : List D} : loopC pt vs ft fe [] acc s = .ok acc s := by unfold loopC; rfl
theorem comp_eq {h : List D → Option (List D)} {pt : Pt} {vs : List Nat} {ft : M Bool} {fe : M VR} {fl : M (List VR)} {rs : List VR} {ds items acc : List D} (e : fl s = .ok rs s1) (e2 : frzRs rs s1 = .ok ds s2) (e3 : h ds = some items) (z : fzAt s2.env vs = true) (hl : items.length < sizeLine) (e4 : loopC pt vs ft fe items [] (wipeS vs s2) = .ok acc s3) (e5 : restoreS vs s2 s3 = s4) : dComp h pt vs ft fe fl s = .ok (.ow (.lst acc)) s4 := by
  unfold dComp
  rw [bind_eq, e]
  show (frzRs rs >>= fun ds => match h ds with | some items => dLoopC pt vs ft fe items | none => M.bad) s1 = _
  rw [bind_eq, e2]
  simp only [e3]
  unfold dLoopC
  rw [if_pos ⟨z, hl⟩, e4]
  simp only [e5]
theorem frzV_fz {f : M T} {d : D} (h : f s = .ok (.fz d) s1) : (dV f >>= frz) s = .ok d s1 := by
  rw [bind_eq, dV_eq h]
  rfl
/-- a call, whatever it is lent -/
theorem call_eq {n : Nat} {ms : List AM} {F : M Flow} {fl : M (List VR)} {rs : List VR} {hs : List HS} {ws : List W} {t : T} {sc : State} (e : fl s = .ok rs s1) (e2 : toHMs ms rs s1 = .ok hs s2) (e3 : ents ms hs s2 = some ws) (e4 : oneEach hs = true)
    (h : F { env := ws.map some ++ List.replicate (n - ws.length) none, sto := s2.sto, dr := s2.dr } = .ok (.rt t) sc) (e5 : backS hs ws s2 sc = some s3) : dCall n ms [] F fl s = .ok t s3 := by
  unfold dCall
  rw [bind_eq, e]
  show dPass n ms [] F rs s1 = _
  unfold dPass
  rw [bind_eq, e2]
  show pass2 n ms [] F hs s2 = _
  unfold pass2
  rw [e3]
  simp only
  rw [if_pos e4]
  have e6 : { env := (ws ++ ([] : List D).map W.fz).map some ++ List.replicate (n - (ws.length + ([] : List D).length)) none, sto := s2.sto, dr := s2.dr : State } = { env := ws.map some ++ List.replicate (n - ws.length) none, sto := s2.sto, dr := s2.dr } := by simp
  rw [e6, h]
  show (match backS hs ws s2 sc with | some s' => Rs.ok t s' | none => .bad) = _
  rw [e5]
theorem sub_eq {i : Nat} {fv fk : M VR} {v k : VR} {w : W} {kd d d' : D} (h1 : fv s = .ok v s1) (h2 : heldD i s1 = some (w, w.data)) (h3 : fk s1 = .ok k s2) (h4 : readV k s2 = .ok kd s2) (h5 : frz v s2 = .ok d s3) (h6 : ∃ w3, heldD i s3 = some (w3, w3.data) ∧ putD kd d w3.data = some d' ∧ putE s3 i (w3.re d') = s4) : dSub i fv fk s = .ok .nx s4 := by
  obtain ⟨w3, q1, q2, q3⟩ := h6
  unfold dSub
  have c : chkD i (fun _ => true) s1 = .ok () s1 := by unfold chkD; rw [h2]; rfl
  have u : updD i (putD kd d) s3 = .ok () s4 := by unfold updD; rw [q1]; simp only [q2, q3]
  simp only [bind_eq, h1, c, h3, h4, h5, u]
  rfl
end
theorem ok.to {α : Type} {m : M α} {s s1 : State} {a : α} (h : ok m s fun b s' => b = a ∧ s' = s1) : m s = .ok a s1 := by
  obtain ⟨b, s', e, rfl, rfl⟩ := h
  exact e
end DL

set_option Elab.async false
set_option linter.all false
set_option maxRecDepth 100000
set_option maxHeartbeats 1000000
/-! DLEq: == of plain data that is not deep -/
namespace DL
open PySem PySem.Spec PyProof.Rows L2
/-- data that == can be asked of, n levels deep at most -/
def Shp (n : Nat) (d : D) : Prop := ∃ p, toPy d = some p ∧ p.canLay0 = true ∧ p.depth ≤ n
theorem Shp.int (n : Nat) (i : Int) : Shp n (.int i) := ⟨.int i, rfl, by simp [PyData.canLay0], by simp [PyData.depth]⟩
theorem Shp.non (n : Nat) : Shp n .non := ⟨.none, rfl, by simp [PyData.canLay0], by simp [PyData.depth]⟩
theorem Shp.bl (n : Nat) (b : Bool) : Shp n (.bl b) := ⟨.bool b, rfl, by simp [PyData.canLay0], by simp [PyData.depth]⟩
theorem Shp.all {n : Nat} : ∀ {ds : List D}, (∀ d ∈ ds, Shp n d) → ∃ ps, toPys ds = some ps ∧ PyData.canLayAll0 ps = true ∧ PyData.depthAll ps ≤ n ∧ ps.length = ds.length
  | [], _ => ⟨[], rfl, by simp [PyData.canLayAll0], by simp [PyData.depthAll], rfl⟩
  | d :: ds, h => by
    obtain ⟨p, h1, h2, h3⟩ := h d List.mem_cons_self
    obtain ⟨ps, h4, h5, h6, h7⟩ := Shp.all fun x hx => h x (List.mem_cons_of_mem _ hx)
    refine ⟨p :: ps, by unfold toPys; rw [h1, h4], by simp [PyData.canLayAll0, h2, h5], by simp only [PyData.depthAll]; omega, by rw [List.length_cons, List.length_cons, h7]⟩
theorem Shp.lst {n : Nat} {ds : List D} (h : ∀ d ∈ ds, Shp n d) : Shp (n + 1) (.lst ds) := by
  obtain ⟨ps, h4, h5, h6, _⟩ := Shp.all h
  exact ⟨.list ps, by show (toPys ds).map _ = _; rw [h4]; rfl, by simpa [PyData.canLay0] using h5, by simp only [PyData.depth]; omega⟩
theorem Shp.tup {n : Nat} {ds : List D} (h : ∀ d ∈ ds, Shp n d) : Shp (n + 1) (.tup ds) := by
  obtain ⟨ps, h4, h5, h6, _⟩ := Shp.all h
  exact ⟨.tuple ps, by show (toPys ds).map _ = _; rw [h4]; rfl, by simpa [PyData.canLay0] using h5, by simp only [PyData.depth]; omega⟩
theorem shaped_of {p : PyData} (h1 : p.canLay0 = true) (h2 : p.depth ≤ 64) : SeqAt.shaped p = true := by
  unfold SeqAt.shaped
  rw [h1, decide_eq_true h2]
  rfl
theorem eqD_of {d e : D} {p q : PyData} {n : Nat} (h1 : toPy d = some p) (h2 : p.canLay0 = true) (h3 : p.depth ≤ n) (k1 : toPy e = some q) (k2 : q.canLay0 = true) (k3 : q.depth ≤ n) (hn : n ≤ 64) : eqD d e = some (PyData.eqv p q) := by
  unfold eqD
  rw [h1, k1]
  simp only [shaped_of h2 (Nat.le_trans h3 hn), shaped_of k2 (Nat.le_trans k3 hn)]
  rfl
mutual
theorem eqv_refl : ∀ p : PyData, p.canLay0 = true → PyData.eqv p p = true
  | .none, _ => by simp [PyData.eqv]
  | .bool b, _ => by simp [PyData.eqv]
  | .int i, _ => by simp [PyData.eqv]
  | .str x, _ => by simp [PyData.eqv]
  | .list xs, h => by
    have h : PyData.canLayAll0 xs = true := by simpa [PyData.canLay0] using h
    simp only [PyData.eqv]
    exact eqv_refls xs h
  | .tuple xs, h => by
    have h : PyData.canLayAll0 xs = true := by simpa [PyData.canLay0] using h
    simp only [PyData.eqv]
    exact eqv_refls xs h
  | .dict kvs, h => by simp [PyData.canLay0] at h
theorem eqv_refls : ∀ ps : List PyData, PyData.canLayAll0 ps = true → PyData.eqvAll ps ps = true
  | [], _ => by simp [PyData.eqvAll]
  | p :: ps, h => by
    simp only [PyData.canLayAll0, Bool.and_eq_true] at h
    simp only [PyData.eqvAll, Bool.and_eq_true]
    exact ⟨eqv_refl p h.1, eqv_refls ps h.2⟩
end
theorem eqT_refl {n : Nat} {d : D} (h : Shp n d) (hn : n ≤ 64) : eqT d d = some (.fz (.bl true)) := by
  obtain ⟨p, h1, h2, h3⟩ := h
  unfold eqT
  rw [eqD_of h1 h2 h3 h1 h2 h3 hn, eqv_refl p h2]
  rfl
theorem neT_refl {n : Nat} {d : D} (h : Shp n d) (hn : n ≤ 64) : neT d d = some (.fz (.bl false)) := by
  obtain ⟨p, h1, h2, h3⟩ := h
  unfold neT
  rw [eqD_of h1 h2 h3 h1 h2 h3 hn, eqv_refl p h2]
  rfl
theorem neT_nil {n : Nat} {ds : List D} (h : ∀ d ∈ ds, Shp n d) (hn : n < 64) : neT (.lst ds) (.lst []) = some (.fz (.bl (!ds.isEmpty))) := by
  obtain ⟨p, h1, h2, h3⟩ := Shp.lst h
  have e1 : toPy (.lst []) = some (.list []) := rfl
  unfold neT
  rw [eqD_of h1 h2 h3 e1 (by simp [PyData.canLay0, PyData.canLayAll0]) (by simp [PyData.depth, PyData.depthAll]) (by omega)]
  obtain ⟨ps, g1, _, _, g2⟩ := Shp.all h
  have : toPy (.lst ds) = some (.list ps) := by show (toPys ds).map _ = _; rw [g1]; rfl
  rw [this] at h1
  cases h1
  cases ds with
  | nil =>
    have : ps = [] := List.length_eq_zero_iff.mp g2
    subst this
    simp [PyData.eqv, PyData.eqvAll]
  | cons x xs =>
    cases ps with
    | nil => cases g2
    | cons y ys => simp [PyData.eqv, PyData.eqvAll]
end DL

set_option Elab.async false
set_option linter.all false
set_option maxRecDepth 100000
set_option maxHeartbeats 1000000
/-! DLSort: sorted(xs) of whole numbers and of pairs of them -/
namespace DL
open PySem PySem.Spec PyProof.Rows L2
def insI (i : Int) : List Int → List Int
  | [] => [i]
  | j :: r => if i ≤ j then i :: j :: r else j :: insI i r
def sortI : List Int → List Int
  | [] => []
  | i :: r => insI i (sortI r)
def leP (a b : Int × Int) : Prop := a.1 < b.1 ∨ (a.1 = b.1 ∧ a.2 ≤ b.2)
instance (a b : Int × Int) : Decidable (leP a b) := by unfold leP; infer_instance
def insP (p : Int × Int) : List (Int × Int) → List (Int × Int)
  | [] => [p]
  | q :: r => if leP p q then p :: q :: r else q :: insP p r
def sortP : List (Int × Int) → List (Int × Int)
  | [] => []
  | p :: r => insP p (sortP r)
theorem insI_perm (i : Int) : ∀ l : List Int, (insI i l).Perm (i :: l)
  | [] => .refl _
  | j :: r => by
    unfold insI
    split
    · exact .refl _
    · exact ((insI_perm i r).cons j).trans (List.Perm.swap i j r)
theorem sortI_perm : ∀ l : List Int, (sortI l).Perm l
  | [] => .refl _
  | i :: r => (insI_perm i _).trans ((sortI_perm r).cons i)
theorem insI_up (i : Int) : ∀ {l : List Int}, l.Pairwise (· ≤ ·) → (insI i l).Pairwise (· ≤ ·)
  | [], _ => by unfold insI; simp
  | j :: r, h => by
    unfold insI
    split
    · rename_i hij
      refine List.pairwise_cons.mpr ⟨fun x hx => ?_, h⟩
      rcases List.mem_cons.mp hx with rfl | hx
      · exact hij
      · exact Int.le_trans hij ((List.pairwise_cons.mp h).1 x hx)
    · rename_i hij
      refine List.pairwise_cons.mpr ⟨fun x hx => ?_, insI_up i (List.pairwise_cons.mp h).2⟩
      rcases List.mem_cons.mp ((insI_perm i r).mem_iff.mp hx) with rfl | hx
      · omega
      · exact (List.pairwise_cons.mp h).1 x hx
theorem sortI_up : ∀ l : List Int, (sortI l).Pairwise (· ≤ ·)
  | [] => .nil
  | i :: r => insI_up i (sortI_up r)
theorem sortI_uniq {l m : List Int} (p : m.Perm l) (s : m.Pairwise (· ≤ ·)) : m = sortI l :=
  List.Perm.eq_of_pairwise (fun a b _ _ h1 h2 => Int.le_antisymm h1 h2) s (sortI_up l) (p.trans (sortI_perm l).symm)
theorem insP_perm (i : Int × Int) : ∀ l : List (Int × Int), (insP i l).Perm (i :: l)
  | [] => .refl _
  | j :: r => by
    unfold insP
    split
    · exact .refl _
    · exact ((insP_perm i r).cons j).trans (List.Perm.swap i j r)
theorem sortP_perm : ∀ l : List (Int × Int), (sortP l).Perm l
  | [] => .refl _
  | i :: r => (insP_perm i _).trans ((sortP_perm r).cons i)
theorem insP_up (i : Int × Int) : ∀ {l : List (Int × Int)}, l.Pairwise leP → (insP i l).Pairwise leP
  | [], _ => by unfold insP; simp
  | j :: r, h => by
    unfold insP
    split
    · rename_i hij
      refine List.pairwise_cons.mpr ⟨fun x hx => ?_, h⟩
      rcases List.mem_cons.mp hx with rfl | hx
      · exact hij
      · have := (List.pairwise_cons.mp h).1 x hx
        unfold leP at *
        omega
    · rename_i hij
      refine List.pairwise_cons.mpr ⟨fun x hx => ?_, insP_up i (List.pairwise_cons.mp h).2⟩
      rcases List.mem_cons.mp ((insP_perm i r).mem_iff.mp hx) with rfl | hx
      · unfold leP at *
        omega
      · exact (List.pairwise_cons.mp h).1 x hx
theorem sortP_up : ∀ l : List (Int × Int), (sortP l).Pairwise leP
  | [] => .nil
  | i :: r => insP_up i (sortP_up r)
theorem sortP_uniq {l m : List (Int × Int)} (p : m.Perm l) (s : m.Pairwise leP) : m = sortP l :=
  List.Perm.eq_of_pairwise (fun a b _ _ h1 h2 => by
    unfold leP at h1 h2
    exact Prod.ext (by omega) (by omega)) s (sortP_up l) (p.trans (sortP_perm l).symm)
def prD (p : Int × Int) : D := .tup [.int p.1, .int p.2]
def pairsD : List D → Option (List (Int × Int))
  | [] => some []
  | .tup [.int i, .int j] :: ds => (pairsD ds).map ((i, j) :: ·)
  | _ => none
theorem pairsD_map : ∀ ps : List (Int × Int), pairsD (ps.map prD) = some ps
  | [] => rfl
  | p :: ps => by
    show (pairsD (ps.map prD)).map ((p.1, p.2) :: ·) = _
    rw [pairsD_map ps]
    rfl
def sortedD : List D → Option DL.T
  | [.lst ds] => match intsD ds with
    | some ns => some (.ow (.lst ((sortI ns).map .int)))
    | none => (pairsD ds).map fun ps => .ow (.lst ((sortP ps).map prD))
  | _ => none
def pairH (H : Hp) (v : V) : Int × Int := match v with
  | .ref t => (match H t with
    | some (.tup [.int i, .int j]) => (i, j)
    | _ => (0, 0))
  | _ => (0, 0)
theorem pairsD_rep {K : PySem.W.Frag} {g : Gh} {H : Hp} {σ : Slots} {s : State} (sd : SD K g H σ s) : ∀ {xs : List V} {ds : List D} {ps : List (Int × Int)}, Reps K g xs ds → pairsD ds = some ps →
    xs.map (pairH H) = ps ∧ ∀ x ∈ xs, (∃ t, x = V.ref t ∧ H t = some (.tup [.int (pairH H x).1, .int (pairH H x).2])) ∧ Rep K g x (prD (pairH H x))
  | _, [], ps, .nil, e => by
    unfold pairsD at e
    cases e
    exact ⟨rfl, fun _ h => by cases h⟩
  | x :: xs, d :: ds, ps, .cons a r, e => by
    unfold pairsD at e
    split at e
    · rename_i h; cases h
    · rename_i i j ds' h
      cases h
      cases q : pairsD ds with
      | none => rw [q] at e; cases e
      | some ps' =>
        rw [q] at e
        cases e
        obtain ⟨i1, i2⟩ := pairsD_rep sd r q
        cases a with
        | tup qa ra =>
          rename_i t vs
          cases ra with
          | cons r1 r2 =>
            cases r2 with
            | cons r2 r3 =>
              cases r3
              cases r1; cases r2
              have ht := sd.here qa rfl
              have e1 : pairH H (.ref t) = (i, j) := by show (match H t with | some (.tup [.int i, .int j]) => (i, j) | _ => (0, 0)) = _; rw [ht]
              refine ⟨by rw [List.map_cons, e1, i1], fun x hx => ?_⟩
              rcases List.mem_cons.mp hx with rfl | hx
              · rw [e1]
                exact ⟨⟨t, rfl, ht⟩, .tup qa (.cons (.int i) (.cons (.int j) .nil))⟩
              · exact i2 x hx
    · cases e
theorem reps_of {K : PySem.W.Frag} {g : Gh} {f : V → D} : ∀ {xs : List V}, (∀ x ∈ xs, Rep K g x (f x)) → Reps K g xs (xs.map f)
  | [], _ => .nil
  | x :: xs, h => .cons (h x List.mem_cons_self) (reps_of fun y hy => h y (List.mem_cons_of_mem _ hy))
theorem lexB_leP {p q : Int × Int} (h : SrtO.lexB q p = false) : leP p q := by
  have := SrtO.lexB_no.mp h
  unfold leP
  omega
theorem c_sorted {X : Cx} : CallD X (.builtin "sorted") sortedD := by
  refine ⟨_, CallR.or cr_sortedI cr_sortedPO, fun g H σ s xs ds t Q sd hxs hh f => ?_⟩
  unfold sortedD at hh
  split at hh
  · rename_i ds
    obtain ⟨x, rfl, hx⟩ := hxs.one
    obtain ⟨a, vs, rfl, ha, ra⟩ := hx.lst sd
    cases e : intsD ds with
    | some ns =>
      simp only [e] at hh
      cases hh
      have ev := intsD_rep ra e
      subst ev
      refine .inl ⟨a, ns, rfl, .of ha, fun ns' p pm up np => ?_⟩
      rw [sortI_uniq pm up]
      exact f.ow sd np (.lst (Reps.ints _))
    | none =>
      simp only [e] at hh
      cases e2 : pairsD ds with
      | none => rw [e2] at hh; cases hh
      | some ps =>
        rw [e2] at hh
        cases hh
        obtain ⟨h1, h2⟩ := pairsD_rep sd ra e2
        refine .inr ⟨a, vs, pairH H, rfl, .of ha, fun x hx => (h2 x hx).1, fun ys p srt stb np => ?_⟩
        have pm : (ys.map (pairH H)).Perm ps := by rw [← h1]; exact stb.perm.map _
        have up : (ys.map (pairH H)).Pairwise leP := List.pairwise_map.mpr (srt.imp fun h => lexB_leP h)
        refine f.ow sd np (.lst ?_)
        rw [← sortP_uniq pm up, List.map_map]
        exact reps_of fun x hx => (h2 x (stb.perm.mem_iff.mp hx)).2
  · cases hh
end DL

set_option Elab.async false
set_option linter.all false
set_option maxRecDepth 100000
set_option maxHeartbeats 1000000
/-! DLRepr: repr of data, x.clear(), append to a list that no one holds -/
namespace DL
open PySem PySem.Spec PyProof.Rows L2
/-! ### repr -/
mutual
theorem pyNoDict {K : PySem.W.Frag} {H : Hp} : ∀ {p : PyData} {v : V}, Dp K H v p → p.hasDict = false
  | .none, _, _ => rfl
  | .bool _, _, _ => rfl
  | .int _, _, _ => rfl
  | .str _, _, _ => rfl
  | .list ps, _, h => by
    cases h with
    | lst _ h => show PyData.hasDictAll ps = false; exact pyNoDictAll h
  | .tuple ps, _, h => by
    cases h with
    | tup _ h => show PyData.hasDictAll ps = false; exact pyNoDictAll h
  | .dict _, _, h => by cases h
theorem pyNoDictAll {K : PySem.W.Frag} {H : Hp} : ∀ {ps : List PyData} {vs : List V}, DpAll K H vs ps → PyData.hasDictAll ps = false
  | [], _, _ => rfl
  | p :: ps, _, h => by
    cases h with
    | cons h1 h2 => show (PyData.hasDict p || PyData.hasDictAll ps) = false; rw [pyNoDict h1, pyNoDictAll h2]; rfl
end
/-- it may be shown -/
def shows (p : PyData) : Bool := p.showable && decide (p.shown.length ≤ sizeLine) && decide (p.depth ≤ 32)
def reprD : List D → Option T
  | [d] => match toPy d with
    | some p => if shows p = true then some (.fz (.str p.shown)) else none
    | none => none
  | _ => none
theorem call_reprD {X : Cx} (hg : X.A.guards = some []) (hu : X.A.units + 64 < cLine) : CallR X (.builtin "repr") (fun xs H Q => ∃ v p, xs = [v] ∧ Dp X.K H v p ∧ shows p = true ∧ Q (.str p.shown) H) := by
  intro pins s σ H xs us Q I r h
  obtain ⟨v, p, rfl, hp, hs, q⟩ := h
  obtain ⟨u, rfl, ru⟩ := vals1 r
  unfold shows at hs
  rw [Bool.and_eq_true, Bool.and_eq_true, decide_eq_true_eq, decide_eq_true_eq] at hs
  obtain ⟨⟨h1, h2⟩, h3⟩ := hs
  obtain ⟨as, rd⟩ := hp.reads I p v u ru
  have hd := pyNoDict hp
  have fin : ∀ {a : Addr}, u = .ref a → wpAny (model X.prog X.w) X.A (call (.builtin "repr") [u]) (EP X pins σ Q) X.xe s := by
    rintro a rfl
    exact repr_of_reads' rd h1 (PyData.noDict_hsm hd) hg (by omega) (fun _ _ e => e) (fun h' t tk k => ⟨.str _, H, I.kept k, ⟨_, rfl⟩, q⟩) h2
  cases p with
  | none => cases hp; cases ru; exact PySem.P.repr_of_none ⟨.str _, H, I.tok _, ⟨_, rfl⟩, q⟩
  | bool b => cases hp; cases ru; exact PySem.P.repr_of_bool ⟨.str _, H, I.tok _, ⟨_, rfl⟩, q⟩
  | int i => cases hp; obtain ⟨t, rfl⟩ := ru; exact PySem.P.repr_of_int (of_decide_eq_true h1) ⟨.str _, H, I.tok _, ⟨_, rfl⟩, q⟩
  | str x => cases hp; obtain ⟨t, rfl⟩ := ru; exact PySem.P.repr_of_str ⟨.str _, H, I.tok _, ⟨_, rfl⟩, q⟩ h2
  | list ps => cases hp; exact fin ru
  | tuple ps => cases hp; exact fin ru
  | dict _ => cases hp
theorem c_repr {X : Cx} {k : Nat} (room : Room k X.A) : CallD X (.builtin "repr") reprD := by
  refine ⟨_, call_reprD room.gd room.units, fun g H σ s xs ds t Q sd hxs hh f => ?_⟩
  unfold reprD at hh
  split at hh
  · rename_i d
    obtain ⟨x, rfl, hx⟩ := hxs.one
    cases e : toPy d with
    | none => simp only [e] at hh; cases hh
    | some p =>
      simp only [e] at hh
      by_cases hs : shows p = true
      · rw [if_pos hs] at hh; cases hh
        exact ⟨x, p, rfl, hx.dp sd e, hs, f.fz sd (.str _)⟩
      · rw [if_neg hs] at hh; cases hh
  · cases hh
/-! ### x.clear() -/
def clrD : D → Option D
  | .lst _ => some (.lst [])
  | _ => none
def dClear (i : Nat) : M T := updD i clrD >>= fun _ => dC .non
section
variable {X : Cx} {Wx : WX} {e o : Expr}
theorem de_clear {i : Nat} {x : Str} {p apos cpos : Pos} (hN : X.N[i]? = some x) (hv : Vis X.env.scope x) (hd : (x == ("__debug__" : Str)) = false := by decide) (hcd : (x == ("__classdict__" : Str)) = false := by decide)
    (h1 : attributeBase (.Name x p) "clear" X.env (eval (.Name x p) X.env) = eval (.Name x p) X.env := by rfl) (h3 : (apos.endLine == cpos.line) = true := by rfl) :
    DE X Wx (.Call (.Attribute (.Name x p) "clear" apos) [] [] cpos) (dClear i) :=
  ⟨fun pins s σ H Q I q => (pe_bm0 PySem.F.plainAttrs_list PySem.F.slot_list_clear PySem.F.type_list_clear mt_clear (pe_var hN hv hd hcd) h1 h3).run pins s σ H Q I (by
    obtain ⟨g, s, c⟩ := tM.start q
    obtain ⟨w, d, d', a, o, h1, h2, ea, eo, ob, k⟩ := c.updD
    refine ⟨.ref a, ea, ?_, ?_⟩
    · cases d with
      | lst ds => obtain ⟨xs, rfl, _⟩ := ob; exact .inl ⟨rfl, xs, .of eo⟩
      | _ => cases h2
    · cases d with
      | lst ds =>
        cases h2
        obtain ⟨xs, rfl, _⟩ := ob
        exact ⟨a, xs, rfl, rfl, eo, (k (.lst []) ⟨[], rfl, .nil⟩).done rfl ⟨.non, fun _ _ z => nomatch z⟩⟩
      | _ => cases h2)⟩
/-! ### a list that no one holds is changed -/
def owLst : VR → M (List D)
  | .t (.ow (.lst ds)) => pure ds
  | _ => M.bad
def dAppT (fo f : M VR) : M T := fo >>= fun r => owLst r >>= fun ds => f >>= fun r2 => frz r2 >>= fun d => if ds.length < sizeLine then dC .non else M.bad
theorem SD.off {K : PySem.W.Frag} {g : Gh} {H : Hp} {σ : Slots} {s : State} {a : Addr} {o : HO} (sd : SD K g H σ s) (f : Free1 g a) (nh : ¬ Hd σ s a) : SD K g (upd H a o) σ s where
  gh := fun b u e => by
    have ne : b ≠ a := fun z => by subst z; rw [f.1] at e; cases e
    exact (sd.gh b u e).keep fun w q => by rw [upd_ne ne]; exact q
  len := sd.len
  slot := fun i w e => by
    obtain ⟨v, ev, wa⟩ := sd.slot i w e
    refine ⟨v, ev, wa.keep (.refl g) (fun b u eb hw q => ?_) fun _ _ _ x => x⟩
    have ne : b ≠ a := fun z => nh ⟨i, w, e, hw, by rw [ev, eb, z]⟩
    rw [upd_ne ne]; exact q
  inj := sd.inj
  stl := sd.stl
  sto := fun i m b e1 e2 => by
    obtain ⟨u, q, m1⟩ := sd.sto i m b e1 e2
    have ne : b ≠ a := fun z => f.2.1 (z ▸ List.mem_of_getElem? e2)
    exact ⟨u, by rw [upd_ne ne]; exact q, m1⟩
  nd := sd.nd
  ng := sd.ng
  dr := sd.dr.map fun x l d e q => by
    obtain ⟨c, q1, q2⟩ := q.dict
    have n1 : x ≠ a := fun z => f.2.2 ⟨x, l, e, .inl z.symm⟩
    have n2 : l ≠ a := fun z => f.2.2 ⟨x, l, e, .inr z.symm⟩
    exact ⟨⟨c, by rw [upd_ne n1]; exact q1, q2⟩, by rw [upd_ne n2]; exact q.list, q.ne, q.ga, q.gl⟩
theorem Ev.off {g0 g : Gh} {H0 H : Hp} {σ : Slots} {s0 s : State} {a : Addr} {o : HO} (e : Ev g0 H0 σ s0 g H σ s) (n : H0 a = none) : Ev g0 H0 σ s0 g (upd H a o) σ s :=
  ⟨e.le, fun b u h m => by rw [upd_ne (ne_of_none h n)]; exact e.keep b u h m, fun b h => by
    have ne : b ≠ a := fun z => h (z ▸ n)
    rw [upd_ne ne]; exact e.live b h, e.frz, e.eta, e.mu, e.hd, e.ow, e.fix, e.lk, e.lkl⟩
theorem de_appT {fo f : M VR} {apos cpos : Pos} (ho : DV X Wx o fo) (he : DV X Wx e f)
    (h1 : attributeBase o "append" X.env (eval o X.env) = eval o X.env := by rfl)
    (h2 : ((backTo cpos (starEach (e :: []) X.env)).all (fun x => !x.1) && (backToKw cpos (keywordEach [] X.env)).all (fun x => x.1.isSome) && decide ((e :: []).length + ([] : List Keyword).length + (if ([] : List Keyword).isEmpty then 0 else 1) < 30)) = true := by rfl)
    (h3 : (apos.endLine == cpos.line) = true := by rfl) (h4 : starEach (e :: []) X.env = (false, eval e X.env) :: starEach [] X.env := by rfl) (h5 : (backTo cpos (starEach [] X.env)).any (·.1) = false := by rfl) :
    DE X Wx (.Call (.Attribute o "append" apos) [e] [] cpos) (dAppT fo f) :=
  ⟨fun pins s σ H Q I q => (pe_bm PySem.F.plainAttrs_list PySem.F.slot_list_append PySem.F.type_list_append mt_append ho (pa_cons he pa_nil h4) h1 h2 h3 h4 h5).run pins s σ H Q I (by
    obtain ⟨g, s, c⟩ := tM.start q
    refine c.bind.mono fun v H1 ⟨r, g1, s1, c1, r1, e1⟩ => ?_
    match r, c1, r1 with
    | .slot i, c1, r1 => exact (c1.notBad rfl).elim
    | .t (.fz d), c1, r1 => exact (c1.notBad rfl).elim
    | .t (.ow (.lst ds)), c1, r1 =>
      have r1 : RT X.K H g1 H1 σ s1 v (.ow (.lst ds)) := r1
      obtain ⟨a, o, rfl, fa, ea, xs, rfl, rx⟩ := r1.at_
      refine ⟨.inl ⟨rfl, xs, .of ea⟩, ?_⟩
      have c1 : Cur X.K Wx σ (RTt X.K σ H) Q g H s ((f >>= fun r2 => frz r2 >>= fun d => if ds.length < sizeLine then dC .non else M.bad) s1) g1 H1 s1 := c1
      refine c1.bind.mono fun y H2 ⟨r2, g2, s2, c2, q2, e2⟩ => ?_
      have p2 := c2.post
      rw [bind_eq] at p2
      rcases frz_res r2 s2 with ⟨d1, s3, ef⟩ | ef
      · rw [ef] at p2
        obtain ⟨g3, sd3, ev3, rp, tr, le3⟩ := frz_run ef c2.ev c2.sd (RVR.past c1.ev.live q2)
        have live : H1 a ≠ none := by rw [ea]; exact fun z => by cases z
        have ra : RVR X.K σ H g3 H2 s3 (V.ref a) (.t (.ow (.lst ds))) := tr _ _ (show RVR X.K σ H g2 H2 s2 (V.ref a) (.t (.ow (.lst ds))) from r1.ev e2) fun a' d' d2 z1 z2 z3 z4 => by
          cases z2
          subst z3
          have q2 : RT X.K H1 g2 H2 σ s2 y (.ow d2) := q2
          exact live (q2.new d2 a rfl z4).1
        have p2 : Post X.K Wx σ (RTt X.K σ H) Q g H s ((if ds.length < sizeLine then dC .non else M.bad) s3) := p2
        by_cases hz : ds.length < sizeLine
        · rw [if_pos hz] at p2
          have ra : RT X.K H g3 H2 σ s3 (V.ref a) (.ow (.lst ds)) := ra
          obtain ⟨a', o', e', fa', ea', xs', rfl, rx'⟩ := ra.at_
          cases e'
          obtain ⟨n1, n2⟩ := ra.new _ a rfl rfl
          exact ⟨a, xs', y, rfl, rfl, ea', by rw [rx'.length]; exact hz, p2 _ _ _ (sd3.off fa' n2) (ev3.off n1) ⟨.non, fun _ _ z => nomatch z⟩⟩
        · rw [if_neg hz] at p2; exact p2.elim
      · rw [ef] at p2; exact p2.elim
    | .t (.ow .non), c1, _ => exact (c1.notBad rfl).elim
    | .t (.ow (.bl _)), c1, _ => exact (c1.notBad rfl).elim
    | .t (.ow (.int _)), c1, _ => exact (c1.notBad rfl).elim
    | .t (.ow (.str _)), c1, _ => exact (c1.notBad rfl).elim
    | .t (.ow (.tup _)), c1, _ => exact (c1.notBad rfl).elim
    | .t (.ow (.frl _)), c1, _ => exact (c1.notBad rfl).elim
    | .t (.ow (.dk _)), c1, _ => exact (c1.notBad rfl).elim
    | .t (.ow (.dt _)), c1, _ => exact (c1.notBad rfl).elim
    | .t (.ow (.obj _ _)), c1, _ => exact (c1.notBad rfl).elim
    | .t (.ow (.ptr _)), c1, _ => exact (c1.notBad rfl).elim
    | .t (.ow .draw), c1, _ => exact (c1.notBad rfl).elim)⟩
end
end DL

set_option Elab.async false
set_option linter.all false
set_option maxRecDepth 100000
set_option maxHeartbeats 1000000
/-! DLKw: calls with keywords alone -/
namespace DL
open PySem PySem.Spec PyProof.Rows L2
/-- the parameters' order: the i-th parameter's value is the (π i)-th written one -/
def pick {α : Type} : List Nat → List α → List α
  | [], _ => []
  | i :: π, l => match l[i]? with
    | some x => x :: pick π l
    | none => pick π l
theorem Vals.pick {vs : List V} {us : List Value} (r : Vals vs us) : ∀ π : List Nat, Vals (pick π vs) (pick π us)
  | [] => .nil
  | i :: π => by
    unfold DL.pick
    cases e : vs[i]? with
    | some v =>
      obtain ⟨u, hu, rv⟩ := r.get e
      rw [hu]
      exact .cons rv (Vals.pick r π)
    | none =>
      have : us[i]? = none := List.getElem?_eq_none (by rw [← r.length]; exact List.getElem?_eq_none_iff.mp e)
      rw [this]
      exact Vals.pick r π
section
variable {K : PySem.W.Frag} {σ : Slots} {H0 : Hp} {g : Gh} {H : Hp} {s : State}
theorem RVRs.get : ∀ {vs : List V} {rs : List VR} {i : Nat} {v : V}, RVRs K σ H0 g H s vs rs → vs[i]? = some v → ∃ r, rs[i]? = some r ∧ RVR K σ H0 g H s v r
  | _, _, _, _, .nil, e => by cases e
  | _, _, 0, _, .cons a _ _, e => by cases e; exact ⟨_, rfl, a⟩
  | _, _, i + 1, _, .cons (vs := vs) (rs := rs) _ r _, e => RVRs.get (vs := vs) (rs := rs) (i := i) r e
theorem zip_mem {α β : Type} : ∀ {l : List α} {m : List β} {j : Nat} {x : α} {y : β}, l[j]? = some x → m[j]? = some y → (x, y) ∈ l.zip m
  | [], _, _, _, _, h, _ => by cases h
  | _ :: _, [], _, _, _, _, h => by cases h
  | a :: l, b :: m, 0, _, _, h1, h2 => by cases h1; cases h2; exact List.mem_cons_self
  | a :: l, b :: m, j + 1, _, _, h1, h2 => List.mem_cons_of_mem _ (zip_mem h1 h2)
theorem RVRs.two : ∀ {vs : List V} {rs : List VR} {i j : Nat} {a : Addr} {v : V} {d d' : D}, RVRs K σ H0 g H s vs rs → i ≠ j → vs[i]? = some (.ref a) → rs[i]? = some (.t (.ow d)) → vs[j]? = some v → rs[j]? = some (.t (.ow d')) → v ≠ .ref a
  | _, _, _, _, _, _, _, _, .nil, _, e, _, _, _ => by cases e
  | _, _, 0, 0, _, _, _, _, _, n, _, _, _, _ => (n rfl).elim
  | _, _, 0, j + 1, _, _, _, _, .cons _ _ c, _, e1, e2, e3, e4 => by
    cases e1; cases e2
    exact c _ _ rfl rfl _ (zip_mem (show _ = _ from e3) (show _ = _ from e4)) _ rfl
  | _, _, i + 1, 0, a, v, d, d', .cons _ _ c, _, e1, e2, e3, e4 => by
    cases e3; cases e4
    intro z
    exact c a _ rfl z _ (zip_mem (show _ = _ from e1) (show _ = _ from e2)) _ rfl rfl
  | _, _, i + 1, j + 1, _, _, _, _, .cons _ r _, n, e1, e2, e3, e4 => RVRs.two r (fun z => n (by rw [z])) e1 e2 e3 e4
theorem pick_mem {α β : Type} {l : List α} {m : List β} (hl : l.length = m.length) : ∀ {π : List Nat} {p : α × β}, p ∈ (pick π l).zip (pick π m) → ∃ j ∈ π, l[j]? = some p.1 ∧ m[j]? = some p.2
  | [], p, h => by cases h
  | i :: π, p, h => by
    unfold DL.pick at h
    cases e : l[i]? with
    | none =>
      have e2 : m[i]? = none := List.getElem?_eq_none (by rw [← hl]; exact List.getElem?_eq_none_iff.mp e)
      rw [e, e2] at h
      obtain ⟨j, hj, q⟩ := pick_mem hl h
      exact ⟨j, List.mem_cons_of_mem _ hj, q⟩
    | some x =>
      have hi : i < m.length := by rw [← hl]; exact (List.getElem?_eq_some_iff.mp e).1
      have e2 : m[i]? = some m[i] := List.getElem?_eq_getElem hi
      rw [e, e2] at h
      rcases List.mem_cons.mp h with rfl | h
      · exact ⟨i, List.mem_cons_self, e, e2⟩
      · obtain ⟨j, hj, q⟩ := pick_mem hl h
        exact ⟨j, List.mem_cons_of_mem _ hj, q⟩
theorem RVRs.pick {vs : List V} {rs : List VR} (r : RVRs K σ H0 g H s vs rs) : ∀ {π : List Nat}, π.Nodup → RVRs K σ H0 g H s (pick π vs) (pick π rs)
  | [], _ => .nil
  | i :: π, n => by
    unfold DL.pick
    obtain ⟨n1, n2⟩ := List.nodup_cons.mp n
    cases e : vs[i]? with
    | none =>
      have : rs[i]? = none := List.getElem?_eq_none (by rw [← r.length]; exact List.getElem?_eq_none_iff.mp e)
      rw [this]
      exact RVRs.pick r n2
    | some v =>
      obtain ⟨x, hx, rx⟩ := r.get e
      rw [hx]
      refine .cons rx (RVRs.pick r n2) fun a d e1 e2 p hp d' e3 => ?_
      subst e1; subst e2
      obtain ⟨j, hj, q1, q2⟩ := pick_mem r.length hp
      rw [e3] at q2
      exact r.two (i := i) (j := j) (fun z => n1 (by rw [z]; exact hj)) e hx q1 q2
end
def dPick (π : List Nat) (fl : M (List VR)) : M (List VR) := fl >>= fun rs => if rs.length = π.length then pure (pick π rs) else M.bad
theorem dPick_cur {α : Type} {K : PySem.W.Frag} {Wx : WX} {σ : Slots} {R : Gh → Hp → State → V → α → Prop} {Q : V → Hp → Prop} {g0 g1 : Gh} {H0 H1 : Hp} {s0 s1 : State} {π : List Nat} {fl : M (List VR)} {k : List VR → M α}
    (c : Cur K Wx σ R Q g0 H0 s0 ((dPick π fl >>= k) s1) g1 H1 s1) : Cur K Wx σ R Q g0 H0 s0 ((fl >>= fun rs => if rs.length = π.length then k (pick π rs) else M.bad) s1) g1 H1 s1 := by
  refine ⟨c.ev, c.sd, ?_⟩
  have p := c.post
  rw [bind_eq] at p ⊢
  unfold dPick at p
  rw [bind_eq] at p
  cases q : fl s1 with
  | ok rs s2 =>
    rw [q] at p
    by_cases z : rs.length = π.length
    · simp only [if_pos z] at p ⊢; exact p
    · simp only [if_neg z] at p ⊢; exact p
  | err y s2 => rw [q] at p; exact p
  | bad => rw [q] at p; exact p
/-- how the keywords ks alone bind (behind first values that are given) -/
structure KwB (K : PySem.W.Frag) (fd : FuncData) (ps : List Str) (n : Nat) (ks : List Str) (π : List Nat) : Prop where
  to : ∀ (s : Shared) (us ws : List Value), K.In s.heap → us.length = n → ws.length = ks.length → BindsTo s fd ⟨us, ks.zip ws⟩ (ps.zip (us ++ pick π ws))
theorem KwB.mk' {K : PySem.W.Frag} {x qual : Str} {st : Stmt} {f : Addr} {fd : FuncData} {ps ks : List Str} {n : Nat} {π : List Nat} (F : Fun K x qual st f fd)
    (h : ∀ (kV doc pm : Value) (an : Option Addr) (cdv ct : Value) (us ws : List Value), us.length = n → ws.length = ks.length → bindArgs (PySem.W.fnOf x qual (defArgs st) (defBody st) (defScope st) .none kV doc pm an cdv ct) ⟨us, ks.zip ws⟩ = pure (ps.zip (us ++ pick π ws))) : KwB K fd ps n ks π := by
  obtain ⟨_, _, kV, doc, pm, an, cdv, ct, _, rfl, _, _⟩ := F.ex
  exact ⟨fun s us ws _ l1 l2 => BindsTo.of_eq (h kV doc pm an cdv ct us ws l1 l2)⟩
/-- the keywords' values -/
def DKw (X : Cx) (Wx : WX) (kws : List Keyword) (fl : M (List VR)) : Prop := PK X kws (tL X.K Wx fl)
section
variable {X : Cx} {Wx : WX} {e o : Expr} {kws : List Keyword} {f : M VR} {fl : M (List VR)} {nm : Option Str} {kpos : Pos}
theorem dk_nil : DKw X Wx [] dNil := ⟨fun pos pins s σ H Q I q => pk_nil.run pos pins s σ H Q I (by
  obtain ⟨g, s, sd, p⟩ := q
  exact p [] g H sd .refl .nil)⟩
theorem dk_cons (ha : DV X Wx e f) (hr : DKw X Wx kws fl) : DKw X Wx (⟨nm, e, kpos⟩ :: kws) (dCons f fl) :=
  ⟨fun pos pins s σ H Q I q => (pk_cons ha hr).run pos pins s σ H Q I (by
    obtain ⟨g, s, c⟩ := q.start
    refine c.bind.mono fun x H1 ⟨r1, g1, s1, c1, q1, e1⟩ => c1.bind.mono fun xs H2 ⟨rs, g2, s2, c2, q2, e2⟩ => ?_
    refine c2.done (a := r1 :: rs) rfl (.cons (q1.ev e2) (RVRs.past e1.live q2) fun a d er ev p hp d' e' ep => ?_)
    subst er
    obtain ⟨b, o, eb, _, ho, _⟩ := RT.at_ q1
    cases ev.symm.trans eb
    have z := q2.mem p hp
    rw [e', ep] at z
    exact absurd (RT.new z d' a rfl rfl).1 (by rw [ho]; exact fun w => by cases w))⟩
variable {k : Nat} {C f0 : Addr} {fd : FuncData} {ps N ks : List Str} {b : M Flow} {x m : Str} {p pos apos : Pos} {fo : M VR} {ms : List AM} {π : List Nat}
theorem run_fnKw {pins : List (Addr × Obj)} {σ : L2.St} {H : Hp} {st : Shared} {Q : VK} {us ws : List Value} {vs zs : List V} {cx : CXT} {pr : Sp} {Ex : L2.St → XK} {n : Nat} (fk : FnOk X.prog X.w X.K X.mg X.base cx k f0 fd ps pr) (room : Room k X.A) (hb : KwB X.K fd ps n ks π) (hx : PassesAt cx X σ (Ex σ))
    (I : Inv X pins σ H st) (l1 : us.length = n) (l2 : ws.length = ks.length) (rv : Vals vs us) (rz : Vals zs ws) (want : pr (vs ++ pick π zs) H Q (Ex σ)) : wpAny (model X.prog X.w) X.A (call (.ref f0) us (ks.zip ws)) (EP X pins σ Q) X.xe st := by
  refine wpAny_call (codeAny_mono (fk.run X.A X.stack st H ⟨us, ks.zip ws⟩ _ _ Q (Ex σ) room I.env0 (hb.to st us ws I.kIn l1 l2) (rv.append (Vals.pick rz π)) want) fun res s2 out => ?_)
  match res, out with
  | .error er, out => exact hx pins H st er s2 I out
  | .ok (.ret u2), out => exact I.after out
  | .ok .next, out => exact out.elim
  | .ok .brk, out => exact out.elim
  | .ok .cont, out => exact out.elim
/-- o.m(k = v, ..) -/
theorem de_methK {pl : Sem Bool} (c : Cls X.K C) (hm : Meth X.K C m f0) (F : FnOk X.prog X.w X.K X.mg X.base (L2.CX X.prog X.w) k f0 fd ps (spF X.K ps N b)) {n : Nat} (hl : N.length = n) (hr : Room k X.A) (hb : KwB X.K fd ps 1 ks π) (hπ : π.Nodup) (tk : Takes X Wx)
    (hn : ms.length = ps.length) (hkl : ks.length = π.length) (ho : DV X Wx o fo) (ha : DKw X Wx kws fl)
    (hall : (backToKw pos (keywordEach kws X.env)).all (·.1.isSome) = true := by rfl) (hks : (backToKw pos (keywordEach kws X.env)).filterMap (·.1) = ks := by rfl)
    (hpl : ((backTo pos (starEach [] X.env)).any (·.1) || (backToKw pos (keywordEach kws X.env)).any (·.1.isNone)) = false := by rfl)
    (ht : eval (.Call (.Attribute o m apos) [] kws pos) X.env = (do
      let ov ← eval o X.env
      standAt apos.atName
      let (f, first) ← holding [ov] (getMethod ov m pl)
      callWith pos f first (backTo pos (starEach [] X.env)) (backToKw pos (keywordEach kws X.env))) := by rfl) :
    DE X Wx (.Call (.Attribute o m apos) [] kws pos) (dMeth C m n ms [] b fo (dPick π fl)) := by
  subst hl
  exact ⟨fun pins s σ H Q I h => by
  obtain ⟨g, st, c0⟩ := h.start
  refine PySem.W.methodCall_KW (pl := pl) (thn (ho.run pins s σ H _ I (c0.bind (R1 := RVR X.K))) fun u s1 ⟨z, H1, I1, rz, r, g1, st1, c1, r1, e1⟩ => ?_) ht
  rcases recv_run (C := C) (m := m) c1.sd r1 with ⟨q, now, a, dx, fx, rfl, h2, h3⟩ | q
  · obtain rfl : u = Value.ref a := rz
    have c2 : Cur X.K Wx σ (RTt X.K σ H) Q g H st ((dPick π fl >>= fun rs => dPass N.length ms [] b (r :: rs)) st1) g1 H1 st1 := ⟨c1.ev, c1.sd, by have p := c1.post; rw [bind_eq, q] at p; exact p⟩
    have c3 := dPick_cur c2
    refine getmeth_ok I1 h2 c hm h3 (PySem.W.callWith_KW0 (h₀ := X.base) (first := [.ref a]) I.ok.mod.kin hm.kp hall (thn (ha.run pos pins s1 σ H1 _ I1 (c3.bind (R1 := RVL X.K))) fun ws s2 ⟨zs, H2, I2, rv, rs, g2, st2, c4, r3, e3⟩ => ⟨I2.kIn, ?_⟩) hpl)
    by_cases zl : rs.length = π.length
    · rw [if_pos zl] at c4
      have all : RVRs X.K σ H g2 H2 st2 (V.ref a :: pick π zs) (r :: pick π rs) := .cons (r1.ev e3) ((RVRs.past c1.ev.live r3).pick hπ) (apart_of now)
      rw [hks]
      exact run_fnKw (us := [Value.ref a]) (vs := [V.ref a]) F hr hb (passAt tk σ) I2 rfl (by rw [← rv.length, r3.length, zl, hkl]) (.cons (show RelV (V.ref a) (Value.ref a) from rfl) .nil) rv (by
        have z := pass_run (dvs := []) c4 all (fun _ => .nil) (by rw [hn]; rfl)
        rw [List.append_nil] at z
        exact z)
    · rw [if_neg zl] at c4
      exact (c4.notBad rfl).elim
  · exact (c1.notBad (by rw [bind_eq, q])).elim⟩
theorem make_atK {pins : List (Addr × Obj)} {σ : Slots} {H : Hp} {s : Shared} {Q : VK} {ws : List Value} {zs : List V} {sp : Sp} {E : Slots → XK} (mk : Mk X.K C f0) (Fi : FnOk X.prog X.w X.K X.mg X.base (L2.CX X.prog X.w) k f0 fd ps sp) (rm : Room (k + 1) X.A) (bi : KwB X.K fd ps 1 ks π)
    (ps_ : PassesAt (L2.CX X.prog X.w) X σ (E σ)) (I0 : Inv X pins σ H s) (l2 : ws.length = ks.length) (rl : Vals zs ws) (hq : ∀ x dx, H x = none → H dx = none → dx ≠ x → sp (.ref x :: pick π zs) (upd (upd H dx (.own x)) x (.ins C dx [])) (fun v H2 => v = .non ∧ Q (.ref x) H2) (E σ)) :
    wpAny (model X.prog X.w) X.A (call (.ref C) [] (ks.zip ws)) (EP X pins σ Q) X.xe s := by
  have q0 := hq _ _ (I0.hok.fresh (Nat.le_succ s.heap.objs.size)) (I0.hok.fresh (Nat.le_refl s.heap.objs.size)) (Nat.ne_of_lt (Nat.lt_succ_self _))
  have J := Inv.made (C := C) I0
  have all : Vals (V.ref (s.heap.objs.size + 1) :: pick π zs) (Value.ref (s.heap.objs.size + 1) :: pick π ws) := .cons rfl (Vals.pick rl π)
  have run := Fi.run (X.A.under (.builtin "type.__call__" ⟨.ref C :: [], ks.zip ws⟩)) X.stack _ _ ⟨Value.ref (s.heap.objs.size + 1) :: [], ks.zip ws⟩ _ _ _ _ (rm.make C [] (ks.zip ws)) (J.env0.make C [] (ks.zip ws)) (bi.to _ [Value.ref (s.heap.objs.size + 1)] ws J.kIn rfl l2) all q0
  refine wpAny_call (make_map (f := f0) I0.kIn mk.makes mk.init (beq_iff_eq.mp mk.fn) (codeAny_mono run fun res s' out => ?_))
  match res, out with
  | .error er, out => exact ps_ pins _ _ er s' J out
  | .ok (.ret u), out =>
    obtain ⟨v, H', J2, rv, ev, q3⟩ := J.after out
    subst ev
    exact ⟨rv, V.ref (s.heap.objs.size + 1), H', J2, rfl, q3⟩
  | .ok .next, out => exact out.elim
  | .ok .brk, out => exact out.elim
  | .ok .cont, out => exact out.elim
/-- C(k = v, ..) -/
theorem de_makeK (mk : Mk X.K C f0) (F : FnOk X.prog X.w X.K X.mg X.base (L2.CX X.prog X.w) k f0 fd ps (spF X.K ps N b)) {n : Nat} (hl : N.length = n) (hr : Room (k + 1) X.A) (hm : X.mg x = some (.ref C)) (hb : KwB X.K fd ps 1 ks π) (hπ : π.Nodup) (tk : Takes X Wx)
    (hn : ms.length + 1 = ps.length) (hkl : ks.length = π.length) (ha : DKw X Wx kws fl) (hg : Gl X x := by rfl)
    (hall : (backToKw pos (keywordEach kws X.env)).all (·.1.isSome) = true := by rfl) (hks : (backToKw pos (keywordEach kws X.env)).filterMap (·.1) = ks := by rfl) (hdb : (x == ("__debug__" : Str)) = false := by decide)
    (hpl : ((backTo pos (starEach [] X.env)).any (·.1) || (backToKw pos (keywordEach kws X.env)).any (·.1.isNone)) = false := by rfl) :
    DE X Wx (.Call (.Name x p) [] kws pos) (dMake C n ms [] b (dPick π fl)) := by
  subst hl
  exact ⟨fun pins s σ H Q I h => by
  obtain ⟨g, st, c0⟩ := h.start
  have c0 := dPick_cur c0
  refine wpAny_Call_Name_kw (ld_glob I hg hm (PySem.W.callWith_KW0 (h₀ := X.base) I.ok.mod.kin mk.kp hall (thn (ha.run pos pins s σ H _ I (c0.bind (R1 := RVL X.K))) fun ws s2 ⟨zs, H1, I1, rv, rs, g1, st1, c1, r1, e1⟩ => ⟨I1.kIn, ?_⟩) hpl) hdb)
  by_cases zl : rs.length = π.length
  · rw [if_pos zl] at c1
    rw [hks]
    refine make_atK (E := WE Wx) mk F hr hb (passAt tk σ) I1 (by rw [← rv.length, r1.length, zl, hkl]) rv fun x dx hx hdx ne => ?_
    have p := c1.post
    rw [bind_eq] at p
    rcases toHMs_res ms (pick π rs) st1 with ⟨hs, st2, q⟩ | q
    · rw [q] at p
      have rp := (RVRs.past c0.ev.live r1).pick hπ
      obtain ⟨g2, sd2, e2, rh, le⟩ := toHMs_run q c1.ev c1.sd rp
      have z := make2_run (dvs := []) (dw := []) ⟨e2, sd2, p⟩ rh (fun _ => .nil) (by rw [← rh.length, rp.length, ← toHMs_len q]; exact hn) hx hdx ne
      rw [List.append_nil] at z
      exact z
    · rw [q] at p; exact p.elim
  · rw [if_neg zl] at c1
    exact (c1.notBad rfl).elim⟩
/-- f(k = v, ..) -/
theorem de_callK (F : FnOk X.prog X.w X.K X.mg X.base (L2.CX X.prog X.w) k f0 fd ps (spF X.K ps N b)) {n : Nat} (hl : N.length = n) (hr : Room k X.A) (hm : X.mg x = some (.ref f0)) (hk : PySem.W.keepIn X.K (.ref f0) = true) (hb : KwB X.K fd ps 0 ks π) (hπ : π.Nodup) (tk : Takes X Wx)
    (hn : ms.length = ps.length) (hkl : ks.length = π.length) (ha : DKw X Wx kws fl) (hg : Gl X x := by rfl)
    (hall : (backToKw pos (keywordEach kws X.env)).all (·.1.isSome) = true := by rfl) (hks : (backToKw pos (keywordEach kws X.env)).filterMap (·.1) = ks := by rfl) (hdb : (x == ("__debug__" : Str)) = false := by decide)
    (hpl : ((backTo pos (starEach [] X.env)).any (·.1) || (backToKw pos (keywordEach kws X.env)).any (·.1.isNone)) = false := by rfl) :
    DE X Wx (.Call (.Name x p) [] kws pos) (dCall n ms [] b (dPick π fl)) := by
  subst hl
  exact ⟨fun pins s σ H Q I h => by
  obtain ⟨g, st, c0⟩ := h.start
  have c0 := dPick_cur c0
  refine wpAny_Call_Name_kw (ld_glob I hg hm (PySem.W.callWith_KW0 (h₀ := X.base) I.ok.mod.kin hk hall (thn (ha.run pos pins s σ H _ I (c0.bind (R1 := RVL X.K))) fun ws s2 ⟨zs, H1, I1, rv, rs, g1, st1, c1, r1, e1⟩ => ⟨I1.kIn, ?_⟩) hpl) hdb)
  by_cases zl : rs.length = π.length
  · rw [if_pos zl] at c1
    rw [hks]
    exact run_fnKw (us := []) (vs := []) F hr hb (passAt tk σ) I1 rfl (by rw [← rv.length, r1.length, zl, hkl]) .nil rv (by
      have z := pass_run (dvs := []) c1 ((RVRs.past c0.ev.live r1).pick hπ) (fun _ => .nil) (by rw [hn]; rfl)
      rw [List.append_nil] at z
      exact z)
  · rw [if_neg zl] at c1
    exact (c1.notBad rfl).elim⟩
end
/-! ### t < u, tuples of ints -/
def ltT : D → D → Option T
  | .tup xs, .tup ys => match intsD xs, intsD ys with
    | some ns, some ms => some (.fz (.bl (HT.lexLt ns ms)))
    | _, _ => none
  | _, _ => none
theorem o_ltT {X : Cx} {k : Nat} (room : Room k X.A) : OpD X (compareOp .Lt) ltT := by
  refine ⟨_, op_ltT room.units0, fun g H σ s x y d e t Q sd hx hy hh f => ?_⟩
  unfold ltT at hh
  split at hh
  · rename_i ds es
    obtain ⟨a, xs, rfl, ha, ra⟩ := hx.tup sd
    obtain ⟨b, ys, rfl, hb, rb⟩ := hy.tup sd
    cases e1 : intsD ds with
    | none => simp only [e1] at hh; cases hh
    | some ns =>
      cases e2 : intsD es with
      | none => simp only [e1, e2] at hh; cases hh
      | some ms =>
        simp only [e1, e2] at hh
        cases hh
        have q1 := intsD_rep ra e1
        have q2 := intsD_rep rb e2
        subst q1; subst q2
        exact ⟨a, b, ns, ms, rfl, rfl, ha, hb, f.fz sd (.bl _)⟩
  · cases hh
/-! ### texts that differ -/
def neS : D → D → Option T
  | .str a, .str b => some (.fz (.bl (!decide (V.str a = V.str b))))
  | _, _ => none
theorem neS_refl (a : Str) : neS (.str a) (.str a) = some (.fz (.bl false)) := by
  show some (DL.T.fz (.bl (!decide (V.str a = V.str a)))) = _
  rw [decide_eq_true rfl]
  rfl
theorem o_neS {X : Cx} : OpD X (compareOp .NotEq) neS := by
  refine ⟨_, op_ne, fun g H σ s x y d e t Q sd hx hy hh f => ?_⟩
  unfold neS at hh
  split at hh
  · cases hh
    cases hx.str
    cases hy.str
    exact ⟨rfl, f.fz sd (.bl _)⟩
  · cases hh
/-! ### a walk over what is lent to be read -/
theorem okS.forLk1 {s : State} {Nx : State → Prop} {Rt : T → State → Prop} {fl : M (List VR)} {h : List D → Option (List D)} {p : Pt} {b : M Flow} {i : Nat} {d : D} {items : List D} (f1 : fl s = .ok [.slot i] s) (e : s.env[i]? = some (some (.lkl d))) (e1 : noDict d = true) (e3 : h [d] = some items) (k : okS (dForL p b items) s Nx Rt) : okS (dFor h p b fl) s Nx Rt := by
  have f4 : lockS i s = s := by unfold lockS; rw [e]
  have q : dFor h p b fl s = mapS (unlockW i (some (some (.lkl d)))) (dItems h (dForL p b) [d] s) := by
    unfold dFor
    rw [bind_eq, f1]
    show dLock [HS.slot i] (dItems h (dForL p b)) s = _
    unfold dLock
    simp only [e]
    rw [show (W.lkl d).data = d from rfl, if_pos e1, f4]
    rfl
  unfold okS
  rw [q, mapS_id (by intro s; rfl)]
  unfold dItems
  rw [e3]
  exact k
theorem okS.forLk {s : State} {Nx : State → Prop} {Rt : T → State → Prop} {h : List D → Option (List D)} {p : Pt} {b : M Flow} {i : Nat} {d : D} {items : List D} (e : s.env[i]? = some (some (.lkl d))) (e1 : noDict d = true) (e3 : h [d] = some items) (k : okS (dForL p b items) s Nx Rt) : okS (dFor h p b (dOne (dSlot i))) s Nx Rt := by
  refine okS.forLk1 (i := i) ?_ e e1 e3 k
  unfold dOne
  rw [bind_eq]
  unfold dSlot
  simp only [e]
  rfl
end DL

set_option linter.all false
set_option maxRecDepth 100000
/-! what the defs of 43 do to data (printed by gen.py) -/
namespace Law
open PySem DL

def F_is_between : M DL.Flow := dRet (dAndV (dIsi [.int] (dSlot 0)) (dAndV (dNotV (dIsi [.bool] (dSlot 0))) (dChain leD leD (dSlot 1) (dSlot 0) (dSlot 2))))
def F_is_integer : M DL.Flow := dRet (dAndV (dIsi [.int] (dSlot 0)) (dNotV (dIsi [.bool] (dSlot 0))))
def F_Shown_init (a_Shown : Addr) : M DL.Flow := dSeq (dIf (dOr (dNot (dB (dCall 3 [.F, .F, .F] [] F_is_between (dCons (dSlot 1) (dCons (dV (dC (.int 0))) (dCons (dV (dC (.int 500))) (dNil))))))) (dNot (dB (dCall 3 [.F, .F, .F] [] F_is_between (dCons (dSlot 2) (dCons (dV (dC (.int 0))) (dCons (dV (dC (.int 900))) (dNil)))))))) (M.bad) (dNx)) 
        (dSeq (dIf (dOr (dNot (dB (dCall 1 [.F] [] F_is_integer (dCons (dSlot 3) (dNil))))) (dOr (dB (dOp2 ltD (dSlot 3) (dV (dC (.int 0))))) (dOr (dNot (dB (dCall 3 [.F, .F, .F] [] F_is_between (dCons (dSlot 4) (dCons (dV (dC (.int 0))) (dCons (dV (dC (.int 1000000000))) (dNil))))))) (dNot (dB (dCall 1 [.F] [] F_is_integer (dCons (dSlot 5) (dNil)))))))) (M.bad) (dNx)) 
        (dSeq (dSetF a_Shown "c_rules" (dSlot 0) (dV (dTup (dCons (dSlot 1) (dCons (dSlot 2) (dCons (dSlot 3) (dNil))))))) 
        (dSeq (dSetF a_Shown "c_reading" (dSlot 0) (dSlot 4)) 
        (dSeq (dSetF a_Shown "c_value" (dSlot 0) (dSlot 5)) 
        (dSetF a_Shown "c_spans" (dSlot 0) (dV (dLst (dNil))))))))
def F_Shown_reading (a_Shown : Addr) : M DL.Flow := dRet (dFld a_Shown "c_reading" (dSlot 0))
def F_Shown_value (a_Shown : Addr) : M DL.Flow := dRet (dFld a_Shown "c_value" (dSlot 0))
def F_Shown_spans (a_Shown : Addr) : M DL.Flow := dRet (dCallB listD (dCons (dV (dFld a_Shown "c_spans" (dSlot 0))) (dNil)))
def L_law_nearest_0 : M DL.Flow := dSeq (dAsg 5 (dVar 1)) 
          (dSeq (dIf (dAnd (dB (dOp2 isNotD (dSlot 3) (dV (dC .non)))) (dB (dOp2 ltD (dSlot 1) (dSlot 3)))) (dAsg 5 (dVar 3)) (dIf (dAnd (dB (dOp2 isNotD (dSlot 4) (dV (dC .non)))) (dB (dOp2 gtD (dSlot 1) (dSlot 4)))) (dAsg 5 (dVar 4)) (dNx))) 
          (dIf (dOr (dB (dOp2 isD (dSlot 2) (dV (dC .non)))) (dB (dOp2 ltT (dV (dTup (dCons (dV (dCallB absD (dCons (dV (dOp2 subD (dSlot 5) (dSlot 1))) (dNil)))) (dCons (dV (dOp1 negD (dSlot 5))) (dNil))))) (dV (dTup (dCons (dV (dCallB absD (dCons (dV (dOp2 subD (dSlot 2) (dSlot 1))) (dNil)))) (dCons (dV (dOp1 negD (dSlot 2))) (dNil)))))))) (dAsg 2 (dVar 5)) (dNx)))
def F_law_nearest : M DL.Flow := dSeq (dAsg 2 (dC .non)) 
        (dSeq (dFor itS (.tup [.name 3, .name 4]) (L_law_nearest_0) (dOne (dSlot 0))) 
        (dRetV 2))
def L_law_wide_0 : M DL.Flow := dSeq (dAsg 6 (dIf (dB (dOp2 isD (dSlot 4) (dV (dC .non)))) (dC .non) (dOp2 addD (dSlot 4) (dV (dOp2 mulD (dSlot 2) (dV (dOp2 subD (dV (dC (.int 1000))) (dSlot 1)))))))) 
          (dExpr (dAppend 3 (dV (dTup (dCons (dSlot 6) (dCons (dV (dIf (dB (dOp2 isD (dSlot 5) (dV (dC .non)))) (dC .non) (dOp2 addD (dSlot 5) (dV (dOp2 mulD (dSlot 2) (dV (dOp2 addD (dV (dC (.int 1000))) (dSlot 1)))))))) (dNil)))))))
def F_law_wide : M DL.Flow := dSeq (dAsg 3 (dLst (dNil))) 
        (dSeq (dFor itS (.tup [.name 4, .name 5]) (L_law_wide_0) (dOne (dSlot 0))) 
        (dRetV 3))
def L_law_later_0 : M DL.Flow := dSeq (dAsg 6 (dCall 6 [.F, .F] [] F_law_nearest (dCons (dV (dCall 7 [.F, .F, .F] [] F_law_wide (dCons (dSlot 1) (dCons (dSlot 2) (dCons (dSlot 5) (dNil)))))) (dCons (dV (dOp2 addD (dSlot 0) (dV (dC (.int 1000))))) (dNil))))) 
          (dSeq (dAsg 6 (dIf (dB (dOp2 isD (dSlot 6) (dV (dC .non)))) (dOp2 addD (dSlot 0) (dV (dC (.int 1000)))) (dVar 6))) 
          (dAsg 0 (dCallB maxD (dCons (dV (dOp2 subD (dV (dOp2 addD (dSlot 0) (dV (dC (.int 1000))))) (dSlot 3))) (dCons (dV (dCallB minD (dCons (dV (dOp2 addD (dV (dOp2 addD (dSlot 0) (dV (dC (.int 1000))))) (dSlot 3))) (dCons (dSlot 6) (dNil))))) (dNil))))))
def F_law_later : M DL.Flow := dSeq (dFor itR2 (.name 5) (L_law_later_0) (dCons (dV (dC (.int 1))) (dCons (dV (dOp2 addD (dSlot 4) (dV (dC (.int 1))))) (dNil)))) 
        (dRetV 0)
def F_Shown_ticks_to (a_Shown : Addr) : M DL.Flow := dSeq (dIf (dNot (dB (dCall 3 [.F, .F, .F] [] F_is_between (dCons (dSlot 1) (dCons (dV (dFld a_Shown "c_reading" (dSlot 0))) (dCons (dV (dC (.int 1000000000))) (dNil))))))) (M.bad) (dNx)) 
        (dRet (dOp2 subD (dSlot 1) (dV (dFld a_Shown "c_reading" (dSlot 0)))))
def L_gaps_0 : M DL.Flow := dSeq (dIf (dAnd (dOr (dB (dOp2 isD (dSlot 4) (dV (dC .non)))) (dB (dOp2 leD (dSlot 4) (dSlot 1)))) (dOr (dB (dOp2 isD (dSlot 5) (dV (dC .non)))) (dB (dOp2 leD (dSlot 1) (dSlot 5))))) (dRet (dTup (dCons (dV (dC (.int 0))) (dCons (dV (dC (.int 0))) (dNil))))) (dNx)) 
          (dSeq (dIf (dAnd (dB (dOp2 isNotD (dSlot 4) (dV (dC .non)))) (dAnd (dB (dOp2 ltD (dSlot 1) (dSlot 4))) (dOr (dB (dOp2 isD (dSlot 2) (dV (dC .non)))) (dB (dOp2 ltD (dV (dOp2 subD (dSlot 4) (dSlot 1))) (dSlot 2)))))) (dAsg 2 (dOp2 subD (dSlot 4) (dSlot 1))) (dNx)) 
          (dIf (dAnd (dB (dOp2 isNotD (dSlot 5) (dV (dC .non)))) (dAnd (dB (dOp2 ltD (dSlot 5) (dSlot 1))) (dOr (dB (dOp2 isD (dSlot 3) (dV (dC .non)))) (dB (dOp2 ltD (dV (dOp2 subD (dSlot 1) (dSlot 5))) (dSlot 3)))))) (dAsg 3 (dOp2 subD (dSlot 1) (dSlot 5))) (dNx)))
def F_gaps : M DL.Flow := dSeq (dUn (.tup [.name 2, .name 3]) (dV (dTup (dCons (dV (dC .non)) (dCons (dV (dC .non)) (dNil)))))) 
        (dSeq (dFor itS (.tup [.name 4, .name 5]) (L_gaps_0) (dOne (dSlot 0))) 
        (dRet (dTup (dCons (dSlot 2) (dCons (dSlot 3) (dNil))))))
def F_way_to : M DL.Flow := dSeq (dUn (.tup [.name 2, .name 3]) (dV (dCall 6 [.R, .F] [] F_gaps (dCons (dSlot 0) (dCons (dSlot 1) (dNil)))))) 
        (dSeq (dIf (dB (dOp2 isD (dSlot 2) (dV (dC .non)))) (dRet (dIf (dB (dOp2 isD (dSlot 3) (dV (dC .non)))) (dC .non) (dOp1 negD (dSlot 3)))) (dNx)) 
        (dRet (dIf (dOr (dB (dOp2 isD (dSlot 3) (dV (dC .non)))) (dB (dOp2 leD (dSlot 2) (dSlot 3)))) (dVar 2) (dOp1 negD (dSlot 3)))))
def F_moved : M DL.Flow := dSeq (dAsg 4 (dCallB absD (dCons (dSlot 0) (dNil)))) 
        (dSeq (dIf (dOr (dB (dOp2 eqT (dV (dOp2 addD (dSlot 1) (dSlot 2))) (dV (dC (.int 0))))) (dB (dOp2 leD (dSlot 3) (dV (dOp2 fdivD (dSlot 4) (dV (dOp2 addD (dSlot 1) (dSlot 2)))))))) (dAsg 5 (dOp2 mulD (dSlot 2) (dSlot 3))) (dSeq (dAsg 6 (dOp2 fdivD (dSlot 4) (dV (dOp2 addD (dSlot 1) (dSlot 2))))) 
          (dAsg 5 (dCallB maxD (dCons (dV (dOp2 mulD (dSlot 2) (dSlot 6))) (dCons (dV (dOp2 subD (dSlot 4) (dV (dOp2 mulD (dSlot 1) (dV (dOp2 addD (dSlot 6) (dV (dC (.int 1))))))))) (dNil))))))) 
        (dRet (dIf (dB (dOp2 gtD (dSlot 0) (dV (dC (.int 0))))) (dVar 5) (dOp1 negD (dSlot 5)))))
def F_Shown_at (a_Shown : Addr) : M DL.Flow := dSeq (dAsg 2 (dMeth a_Shown "ticks_to" 2 [.R, .F] [] (F_Shown_ticks_to a_Shown) (dSlot 0) (dCons (dSlot 1) (dNil)))) 
        (dSeq (dUn (.tup [.name 3, .name 4, .name 5]) (dV (dFld a_Shown "c_rules" (dSlot 0)))) 
        (dSeq (dAsg 6 (dCall 4 [.F, .F] [] F_way_to (dCons (dV (dFld a_Shown "c_spans" (dSlot 0))) (dCons (dV (dFld a_Shown "c_value" (dSlot 0))) (dNil))))) 
        (dSeq (dAsg 7 (dIf (dOr (dB (dOp2 isD (dSlot 6) (dV (dC .non)))) (dB (dOp2 eqT (dSlot 6) (dV (dC (.int 0)))))) (dC (.int 0)) (dCall 7 [.F, .F, .F, .F] [] F_moved (dCons (dSlot 6) (dCons (dSlot 3) (dCons (dSlot 4) (dCons (dSlot 2) (dNil)))))))) 
        (dRet (dOp2 addD (dV (dOp2 addD (dV (dFld a_Shown "c_value" (dSlot 0))) (dV (dOp2 mulD (dV (dC (.int 1000))) (dSlot 2))))) (dSlot 7))))))
def L_widened_0 : M DL.Flow := dExpr (dAppend 3 (dV (dTup (dCons (dV (dIf (dB (dOp2 isD (dSlot 4) (dV (dC .non)))) (dC .non) (dOp2 subD (dSlot 4) (dV (dOp2 mulD (dSlot 1) (dSlot 2)))))) (dCons (dV (dIf (dB (dOp2 isD (dSlot 5) (dV (dC .non)))) (dC .non) (dOp2 addD (dSlot 5) (dV (dOp2 mulD (dSlot 1) (dSlot 2)))))) (dNil))))))
def F_widened : M DL.Flow := dSeq (dAsg 3 (dLst (dNil))) 
        (dSeq (dFor itS (.tup [.name 4, .name 5]) (L_widened_0) (dOne (dSlot 0))) 
        (dRetV 3))
def F_Shown_distance (a_Shown : Addr) : M DL.Flow := dSeq (dAsg 2 (dMeth a_Shown "ticks_to" 2 [.R, .F] [] (F_Shown_ticks_to a_Shown) (dSlot 0) (dCons (dSlot 1) (dNil)))) 
        (dSeq (dAsg 3 (dCall 4 [.F, .F] [] F_way_to (dCons (dV (dCall 6 [.F, .F, .F] [] F_widened (dCons (dV (dFld a_Shown "c_spans" (dSlot 0))) (dCons (dV (dOp2 ixD (dV (dFld a_Shown "c_rules" (dSlot 0))) (dV (dC (.int 0))))) (dCons (dSlot 2) (dNil)))))) (dCons (dV (dOp2 subD (dV (dMeth a_Shown "at" 8 [.R, .F] [] (F_Shown_at a_Shown) (dSlot 0) (dCons (dSlot 1) (dNil)))) (dV (dOp2 mulD (dV (dC (.int 1000))) (dSlot 2))))) (dNil))))) 
        (dRet (dIf (dB (dOp2 isD (dSlot 3) (dV (dC .non)))) (dC .non) (dCallB absD (dCons (dSlot 3) (dNil))))))
def F_law_gap : M DL.Flow := dSeq (dAsg 2 (dCall 6 [.F, .F] [] F_law_nearest (dCons (dSlot 1) (dCons (dSlot 0) (dNil))))) 
        (dRet (dIf (dB (dOp2 isD (dSlot 2) (dV (dC .non)))) (dC .non) (dCallB absD (dCons (dV (dOp2 subD (dSlot 2) (dSlot 0))) (dNil)))))
def F_Shown_copy (a_Shown : Addr) : M DL.Flow := dSeq (dUn (.tup [.name 1, .name 2, .name 3]) (dV (dFld a_Shown "c_rules" (dSlot 0)))) 
        (dSeq (dAsg 4 (dMake a_Shown 6 [.F, .F, .F, .F, .F] [] (F_Shown_init a_Shown) (dCons (dSlot 1) (dCons (dSlot 2) (dCons (dSlot 3) (dCons (dV (dFld a_Shown "c_reading" (dSlot 0))) (dCons (dV (dFld a_Shown "c_value" (dSlot 0))) (dNil)))))))) 
        (dSeq (dSetF a_Shown "c_spans" (dSlot 4) (dV (dCallB listD (dCons (dV (dFld a_Shown "c_spans" (dSlot 0))) (dNil))))) 
        (dRetV 4)))
def L_law_spans_0 : M DL.Flow := dSeq (dAsg 5 (dOp2 addD (dSlot 2) (dV (dCall 2 [.F, .F] [] F_law_pick (dCons (dSlot 0) (dCons (dV (dLst (dCons (dV (dC (.int 0))) (dCons (dV (dC (.int 1))) (dCons (dV (dC (.int 50))) (dCons (dV (dC (.int 700))) (dNil))))))) (dNil))))))) 
          (dSeq (dExpr (dAppend 3 (dV (dTup (dCons (dSlot 2) (dCons (dSlot 5) (dNil))))))) 
          (dAsg 2 (dOp2 addD (dV (dOp2 addD (dSlot 5) (dV (dC (.int 2))))) (dV (dCall 2 [.F, .F] [] F_law_pick (dCons (dSlot 0) (dCons (dV (dLst (dCons (dV (dC (.int 0))) (dCons (dV (dC (.int 1))) (dCons (dV (dC (.int 10))) (dCons (dV (dC (.int 200))) (dCons (dV (dC (.int 3000))) (dNil)))))))) (dNil))))))))
def F_law_spans : M DL.Flow := dSeq (dIf (dB (dOp2 eqT (dV (dCall 4 [.F, .F] [] F_law_take (dCons (dSlot 0) (dCons (dV (dC (.int 6))) (dNil))))) (dV (dC (.int 0))))) (dRet (dLst (dNil))) (dNx)) 
        (dSeq (dPar 2 3 (dCons (dV (dOp2 subD (dV (dOp2 addD (dSlot 1) (dV (dCall 2 [.F, .F] [] F_law_pick (dCons (dSlot 0) (dCons (dV (dLst (dCons (dV (dOp1 negD (dV (dC (.int 3000))))) (dCons (dV (dOp1 negD (dV (dC (.int 500))))) (dCons (dV (dOp1 negD (dV (dC (.int 40))))) (dCons (dV (dC (.int 0))) (dCons (dV (dC (.int 1))) (dCons (dV (dC (.int 30))) (dCons (dV (dC (.int 900))) (dCons (dV (dC (.int 4000))) (dNil))))))))))) (dNil))))))) (dV (dCall 4 [.F, .F] [] F_law_take (dCons (dSlot 0) (dCons (dV (dC (.int 60))) (dNil))))))) (dCons (dV (dLst (dNil))) (dNil)))) 
        (dSeq (dFor itR1 (.name 4) (L_law_spans_0) (dCons (dV (dOp2 addD (dV (dC (.int 1))) (dV (dCall 4 [.F, .F] [] F_law_take (dCons (dSlot 0) (dCons (dV (dC (.int 3))) (dNil))))))) (dNil))) 
        (dSeq (dIf (dB (dOp2 eqT (dV (dCall 4 [.F, .F] [] F_law_take (dCons (dSlot 0) (dCons (dV (dC (.int 5))) (dNil))))) (dV (dC (.int 0))))) (dSub 3 (dV (dTup (dCons (dV (dC .non)) (dCons (dV (dOp2 ixD (dV (dOp2 ixD (dSlot 3) (dV (dC (.int 0))))) (dV (dC (.int 1))))) (dNil))))) (dV (dC (.int 0)))) (dNx)) 
        (dSeq (dIf (dB (dOp2 eqT (dV (dCall 4 [.F, .F] [] F_law_take (dCons (dSlot 0) (dCons (dV (dC (.int 5))) (dNil))))) (dV (dC (.int 0))))) (dSub 3 (dV (dTup (dCons (dV (dOp2 ixD (dV (dOp2 ixD (dSlot 3) (dV (dOp1 negD (dV (dC (.int 1))))))) (dV (dC (.int 0))))) (dCons (dV (dC .non)) (dNil))))) (dV (dOp1 negD (dV (dC (.int 1)))))) (dNx)) 
        (dRetV 3)))))
def F_is_list : M DL.Flow := dRet (dIsi [.list, .tuple] (dSlot 0))
def F_is_end : M DL.Flow := dRet (dOrV (dOp2 isD (dSlot 0) (dV (dC .non))) (dCall 1 [.F] [] F_is_integer (dCons (dSlot 0) (dNil))))
def L_are_spans_0 : M DL.Flow := dSeq (dIf (dOr (dNot (dB (dIsi [.tuple] (dSlot 2)))) (dOr (dB (dOp2 neT (dV (dCallB lenD (dCons (dSlot 2) (dNil)))) (dV (dC (.int 2))))) (dOr (dNot (dB (dCall 1 [.F] [] F_is_end (dCons (dV (dOp2 ixD (dSlot 2) (dV (dC (.int 0))))) (dNil))))) (dNot (dB (dCall 1 [.F] [] F_is_end (dCons (dV (dOp2 ixD (dSlot 2) (dV (dC (.int 1))))) (dNil)))))))) (dRet (dC (.bl false))) (dNx)) 
          (dSeq (dUn (.tup [.name 3, .name 4]) (dSlot 2)) 
          (dSeq (dIf (dOr (dAnd (dB (dOp2 isD (dSlot 3) (dV (dC .non)))) (dB (dOp2 gtD (dSlot 1) (dV (dC (.int 0)))))) (dAnd (dB (dOp2 isD (dSlot 4) (dV (dC .non)))) (dB (dOp2 ltD (dV (dOp2 addD (dSlot 1) (dV (dC (.int 1))))) (dV (dCallB lenD (dCons (dSlot 0) (dNil)))))))) (dRet (dC (.bl false))) (dNx)) 
          (dIf (dAnd (dB (dOp2 isNotD (dSlot 3) (dV (dC .non)))) (dAnd (dB (dOp2 isNotD (dSlot 4) (dV (dC .non)))) (dB (dOp2 gtD (dSlot 3) (dSlot 4))))) (dRet (dC (.bl false))) (dNx))))
def F_are_spans : M DL.Flow := dSeq (dIf (dNot (dB (dCall 1 [.R] [] F_is_list (dCons (dSlot 0) (dNil))))) (dRet (dC (.bl false))) (dNx)) 
        (dSeq (dFor itE (.tup [.name 1, .name 2]) (L_are_spans_0) (dCons (dSlot 0) (dNil))) 
        (dRet (dCallB allD (dCons (dV (dComp itZ (.tup [.name 5, .name 6]) [5, 6] (dYes) (dV (dOp2 ltD (dV (dOp2 addD (dV (dOp2 ixD (dSlot 5) (dV (dC (.int 1))))) (dV (dC (.int 1))))) (dV (dOp2 ixD (dSlot 6) (dV (dC (.int 0))))))) (dCons (dSlot 0) (dCons (dV (dSlice (dSlot 0) (dPart (dC (.int 1))) (dNoPart))) (dNil))))) (dNil)))))
def F_Shown_learn (a_Shown : Addr) : M DL.Flow := dSeq (dExpr (dMeth a_Shown "ticks_to" 2 [.R, .F] [] (F_Shown_ticks_to a_Shown) (dSlot 0) (dCons (dSlot 1) (dNil)))) 
        (dSeq (dIf (dNot (dB (dCall 7 [.R] [] F_are_spans (dCons (dSlot 2) (dNil))))) (M.bad) (dNx)) 
        (dSeq (dAsg 3 (dMeth a_Shown "at" 8 [.R, .F] [] (F_Shown_at a_Shown) (dSlot 0) (dCons (dSlot 1) (dNil)))) 
        (dSeq (dAsg 4 (dCall 4 [.R, .F] [] F_way_to (dCons (dSlot 2) (dCons (dSlot 3) (dNil))))) 
        (dSeq (dAsg 5 (dIf (dAnd (dB (dOp2 isNotD (dSlot 4) (dV (dC .non)))) (dB (dOp2 gtD (dSlot 4) (dV (dOp2 ixD (dV (dFld a_Shown "c_rules" (dSlot 0))) (dV (dC (.int 2)))))))) (dVar 4) (dC (.int 0)))) 
        (dSeq (dSetF a_Shown "c_reading" (dSlot 0) (dSlot 1)) 
        (dSeq (dSetF a_Shown "c_value" (dSlot 0) (dV (dOp2 addD (dSlot 3) (dSlot 5)))) 
        (dSeq (dSetF a_Shown "c_spans" (dSlot 0) (dV (dCallB listD (dCons (dSlot 2) (dNil))))) 
        (dRetV 5))))))))
def L_law_0 (a_Shown : Addr) : M DL.Flow := dSeq (dAsg 13 (dCall 7 [.F, .F, .F, .F, .F] [] F_law_later (dCons (dSlot 7) (dCons (dSlot 9) (dCons (dSlot 3) (dCons (dSlot 4) (dCons (dSlot 12) (dNil)))))))) 
              (dSeq (dIf (dB (dOp2 neS (dV (dCallB reprD (dCons (dV (dMeth a_Shown "at" 8 [.R, .F] [] (F_Shown_at a_Shown) (dSlot 8) (dCons (dV (dOp2 addD (dSlot 6) (dSlot 12))) (dNil)))) (dNil)))) (dV (dCallB reprD (dCons (dSlot 13) (dNil)))))) (dRet (dC (.bl false))) (dNx)) 
              (dIf (dB (dOp2 neS (dV (dCallB reprD (dCons (dV (dMeth a_Shown "distance" 4 [.R, .F] [] (F_Shown_distance a_Shown) (dSlot 8) (dPick [0] (dCons (dV (dOp2 addD (dSlot 6) (dSlot 12))) (dNil))))) (dNil)))) (dV (dCallB reprD (dCons (dV (dCall 3 [.F, .F] [] F_law_gap (dCons (dSlot 13) (dCons (dV (dCall 7 [.F, .F, .F] [] F_law_wide (dCons (dSlot 9) (dCons (dSlot 3) (dCons (dSlot 12) (dNil)))))) (dNil))))) (dNil)))))) (dRet (dC (.bl false))) (dNx)))
def L_law_1 (a_Shown : Addr) : M DL.Flow := dSeq (dAsg 11 (dCall 4 [.F, .F] [] F_law_take (dCons (dSlot 1) (dCons (dV (dC (.int 41))) (dNil))))) 
            (dSeq (dFor itR1 (.name 12) ((L_law_0 a_Shown)) (dCons (dV (dOp2 addD (dSlot 11) (dV (dC (.int 1))))) (dNil))) 
            (dSeq (dPar3 14 7 6 (dCons (dV (dMeth a_Shown "copy" 5 [.R] [] (F_Shown_copy a_Shown) (dSlot 8) dNil')) (dCons (dV (dCall 7 [.F, .F, .F, .F, .F] [] F_law_later (dCons (dSlot 7) (dCons (dSlot 9) (dCons (dSlot 3) (dCons (dSlot 4) (dCons (dSlot 11) (dNil)))))))) (dCons (dV (dOp2 addD (dSlot 6) (dSlot 11))) (dNil))))) 
            (dSeq (dAsg 9 (dCall 6 [.F, .F] [] F_law_spans (dCons (dSlot 1) (dCons (dSlot 7) (dNil))))) 
            (dSeq (dPar 15 16 (dCons (dV (dCall 6 [.F, .F] [] F_law_nearest (dCons (dSlot 9) (dCons (dSlot 7) (dNil))))) (dCons (dV (dCallB listD (dCons (dSlot 9) (dNil)))) (dNil)))) 
            (dSeq (dAsg 17 (dIf (dAnd (dB (dOp2 isNotD (dSlot 15) (dV (dC .non)))) (dB (dOp2 gtD (dV (dOp2 subD (dSlot 15) (dSlot 7))) (dSlot 5)))) (dOp2 subD (dSlot 15) (dSlot 7)) (dC (.int 0)))) 
            (dSeq (dIf (dOr (dB (dOp2 neS (dV (dCallB reprD (dCons (dV (dMeth a_Shown "learn" 6 [.L, .F, .R] [] (F_Shown_learn a_Shown) (dSlot 8) (dPick [1, 0] (dCons (dSlot 16) (dCons (dSlot 6) (dNil)))))) (dNil)))) (dV (dCallB reprD (dCons (dSlot 17) (dNil)))))) (dB (dOp2 neS (dV (dCallB reprD (dCons (dV (dMeth a_Shown "at" 8 [.R, .F] [] (F_Shown_at a_Shown) (dSlot 14) (dCons (dSlot 6) (dNil)))) (dNil)))) (dV (dCallB reprD (dCons (dSlot 7) (dNil))))))) (dRet (dC (.bl false))) (dNx)) 
            (dSeq (dAsg 7 (dOp2 addD (dSlot 7) (dSlot 17))) 
            (dSeq (dExpr (dClear 16)) 
            (dSeq (dIf (dB (dOp2 neS (dV (dCallB reprD (dCons (dV (dTup (dCons (dV (dProp a_Shown 1 .R (F_Shown_reading a_Shown) (dSlot 8))) (dCons (dV (dProp a_Shown 1 .R (F_Shown_value a_Shown) (dSlot 8))) (dCons (dV (dProp a_Shown 1 .R (F_Shown_spans a_Shown) (dSlot 8))) (dNil)))))) (dNil)))) (dV (dCallB reprD (dCons (dV (dTup (dCons (dSlot 6) (dCons (dSlot 7) (dCons (dSlot 9) (dNil)))))) (dNil)))))) (dRet (dC (.bl false))) (dNx)) 
            (dSeq (dExpr (dAppT (dV (dProp a_Shown 1 .R (F_Shown_spans a_Shown) (dSlot 8))) (dV (dTup (dCons (dV (dC (.int 1))) (dCons (dV (dC (.int 2))) (dNil))))))) 
            (dIf (dOr (dB (dOp2 neT (dV (dMeth a_Shown "learn" 6 [.L, .F, .F] [] (F_Shown_learn a_Shown) (dSlot 14) (dCons (dSlot 6) (dCons (dV (dLst (dNil))) (dNil))))) (dV (dC (.int 0))))) (dB (dOp2 neT (dV (dProp a_Shown 1 .R (F_Shown_spans a_Shown) (dSlot 8))) (dSlot 9)))) (dRet (dC (.bl false))) (dNx))))))))))))
def L_law_2 (a_Shown : Addr) : M DL.Flow := dSeq (dPar 3 4 (dCons (dV (dCall 2 [.F, .F] [] F_law_pick (dCons (dSlot 1) (dCons (dV (dLst (dCons (dV (dC (.int 0))) (dCons (dV (dC (.int 1))) (dCons (dV (dC (.int 50))) (dCons (dV (dC (.int 500))) (dNil))))))) (dNil))))) (dCons (dV (dCall 2 [.F, .F] [] F_law_pick (dCons (dSlot 1) (dCons (dV (dLst (dCons (dV (dC (.int 0))) (dCons (dV (dC (.int 1))) (dCons (dV (dC (.int 10))) (dCons (dV (dC (.int 300))) (dCons (dV (dC (.int 900))) (dNil)))))))) (dNil))))) (dNil)))) 
          (dSeq (dPar3 5 6 7 (dCons (dV (dCall 2 [.F, .F] [] F_law_pick (dCons (dSlot 1) (dCons (dV (dLst (dCons (dV (dC (.int 0))) (dCons (dV (dC (.int 1))) (dCons (dV (dC (.int 100))) (dCons (dV (dOp2 powD (dV (dC (.int 10))) (dV (dC (.int 9))))) (dNil))))))) (dNil))))) (dCons (dV (dCall 4 [.F, .F] [] F_law_take (dCons (dSlot 1) (dCons (dV (dC (.int 50))) (dNil))))) (dCons (dV (dOp2 subD (dV (dCall 4 [.F, .F] [] F_law_take (dCons (dSlot 1) (dCons (dV (dC (.int 9000))) (dNil))))) (dV (dC (.int 4000))))) (dNil))))) 
          (dSeq (dPar 8 9 (dCons (dV (dMake a_Shown 6 [.F, .F, .F, .F, .F] [] (F_Shown_init a_Shown) (dPick [4, 3, 2, 1, 0] (dCons (dSlot 7) (dCons (dSlot 6) (dCons (dSlot 5) (dCons (dSlot 4) (dCons (dSlot 3) (dNil))))))))) (dCons (dV (dLst (dNil))) (dNil)))) 
          (dSeq (dIf (dB (dOp2 neS (dV (dCallB reprD (dCons (dV (dTup (dCons (dV (dProp a_Shown 1 .R (F_Shown_reading a_Shown) (dSlot 8))) (dCons (dV (dProp a_Shown 1 .R (F_Shown_value a_Shown) (dSlot 8))) (dCons (dV (dProp a_Shown 1 .R (F_Shown_spans a_Shown) (dSlot 8))) (dNil)))))) (dNil)))) (dV (dCallB reprD (dCons (dV (dTup (dCons (dSlot 6) (dCons (dSlot 7) (dCons (dV (dLst (dNil))) (dNil)))))) (dNil)))))) (dRet (dC (.bl false))) (dNx)) 
          (dFor itR1 (.name 10) ((L_law_1 a_Shown)) (dCons (dV (dOp2 addD (dV (dC (.int 1))) (dV (dCall 4 [.F, .F] [] F_law_take (dCons (dSlot 1) (dCons (dV (dC (.int 5))) (dNil))))))) (dNil))))))
def F_law (a_Shown : Addr) : M DL.Flow := dSeq (dFor itR1 (.name 2) ((L_law_2 a_Shown)) (dCons (dV (dOp2 addD (dV (dC (.int 3))) (dV (dCallB minD (dCons (dV (dCallB lenD (dCons (dSlot 0) (dNil)))) (dCons (dV (dC (.int 8))) (dNil))))))) (dNil))) 
        (dRet (dC (.bl true)))
end Law

set_option Elab.async false
set_option linter.all false
set_option maxRecDepth 100000
set_option maxHeartbeats 4000000
/-! the derivations of 43 (printed by gen.py) -/
namespace Law
open PySem PySem.Spec PyProof.Rows L2 DL

def topS (i : Nat) : Stmt := PySem.Challenge.pw_surehour_k43_shown_clocks_tick_by_tick.main.body.getD i (.Pass ⟨0, 0, 0, 0⟩)
abbrev s_law_begin : Stmt := topS 22
theorem sc_law_begin : FnScope ["_law_script", "_law_large", "_law_cell"] ["_law_script"] (defScope s_law_begin) := ⟨rfl, rfl, rfl, by decide +kernel, rfl, by decide +kernel, by decide +kernel⟩
abbrev s_law_take : Stmt := topS 23
theorem sc_law_take : FnScope ["_law_draw", "_law_size", "_law_cell", "_law_found"] ["_law_draw", "_law_size"] (defScope s_law_take) := ⟨rfl, rfl, rfl, by decide +kernel, rfl, by decide +kernel, by decide +kernel⟩
abbrev s_law_pick : Stmt := topS 24
theorem sc_law_pick : FnScope ["_law_draw", "_law_some"] ["_law_draw", "_law_some"] (defScope s_law_pick) := ⟨rfl, rfl, rfl, by decide +kernel, rfl, by decide +kernel, by decide +kernel⟩
abbrev s_is_between : Stmt := topS 8
theorem sc_is_between : FnScope ["value", "least", "most"] ["value", "least", "most"] (defScope s_is_between) := ⟨rfl, rfl, rfl, by decide +kernel, rfl, by decide +kernel, by decide +kernel⟩
abbrev s_is_integer : Stmt := topS 9
theorem sc_is_integer : FnScope ["value"] ["value"] (defScope s_is_integer) := ⟨rfl, rfl, rfl, by decide +kernel, rfl, by decide +kernel, by decide +kernel⟩
abbrev s_Shown_init : Stmt := inClass (topS 20) 0
theorem sc_Shown_init : FnScope ["self", "drift", "slew", "jump", "reading", "value"] ["self", "drift", "slew", "jump", "reading", "value"] (defScope s_Shown_init) := ⟨rfl, rfl, rfl, by decide +kernel, rfl, by decide +kernel, by decide +kernel⟩
abbrev s_Shown_reading : Stmt := inClass (topS 20) 1
theorem sc_Shown_reading : FnScope ["self"] ["self"] (defScope s_Shown_reading) := ⟨rfl, rfl, rfl, by decide +kernel, rfl, by decide +kernel, by decide +kernel⟩
abbrev s_Shown_value : Stmt := inClass (topS 20) 2
theorem sc_Shown_value : FnScope ["self"] ["self"] (defScope s_Shown_value) := ⟨rfl, rfl, rfl, by decide +kernel, rfl, by decide +kernel, by decide +kernel⟩
abbrev s_Shown_spans : Stmt := inClass (topS 20) 3
theorem sc_Shown_spans : FnScope ["self"] ["self"] (defScope s_Shown_spans) := ⟨rfl, rfl, rfl, by decide +kernel, rfl, by decide +kernel, by decide +kernel⟩
abbrev s_law_nearest : Stmt := topS 27
theorem sc_law_nearest : FnScope ["_law_ranges", "_law_dot", "_law_best", "_law_low", "_law_high", "_law_near"] ["_law_ranges", "_law_dot"] (defScope s_law_nearest) := ⟨rfl, rfl, rfl, by decide +kernel, rfl, by decide +kernel, by decide +kernel⟩
abbrev s_law_wide : Stmt := topS 26
theorem sc_law_wide : FnScope ["_law_ranges", "_law_lean", "_law_more", "_law_found", "_law_low", "_law_high", "_law_left"] ["_law_ranges", "_law_lean", "_law_more"] (defScope s_law_wide) := ⟨rfl, rfl, rfl, by decide +kernel, rfl, by decide +kernel, by decide +kernel⟩
abbrev s_law_later : Stmt := topS 28
theorem sc_law_later : FnScope ["_law_dot", "_law_ranges", "_law_lean", "_law_slide", "_law_ticks", "_law_more", "_law_near"] ["_law_dot", "_law_ranges", "_law_lean", "_law_slide", "_law_ticks"] (defScope s_law_later) := ⟨rfl, rfl, rfl, by decide +kernel, rfl, by decide +kernel, by decide +kernel⟩
abbrev s_Shown_ticks_to : Stmt := inClass (topS 20) 5
theorem sc_Shown_ticks_to : FnScope ["self", "reading"] ["self", "reading"] (defScope s_Shown_ticks_to) := ⟨rfl, rfl, rfl, by decide +kernel, rfl, by decide +kernel, by decide +kernel⟩
abbrev s_gaps : Stmt := topS 17
theorem sc_gaps : FnScope ["spans", "value", "below", "above", "low", "high"] ["spans", "value"] (defScope s_gaps) := ⟨rfl, rfl, rfl, by decide +kernel, rfl, by decide +kernel, by decide +kernel⟩
abbrev s_way_to : Stmt := topS 18
theorem sc_way_to : FnScope ["spans", "value", "below", "above"] ["spans", "value"] (defScope s_way_to) := ⟨rfl, rfl, rfl, by decide +kernel, rfl, by decide +kernel, by decide +kernel⟩
abbrev s_moved : Stmt := topS 19
theorem sc_moved : FnScope ["way", "drift", "slew", "ticks", "far", "found", "full"] ["way", "drift", "slew", "ticks"] (defScope s_moved) := ⟨rfl, rfl, rfl, by decide +kernel, rfl, by decide +kernel, by decide +kernel⟩
abbrev s_Shown_at : Stmt := inClass (topS 20) 6
theorem sc_Shown_at : FnScope ["self", "reading", "ticks", "drift", "slew", "jump", "way", "more"] ["self", "reading"] (defScope s_Shown_at) := ⟨rfl, rfl, rfl, by decide +kernel, rfl, by decide +kernel, by decide +kernel⟩
abbrev s_widened : Stmt := topS 16
theorem sc_widened : FnScope ["spans", "drift", "ticks", "found", "low", "high"] ["spans", "drift", "ticks"] (defScope s_widened) := ⟨rfl, rfl, rfl, by decide +kernel, rfl, by decide +kernel, by decide +kernel⟩
abbrev s_Shown_distance : Stmt := inClass (topS 20) 8
theorem sc_Shown_distance : FnScope ["self", "reading", "ticks", "way"] ["self", "reading"] (defScope s_Shown_distance) := ⟨rfl, rfl, rfl, by decide +kernel, rfl, by decide +kernel, by decide +kernel⟩
abbrev s_law_gap : Stmt := topS 29
theorem sc_law_gap : FnScope ["_law_dot", "_law_ranges", "_law_near"] ["_law_dot", "_law_ranges"] (defScope s_law_gap) := ⟨rfl, rfl, rfl, by decide +kernel, rfl, by decide +kernel, by decide +kernel⟩
abbrev s_Shown_copy : Stmt := inClass (topS 20) 4
theorem sc_Shown_copy : FnScope ["self", "drift", "slew", "jump", "found"] ["self"] (defScope s_Shown_copy) := ⟨rfl, rfl, rfl, by decide +kernel, rfl, by decide +kernel, by decide +kernel⟩
abbrev s_law_spans : Stmt := topS 25
theorem sc_law_spans : FnScope ["_law_draw", "_law_dot", "_law_low", "_law_found", "_law_k", "_law_high"] ["_law_draw", "_law_dot"] (defScope s_law_spans) := ⟨rfl, rfl, rfl, by decide +kernel, rfl, by decide +kernel, by decide +kernel⟩
abbrev s_is_list : Stmt := topS 10
theorem sc_is_list : FnScope ["value"] ["value"] (defScope s_is_list) := ⟨rfl, rfl, rfl, by decide +kernel, rfl, by decide +kernel, by decide +kernel⟩
abbrev s_is_end : Stmt := topS 14
theorem sc_is_end : FnScope ["value"] ["value"] (defScope s_is_end) := ⟨rfl, rfl, rfl, by decide +kernel, rfl, by decide +kernel, by decide +kernel⟩
abbrev s_are_spans : Stmt := topS 15
theorem sc_are_spans : FnScope ["value", "at", "span", "low", "high", "one", "other"] ["value"] (defScope s_are_spans) := ⟨rfl, rfl, rfl, by decide +kernel, rfl, by decide +kernel, by decide +kernel⟩
abbrev s_Shown_learn : Stmt := inClass (topS 20) 7
theorem sc_Shown_learn : FnScope ["self", "reading", "spans", "value", "way", "step"] ["self", "reading", "spans"] (defScope s_Shown_learn) := ⟨rfl, rfl, rfl, by decide +kernel, rfl, by decide +kernel, by decide +kernel⟩
abbrev s_law : Stmt := topS 30
theorem sc_law : FnScope ["_law_script", "_law_draw", "_law_turn", "_law_lean", "_law_slide", "_law_leap", "_law_tick", "_law_dot", "_law_made", "_law_ranges", "_law_k", "_law_ticks", "_law_more", "_law_due", "_law_twin", "_law_near", "_law_given", "_law_step"] ["_law_script"] (defScope s_law) := ⟨rfl, rfl, rfl, by decide +kernel, rfl, by decide +kernel, by decide +kernel⟩
structure Txt (K : PySem.W.Frag) (mg : Str → Option Value) : Type where
  z_abs : mg "abs" = none
  z_list : mg "list" = none
  z_range : mg "range" = none
  z_len : mg "len" = none
  z_min : mg "min" = none
  z_int : mg "int" = none
  z_divmod : mg "divmod" = none
  z_isinstance : mg "isinstance" = none
  z_bool : mg "bool" = none
  z_repr : mg "repr" = none
  z_max : mg "max" = none
  z_tuple : mg "tuple" = none
  z_enumerate : mg "enumerate" = none
  z_zip : mg "zip" = none
  z_all : mg "all" = none
  t_MOST_SLEW : Tok
  g_MOST_SLEW : mg "MOST_SLEW" = some (.int 900 t_MOST_SLEW)
  t_MOST_DRIFT : Tok
  g_MOST_DRIFT : mg "MOST_DRIFT" = some (.int 500 t_MOST_DRIFT)
  t_MOST_READING : Tok
  g_MOST_READING : mg "MOST_READING" = some (.int 1000000000 t_MOST_READING)
  t_EXACT : Tok
  g_EXACT : mg "EXACT" = some (.int 1000 t_EXACT)
  a_Shown : Addr
  m_Shown : mg "Shown" = some (.ref a_Shown)
  c_Shown : Cls K a_Shown
  n_Shown_c_reading : NoAttr K a_Shown "c_reading"
  n_Shown_c_rules : NoAttr K a_Shown "c_rules"
  n_Shown_c_spans : NoAttr K a_Shown "c_spans"
  n_Shown_c_value : NoAttr K a_Shown "c_value"
  a_f_law_begin : Addr
  d_law_begin : FuncData
  F_law_begin : Fun K "_law_begin" "_law_begin" s_law_begin a_f_law_begin d_law_begin
  b_law_begin : Binds K d_law_begin ["_law_script"] []
  m_law_begin : mg "_law_begin" = some (.ref a_f_law_begin)
  a_f_law_take : Addr
  d_law_take : FuncData
  F_law_take : Fun K "_law_take" "_law_take" s_law_take a_f_law_take d_law_take
  b_law_take : Binds K d_law_take ["_law_draw", "_law_size"] []
  m_law_take : mg "_law_take" = some (.ref a_f_law_take)
  a_f_law_pick : Addr
  d_law_pick : FuncData
  F_law_pick : Fun K "_law_pick" "_law_pick" s_law_pick a_f_law_pick d_law_pick
  b_law_pick : Binds K d_law_pick ["_law_draw", "_law_some"] []
  m_law_pick : mg "_law_pick" = some (.ref a_f_law_pick)
  a_f_is_between : Addr
  d_is_between : FuncData
  F_is_between : Fun K "is_between" "is_between" s_is_between a_f_is_between d_is_between
  b_is_between : Binds K d_is_between ["value", "least", "most"] []
  m_is_between : mg "is_between" = some (.ref a_f_is_between)
  a_f_is_integer : Addr
  d_is_integer : FuncData
  F_is_integer : Fun K "is_integer" "is_integer" s_is_integer a_f_is_integer d_is_integer
  b_is_integer : Binds K d_is_integer ["value"] []
  m_is_integer : mg "is_integer" = some (.ref a_f_is_integer)
  a_f_Shown_init : Addr
  d_Shown_init : FuncData
  F_Shown_init : Fun K "__init__" "Shown.__init__" s_Shown_init a_f_Shown_init d_Shown_init
  b_Shown_init : Binds K d_Shown_init ["self", "drift", "slew", "jump", "reading", "value"] []
  w0_Shown_init : KwB K d_Shown_init ["self", "drift", "slew", "jump", "reading", "value"] 1 ["value", "reading", "jump", "slew", "drift"] [4, 3, 2, 1, 0]
  k_Shown : Mk K a_Shown a_f_Shown_init
  a_f_Shown_reading : Addr
  d_Shown_reading : FuncData
  F_Shown_reading : Fun K "reading" "Shown.reading" s_Shown_reading a_f_Shown_reading d_Shown_reading
  b_Shown_reading : Binds K d_Shown_reading ["self"] []
  p_Shown_reading : Addr
  P_Shown_reading : PropOf K a_Shown "reading" p_Shown_reading a_f_Shown_reading
  a_f_Shown_value : Addr
  d_Shown_value : FuncData
  F_Shown_value : Fun K "value" "Shown.value" s_Shown_value a_f_Shown_value d_Shown_value
  b_Shown_value : Binds K d_Shown_value ["self"] []
  p_Shown_value : Addr
  P_Shown_value : PropOf K a_Shown "value" p_Shown_value a_f_Shown_value
  a_f_Shown_spans : Addr
  d_Shown_spans : FuncData
  F_Shown_spans : Fun K "spans" "Shown.spans" s_Shown_spans a_f_Shown_spans d_Shown_spans
  b_Shown_spans : Binds K d_Shown_spans ["self"] []
  p_Shown_spans : Addr
  P_Shown_spans : PropOf K a_Shown "spans" p_Shown_spans a_f_Shown_spans
  a_f_law_nearest : Addr
  d_law_nearest : FuncData
  F_law_nearest : Fun K "_law_nearest" "_law_nearest" s_law_nearest a_f_law_nearest d_law_nearest
  b_law_nearest : Binds K d_law_nearest ["_law_ranges", "_law_dot"] []
  m_law_nearest : mg "_law_nearest" = some (.ref a_f_law_nearest)
  a_f_law_wide : Addr
  d_law_wide : FuncData
  F_law_wide : Fun K "_law_wide" "_law_wide" s_law_wide a_f_law_wide d_law_wide
  b_law_wide : Binds K d_law_wide ["_law_ranges", "_law_lean", "_law_more"] []
  m_law_wide : mg "_law_wide" = some (.ref a_f_law_wide)
  a_f_law_later : Addr
  d_law_later : FuncData
  F_law_later : Fun K "_law_later" "_law_later" s_law_later a_f_law_later d_law_later
  b_law_later : Binds K d_law_later ["_law_dot", "_law_ranges", "_law_lean", "_law_slide", "_law_ticks"] []
  m_law_later : mg "_law_later" = some (.ref a_f_law_later)
  a_f_Shown_ticks_to : Addr
  d_Shown_ticks_to : FuncData
  F_Shown_ticks_to : Fun K "ticks_to" "Shown.ticks_to" s_Shown_ticks_to a_f_Shown_ticks_to d_Shown_ticks_to
  b_Shown_ticks_to : Binds K d_Shown_ticks_to ["self", "reading"] []
  M_Shown_ticks_to : Meth K a_Shown "ticks_to" a_f_Shown_ticks_to
  a_f_gaps : Addr
  d_gaps : FuncData
  F_gaps : Fun K "gaps" "gaps" s_gaps a_f_gaps d_gaps
  b_gaps : Binds K d_gaps ["spans", "value"] []
  m_gaps : mg "gaps" = some (.ref a_f_gaps)
  a_f_way_to : Addr
  d_way_to : FuncData
  F_way_to : Fun K "way_to" "way_to" s_way_to a_f_way_to d_way_to
  b_way_to : Binds K d_way_to ["spans", "value"] []
  m_way_to : mg "way_to" = some (.ref a_f_way_to)
  a_f_moved : Addr
  d_moved : FuncData
  F_moved : Fun K "moved" "moved" s_moved a_f_moved d_moved
  b_moved : Binds K d_moved ["way", "drift", "slew", "ticks"] []
  m_moved : mg "moved" = some (.ref a_f_moved)
  a_f_Shown_at : Addr
  d_Shown_at : FuncData
  F_Shown_at : Fun K "at" "Shown.at" s_Shown_at a_f_Shown_at d_Shown_at
  b_Shown_at : Binds K d_Shown_at ["self", "reading"] []
  M_Shown_at : Meth K a_Shown "at" a_f_Shown_at
  a_f_widened : Addr
  d_widened : FuncData
  F_widened : Fun K "widened" "widened" s_widened a_f_widened d_widened
  b_widened : Binds K d_widened ["spans", "drift", "ticks"] []
  m_widened : mg "widened" = some (.ref a_f_widened)
  a_f_Shown_distance : Addr
  d_Shown_distance : FuncData
  F_Shown_distance : Fun K "distance" "Shown.distance" s_Shown_distance a_f_Shown_distance d_Shown_distance
  b_Shown_distance : Binds K d_Shown_distance ["self", "reading"] []
  w0_Shown_distance : KwB K d_Shown_distance ["self", "reading"] 1 ["reading"] [0]
  M_Shown_distance : Meth K a_Shown "distance" a_f_Shown_distance
  a_f_law_gap : Addr
  d_law_gap : FuncData
  F_law_gap : Fun K "_law_gap" "_law_gap" s_law_gap a_f_law_gap d_law_gap
  b_law_gap : Binds K d_law_gap ["_law_dot", "_law_ranges"] []
  m_law_gap : mg "_law_gap" = some (.ref a_f_law_gap)
  a_f_Shown_copy : Addr
  d_Shown_copy : FuncData
  F_Shown_copy : Fun K "copy" "Shown.copy" s_Shown_copy a_f_Shown_copy d_Shown_copy
  b_Shown_copy : Binds K d_Shown_copy ["self"] []
  M_Shown_copy : Meth K a_Shown "copy" a_f_Shown_copy
  a_f_law_spans : Addr
  d_law_spans : FuncData
  F_law_spans : Fun K "_law_spans" "_law_spans" s_law_spans a_f_law_spans d_law_spans
  b_law_spans : Binds K d_law_spans ["_law_draw", "_law_dot"] []
  m_law_spans : mg "_law_spans" = some (.ref a_f_law_spans)
  a_f_is_list : Addr
  d_is_list : FuncData
  F_is_list : Fun K "is_list" "is_list" s_is_list a_f_is_list d_is_list
  b_is_list : Binds K d_is_list ["value"] []
  m_is_list : mg "is_list" = some (.ref a_f_is_list)
  a_f_is_end : Addr
  d_is_end : FuncData
  F_is_end : Fun K "is_end" "is_end" s_is_end a_f_is_end d_is_end
  b_is_end : Binds K d_is_end ["value"] []
  m_is_end : mg "is_end" = some (.ref a_f_is_end)
  a_f_are_spans : Addr
  d_are_spans : FuncData
  F_are_spans : Fun K "are_spans" "are_spans" s_are_spans a_f_are_spans d_are_spans
  b_are_spans : Binds K d_are_spans ["value"] []
  m_are_spans : mg "are_spans" = some (.ref a_f_are_spans)
  a_f_Shown_learn : Addr
  d_Shown_learn : FuncData
  F_Shown_learn : Fun K "learn" "Shown.learn" s_Shown_learn a_f_Shown_learn d_Shown_learn
  b_Shown_learn : Binds K d_Shown_learn ["self", "reading", "spans"] []
  w0_Shown_learn : KwB K d_Shown_learn ["self", "reading", "spans"] 1 ["spans", "reading"] [1, 0]
  M_Shown_learn : Meth K a_Shown "learn" a_f_Shown_learn
  a_f_law : Addr
  d_law : FuncData
  F_law : Fun K "law" "law" s_law a_f_law d_law
  b_law : Binds K d_law ["_law_script"] []
  m_law : mg "law" = some (.ref a_f_law)
section
variable {P : Program} {w : World} {K : PySem.W.Frag} {mg : Str → Option Value} {base : Heap}
theorem ok_law_begin (T : Txt K mg) : DL.FnOk P w K mg base (L2.CX P w) 1 T.a_f_law_begin T.d_law_begin ["_law_script"] (spBegin K) := by
  refine T.F_law_begin.okG sc_law_begin (fun vs H Q E h => ?_) (fun cdv A outer s H vs Q E hr h => ?_)
  · obtain ⟨a, ns, rfl, _⟩ := h
    rfl
  · have B : Bd (cxOf (L2.CX P w) P w K mg base ["_law_script", "_law_large", "_law_cell"] "_law_begin" (defScope s_law_begin) T.a_f_law_begin cdv A outer s H E) (fun cls d _ H' => E cls d H') 0 := ⟨rfl, hr, takes_of rfl rfl rfl rfl, passes_of rfl, sc_law_begin.nd⟩
    refine ⟨_, pss_cons (ds_setLc (Wx := fun cls d _ H' => E cls d H') (i := 1) (own := [("_law_cell", 2)]) ⟨B, blkOk_by (N := ["_law_script", "_law_large", "_law_cell"]) (sc := defScope s_law_begin) (own := [("_law_cell", 2)]) (by decide +kernel), fun _ _ _ _ _ B => dg_name (i := 2) B.nd (by rfl) (by first | exact Or.inl rfl | exact Or.inr rfl), fun _ _ _ _ _ B => dts_one (dt_cmp o_ge (dv_e (de_callB c_abs (by rfl) T.z_abs bt_abs (da_cons (dv_v 2) (da_nil)))) (dv_e (de_op o_pow (dv_e (de_int)) (dv_e (de_int)))) (by rfl)), fun _ _ _ _ _ B => dv_e (de_callB c_abs (by rfl) T.z_abs bt_abs (da_cons (dv_v 2) (da_nil))), by decide⟩ (di_seq (dv_v 0)) (by rfl) (by rfl) (sw_true rfl rfl rfl (by decide +kernel)))
      (pss_one (ps_ret (pe_disp (pps_cons pe_str (pv 1) (pps_cons pe_str (pe_callTy call_list_of (by rfl) T.z_list bt_list (pa_cons (pv 0) pa_nil)) (pps_cons pe_str pe_int (pps_cons pe_str pe_int (pps_cons pe_str pe_int pps_nil))))) (by rfl) (by rfl) (fun z => by cases z) (by decide)))), ?_⟩
    exact begin_run h
theorem ok_law_take (T : Txt K mg) : DL.FnOk P w K mg base (L2.CX P w) 1 T.a_f_law_take T.d_law_take ["_law_draw", "_law_size"] (spF K ["_law_draw", "_law_size"] ["_law_draw", "_law_size", "_law_cell", "_law_found"] (F_law_take)) :=
  fn_dl T.F_law_take sc_law_take fun cdv A outer s H E X hX B => by
    subst hX
    exact dss_cons (ds_if (DTW.dt (dtw_and (dt_cmp (o_eq B.room.units) (dv_e (de_drGet .rest (by rfl) (DL.hu_of B.room) (by rfl) (by first | exact Or.inl rfl | exact Or.inr (Or.inl rfl) | exact Or.inr (Or.inr rfl)))) (dv_e (de_int)) (by rfl)) (dtw_and1 (dt_drNe B.room.units (by rfl) (by first | exact Or.inl rfl | exact Or.inr (Or.inl rfl) | exact Or.inr (Or.inr rfl)))))) (dss_one (ds_drPop (i := 0) (DL.hu_of B.room) (by rfl) (by first | exact Or.inl rfl | exact Or.inr (Or.inl rfl) | exact Or.inr (Or.inr rfl)))) (dss_one (ds_if (dt_cmp (o_eq B.room.units) (dv_e (de_drGet .rest (by rfl) (DL.hu_of B.room) (by rfl) (by first | exact Or.inl rfl | exact Or.inr (Or.inl rfl) | exact Or.inr (Or.inr rfl)))) (dv_e (de_int)) (by rfl)) (dss_cons (ds_drSet (i := 0) .turn (by rfl) (DL.hu_of B.room) (by rfl) (by first | exact Or.inl rfl | exact Or.inr (Or.inl rfl) | exact Or.inr (Or.inr rfl)) (dv_e (de_op o_add (dv_e (de_drGet .turn (by rfl) (DL.hu_of B.room) (by rfl) (by first | exact Or.inl rfl | exact Or.inr (Or.inl rfl) | exact Or.inr (Or.inr rfl)))) (dv_e (de_int))))) 
            (dss_cons (ds_for B.own B.calm (dv_e (de_op o_add (dv_e (de_lst (da_cons (dv_e (de_drGet .turn (by rfl) (DL.hu_of B.room) (by rfl) (by first | exact Or.inl rfl | exact Or.inr (Or.inl rfl) | exact Or.inr (Or.inr rfl)))) (da_nil)))) (dv_e (de_drGet .cells (by rfl) (DL.hu_of B.room) (by rfl) (by first | exact Or.inl rfl | exact Or.inr (Or.inl rfl) | exact Or.inr (Or.inr rfl)))))) (dg_name (i := 2) B.nd (by rfl) (by first | exact Or.inl rfl | exact Or.inr rfl)) (dss_one (ds_drSet (i := 0) .mix (by rfl) (DL.hu_of B.room) (by rfl) (by first | exact Or.inl rfl | exact Or.inr (Or.inl rfl) | exact Or.inr (Or.inr rfl)) (dv_e (de_op o_mod (dv_e (de_callTy c_int (by rfl) T.z_int bt_int (da_cons (dv_e (de_op o_add (dv_e (de_op o_add (dv_e (de_op o_mul (dv_e (de_drGet .mix (by rfl) (DL.hu_of B.room) (by rfl) (by first | exact Or.inl rfl | exact Or.inr (Or.inl rfl) | exact Or.inr (Or.inr rfl)))) (dv_e (de_int)))) (dv_e (de_op o_mul (dv_v 2) (dv_e (de_int)))))) (dv_e (de_int)))) (da_nil)))) (dv_e (de_int))))))) 
            (dss_one (ds_drSet (i := 0) .rest (by rfl) (DL.hu_of B.room) (by rfl) (by first | exact Or.inl rfl | exact Or.inr (Or.inl rfl) | exact Or.inr (Or.inr rfl)) (dv_e (de_op o_mod (dv_e (de_callTy c_int (by rfl) T.z_int bt_int (da_cons (dv_e (de_op o_pow (dv_e (de_drGet .mix (by rfl) (DL.hu_of B.room) (by rfl) (by first | exact Or.inl rfl | exact Or.inr (Or.inl rfl) | exact Or.inr (Or.inr rfl)))) (dv_e (de_int)))) (da_nil)))) (dv_e (de_int)))))))) (dss_nil)))) 
        (dss_cons (ds_drDiv (i := 0) (j := 1) (k := 3) B.calm B.nd (DL.hu_of B.room) (by rfl) T.z_divmod bt_divmod (by rfl) (by first | exact Or.inl rfl | exact Or.inr (Or.inl rfl) | exact Or.inr (Or.inr rfl)) (by rfl) (by first | exact Or.inl rfl | exact Or.inr (Or.inl rfl) | exact Or.inr (Or.inr rfl)) (by rfl) (by first | exact Or.inl rfl | exact Or.inr rfl)) 
        (dss_one (ds_retV 3)))
theorem ok_law_pick (T : Txt K mg) : DL.FnOk P w K mg base (L2.CX P w) 2 T.a_f_law_pick T.d_law_pick ["_law_draw", "_law_some"] (spF K ["_law_draw", "_law_some"] ["_law_draw", "_law_some"] (F_law_pick)) :=
  fn_dl T.F_law_pick sc_law_pick fun cdv A outer s H E X hX B => by
    subst hX
    exact dss_one (ds_ret (de_ix (o_ix (DL.hu_of B.room)) (dv_v 1) (dv_e (de_call (ms := [.F, .F]) (ok_law_take T) rfl (B.room.mono (by decide)) T.m_law_take T.F_law_take.kp T.b_law_take .nil (fun _ => .nil) B.tk rfl (da_cons (dv_v 0) (da_cons (dv_e (de_callB c_len (by rfl) T.z_len bt_len (da_cons (dv_v 1) (da_nil)))) (da_nil))))) (fun _ _ => rfl)))
theorem ok_is_between (T : Txt K mg) : DL.FnOk P w K mg base (L2.CX P w) 1 T.a_f_is_between T.d_is_between ["value", "least", "most"] (spF K ["value", "least", "most"] ["value", "least", "most"] (F_is_between)) :=
  fn_dl T.F_is_between sc_is_between fun cdv A outer s H E X hX B => by
    subst hX
    exact dss_one (ds_ret (de_and (de_isi .int (by rfl) (dv_v 0) (by rfl) T.z_isinstance (by rfl) T.z_int bt_int) (de_and (de_not (de_isi .bool (by rfl) (dv_v 0) (by rfl) T.z_isinstance (by rfl) T.z_bool bt_bool)) (de_one (de_chain o_le o_le (dv_v 1) (dv_v 0) (dv_v 2))))))
theorem ok_is_integer (T : Txt K mg) : DL.FnOk P w K mg base (L2.CX P w) 1 T.a_f_is_integer T.d_is_integer ["value"] (spF K ["value"] ["value"] (F_is_integer)) :=
  fn_dl T.F_is_integer sc_is_integer fun cdv A outer s H E X hX B => by
    subst hX
    exact dss_one (ds_ret (de_and (de_isi .int (by rfl) (dv_v 0) (by rfl) T.z_isinstance (by rfl) T.z_int bt_int) (de_one (de_not (de_isi .bool (by rfl) (dv_v 0) (by rfl) T.z_isinstance (by rfl) T.z_bool bt_bool)))))
theorem ok_Shown_init (T : Txt K mg) : DL.FnOk P w K mg base (L2.CX P w) 2 T.a_f_Shown_init T.d_Shown_init ["self", "drift", "slew", "jump", "reading", "value"] (spF K ["self", "drift", "slew", "jump", "reading", "value"] ["self", "drift", "slew", "jump", "reading", "value"] (F_Shown_init T.a_Shown)) :=
  fn_dl T.F_Shown_init sc_Shown_init fun cdv A outer s H E X hX B => by
    subst hX
    exact dss_cons (ds_if (DTW.dt (dtw_or (dt_not (dt_val (de_call (ms := [.F, .F, .F]) (ok_is_between T) rfl (B.room.mono (by decide)) T.m_is_between T.F_is_between.kp T.b_is_between .nil (fun _ => .nil) B.tk rfl (da_cons (dv_v 1) (da_cons (dv_e (de_int)) (da_cons (dv_e (de_gint (by rfl) T.g_MOST_DRIFT)) (da_nil))))))) (dtw_or1 (dt_not (dt_val (de_call (ms := [.F, .F, .F]) (ok_is_between T) rfl (B.room.mono (by decide)) T.m_is_between T.F_is_between.kp T.b_is_between .nil (fun _ => .nil) B.tk rfl (da_cons (dv_v 2) (da_cons (dv_e (de_int)) (da_cons (dv_e (de_gint (by rfl) T.g_MOST_SLEW)) (da_nil)))))))))) (dss_one (ds_bad)) (dss_nil)) 
        (dss_cons (ds_if (DTW.dt (dtw_or (dt_not (dt_val (de_call (ms := [.F]) (ok_is_integer T) rfl (B.room.mono (by decide)) T.m_is_integer T.F_is_integer.kp T.b_is_integer .nil (fun _ => .nil) B.tk rfl (da_cons (dv_v 3) (da_nil))))) (dtw_or (dt_cmp o_lt (dv_v 3) (dv_e (de_int)) (by rfl)) (dtw_or (dt_not (dt_val (de_call (ms := [.F, .F, .F]) (ok_is_between T) rfl (B.room.mono (by decide)) T.m_is_between T.F_is_between.kp T.b_is_between .nil (fun _ => .nil) B.tk rfl (da_cons (dv_v 4) (da_cons (dv_e (de_int)) (da_cons (dv_e (de_gint (by rfl) T.g_MOST_READING)) (da_nil))))))) (dtw_or1 (dt_not (dt_val (de_call (ms := [.F]) (ok_is_integer T) rfl (B.room.mono (by decide)) T.m_is_integer T.F_is_integer.kp T.b_is_integer .nil (fun _ => .nil) B.tk rfl (da_cons (dv_v 5) (da_nil)))))))))) (dss_one (ds_bad)) (dss_nil)) 
        (dss_cons (ds_setF T.c_Shown T.n_Shown_c_rules (dv_v 0) (dv_e (de_tup (da_cons (dv_v 1) (da_cons (dv_v 2) (da_cons (dv_v 3) (da_nil))))))) 
        (dss_cons (ds_setF T.c_Shown T.n_Shown_c_reading (dv_v 0) (dv_v 4)) 
        (dss_cons (ds_setF T.c_Shown T.n_Shown_c_value (dv_v 0) (dv_v 5)) 
        (dss_one (ds_setF T.c_Shown T.n_Shown_c_spans (dv_v 0) (dv_e (de_lst (da_nil)))))))))
theorem ok_Shown_reading (T : Txt K mg) : DL.FnOk P w K mg base (L2.CX P w) 1 T.a_f_Shown_reading T.d_Shown_reading ["self"] (spF K ["self"] ["self"] (F_Shown_reading T.a_Shown)) :=
  fn_dl T.F_Shown_reading sc_Shown_reading fun cdv A outer s H E X hX B => by
    subst hX
    exact dss_one (ds_ret (de_fld T.c_Shown T.n_Shown_c_reading (dv_v 0)))
theorem ok_Shown_value (T : Txt K mg) : DL.FnOk P w K mg base (L2.CX P w) 1 T.a_f_Shown_value T.d_Shown_value ["self"] (spF K ["self"] ["self"] (F_Shown_value T.a_Shown)) :=
  fn_dl T.F_Shown_value sc_Shown_value fun cdv A outer s H E X hX B => by
    subst hX
    exact dss_one (ds_ret (de_fld T.c_Shown T.n_Shown_c_value (dv_v 0)))
theorem ok_Shown_spans (T : Txt K mg) : DL.FnOk P w K mg base (L2.CX P w) 1 T.a_f_Shown_spans T.d_Shown_spans ["self"] (spF K ["self"] ["self"] (F_Shown_spans T.a_Shown)) :=
  fn_dl T.F_Shown_spans sc_Shown_spans fun cdv A outer s H E X hX B => by
    subst hX
    exact dss_one (ds_ret (de_callTy c_list (by rfl) T.z_list bt_list (da_cons (dv_e (de_fld T.c_Shown T.n_Shown_c_spans (dv_v 0))) (da_nil))))
theorem ok_law_nearest (T : Txt K mg) : DL.FnOk P w K mg base (L2.CX P w) 1 T.a_f_law_nearest T.d_law_nearest ["_law_ranges", "_law_dot"] (spF K ["_law_ranges", "_law_dot"] ["_law_ranges", "_law_dot", "_law_best", "_law_low", "_law_high", "_law_near"] (F_law_nearest)) :=
  fn_dl T.F_law_nearest sc_law_nearest fun cdv A outer s H E X hX B => by
    subst hX
    exact dss_cons (ds_set (i := 2) B.nd (by rfl) (by first | exact Or.inl rfl | exact Or.inr rfl) (de_non)) 
        (dss_cons (ds_for B.own B.calm (dv_v 0) (dg_tup B.calm (dgs_cons (dg_name (i := 3) B.nd (by rfl) (by first | exact Or.inl rfl | exact Or.inr rfl)) (dgs_cons (dg_name (i := 4) B.nd (by rfl) (by first | exact Or.inl rfl | exact Or.inr rfl)) (dgs_nil)))) (dss_cons (ds_set (i := 5) B.nd (by rfl) (by first | exact Or.inl rfl | exact Or.inr rfl) (de_v 1)) 
          (dss_cons (ds_if (DTW.dt (dtw_and (dt_cmp o_isNot (dv_v 3) (dv_e (de_non)) (by rfl)) (dtw_and1 (dt_cmp o_lt (dv_v 1) (dv_v 3) (by rfl))))) (dss_one (ds_set (i := 5) B.nd (by rfl) (by first | exact Or.inl rfl | exact Or.inr rfl) (de_v 3))) (dss_one (ds_if (DTW.dt (dtw_and (dt_cmp o_isNot (dv_v 4) (dv_e (de_non)) (by rfl)) (dtw_and1 (dt_cmp o_gt (dv_v 1) (dv_v 4) (by rfl))))) (dss_one (ds_set (i := 5) B.nd (by rfl) (by first | exact Or.inl rfl | exact Or.inr rfl) (de_v 4))) (dss_nil)))) 
          (dss_one (ds_if (DTW.dt (dtw_or (dt_cmp o_is (dv_v 2) (dv_e (de_non)) (by rfl)) (dtw_or1 (dt_cmp (o_ltT B.room) (dv_e (de_tup (da_cons (dv_e (de_callB c_abs (by rfl) T.z_abs bt_abs (da_cons (dv_e (de_op o_sub (dv_v 5) (dv_v 1))) (da_nil)))) (da_cons (dv_e (de_un o_neg (dv_v 5))) (da_nil))))) (dv_e (de_tup (da_cons (dv_e (de_callB c_abs (by rfl) T.z_abs bt_abs (da_cons (dv_e (de_op o_sub (dv_v 2) (dv_v 1))) (da_nil)))) (da_cons (dv_e (de_un o_neg (dv_v 2))) (da_nil))))) (by rfl))))) (dss_one (ds_set (i := 2) B.nd (by rfl) (by first | exact Or.inl rfl | exact Or.inr rfl) (de_v 5))) (dss_nil)))))) 
        (dss_one (ds_retV 2)))
theorem ok_law_wide (T : Txt K mg) : DL.FnOk P w K mg base (L2.CX P w) 1 T.a_f_law_wide T.d_law_wide ["_law_ranges", "_law_lean", "_law_more"] (spF K ["_law_ranges", "_law_lean", "_law_more"] ["_law_ranges", "_law_lean", "_law_more", "_law_found", "_law_low", "_law_high", "_law_left"] (F_law_wide)) :=
  fn_dl T.F_law_wide sc_law_wide fun cdv A outer s H E X hX B => by
    subst hX
    exact dss_cons (ds_set (i := 3) B.nd (by rfl) (by first | exact Or.inl rfl | exact Or.inr rfl) (de_lst (da_nil))) 
        (dss_cons (ds_for B.own B.calm (dv_v 0) (dg_tup B.calm (dgs_cons (dg_name (i := 4) B.nd (by rfl) (by first | exact Or.inl rfl | exact Or.inr rfl)) (dgs_cons (dg_name (i := 5) B.nd (by rfl) (by first | exact Or.inl rfl | exact Or.inr rfl)) (dgs_nil)))) (dss_cons (ds_set (i := 6) B.nd (by rfl) (by first | exact Or.inl rfl | exact Or.inr rfl) (de_if (dt_cmp o_is (dv_v 4) (dv_e (de_non)) (by rfl)) (de_non) (de_op o_add (dv_v 4) (dv_e (de_op o_mul (dv_v 2) (dv_e (de_op o_sub (dv_e (de_int)) (dv_v 1)))))))) 
          (dss_one (ds_expr (de_append (i := 3) (by rfl) (by first | exact Or.inl rfl | exact Or.inr (Or.inl rfl) | exact Or.inr (Or.inr rfl)) (dv_e (de_tup (da_cons (dv_v 6) (da_cons (dv_e (de_if (dt_cmp o_is (dv_v 5) (dv_e (de_non)) (by rfl)) (de_non) (de_op o_add (dv_v 5) (dv_e (de_op o_mul (dv_v 2) (dv_e (de_op o_add (dv_e (de_int)) (dv_v 1)))))))) (da_nil)))))))))) 
        (dss_one (ds_retV 3)))
theorem ok_law_later (T : Txt K mg) : DL.FnOk P w K mg base (L2.CX P w) 2 T.a_f_law_later T.d_law_later ["_law_dot", "_law_ranges", "_law_lean", "_law_slide", "_law_ticks"] (spF K ["_law_dot", "_law_ranges", "_law_lean", "_law_slide", "_law_ticks"] ["_law_dot", "_law_ranges", "_law_lean", "_law_slide", "_law_ticks", "_law_more", "_law_near"] (F_law_later)) :=
  fn_dl T.F_law_later sc_law_later fun cdv A outer s H E X hX B => by
    subst hX
    exact dss_cons (ds_forR2 B.own B.calm (by rfl) T.z_range (da_cons (dv_e (de_int)) (da_cons (dv_e (de_op o_add (dv_v 4) (dv_e (de_int)))) (da_nil))) (dg_name (i := 5) B.nd (by rfl) (by first | exact Or.inl rfl | exact Or.inr rfl)) (dss_cons (ds_set (i := 6) B.nd (by rfl) (by first | exact Or.inl rfl | exact Or.inr rfl) (de_call (ms := [.F, .F]) (ok_law_nearest T) rfl (B.room.mono (by decide)) T.m_law_nearest T.F_law_nearest.kp T.b_law_nearest .nil (fun _ => .nil) B.tk rfl (da_cons (dv_e (de_call (ms := [.F, .F, .F]) (ok_law_wide T) rfl (B.room.mono (by decide)) T.m_law_wide T.F_law_wide.kp T.b_law_wide .nil (fun _ => .nil) B.tk rfl (da_cons (dv_v 1) (da_cons (dv_v 2) (da_cons (dv_v 5) (da_nil)))))) (da_cons (dv_e (de_op o_add (dv_v 0) (dv_e (de_int)))) (da_nil))))) 
          (dss_cons (ds_set (i := 6) B.nd (by rfl) (by first | exact Or.inl rfl | exact Or.inr rfl) (de_if (dt_cmp o_is (dv_v 6) (dv_e (de_non)) (by rfl)) (de_op o_add (dv_v 0) (dv_e (de_int))) (de_v 6))) 
          (dss_one (ds_set (i := 0) B.nd (by rfl) (by first | exact Or.inl rfl | exact Or.inr rfl) (de_callB (c_max B.calm) (by rfl) T.z_max bt_max (da_cons (dv_e (de_op o_sub (dv_e (de_op o_add (dv_v 0) (dv_e (de_int)))) (dv_v 3))) (da_cons (dv_e (de_callB (c_min B.calm) (by rfl) T.z_min bt_min (da_cons (dv_e (de_op o_add (dv_e (de_op o_add (dv_v 0) (dv_e (de_int)))) (dv_v 3))) (da_cons (dv_v 6) (da_nil))))) (da_nil))))))))) 
        (dss_one (ds_retV 0))
theorem ok_Shown_ticks_to (T : Txt K mg) : DL.FnOk P w K mg base (L2.CX P w) 2 T.a_f_Shown_ticks_to T.d_Shown_ticks_to ["self", "reading"] (spF K ["self", "reading"] ["self", "reading"] (F_Shown_ticks_to T.a_Shown)) :=
  fn_dl T.F_Shown_ticks_to sc_Shown_ticks_to fun cdv A outer s H E X hX B => by
    subst hX
    exact dss_cons (ds_if (dt_not (dt_val (de_call (ms := [.F, .F, .F]) (ok_is_between T) rfl (B.room.mono (by decide)) T.m_is_between T.F_is_between.kp T.b_is_between .nil (fun _ => .nil) B.tk rfl (da_cons (dv_v 1) (da_cons (dv_e (de_fld T.c_Shown T.n_Shown_c_reading (dv_v 0))) (da_cons (dv_e (de_gint (by rfl) T.g_MOST_READING)) (da_nil))))))) (dss_one (ds_bad)) (dss_nil)) 
        (dss_one (ds_ret (de_op o_sub (dv_v 1) (dv_e (de_fld T.c_Shown T.n_Shown_c_reading (dv_v 0))))))
theorem ok_gaps (T : Txt K mg) : DL.FnOk P w K mg base (L2.CX P w) 1 T.a_f_gaps T.d_gaps ["spans", "value"] (spF K ["spans", "value"] ["spans", "value", "below", "above", "low", "high"] (F_gaps)) :=
  fn_dl T.F_gaps sc_gaps fun cdv A outer s H E X hX B => by
    subst hX
    exact dss_cons (ds_un (dg_tup B.calm (dgs_cons (dg_name (i := 2) B.nd (by rfl) (by first | exact Or.inl rfl | exact Or.inr rfl)) (dgs_cons (dg_name (i := 3) B.nd (by rfl) (by first | exact Or.inl rfl | exact Or.inr rfl)) (dgs_nil)))) (dv_e (de_tup (da_cons (dv_e (de_non)) (da_cons (dv_e (de_non)) (da_nil)))))) 
        (dss_cons (ds_for B.own B.calm (dv_v 0) (dg_tup B.calm (dgs_cons (dg_name (i := 4) B.nd (by rfl) (by first | exact Or.inl rfl | exact Or.inr rfl)) (dgs_cons (dg_name (i := 5) B.nd (by rfl) (by first | exact Or.inl rfl | exact Or.inr rfl)) (dgs_nil)))) (dss_cons (ds_if (DTW.dt (dtw_and (DTW.dt (dtw_or (dt_cmp o_is (dv_v 4) (dv_e (de_non)) (by rfl)) (dtw_or1 (dt_cmp o_le (dv_v 4) (dv_v 1) (by rfl))))) (dtw_and1 (DTW.dt (dtw_or (dt_cmp o_is (dv_v 5) (dv_e (de_non)) (by rfl)) (dtw_or1 (dt_cmp o_le (dv_v 1) (dv_v 5) (by rfl)))))))) (dss_one (ds_ret (de_tup (da_cons (dv_e (de_int)) (da_cons (dv_e (de_int)) (da_nil)))))) (dss_nil)) 
          (dss_cons (ds_if (DTW.dt (dtw_and (dt_cmp o_isNot (dv_v 4) (dv_e (de_non)) (by rfl)) (dtw_and (dt_cmp o_lt (dv_v 1) (dv_v 4) (by rfl)) (dtw_and1 (DTW.dt (dtw_or (dt_cmp o_is (dv_v 2) (dv_e (de_non)) (by rfl)) (dtw_or1 (dt_cmp o_lt (dv_e (de_op o_sub (dv_v 4) (dv_v 1))) (dv_v 2) (by rfl))))))))) (dss_one (ds_set (i := 2) B.nd (by rfl) (by first | exact Or.inl rfl | exact Or.inr rfl) (de_op o_sub (dv_v 4) (dv_v 1)))) (dss_nil)) 
          (dss_one (ds_if (DTW.dt (dtw_and (dt_cmp o_isNot (dv_v 5) (dv_e (de_non)) (by rfl)) (dtw_and (dt_cmp o_lt (dv_v 5) (dv_v 1) (by rfl)) (dtw_and1 (DTW.dt (dtw_or (dt_cmp o_is (dv_v 3) (dv_e (de_non)) (by rfl)) (dtw_or1 (dt_cmp o_lt (dv_e (de_op o_sub (dv_v 1) (dv_v 5))) (dv_v 3) (by rfl))))))))) (dss_one (ds_set (i := 3) B.nd (by rfl) (by first | exact Or.inl rfl | exact Or.inr rfl) (de_op o_sub (dv_v 1) (dv_v 5)))) (dss_nil)))))) 
        (dss_one (ds_ret (de_tup (da_cons (dv_v 2) (da_cons (dv_v 3) (da_nil)))))))
theorem ok_way_to (T : Txt K mg) : DL.FnOk P w K mg base (L2.CX P w) 2 T.a_f_way_to T.d_way_to ["spans", "value"] (spF K ["spans", "value"] ["spans", "value", "below", "above"] (F_way_to)) :=
  fn_dl T.F_way_to sc_way_to fun cdv A outer s H E X hX B => by
    subst hX
    exact dss_cons (ds_un (dg_tup B.calm (dgs_cons (dg_name (i := 2) B.nd (by rfl) (by first | exact Or.inl rfl | exact Or.inr rfl)) (dgs_cons (dg_name (i := 3) B.nd (by rfl) (by first | exact Or.inl rfl | exact Or.inr rfl)) (dgs_nil)))) (dv_e (de_call (ms := [.R, .F]) (ok_gaps T) rfl (B.room.mono (by decide)) T.m_gaps T.F_gaps.kp T.b_gaps .nil (fun _ => .nil) B.tk rfl (da_cons (dv_v 0) (da_cons (dv_v 1) (da_nil)))))) 
        (dss_cons (ds_if (dt_cmp o_is (dv_v 2) (dv_e (de_non)) (by rfl)) (dss_one (ds_ret (de_if (dt_cmp o_is (dv_v 3) (dv_e (de_non)) (by rfl)) (de_non) (de_un o_neg (dv_v 3))))) (dss_nil)) 
        (dss_one (ds_ret (de_if (DTW.dt (dtw_or (dt_cmp o_is (dv_v 3) (dv_e (de_non)) (by rfl)) (dtw_or1 (dt_cmp o_le (dv_v 2) (dv_v 3) (by rfl))))) (de_v 2) (de_un o_neg (dv_v 3))))))
theorem ok_moved (T : Txt K mg) : DL.FnOk P w K mg base (L2.CX P w) 1 T.a_f_moved T.d_moved ["way", "drift", "slew", "ticks"] (spF K ["way", "drift", "slew", "ticks"] ["way", "drift", "slew", "ticks", "far", "found", "full"] (F_moved)) :=
  fn_dl T.F_moved sc_moved fun cdv A outer s H E X hX B => by
    subst hX
    exact dss_cons (ds_set (i := 4) B.nd (by rfl) (by first | exact Or.inl rfl | exact Or.inr rfl) (de_callB c_abs (by rfl) T.z_abs bt_abs (da_cons (dv_v 0) (da_nil)))) 
        (dss_cons (ds_if (DTW.dt (dtw_or (dt_cmp (o_eq B.room.units) (dv_e (de_op o_add (dv_v 1) (dv_v 2))) (dv_e (de_int)) (by rfl)) (dtw_or1 (dt_cmp o_le (dv_v 3) (dv_e (de_op o_fdiv (dv_v 4) (dv_e (de_op o_add (dv_v 1) (dv_v 2))))) (by rfl))))) (dss_one (ds_set (i := 5) B.nd (by rfl) (by first | exact Or.inl rfl | exact Or.inr rfl) (de_op o_mul (dv_v 2) (dv_v 3)))) (dss_cons (ds_set (i := 6) B.nd (by rfl) (by first | exact Or.inl rfl | exact Or.inr rfl) (de_op o_fdiv (dv_v 4) (dv_e (de_op o_add (dv_v 1) (dv_v 2))))) 
          (dss_one (ds_set (i := 5) B.nd (by rfl) (by first | exact Or.inl rfl | exact Or.inr rfl) (de_callB (c_max B.calm) (by rfl) T.z_max bt_max (da_cons (dv_e (de_op o_mul (dv_v 2) (dv_v 6))) (da_cons (dv_e (de_op o_sub (dv_v 4) (dv_e (de_op o_mul (dv_v 1) (dv_e (de_op o_add (dv_v 6) (dv_e (de_int)))))))) (da_nil)))))))) 
        (dss_one (ds_ret (de_if (dt_cmp o_gt (dv_v 0) (dv_e (de_int)) (by rfl)) (de_v 5) (de_un o_neg (dv_v 5))))))
theorem ok_Shown_at (T : Txt K mg) : DL.FnOk P w K mg base (L2.CX P w) 3 T.a_f_Shown_at T.d_Shown_at ["self", "reading"] (spF K ["self", "reading"] ["self", "reading", "ticks", "drift", "slew", "jump", "way", "more"] (F_Shown_at T.a_Shown)) :=
  fn_dl T.F_Shown_at sc_Shown_at fun cdv A outer s H E X hX B => by
    subst hX
    exact dss_cons (ds_set (i := 2) B.nd (by rfl) (by first | exact Or.inl rfl | exact Or.inr rfl) (de_meth (ms := [.R, .F]) T.c_Shown T.M_Shown_ticks_to (ok_Shown_ticks_to T) rfl (B.room.mono (by decide)) T.b_Shown_ticks_to .nil (fun _ => .nil) B.tk rfl (dv_v 0) (da_cons (dv_v 1) (da_nil)))) 
        (dss_cons (ds_un (dg_tup B.calm (dgs_cons (dg_name (i := 3) B.nd (by rfl) (by first | exact Or.inl rfl | exact Or.inr rfl)) (dgs_cons (dg_name (i := 4) B.nd (by rfl) (by first | exact Or.inl rfl | exact Or.inr rfl)) (dgs_cons (dg_name (i := 5) B.nd (by rfl) (by first | exact Or.inl rfl | exact Or.inr rfl)) (dgs_nil))))) (dv_e (de_fld T.c_Shown T.n_Shown_c_rules (dv_v 0)))) 
        (dss_cons (ds_set (i := 6) B.nd (by rfl) (by first | exact Or.inl rfl | exact Or.inr rfl) (de_call (ms := [.F, .F]) (ok_way_to T) rfl (B.room.mono (by decide)) T.m_way_to T.F_way_to.kp T.b_way_to .nil (fun _ => .nil) B.tk rfl (da_cons (dv_e (de_fld T.c_Shown T.n_Shown_c_spans (dv_v 0))) (da_cons (dv_e (de_fld T.c_Shown T.n_Shown_c_value (dv_v 0))) (da_nil))))) 
        (dss_cons (ds_set (i := 7) B.nd (by rfl) (by first | exact Or.inl rfl | exact Or.inr rfl) (de_if (DTW.dt (dtw_or (dt_cmp o_is (dv_v 6) (dv_e (de_non)) (by rfl)) (dtw_or1 (dt_cmp (o_eq B.room.units) (dv_v 6) (dv_e (de_int)) (by rfl))))) (de_int) (de_call (ms := [.F, .F, .F, .F]) (ok_moved T) rfl (B.room.mono (by decide)) T.m_moved T.F_moved.kp T.b_moved .nil (fun _ => .nil) B.tk rfl (da_cons (dv_v 6) (da_cons (dv_v 3) (da_cons (dv_v 4) (da_cons (dv_v 2) (da_nil)))))))) 
        (dss_one (ds_ret (de_op o_add (dv_e (de_op o_add (dv_e (de_fld T.c_Shown T.n_Shown_c_value (dv_v 0))) (dv_e (de_op o_mul (dv_e (de_gint (by rfl) T.g_EXACT)) (dv_v 2))))) (dv_v 7)))))))
theorem ok_widened (T : Txt K mg) : DL.FnOk P w K mg base (L2.CX P w) 1 T.a_f_widened T.d_widened ["spans", "drift", "ticks"] (spF K ["spans", "drift", "ticks"] ["spans", "drift", "ticks", "found", "low", "high"] (F_widened)) :=
  fn_dl T.F_widened sc_widened fun cdv A outer s H E X hX B => by
    subst hX
    exact dss_cons (ds_set (i := 3) B.nd (by rfl) (by first | exact Or.inl rfl | exact Or.inr rfl) (de_lst (da_nil))) 
        (dss_cons (ds_for B.own B.calm (dv_v 0) (dg_tup B.calm (dgs_cons (dg_name (i := 4) B.nd (by rfl) (by first | exact Or.inl rfl | exact Or.inr rfl)) (dgs_cons (dg_name (i := 5) B.nd (by rfl) (by first | exact Or.inl rfl | exact Or.inr rfl)) (dgs_nil)))) (dss_one (ds_expr (de_append (i := 3) (by rfl) (by first | exact Or.inl rfl | exact Or.inr (Or.inl rfl) | exact Or.inr (Or.inr rfl)) (dv_e (de_tup (da_cons (dv_e (de_if (dt_cmp o_is (dv_v 4) (dv_e (de_non)) (by rfl)) (de_non) (de_op o_sub (dv_v 4) (dv_e (de_op o_mul (dv_v 1) (dv_v 2)))))) (da_cons (dv_e (de_if (dt_cmp o_is (dv_v 5) (dv_e (de_non)) (by rfl)) (de_non) (de_op o_add (dv_v 5) (dv_e (de_op o_mul (dv_v 1) (dv_v 2)))))) (da_nil))))))))) 
        (dss_one (ds_retV 3)))
theorem ok_Shown_distance (T : Txt K mg) : DL.FnOk P w K mg base (L2.CX P w) 4 T.a_f_Shown_distance T.d_Shown_distance ["self", "reading"] (spF K ["self", "reading"] ["self", "reading", "ticks", "way"] (F_Shown_distance T.a_Shown)) :=
  fn_dl T.F_Shown_distance sc_Shown_distance fun cdv A outer s H E X hX B => by
    subst hX
    exact dss_cons (ds_set (i := 2) B.nd (by rfl) (by first | exact Or.inl rfl | exact Or.inr rfl) (de_meth (ms := [.R, .F]) T.c_Shown T.M_Shown_ticks_to (ok_Shown_ticks_to T) rfl (B.room.mono (by decide)) T.b_Shown_ticks_to .nil (fun _ => .nil) B.tk rfl (dv_v 0) (da_cons (dv_v 1) (da_nil)))) 
        (dss_cons (ds_set (i := 3) B.nd (by rfl) (by first | exact Or.inl rfl | exact Or.inr rfl) (de_call (ms := [.F, .F]) (ok_way_to T) rfl (B.room.mono (by decide)) T.m_way_to T.F_way_to.kp T.b_way_to .nil (fun _ => .nil) B.tk rfl (da_cons (dv_e (de_call (ms := [.F, .F, .F]) (ok_widened T) rfl (B.room.mono (by decide)) T.m_widened T.F_widened.kp T.b_widened .nil (fun _ => .nil) B.tk rfl (da_cons (dv_e (de_fld T.c_Shown T.n_Shown_c_spans (dv_v 0))) (da_cons (dv_e (de_ix (o_ix (DL.hu_of B.room)) (dv_e (de_fld T.c_Shown T.n_Shown_c_rules (dv_v 0))) (dv_e (de_int)) (fun _ _ => rfl))) (da_cons (dv_v 2) (da_nil)))))) (da_cons (dv_e (de_op o_sub (dv_e (de_meth (ms := [.R, .F]) T.c_Shown T.M_Shown_at (ok_Shown_at T) rfl (B.room.mono (by decide)) T.b_Shown_at .nil (fun _ => .nil) B.tk rfl (dv_v 0) (da_cons (dv_v 1) (da_nil)))) (dv_e (de_op o_mul (dv_e (de_gint (by rfl) T.g_EXACT)) (dv_v 2))))) (da_nil))))) 
        (dss_one (ds_ret (de_if (dt_cmp o_is (dv_v 3) (dv_e (de_non)) (by rfl)) (de_non) (de_callB c_abs (by rfl) T.z_abs bt_abs (da_cons (dv_v 3) (da_nil)))))))
theorem ok_law_gap (T : Txt K mg) : DL.FnOk P w K mg base (L2.CX P w) 2 T.a_f_law_gap T.d_law_gap ["_law_dot", "_law_ranges"] (spF K ["_law_dot", "_law_ranges"] ["_law_dot", "_law_ranges", "_law_near"] (F_law_gap)) :=
  fn_dl T.F_law_gap sc_law_gap fun cdv A outer s H E X hX B => by
    subst hX
    exact dss_cons (ds_set (i := 2) B.nd (by rfl) (by first | exact Or.inl rfl | exact Or.inr rfl) (de_call (ms := [.F, .F]) (ok_law_nearest T) rfl (B.room.mono (by decide)) T.m_law_nearest T.F_law_nearest.kp T.b_law_nearest .nil (fun _ => .nil) B.tk rfl (da_cons (dv_v 1) (da_cons (dv_v 0) (da_nil))))) 
        (dss_one (ds_ret (de_if (dt_cmp o_is (dv_v 2) (dv_e (de_non)) (by rfl)) (de_non) (de_callB c_abs (by rfl) T.z_abs bt_abs (da_cons (dv_e (de_op o_sub (dv_v 2) (dv_v 0))) (da_nil))))))
theorem ok_Shown_copy (T : Txt K mg) : DL.FnOk P w K mg base (L2.CX P w) 4 T.a_f_Shown_copy T.d_Shown_copy ["self"] (spF K ["self"] ["self", "drift", "slew", "jump", "found"] (F_Shown_copy T.a_Shown)) :=
  fn_dl T.F_Shown_copy sc_Shown_copy fun cdv A outer s H E X hX B => by
    subst hX
    exact dss_cons (ds_un (dg_tup B.calm (dgs_cons (dg_name (i := 1) B.nd (by rfl) (by first | exact Or.inl rfl | exact Or.inr rfl)) (dgs_cons (dg_name (i := 2) B.nd (by rfl) (by first | exact Or.inl rfl | exact Or.inr rfl)) (dgs_cons (dg_name (i := 3) B.nd (by rfl) (by first | exact Or.inl rfl | exact Or.inr rfl)) (dgs_nil))))) (dv_e (de_fld T.c_Shown T.n_Shown_c_rules (dv_v 0)))) 
        (dss_cons (ds_set (i := 4) B.nd (by rfl) (by first | exact Or.inl rfl | exact Or.inr rfl) (de_make (ms := [.F, .F, .F, .F, .F]) T.k_Shown (ok_Shown_init T) rfl (B.room.mono (by decide)) T.m_Shown T.b_Shown_init .nil (fun _ => .nil) B.tk rfl (da_cons (dv_v 1) (da_cons (dv_v 2) (da_cons (dv_v 3) (da_cons (dv_e (de_fld T.c_Shown T.n_Shown_c_reading (dv_v 0))) (da_cons (dv_e (de_fld T.c_Shown T.n_Shown_c_value (dv_v 0))) (da_nil)))))))) 
        (dss_cons (ds_setF T.c_Shown T.n_Shown_c_spans (dv_v 4) (dv_e (de_callTy c_list (by rfl) T.z_list bt_list (da_cons (dv_e (de_fld T.c_Shown T.n_Shown_c_spans (dv_v 0))) (da_nil))))) 
        (dss_one (ds_retV 4))))
theorem ok_law_spans (T : Txt K mg) : DL.FnOk P w K mg base (L2.CX P w) 3 T.a_f_law_spans T.d_law_spans ["_law_draw", "_law_dot"] (spF K ["_law_draw", "_law_dot"] ["_law_draw", "_law_dot", "_law_low", "_law_found", "_law_k", "_law_high"] (F_law_spans)) :=
  fn_dl T.F_law_spans sc_law_spans fun cdv A outer s H E X hX B => by
    subst hX
    exact dss_cons (ds_if (dt_cmp (o_eq B.room.units) (dv_e (de_call (ms := [.F, .F]) (ok_law_take T) rfl (B.room.mono (by decide)) T.m_law_take T.F_law_take.kp T.b_law_take .nil (fun _ => .nil) B.tk rfl (da_cons (dv_v 0) (da_cons (dv_e (de_int)) (da_nil))))) (dv_e (de_int)) (by rfl)) (dss_one (ds_ret (de_lst (da_nil)))) (dss_nil)) 
        (dss_cons (ds_par (i := 2) (j := 3) B.calm B.nd (by rfl) (by rfl) (by decide) (by rfl) (by rfl) (da_cons (dv_e (de_op o_sub (dv_e (de_op o_add (dv_v 1) (dv_e (de_call (ms := [.F, .F]) (ok_law_pick T) rfl (B.room.mono (by decide)) T.m_law_pick T.F_law_pick.kp T.b_law_pick .nil (fun _ => .nil) B.tk rfl (da_cons (dv_v 0) (da_cons (dv_e (de_lst (da_cons (dv_e (de_un o_neg (dv_e (de_int)))) (da_cons (dv_e (de_un o_neg (dv_e (de_int)))) (da_cons (dv_e (de_un o_neg (dv_e (de_int)))) (da_cons (dv_e (de_int)) (da_cons (dv_e (de_int)) (da_cons (dv_e (de_int)) (da_cons (dv_e (de_int)) (da_cons (dv_e (de_int)) (da_nil))))))))))) (da_nil))))))) (dv_e (de_call (ms := [.F, .F]) (ok_law_take T) rfl (B.room.mono (by decide)) T.m_law_take T.F_law_take.kp T.b_law_take .nil (fun _ => .nil) B.tk rfl (da_cons (dv_v 0) (da_cons (dv_e (de_int)) (da_nil))))))) (da_cons (dv_e (de_lst (da_nil))) (da_nil)))) 
        (dss_cons (ds_forR1 B.own B.calm (by rfl) T.z_range (da_cons (dv_e (de_op o_add (dv_e (de_int)) (dv_e (de_call (ms := [.F, .F]) (ok_law_take T) rfl (B.room.mono (by decide)) T.m_law_take T.F_law_take.kp T.b_law_take .nil (fun _ => .nil) B.tk rfl (da_cons (dv_v 0) (da_cons (dv_e (de_int)) (da_nil))))))) (da_nil)) (dg_name (i := 4) B.nd (by rfl) (by first | exact Or.inl rfl | exact Or.inr rfl)) (dss_cons (ds_set (i := 5) B.nd (by rfl) (by first | exact Or.inl rfl | exact Or.inr rfl) (de_op o_add (dv_v 2) (dv_e (de_call (ms := [.F, .F]) (ok_law_pick T) rfl (B.room.mono (by decide)) T.m_law_pick T.F_law_pick.kp T.b_law_pick .nil (fun _ => .nil) B.tk rfl (da_cons (dv_v 0) (da_cons (dv_e (de_lst (da_cons (dv_e (de_int)) (da_cons (dv_e (de_int)) (da_cons (dv_e (de_int)) (da_cons (dv_e (de_int)) (da_nil))))))) (da_nil))))))) 
          (dss_cons (ds_expr (de_append (i := 3) (by rfl) (by first | exact Or.inl rfl | exact Or.inr (Or.inl rfl) | exact Or.inr (Or.inr rfl)) (dv_e (de_tup (da_cons (dv_v 2) (da_cons (dv_v 5) (da_nil))))))) 
          (dss_one (ds_set (i := 2) B.nd (by rfl) (by first | exact Or.inl rfl | exact Or.inr rfl) (de_op o_add (dv_e (de_op o_add (dv_v 5) (dv_e (de_int)))) (dv_e (de_call (ms := [.F, .F]) (ok_law_pick T) rfl (B.room.mono (by decide)) T.m_law_pick T.F_law_pick.kp T.b_law_pick .nil (fun _ => .nil) B.tk rfl (da_cons (dv_v 0) (da_cons (dv_e (de_lst (da_cons (dv_e (de_int)) (da_cons (dv_e (de_int)) (da_cons (dv_e (de_int)) (da_cons (dv_e (de_int)) (da_cons (dv_e (de_int)) (da_nil)))))))) (da_nil))))))))))) 
        (dss_cons (ds_if (dt_cmp (o_eq B.room.units) (dv_e (de_call (ms := [.F, .F]) (ok_law_take T) rfl (B.room.mono (by decide)) T.m_law_take T.F_law_take.kp T.b_law_take .nil (fun _ => .nil) B.tk rfl (da_cons (dv_v 0) (da_cons (dv_e (de_int)) (da_nil))))) (dv_e (de_int)) (by rfl)) (dss_one (ds_sub (i := 3) (DL.hu_of B.room) (by rfl) (by first | exact Or.inl rfl | exact Or.inr (Or.inl rfl) | exact Or.inr (Or.inr rfl)) (dv_e (de_tup (da_cons (dv_e (de_non)) (da_cons (dv_e (de_ix (o_ix (DL.hu_of B.room)) (dv_e (de_ix (o_ix (DL.hu_of B.room)) (dv_v 3) (dv_e (de_int)) (fun _ _ => rfl))) (dv_e (de_int)) (fun _ _ => rfl))) (da_nil))))) (dv_e (de_int)))) (dss_nil)) 
        (dss_cons (ds_if (dt_cmp (o_eq B.room.units) (dv_e (de_call (ms := [.F, .F]) (ok_law_take T) rfl (B.room.mono (by decide)) T.m_law_take T.F_law_take.kp T.b_law_take .nil (fun _ => .nil) B.tk rfl (da_cons (dv_v 0) (da_cons (dv_e (de_int)) (da_nil))))) (dv_e (de_int)) (by rfl)) (dss_one (ds_sub (i := 3) (DL.hu_of B.room) (by rfl) (by first | exact Or.inl rfl | exact Or.inr (Or.inl rfl) | exact Or.inr (Or.inr rfl)) (dv_e (de_tup (da_cons (dv_e (de_ix (o_ix (DL.hu_of B.room)) (dv_e (de_ix (o_ix (DL.hu_of B.room)) (dv_v 3) (dv_e (de_un o_neg (dv_e (de_int)))) (fun _ _ => rfl))) (dv_e (de_int)) (fun _ _ => rfl))) (da_cons (dv_e (de_non)) (da_nil))))) (dv_e (de_un o_neg (dv_e (de_int)))))) (dss_nil)) 
        (dss_one (ds_retV 3))))))
theorem ok_is_list (T : Txt K mg) : DL.FnOk P w K mg base (L2.CX P w) 1 T.a_f_is_list T.d_is_list ["value"] (spF K ["value"] ["value"] (F_is_list)) :=
  fn_dl T.F_is_list sc_is_list fun cdv A outer s H E X hX B => by
    subst hX
    exact dss_one (ds_ret (de_isi2 .list .tuple (by rfl) (by rfl) (dv_v 0) (by rfl) T.z_isinstance (by rfl) T.z_list bt_list (by rfl) T.z_tuple bt_tuple))
theorem ok_is_end (T : Txt K mg) : DL.FnOk P w K mg base (L2.CX P w) 2 T.a_f_is_end T.d_is_end ["value"] (spF K ["value"] ["value"] (F_is_end)) :=
  fn_dl T.F_is_end sc_is_end fun cdv A outer s H E X hX B => by
    subst hX
    exact dss_one (ds_ret (de_or (de_cmp o_is (dv_v 0) (dv_e (de_non)) (by rfl)) (de_one (de_call (ms := [.F]) (ok_is_integer T) rfl (B.room.mono (by decide)) T.m_is_integer T.F_is_integer.kp T.b_is_integer .nil (fun _ => .nil) B.tk rfl (da_cons (dv_v 0) (da_nil))))))
theorem ok_are_spans (T : Txt K mg) : DL.FnOk P w K mg base (L2.CX P w) 3 T.a_f_are_spans T.d_are_spans ["value"] (spF K ["value"] ["value", "at", "span", "low", "high", "one", "other"] (F_are_spans)) :=
  fn_dl T.F_are_spans sc_are_spans fun cdv A outer s H E X hX B => by
    subst hX
    exact dss_cons (ds_if (dt_not (dt_val (de_call (ms := [.R]) (ok_is_list T) rfl (B.room.mono (by decide)) T.m_is_list T.F_is_list.kp T.b_is_list .nil (fun _ => .nil) B.tk rfl (da_cons (dv_v 0) (da_nil))))) (dss_one (ds_ret (de_bl))) (dss_nil)) 
        (dss_cons (ds_forE B.own B.calm (by rfl) T.z_enumerate (da_cons (dv_v 0) (da_nil)) (dg_tup B.calm (dgs_cons (dg_name (i := 1) B.nd (by rfl) (by first | exact Or.inl rfl | exact Or.inr rfl)) (dgs_cons (dg_name (i := 2) B.nd (by rfl) (by first | exact Or.inl rfl | exact Or.inr rfl)) (dgs_nil)))) (dss_cons (ds_if (DTW.dt (dtw_or (dt_not (dt_val (de_isi .tuple (by rfl) (dv_v 2) (by rfl) T.z_isinstance (by rfl) T.z_tuple bt_tuple))) (dtw_or (dt_cmp (o_ne B.room.units) (dv_e (de_callB c_len (by rfl) T.z_len bt_len (da_cons (dv_v 2) (da_nil)))) (dv_e (de_int)) (by rfl)) (dtw_or (dt_not (dt_val (de_call (ms := [.F]) (ok_is_end T) rfl (B.room.mono (by decide)) T.m_is_end T.F_is_end.kp T.b_is_end .nil (fun _ => .nil) B.tk rfl (da_cons (dv_e (de_ix (o_ix (DL.hu_of B.room)) (dv_v 2) (dv_e (de_int)) (fun _ _ => rfl))) (da_nil))))) (dtw_or1 (dt_not (dt_val (de_call (ms := [.F]) (ok_is_end T) rfl (B.room.mono (by decide)) T.m_is_end T.F_is_end.kp T.b_is_end .nil (fun _ => .nil) B.tk rfl (da_cons (dv_e (de_ix (o_ix (DL.hu_of B.room)) (dv_v 2) (dv_e (de_int)) (fun _ _ => rfl))) (da_nil)))))))))) (dss_one (ds_ret (de_bl))) (dss_nil)) 
          (dss_cons (ds_un (dg_tup B.calm (dgs_cons (dg_name (i := 3) B.nd (by rfl) (by first | exact Or.inl rfl | exact Or.inr rfl)) (dgs_cons (dg_name (i := 4) B.nd (by rfl) (by first | exact Or.inl rfl | exact Or.inr rfl)) (dgs_nil)))) (dv_v 2)) 
          (dss_cons (ds_if (DTW.dt (dtw_or (DTW.dt (dtw_and (dt_cmp o_is (dv_v 3) (dv_e (de_non)) (by rfl)) (dtw_and1 (dt_cmp o_gt (dv_v 1) (dv_e (de_int)) (by rfl))))) (dtw_or1 (DTW.dt (dtw_and (dt_cmp o_is (dv_v 4) (dv_e (de_non)) (by rfl)) (dtw_and1 (dt_cmp o_lt (dv_e (de_op o_add (dv_v 1) (dv_e (de_int)))) (dv_e (de_callB c_len (by rfl) T.z_len bt_len (da_cons (dv_v 0) (da_nil)))) (by rfl)))))))) (dss_one (ds_ret (de_bl))) (dss_nil)) 
          (dss_one (ds_if (DTW.dt (dtw_and (dt_cmp o_isNot (dv_v 3) (dv_e (de_non)) (by rfl)) (dtw_and (dt_cmp o_isNot (dv_v 4) (dv_e (de_non)) (by rfl)) (dtw_and1 (dt_cmp o_gt (dv_v 3) (dv_v 4) (by rfl)))))) (dss_one (ds_ret (de_bl))) (dss_nil))))))) 
        (dss_one (ds_ret (de_callB (c_all B.calm) (by rfl) T.z_all bt_all (da_cons (dv_e (de_lc (own := [("one", 5), ("other", 6)]) ⟨B, blkOk_by (N := ["value", "at", "span", "low", "high", "one", "other"]) (sc := defScope s_are_spans) (own := [("one", 5), ("other", 6)]) (by decide +kernel), fun _ _ _ _ _ B => dg_tup B.calm (dgs_cons (dg_name (i := 5) B.nd (by rfl) (by first | exact Or.inl rfl | exact Or.inr rfl)) (dgs_cons (dg_name (i := 6) B.nd (by rfl) (by first | exact Or.inl rfl | exact Or.inr rfl)) (dgs_nil))), fun _ _ _ _ _ B => dts_nil, fun _ _ _ _ _ B => dv_e (de_cmp o_lt (dv_e (de_op o_add (dv_e (de_ix (o_ix (DL.hu_of B.room)) (dv_v 5) (dv_e (de_int)) (fun _ _ => rfl))) (dv_e (de_int)))) (dv_e (de_ix (o_ix (DL.hu_of B.room)) (dv_v 6) (dv_e (de_int)) (fun _ _ => rfl))) (by rfl)), by decide⟩ (di_zip (by rfl) T.z_zip (da_cons (dv_v 0) (da_cons (dv_e (de_slice (dv_v 0) (do_some (de_int)) (do_none))) (da_nil)))))) (da_nil))))))
theorem ok_Shown_learn (T : Txt K mg) : DL.FnOk P w K mg base (L2.CX P w) 4 T.a_f_Shown_learn T.d_Shown_learn ["self", "reading", "spans"] (spF K ["self", "reading", "spans"] ["self", "reading", "spans", "value", "way", "step"] (F_Shown_learn T.a_Shown)) :=
  fn_dl T.F_Shown_learn sc_Shown_learn fun cdv A outer s H E X hX B => by
    subst hX
    exact dss_cons (ds_expr (de_meth (ms := [.R, .F]) T.c_Shown T.M_Shown_ticks_to (ok_Shown_ticks_to T) rfl (B.room.mono (by decide)) T.b_Shown_ticks_to .nil (fun _ => .nil) B.tk rfl (dv_v 0) (da_cons (dv_v 1) (da_nil)))) 
        (dss_cons (ds_if (dt_not (dt_val (de_call (ms := [.R]) (ok_are_spans T) rfl (B.room.mono (by decide)) T.m_are_spans T.F_are_spans.kp T.b_are_spans .nil (fun _ => .nil) B.tk rfl (da_cons (dv_v 2) (da_nil))))) (dss_one (ds_bad)) (dss_nil)) 
        (dss_cons (ds_set (i := 3) B.nd (by rfl) (by first | exact Or.inl rfl | exact Or.inr rfl) (de_meth (ms := [.R, .F]) T.c_Shown T.M_Shown_at (ok_Shown_at T) rfl (B.room.mono (by decide)) T.b_Shown_at .nil (fun _ => .nil) B.tk rfl (dv_v 0) (da_cons (dv_v 1) (da_nil)))) 
        (dss_cons (ds_set (i := 4) B.nd (by rfl) (by first | exact Or.inl rfl | exact Or.inr rfl) (de_call (ms := [.R, .F]) (ok_way_to T) rfl (B.room.mono (by decide)) T.m_way_to T.F_way_to.kp T.b_way_to .nil (fun _ => .nil) B.tk rfl (da_cons (dv_v 2) (da_cons (dv_v 3) (da_nil))))) 
        (dss_cons (ds_set (i := 5) B.nd (by rfl) (by first | exact Or.inl rfl | exact Or.inr rfl) (de_if (DTW.dt (dtw_and (dt_cmp o_isNot (dv_v 4) (dv_e (de_non)) (by rfl)) (dtw_and1 (dt_cmp o_gt (dv_v 4) (dv_e (de_ix (o_ix (DL.hu_of B.room)) (dv_e (de_fld T.c_Shown T.n_Shown_c_rules (dv_v 0))) (dv_e (de_int)) (fun _ _ => rfl))) (by rfl))))) (de_v 4) (de_int))) 
        (dss_cons (ds_setF T.c_Shown T.n_Shown_c_reading (dv_v 0) (dv_v 1)) 
        (dss_cons (ds_setF T.c_Shown T.n_Shown_c_value (dv_v 0) (dv_e (de_op o_add (dv_v 3) (dv_v 5)))) 
        (dss_cons (ds_setF T.c_Shown T.n_Shown_c_spans (dv_v 0) (dv_e (de_callTy c_list (by rfl) T.z_list bt_list (da_cons (dv_v 2) (da_nil))))) 
        (dss_one (ds_retV 5)))))))))
theorem ok_law (T : Txt K mg) (hm : ∀ ns : List Int, ns.length ≤ 63 → ∃ s', F_law T.a_Shown (lawSt ns 16) = .ok (.rt (.fz (.bl true))) s') : DL.FnOk P w K mg base (L2.CX P w) 5 T.a_f_law T.d_law ["_law_script"] (spLaw K) := by
  refine T.F_law.okG sc_law (fun vs H Q E h => ?_) (fun cdv A outer s H vs Q E hr h => ?_)
  · obtain ⟨a, ns, rfl, _⟩ := h
    rfl
  · have B : Bd (cxOf (L2.CX P w) P w K mg base ["_law_script", "_law_draw", "_law_turn", "_law_lean", "_law_slide", "_law_leap", "_law_tick", "_law_dot", "_law_made", "_law_ranges", "_law_k", "_law_ticks", "_law_more", "_law_due", "_law_twin", "_law_near", "_law_given", "_law_step"] "law" (defScope s_law) T.a_f_law cdv A outer s H E) (fun cls d _ H' => E cls d H') 4 := ⟨rfl, hr, takes_of rfl rfl rfl rfl, passes_of rfl, sc_law.nd⟩
    have rest : DSs (cxOf (L2.CX P w) P w K mg base ["_law_script", "_law_draw", "_law_turn", "_law_lean", "_law_slide", "_law_leap", "_law_tick", "_law_dot", "_law_made", "_law_ranges", "_law_k", "_law_ticks", "_law_more", "_law_due", "_law_twin", "_law_near", "_law_given", "_law_step"] "law" (defScope s_law) T.a_f_law cdv A outer s H E) (fun cls d _ H' => E cls d H') (defBody s_law).tail (F_law T.a_Shown) := dss_cons (ds_forR1 B.own B.calm (by rfl) T.z_range (da_cons (dv_e (de_op o_add (dv_e (de_int)) (dv_e (de_callB (c_min B.calm) (by rfl) T.z_min bt_min (da_cons (dv_e (de_callB c_len (by rfl) T.z_len bt_len (da_cons (dv_v 0) (da_nil)))) (da_cons (dv_e (de_int)) (da_nil))))))) (da_nil)) (dg_name (i := 2) B.nd (by rfl) (by first | exact Or.inl rfl | exact Or.inr rfl)) (dss_cons (ds_par (i := 3) (j := 4) B.calm B.nd (by rfl) (by rfl) (by decide) (by rfl) (by rfl) (da_cons (dv_e (de_call (ms := [.F, .F]) (ok_law_pick T) rfl (B.room.mono (by decide)) T.m_law_pick T.F_law_pick.kp T.b_law_pick .nil (fun _ => .nil) B.tk rfl (da_cons (dv_v 1) (da_cons (dv_e (de_lst (da_cons (dv_e (de_int)) (da_cons (dv_e (de_int)) (da_cons (dv_e (de_int)) (da_cons (dv_e (de_int)) (da_nil))))))) (da_nil))))) (da_cons (dv_e (de_call (ms := [.F, .F]) (ok_law_pick T) rfl (B.room.mono (by decide)) T.m_law_pick T.F_law_pick.kp T.b_law_pick .nil (fun _ => .nil) B.tk rfl (da_cons (dv_v 1) (da_cons (dv_e (de_lst (da_cons (dv_e (de_int)) (da_cons (dv_e (de_int)) (da_cons (dv_e (de_int)) (da_cons (dv_e (de_int)) (da_cons (dv_e (de_int)) (da_nil)))))))) (da_nil))))) (da_nil)))) 
          (dss_cons (ds_par3 (i := 5) (j := 6) (l := 7) B.calm B.nd (by rfl) (by rfl) (by rfl) (by decide) (by decide) (by decide) (by rfl) (by rfl) (by rfl) (da_cons (dv_e (de_call (ms := [.F, .F]) (ok_law_pick T) rfl (B.room.mono (by decide)) T.m_law_pick T.F_law_pick.kp T.b_law_pick .nil (fun _ => .nil) B.tk rfl (da_cons (dv_v 1) (da_cons (dv_e (de_lst (da_cons (dv_e (de_int)) (da_cons (dv_e (de_int)) (da_cons (dv_e (de_int)) (da_cons (dv_e (de_op o_pow (dv_e (de_int)) (dv_e (de_int)))) (da_nil))))))) (da_nil))))) (da_cons (dv_e (de_call (ms := [.F, .F]) (ok_law_take T) rfl (B.room.mono (by decide)) T.m_law_take T.F_law_take.kp T.b_law_take .nil (fun _ => .nil) B.tk rfl (da_cons (dv_v 1) (da_cons (dv_e (de_int)) (da_nil))))) (da_cons (dv_e (de_op o_sub (dv_e (de_call (ms := [.F, .F]) (ok_law_take T) rfl (B.room.mono (by decide)) T.m_law_take T.F_law_take.kp T.b_law_take .nil (fun _ => .nil) B.tk rfl (da_cons (dv_v 1) (da_cons (dv_e (de_int)) (da_nil))))) (dv_e (de_int)))) (da_nil))))) 
          (dss_cons (ds_par (i := 8) (j := 9) B.calm B.nd (by rfl) (by rfl) (by decide) (by rfl) (by rfl) (da_cons (dv_e (de_makeK (ms := [.F, .F, .F, .F, .F]) T.k_Shown (ok_Shown_init T) rfl (B.room.mono (by decide)) T.m_Shown T.w0_Shown_init (by decide) B.tk rfl rfl (dk_cons (dv_v 7) (dk_cons (dv_v 6) (dk_cons (dv_v 5) (dk_cons (dv_v 4) (dk_cons (dv_v 3) (dk_nil)))))))) (da_cons (dv_e (de_lst (da_nil))) (da_nil)))) 
          (dss_cons (ds_if (dt_cmp o_neS (dv_e (de_callB (c_repr B.room) (by rfl) T.z_repr bt_repr (da_cons (dv_e (de_tup (da_cons (dv_e (de_prop (am := .R) T.c_Shown T.P_Shown_reading (ok_Shown_reading T) rfl (B.room.mono (by decide)) T.b_Shown_reading (dv_v 8))) (da_cons (dv_e (de_prop (am := .R) T.c_Shown T.P_Shown_value (ok_Shown_value T) rfl (B.room.mono (by decide)) T.b_Shown_value (dv_v 8))) (da_cons (dv_e (de_prop (am := .R) T.c_Shown T.P_Shown_spans (ok_Shown_spans T) rfl (B.room.mono (by decide)) T.b_Shown_spans (dv_v 8))) (da_nil)))))) (da_nil)))) (dv_e (de_callB (c_repr B.room) (by rfl) T.z_repr bt_repr (da_cons (dv_e (de_tup (da_cons (dv_v 6) (da_cons (dv_v 7) (da_cons (dv_e (de_lst (da_nil))) (da_nil)))))) (da_nil)))) (by rfl)) (dss_one (ds_ret (de_bl))) (dss_nil)) 
          (dss_one (ds_forR1 B.own B.calm (by rfl) T.z_range (da_cons (dv_e (de_op o_add (dv_e (de_int)) (dv_e (de_call (ms := [.F, .F]) (ok_law_take T) rfl (B.room.mono (by decide)) T.m_law_take T.F_law_take.kp T.b_law_take .nil (fun _ => .nil) B.tk rfl (da_cons (dv_v 1) (da_cons (dv_e (de_int)) (da_nil))))))) (da_nil)) (dg_name (i := 10) B.nd (by rfl) (by first | exact Or.inl rfl | exact Or.inr rfl)) (dss_cons (ds_set (i := 11) B.nd (by rfl) (by first | exact Or.inl rfl | exact Or.inr rfl) (de_call (ms := [.F, .F]) (ok_law_take T) rfl (B.room.mono (by decide)) T.m_law_take T.F_law_take.kp T.b_law_take .nil (fun _ => .nil) B.tk rfl (da_cons (dv_v 1) (da_cons (dv_e (de_int)) (da_nil))))) 
            (dss_cons (ds_forR1 B.own B.calm (by rfl) T.z_range (da_cons (dv_e (de_op o_add (dv_v 11) (dv_e (de_int)))) (da_nil)) (dg_name (i := 12) B.nd (by rfl) (by first | exact Or.inl rfl | exact Or.inr rfl)) (dss_cons (ds_set (i := 13) B.nd (by rfl) (by first | exact Or.inl rfl | exact Or.inr rfl) (de_call (ms := [.F, .F, .F, .F, .F]) (ok_law_later T) rfl (B.room.mono (by decide)) T.m_law_later T.F_law_later.kp T.b_law_later .nil (fun _ => .nil) B.tk rfl (da_cons (dv_v 7) (da_cons (dv_v 9) (da_cons (dv_v 3) (da_cons (dv_v 4) (da_cons (dv_v 12) (da_nil)))))))) 
              (dss_cons (ds_if (dt_cmp o_neS (dv_e (de_callB (c_repr B.room) (by rfl) T.z_repr bt_repr (da_cons (dv_e (de_meth (ms := [.R, .F]) T.c_Shown T.M_Shown_at (ok_Shown_at T) rfl (B.room.mono (by decide)) T.b_Shown_at .nil (fun _ => .nil) B.tk rfl (dv_v 8) (da_cons (dv_e (de_op o_add (dv_v 6) (dv_v 12))) (da_nil)))) (da_nil)))) (dv_e (de_callB (c_repr B.room) (by rfl) T.z_repr bt_repr (da_cons (dv_v 13) (da_nil)))) (by rfl)) (dss_one (ds_ret (de_bl))) (dss_nil)) 
              (dss_one (ds_if (dt_cmp o_neS (dv_e (de_callB (c_repr B.room) (by rfl) T.z_repr bt_repr (da_cons (dv_e (de_methK (ms := [.R, .F]) T.c_Shown T.M_Shown_distance (ok_Shown_distance T) rfl (B.room.mono (by decide)) T.w0_Shown_distance (by decide) B.tk rfl rfl (dv_v 8) (dk_cons (dv_e (de_op o_add (dv_v 6) (dv_v 12))) (dk_nil)))) (da_nil)))) (dv_e (de_callB (c_repr B.room) (by rfl) T.z_repr bt_repr (da_cons (dv_e (de_call (ms := [.F, .F]) (ok_law_gap T) rfl (B.room.mono (by decide)) T.m_law_gap T.F_law_gap.kp T.b_law_gap .nil (fun _ => .nil) B.tk rfl (da_cons (dv_v 13) (da_cons (dv_e (de_call (ms := [.F, .F, .F]) (ok_law_wide T) rfl (B.room.mono (by decide)) T.m_law_wide T.F_law_wide.kp T.b_law_wide .nil (fun _ => .nil) B.tk rfl (da_cons (dv_v 9) (da_cons (dv_v 3) (da_cons (dv_v 12) (da_nil)))))) (da_nil))))) (da_nil)))) (by rfl)) (dss_one (ds_ret (de_bl))) (dss_nil)))))) 
            (dss_cons (ds_par3 (i := 14) (j := 7) (l := 6) B.calm B.nd (by rfl) (by rfl) (by rfl) (by decide) (by decide) (by decide) (by rfl) (by rfl) (by rfl) (da_cons (dv_e (de_meth0 (ms := [.R]) T.c_Shown T.M_Shown_copy (ok_Shown_copy T) rfl (B.room.mono (by decide)) T.b_Shown_copy .nil (fun _ => .nil) B.tk rfl (dv_v 8))) (da_cons (dv_e (de_call (ms := [.F, .F, .F, .F, .F]) (ok_law_later T) rfl (B.room.mono (by decide)) T.m_law_later T.F_law_later.kp T.b_law_later .nil (fun _ => .nil) B.tk rfl (da_cons (dv_v 7) (da_cons (dv_v 9) (da_cons (dv_v 3) (da_cons (dv_v 4) (da_cons (dv_v 11) (da_nil)))))))) (da_cons (dv_e (de_op o_add (dv_v 6) (dv_v 11))) (da_nil))))) 
            (dss_cons (ds_set (i := 9) B.nd (by rfl) (by first | exact Or.inl rfl | exact Or.inr rfl) (de_call (ms := [.F, .F]) (ok_law_spans T) rfl (B.room.mono (by decide)) T.m_law_spans T.F_law_spans.kp T.b_law_spans .nil (fun _ => .nil) B.tk rfl (da_cons (dv_v 1) (da_cons (dv_v 7) (da_nil))))) 
            (dss_cons (ds_par (i := 15) (j := 16) B.calm B.nd (by rfl) (by rfl) (by decide) (by rfl) (by rfl) (da_cons (dv_e (de_call (ms := [.F, .F]) (ok_law_nearest T) rfl (B.room.mono (by decide)) T.m_law_nearest T.F_law_nearest.kp T.b_law_nearest .nil (fun _ => .nil) B.tk rfl (da_cons (dv_v 9) (da_cons (dv_v 7) (da_nil))))) (da_cons (dv_e (de_callTy c_list (by rfl) T.z_list bt_list (da_cons (dv_v 9) (da_nil)))) (da_nil)))) 
            (dss_cons (ds_set (i := 17) B.nd (by rfl) (by first | exact Or.inl rfl | exact Or.inr rfl) (de_if (DTW.dt (dtw_and (dt_cmp o_isNot (dv_v 15) (dv_e (de_non)) (by rfl)) (dtw_and1 (dt_cmp o_gt (dv_e (de_op o_sub (dv_v 15) (dv_v 7))) (dv_v 5) (by rfl))))) (de_op o_sub (dv_v 15) (dv_v 7)) (de_int))) 
            (dss_cons (ds_if (DTW.dt (dtw_or (dt_cmp o_neS (dv_e (de_callB (c_repr B.room) (by rfl) T.z_repr bt_repr (da_cons (dv_e (de_methK (ms := [.L, .F, .R]) T.c_Shown T.M_Shown_learn (ok_Shown_learn T) rfl (B.room.mono (by decide)) T.w0_Shown_learn (by decide) B.tk rfl rfl (dv_v 8) (dk_cons (dv_v 16) (dk_cons (dv_v 6) (dk_nil))))) (da_nil)))) (dv_e (de_callB (c_repr B.room) (by rfl) T.z_repr bt_repr (da_cons (dv_v 17) (da_nil)))) (by rfl)) (dtw_or1 (dt_cmp o_neS (dv_e (de_callB (c_repr B.room) (by rfl) T.z_repr bt_repr (da_cons (dv_e (de_meth (ms := [.R, .F]) T.c_Shown T.M_Shown_at (ok_Shown_at T) rfl (B.room.mono (by decide)) T.b_Shown_at .nil (fun _ => .nil) B.tk rfl (dv_v 14) (da_cons (dv_v 6) (da_nil)))) (da_nil)))) (dv_e (de_callB (c_repr B.room) (by rfl) T.z_repr bt_repr (da_cons (dv_v 7) (da_nil)))) (by rfl))))) (dss_one (ds_ret (de_bl))) (dss_nil)) 
            (dss_cons (ds_set (i := 7) B.nd (by rfl) (by first | exact Or.inl rfl | exact Or.inr rfl) (de_op o_add (dv_v 7) (dv_v 17))) 
            (dss_cons (ds_expr (de_clear (i := 16) (by rfl) (by first | exact Or.inl rfl | exact Or.inr (Or.inl rfl) | exact Or.inr (Or.inr rfl)))) 
            (dss_cons (ds_if (dt_cmp o_neS (dv_e (de_callB (c_repr B.room) (by rfl) T.z_repr bt_repr (da_cons (dv_e (de_tup (da_cons (dv_e (de_prop (am := .R) T.c_Shown T.P_Shown_reading (ok_Shown_reading T) rfl (B.room.mono (by decide)) T.b_Shown_reading (dv_v 8))) (da_cons (dv_e (de_prop (am := .R) T.c_Shown T.P_Shown_value (ok_Shown_value T) rfl (B.room.mono (by decide)) T.b_Shown_value (dv_v 8))) (da_cons (dv_e (de_prop (am := .R) T.c_Shown T.P_Shown_spans (ok_Shown_spans T) rfl (B.room.mono (by decide)) T.b_Shown_spans (dv_v 8))) (da_nil)))))) (da_nil)))) (dv_e (de_callB (c_repr B.room) (by rfl) T.z_repr bt_repr (da_cons (dv_e (de_tup (da_cons (dv_v 6) (da_cons (dv_v 7) (da_cons (dv_v 9) (da_nil)))))) (da_nil)))) (by rfl)) (dss_one (ds_ret (de_bl))) (dss_nil)) 
            (dss_cons (ds_expr (de_appT (dv_e (de_prop (am := .R) T.c_Shown T.P_Shown_spans (ok_Shown_spans T) rfl (B.room.mono (by decide)) T.b_Shown_spans (dv_v 8))) (dv_e (de_tup (da_cons (dv_e (de_int)) (da_cons (dv_e (de_int)) (da_nil))))))) 
            (dss_one (ds_if (DTW.dt (dtw_or (dt_cmp (o_ne B.room.units) (dv_e (de_meth (ms := [.L, .F, .F]) T.c_Shown T.M_Shown_learn (ok_Shown_learn T) rfl (B.room.mono (by decide)) T.b_Shown_learn .nil (fun _ => .nil) B.tk rfl (dv_v 14) (da_cons (dv_v 6) (da_cons (dv_e (de_lst (da_nil))) (da_nil))))) (dv_e (de_int)) (by rfl)) (dtw_or1 (dt_cmp (o_ne B.room.units) (dv_e (de_prop (am := .R) T.c_Shown T.P_Shown_spans (ok_Shown_spans T) rfl (B.room.mono (by decide)) T.b_Shown_spans (dv_v 8))) (dv_v 9) (by rfl))))) (dss_one (ds_ret (de_bl))) (dss_nil))))))))))))))))))))) 
        (dss_one (ds_ret (de_bl)))
    exact ⟨_, pss_cons (ps_set (i := 1) sc_law.nd rfl (by first | exact Or.inl rfl | exact Or.inr rfl) (DL.pe_callSD (ok_law_begin T) (B.room.mono (by decide)) (by rfl) T.m_law_begin T.F_law_begin.kp T.b_law_begin .nil (fun σ => passAt B.tk σ) (pa_cons (pv 0) pa_nil))) rest, law_run h hm⟩
end
theorem all_mk {l : PySem.W.OpenLaw} {w : World} {K : PySem.W.Frag} {h : Heap} {mg : Str → Option Value} {fa : Addr} (hm : ∀ (a_Shown : Addr) (ns : List Int), ns.length ≤ 63 → ∃ s', F_law a_Shown (lawSt ns 16) = .ok (.rt (.fz (.bl true))) s') (X : K.In h) (G : h.Ns mainGlobals mg) (hfa : mg "law" = some (.ref fa))
    {A_Shown A_f_law_begin A_f_law_take A_f_law_pick A_f_is_between A_f_is_integer A_f_Shown_init A_f_Shown_reading A_p_Shown_reading A_f_Shown_value A_p_Shown_value A_f_Shown_spans A_p_Shown_spans A_f_law_nearest A_f_law_wide A_f_law_later A_f_Shown_ticks_to A_f_gaps A_f_way_to A_f_moved A_f_Shown_at A_f_widened A_f_Shown_distance A_f_law_gap A_f_Shown_copy A_f_law_spans A_f_is_list A_f_is_end A_f_are_spans A_f_Shown_learn A_f_law : Addr} {od0 an0 od1 an1 od2 an2 od3 an3 od4 an4 od5 an5 od6 an6 od7 an7 od8 an8 od9 an9 od10 an10 od11 an11 od12 an12 od13 an13 od14 an14 od15 an15 od16 an16 od17 an17 od18 an18 od19 an19 od20 an20 od21 an21 od22 an22 od23 an23 od24 an24 od25 an25 od26 an26 : Option Addr} {sl0 sl1 sl2 sl3 sl4 sl5 sl6 sl7 sl8 sl9 sl10 sl11 sl12 sl13 sl14 sl15 sl16 sl17 sl18 sl19 sl20 sl21 sl22 sl23 sl24 sl25 sl26 : Array (Option Value)} {oc0 kV0 dc0 pm0 cd0 ct0 oc1 kV1 dc1 pm1 cd1 ct1 oc2 kV2 dc2 pm2 cd2 ct2 oc3 kV3 dc3 pm3 cd3 ct3 oc4 kV4 dc4 pm4 cd4 ct4 oc5 kV5 dc5 pm5 cd5 ct5 oc6 kV6 dc6 pm6 cd6 ct6 oc7 kV7 dc7 pm7 cd7 ct7 oc8 kV8 dc8 pm8 cd8 ct8 oc9 kV9 dc9 pm9 cd9 ct9 oc10 kV10 dc10 pm10 cd10 ct10 oc11 kV11 dc11 pm11 cd11 ct11 oc12 kV12 dc12 pm12 cd12 ct12 oc13 kV13 dc13 pm13 cd13 ct13 oc14 kV14 dc14 pm14 cd14 ct14 oc15 kV15 dc15 pm15 cd15 ct15 oc16 kV16 dc16 pm16 cd16 ct16 oc17 kV17 dc17 pm17 cd17 ct17 oc18 kV18 dc18 pm18 cd18 ct18 oc19 kV19 dc19 pm19 cd19 ct19 oc20 kV20 dc20 pm20 cd20 ct20 oc21 kV21 dc21 pm21 cd21 ct21 oc22 kV22 dc22 pm22 cd22 ct22 oc23 kV23 dc23 pm23 cd23 ct23 oc24 kV24 dc24 pm24 cd24 ct24 oc25 kV25 dc25 pm25 cd25 ct25 oc26 kV26 dc26 pm26 cd26 ct26 : Value} {tk_MOST_SLEW tk_MOST_DRIFT tk_MOST_READING tk_EXACT : Tok} {rest_Shown_reading rest_Shown_value rest_Shown_spans : List Value}
    (zz_abs : PySem.W.nsIn K mainGlobals "abs" = some none)
    (zz_list : PySem.W.nsIn K mainGlobals "list" = some none)
    (zz_range : PySem.W.nsIn K mainGlobals "range" = some none)
    (zz_len : PySem.W.nsIn K mainGlobals "len" = some none)
    (zz_min : PySem.W.nsIn K mainGlobals "min" = some none)
    (zz_int : PySem.W.nsIn K mainGlobals "int" = some none)
    (zz_divmod : PySem.W.nsIn K mainGlobals "divmod" = some none)
    (zz_isinstance : PySem.W.nsIn K mainGlobals "isinstance" = some none)
    (zz_bool : PySem.W.nsIn K mainGlobals "bool" = some none)
    (zz_repr : PySem.W.nsIn K mainGlobals "repr" = some none)
    (zz_max : PySem.W.nsIn K mainGlobals "max" = some none)
    (zz_tuple : PySem.W.nsIn K mainGlobals "tuple" = some none)
    (zz_enumerate : PySem.W.nsIn K mainGlobals "enumerate" = some none)
    (zz_zip : PySem.W.nsIn K mainGlobals "zip" = some none)
    (zz_all : PySem.W.nsIn K mainGlobals "all" = some none)
    (hg_MOST_SLEW : PySem.W.nsIn K mainGlobals "MOST_SLEW" = some (some (.int 900 tk_MOST_SLEW)))
    (hg_MOST_DRIFT : PySem.W.nsIn K mainGlobals "MOST_DRIFT" = some (some (.int 500 tk_MOST_DRIFT)))
    (hg_MOST_READING : PySem.W.nsIn K mainGlobals "MOST_READING" = some (some (.int 1000000000 tk_MOST_READING)))
    (hg_EXACT : PySem.W.nsIn K mainGlobals "EXACT" = some (some (.int 1000 tk_EXACT)))
    (hm_Shown : PySem.W.nsIn K mainGlobals "Shown" = some (some (.ref A_Shown)))
    (pg_Shown : PySem.W.plainGet K A_Shown Str.empty = true)
    (hd_Shown : PySem.W.hasDictIn K A_Shown = true)
    (po_Shown : PySem.W.plainOver K A_Shown = true)
    (sa_Shown : PySem.W.findIn K (.ref A_Shown) "__setattr__" = some (some (.builtin "object.__setattr__")))
    (hn_Shown_c_reading : PySem.W.findIn K (.ref A_Shown) "c_reading" = some none)
    (hn_Shown_c_rules : PySem.W.findIn K (.ref A_Shown) "c_rules" = some none)
    (hn_Shown_c_spans : PySem.W.findIn K (.ref A_Shown) "c_spans" = some none)
    (hn_Shown_c_value : PySem.W.findIn K (.ref A_Shown) "c_value" = some none)
    (l_law_begin : K.lookup A_f_law_begin = some ⟨oc0, od0, .func (PySem.W.fnOf "_law_begin" "_law_begin" (defArgs s_law_begin) (defBody s_law_begin) (defScope s_law_begin) .none kV0 dc0 pm0 an0 cd0 ct0), sl0⟩)
    (cc_law_begin : PySem.W.codeIn K cd0 "_law_begin" = true)
    (kp_law_begin : PySem.W.keepIn K (.ref A_f_law_begin) = true)
    (at_law_begin : PySem.W.nsIn K mainGlobals "_law_begin" = some (some (.ref A_f_law_begin)))
    (l_law_take : K.lookup A_f_law_take = some ⟨oc1, od1, .func (PySem.W.fnOf "_law_take" "_law_take" (defArgs s_law_take) (defBody s_law_take) (defScope s_law_take) .none kV1 dc1 pm1 an1 cd1 ct1), sl1⟩)
    (cc_law_take : PySem.W.codeIn K cd1 "_law_take" = true)
    (kp_law_take : PySem.W.keepIn K (.ref A_f_law_take) = true)
    (at_law_take : PySem.W.nsIn K mainGlobals "_law_take" = some (some (.ref A_f_law_take)))
    (l_law_pick : K.lookup A_f_law_pick = some ⟨oc2, od2, .func (PySem.W.fnOf "_law_pick" "_law_pick" (defArgs s_law_pick) (defBody s_law_pick) (defScope s_law_pick) .none kV2 dc2 pm2 an2 cd2 ct2), sl2⟩)
    (cc_law_pick : PySem.W.codeIn K cd2 "_law_pick" = true)
    (kp_law_pick : PySem.W.keepIn K (.ref A_f_law_pick) = true)
    (at_law_pick : PySem.W.nsIn K mainGlobals "_law_pick" = some (some (.ref A_f_law_pick)))
    (l_is_between : K.lookup A_f_is_between = some ⟨oc3, od3, .func (PySem.W.fnOf "is_between" "is_between" (defArgs s_is_between) (defBody s_is_between) (defScope s_is_between) .none kV3 dc3 pm3 an3 cd3 ct3), sl3⟩)
    (cc_is_between : PySem.W.codeIn K cd3 "is_between" = true)
    (kp_is_between : PySem.W.keepIn K (.ref A_f_is_between) = true)
    (at_is_between : PySem.W.nsIn K mainGlobals "is_between" = some (some (.ref A_f_is_between)))
    (l_is_integer : K.lookup A_f_is_integer = some ⟨oc4, od4, .func (PySem.W.fnOf "is_integer" "is_integer" (defArgs s_is_integer) (defBody s_is_integer) (defScope s_is_integer) .none kV4 dc4 pm4 an4 cd4 ct4), sl4⟩)
    (cc_is_integer : PySem.W.codeIn K cd4 "is_integer" = true)
    (kp_is_integer : PySem.W.keepIn K (.ref A_f_is_integer) = true)
    (at_is_integer : PySem.W.nsIn K mainGlobals "is_integer" = some (some (.ref A_f_is_integer)))
    (l_Shown_init : K.lookup A_f_Shown_init = some ⟨oc5, od5, .func (PySem.W.fnOf "__init__" "Shown.__init__" (defArgs s_Shown_init) (defBody s_Shown_init) (defScope s_Shown_init) .none kV5 dc5 pm5 an5 cd5 ct5), sl5⟩)
    (cc_Shown_init : PySem.W.codeIn K cd5 "Shown.__init__" = true)
    (kp_Shown_init : PySem.W.keepIn K (.ref A_f_Shown_init) = true)
    (mk_Shown : PySem.W.makesIn K A_Shown = true)
    (at_Shown_init : PySem.W.findIn K (.ref A_Shown) "__init__" = some (some (.ref A_f_Shown_init)))
    (is_Shown_init : PySem.W.isFn K (.ref A_f_Shown_init) = true)
    (kc_Shown : PySem.W.keepIn K (.ref A_Shown) = true)
    (l_Shown_reading : K.lookup A_f_Shown_reading = some ⟨oc6, od6, .func (PySem.W.fnOf "reading" "Shown.reading" (defArgs s_Shown_reading) (defBody s_Shown_reading) (defScope s_Shown_reading) .none kV6 dc6 pm6 an6 cd6 ct6), sl6⟩)
    (cc_Shown_reading : PySem.W.codeIn K cd6 "Shown.reading" = true)
    (kp_Shown_reading : PySem.W.keepIn K (.ref A_f_Shown_reading) = true)
    (at_Shown_reading : PySem.W.findIn K (.ref A_Shown) "reading" = some (some (.ref A_p_Shown_reading)))
    (pget_Shown_reading : PySem.W.specialIn K (.ref A_p_Shown_reading) "__get__" = some (some (.builtin "property.__get__")))
    (ptak_Shown_reading : PySem.W.takesIn K (.ref A_p_Shown_reading) = some true)
    (prec_Shown_reading : PySem.W.recIn K A_p_Shown_reading "property" = some (.ref A_f_Shown_reading :: rest_Shown_reading))
    (l_Shown_value : K.lookup A_f_Shown_value = some ⟨oc7, od7, .func (PySem.W.fnOf "value" "Shown.value" (defArgs s_Shown_value) (defBody s_Shown_value) (defScope s_Shown_value) .none kV7 dc7 pm7 an7 cd7 ct7), sl7⟩)
    (cc_Shown_value : PySem.W.codeIn K cd7 "Shown.value" = true)
    (kp_Shown_value : PySem.W.keepIn K (.ref A_f_Shown_value) = true)
    (at_Shown_value : PySem.W.findIn K (.ref A_Shown) "value" = some (some (.ref A_p_Shown_value)))
    (pget_Shown_value : PySem.W.specialIn K (.ref A_p_Shown_value) "__get__" = some (some (.builtin "property.__get__")))
    (ptak_Shown_value : PySem.W.takesIn K (.ref A_p_Shown_value) = some true)
    (prec_Shown_value : PySem.W.recIn K A_p_Shown_value "property" = some (.ref A_f_Shown_value :: rest_Shown_value))
    (l_Shown_spans : K.lookup A_f_Shown_spans = some ⟨oc8, od8, .func (PySem.W.fnOf "spans" "Shown.spans" (defArgs s_Shown_spans) (defBody s_Shown_spans) (defScope s_Shown_spans) .none kV8 dc8 pm8 an8 cd8 ct8), sl8⟩)
    (cc_Shown_spans : PySem.W.codeIn K cd8 "Shown.spans" = true)
    (kp_Shown_spans : PySem.W.keepIn K (.ref A_f_Shown_spans) = true)
    (at_Shown_spans : PySem.W.findIn K (.ref A_Shown) "spans" = some (some (.ref A_p_Shown_spans)))
    (pget_Shown_spans : PySem.W.specialIn K (.ref A_p_Shown_spans) "__get__" = some (some (.builtin "property.__get__")))
    (ptak_Shown_spans : PySem.W.takesIn K (.ref A_p_Shown_spans) = some true)
    (prec_Shown_spans : PySem.W.recIn K A_p_Shown_spans "property" = some (.ref A_f_Shown_spans :: rest_Shown_spans))
    (l_law_nearest : K.lookup A_f_law_nearest = some ⟨oc9, od9, .func (PySem.W.fnOf "_law_nearest" "_law_nearest" (defArgs s_law_nearest) (defBody s_law_nearest) (defScope s_law_nearest) .none kV9 dc9 pm9 an9 cd9 ct9), sl9⟩)
    (cc_law_nearest : PySem.W.codeIn K cd9 "_law_nearest" = true)
    (kp_law_nearest : PySem.W.keepIn K (.ref A_f_law_nearest) = true)
    (at_law_nearest : PySem.W.nsIn K mainGlobals "_law_nearest" = some (some (.ref A_f_law_nearest)))
    (l_law_wide : K.lookup A_f_law_wide = some ⟨oc10, od10, .func (PySem.W.fnOf "_law_wide" "_law_wide" (defArgs s_law_wide) (defBody s_law_wide) (defScope s_law_wide) .none kV10 dc10 pm10 an10 cd10 ct10), sl10⟩)
    (cc_law_wide : PySem.W.codeIn K cd10 "_law_wide" = true)
    (kp_law_wide : PySem.W.keepIn K (.ref A_f_law_wide) = true)
    (at_law_wide : PySem.W.nsIn K mainGlobals "_law_wide" = some (some (.ref A_f_law_wide)))
    (l_law_later : K.lookup A_f_law_later = some ⟨oc11, od11, .func (PySem.W.fnOf "_law_later" "_law_later" (defArgs s_law_later) (defBody s_law_later) (defScope s_law_later) .none kV11 dc11 pm11 an11 cd11 ct11), sl11⟩)
    (cc_law_later : PySem.W.codeIn K cd11 "_law_later" = true)
    (kp_law_later : PySem.W.keepIn K (.ref A_f_law_later) = true)
    (at_law_later : PySem.W.nsIn K mainGlobals "_law_later" = some (some (.ref A_f_law_later)))
    (l_Shown_ticks_to : K.lookup A_f_Shown_ticks_to = some ⟨oc12, od12, .func (PySem.W.fnOf "ticks_to" "Shown.ticks_to" (defArgs s_Shown_ticks_to) (defBody s_Shown_ticks_to) (defScope s_Shown_ticks_to) .none kV12 dc12 pm12 an12 cd12 ct12), sl12⟩)
    (cc_Shown_ticks_to : PySem.W.codeIn K cd12 "Shown.ticks_to" = true)
    (kp_Shown_ticks_to : PySem.W.keepIn K (.ref A_f_Shown_ticks_to) = true)
    (at_Shown_ticks_to : PySem.W.findIn K (.ref A_Shown) "ticks_to" = some (some (.ref A_f_Shown_ticks_to)))
    (is_Shown_ticks_to : PySem.W.isFn K (.ref A_f_Shown_ticks_to) = true)
    (l_gaps : K.lookup A_f_gaps = some ⟨oc13, od13, .func (PySem.W.fnOf "gaps" "gaps" (defArgs s_gaps) (defBody s_gaps) (defScope s_gaps) .none kV13 dc13 pm13 an13 cd13 ct13), sl13⟩)
    (cc_gaps : PySem.W.codeIn K cd13 "gaps" = true)
    (kp_gaps : PySem.W.keepIn K (.ref A_f_gaps) = true)
    (at_gaps : PySem.W.nsIn K mainGlobals "gaps" = some (some (.ref A_f_gaps)))
    (l_way_to : K.lookup A_f_way_to = some ⟨oc14, od14, .func (PySem.W.fnOf "way_to" "way_to" (defArgs s_way_to) (defBody s_way_to) (defScope s_way_to) .none kV14 dc14 pm14 an14 cd14 ct14), sl14⟩)
    (cc_way_to : PySem.W.codeIn K cd14 "way_to" = true)
    (kp_way_to : PySem.W.keepIn K (.ref A_f_way_to) = true)
    (at_way_to : PySem.W.nsIn K mainGlobals "way_to" = some (some (.ref A_f_way_to)))
    (l_moved : K.lookup A_f_moved = some ⟨oc15, od15, .func (PySem.W.fnOf "moved" "moved" (defArgs s_moved) (defBody s_moved) (defScope s_moved) .none kV15 dc15 pm15 an15 cd15 ct15), sl15⟩)
    (cc_moved : PySem.W.codeIn K cd15 "moved" = true)
    (kp_moved : PySem.W.keepIn K (.ref A_f_moved) = true)
    (at_moved : PySem.W.nsIn K mainGlobals "moved" = some (some (.ref A_f_moved)))
    (l_Shown_at : K.lookup A_f_Shown_at = some ⟨oc16, od16, .func (PySem.W.fnOf "at" "Shown.at" (defArgs s_Shown_at) (defBody s_Shown_at) (defScope s_Shown_at) .none kV16 dc16 pm16 an16 cd16 ct16), sl16⟩)
    (cc_Shown_at : PySem.W.codeIn K cd16 "Shown.at" = true)
    (kp_Shown_at : PySem.W.keepIn K (.ref A_f_Shown_at) = true)
    (at_Shown_at : PySem.W.findIn K (.ref A_Shown) "at" = some (some (.ref A_f_Shown_at)))
    (is_Shown_at : PySem.W.isFn K (.ref A_f_Shown_at) = true)
    (l_widened : K.lookup A_f_widened = some ⟨oc17, od17, .func (PySem.W.fnOf "widened" "widened" (defArgs s_widened) (defBody s_widened) (defScope s_widened) .none kV17 dc17 pm17 an17 cd17 ct17), sl17⟩)
    (cc_widened : PySem.W.codeIn K cd17 "widened" = true)
    (kp_widened : PySem.W.keepIn K (.ref A_f_widened) = true)
    (at_widened : PySem.W.nsIn K mainGlobals "widened" = some (some (.ref A_f_widened)))
    (l_Shown_distance : K.lookup A_f_Shown_distance = some ⟨oc18, od18, .func (PySem.W.fnOf "distance" "Shown.distance" (defArgs s_Shown_distance) (defBody s_Shown_distance) (defScope s_Shown_distance) .none kV18 dc18 pm18 an18 cd18 ct18), sl18⟩)
    (cc_Shown_distance : PySem.W.codeIn K cd18 "Shown.distance" = true)
    (kp_Shown_distance : PySem.W.keepIn K (.ref A_f_Shown_distance) = true)
    (at_Shown_distance : PySem.W.findIn K (.ref A_Shown) "distance" = some (some (.ref A_f_Shown_distance)))
    (is_Shown_distance : PySem.W.isFn K (.ref A_f_Shown_distance) = true)
    (l_law_gap : K.lookup A_f_law_gap = some ⟨oc19, od19, .func (PySem.W.fnOf "_law_gap" "_law_gap" (defArgs s_law_gap) (defBody s_law_gap) (defScope s_law_gap) .none kV19 dc19 pm19 an19 cd19 ct19), sl19⟩)
    (cc_law_gap : PySem.W.codeIn K cd19 "_law_gap" = true)
    (kp_law_gap : PySem.W.keepIn K (.ref A_f_law_gap) = true)
    (at_law_gap : PySem.W.nsIn K mainGlobals "_law_gap" = some (some (.ref A_f_law_gap)))
    (l_Shown_copy : K.lookup A_f_Shown_copy = some ⟨oc20, od20, .func (PySem.W.fnOf "copy" "Shown.copy" (defArgs s_Shown_copy) (defBody s_Shown_copy) (defScope s_Shown_copy) .none kV20 dc20 pm20 an20 cd20 ct20), sl20⟩)
    (cc_Shown_copy : PySem.W.codeIn K cd20 "Shown.copy" = true)
    (kp_Shown_copy : PySem.W.keepIn K (.ref A_f_Shown_copy) = true)
    (at_Shown_copy : PySem.W.findIn K (.ref A_Shown) "copy" = some (some (.ref A_f_Shown_copy)))
    (is_Shown_copy : PySem.W.isFn K (.ref A_f_Shown_copy) = true)
    (l_law_spans : K.lookup A_f_law_spans = some ⟨oc21, od21, .func (PySem.W.fnOf "_law_spans" "_law_spans" (defArgs s_law_spans) (defBody s_law_spans) (defScope s_law_spans) .none kV21 dc21 pm21 an21 cd21 ct21), sl21⟩)
    (cc_law_spans : PySem.W.codeIn K cd21 "_law_spans" = true)
    (kp_law_spans : PySem.W.keepIn K (.ref A_f_law_spans) = true)
    (at_law_spans : PySem.W.nsIn K mainGlobals "_law_spans" = some (some (.ref A_f_law_spans)))
    (l_is_list : K.lookup A_f_is_list = some ⟨oc22, od22, .func (PySem.W.fnOf "is_list" "is_list" (defArgs s_is_list) (defBody s_is_list) (defScope s_is_list) .none kV22 dc22 pm22 an22 cd22 ct22), sl22⟩)
    (cc_is_list : PySem.W.codeIn K cd22 "is_list" = true)
    (kp_is_list : PySem.W.keepIn K (.ref A_f_is_list) = true)
    (at_is_list : PySem.W.nsIn K mainGlobals "is_list" = some (some (.ref A_f_is_list)))
    (l_is_end : K.lookup A_f_is_end = some ⟨oc23, od23, .func (PySem.W.fnOf "is_end" "is_end" (defArgs s_is_end) (defBody s_is_end) (defScope s_is_end) .none kV23 dc23 pm23 an23 cd23 ct23), sl23⟩)
    (cc_is_end : PySem.W.codeIn K cd23 "is_end" = true)
    (kp_is_end : PySem.W.keepIn K (.ref A_f_is_end) = true)
    (at_is_end : PySem.W.nsIn K mainGlobals "is_end" = some (some (.ref A_f_is_end)))
    (l_are_spans : K.lookup A_f_are_spans = some ⟨oc24, od24, .func (PySem.W.fnOf "are_spans" "are_spans" (defArgs s_are_spans) (defBody s_are_spans) (defScope s_are_spans) .none kV24 dc24 pm24 an24 cd24 ct24), sl24⟩)
    (cc_are_spans : PySem.W.codeIn K cd24 "are_spans" = true)
    (kp_are_spans : PySem.W.keepIn K (.ref A_f_are_spans) = true)
    (at_are_spans : PySem.W.nsIn K mainGlobals "are_spans" = some (some (.ref A_f_are_spans)))
    (l_Shown_learn : K.lookup A_f_Shown_learn = some ⟨oc25, od25, .func (PySem.W.fnOf "learn" "Shown.learn" (defArgs s_Shown_learn) (defBody s_Shown_learn) (defScope s_Shown_learn) .none kV25 dc25 pm25 an25 cd25 ct25), sl25⟩)
    (cc_Shown_learn : PySem.W.codeIn K cd25 "Shown.learn" = true)
    (kp_Shown_learn : PySem.W.keepIn K (.ref A_f_Shown_learn) = true)
    (at_Shown_learn : PySem.W.findIn K (.ref A_Shown) "learn" = some (some (.ref A_f_Shown_learn)))
    (is_Shown_learn : PySem.W.isFn K (.ref A_f_Shown_learn) = true)
    (l_law : K.lookup A_f_law = some ⟨oc26, od26, .func (PySem.W.fnOf "law" "law" (defArgs s_law) (defBody s_law) (defScope s_law) .none kV26 dc26 pm26 an26 cd26 ct26), sl26⟩)
    (cc_law : PySem.W.codeIn K cd26 "law" = true)
    (kp_law : PySem.W.keepIn K (.ref A_f_law) = true)
    (at_law : PySem.W.nsIn K mainGlobals "law" = some (some (.ref A_f_law))) :
    ∃ fd : FuncData, (∀ (s : Shared) (v : Value), BindsTo s fd ⟨[v], []⟩ [("_law_script", v)]) ∧ ∀ base : Heap, K.In base → base.Ns mainGlobals mg → DL.FnOk l.prog w K mg base (L2.CX l.prog w) 5 fa fd ["_law_script"] (spLaw K) := by
  have e := hfa.symm.trans (PySem.W.mg_of X G at_law)
  cases e
  let T : Txt K mg := Txt.mk (z_abs := PySem.W.mg_none_of X G zz_abs)
    (z_list := PySem.W.mg_none_of X G zz_list)
    (z_range := PySem.W.mg_none_of X G zz_range)
    (z_len := PySem.W.mg_none_of X G zz_len)
    (z_min := PySem.W.mg_none_of X G zz_min)
    (z_int := PySem.W.mg_none_of X G zz_int)
    (z_divmod := PySem.W.mg_none_of X G zz_divmod)
    (z_isinstance := PySem.W.mg_none_of X G zz_isinstance)
    (z_bool := PySem.W.mg_none_of X G zz_bool)
    (z_repr := PySem.W.mg_none_of X G zz_repr)
    (z_max := PySem.W.mg_none_of X G zz_max)
    (z_tuple := PySem.W.mg_none_of X G zz_tuple)
    (z_enumerate := PySem.W.mg_none_of X G zz_enumerate)
    (z_zip := PySem.W.mg_none_of X G zz_zip)
    (z_all := PySem.W.mg_none_of X G zz_all)
    (t_MOST_SLEW := tk_MOST_SLEW)
    (g_MOST_SLEW := PySem.W.mg_of X G hg_MOST_SLEW)
    (t_MOST_DRIFT := tk_MOST_DRIFT)
    (g_MOST_DRIFT := PySem.W.mg_of X G hg_MOST_DRIFT)
    (t_MOST_READING := tk_MOST_READING)
    (g_MOST_READING := PySem.W.mg_of X G hg_MOST_READING)
    (t_EXACT := tk_EXACT)
    (g_EXACT := PySem.W.mg_of X G hg_EXACT)
    (a_Shown := A_Shown)
    (m_Shown := PySem.W.mg_of X G hm_Shown)
    (c_Shown := ⟨pg_Shown, hd_Shown, po_Shown, sa_Shown⟩)
    (n_Shown_c_reading := hn_Shown_c_reading)
    (n_Shown_c_rules := hn_Shown_c_rules)
    (n_Shown_c_spans := hn_Shown_c_spans)
    (n_Shown_c_value := hn_Shown_c_value)
    (a_f_law_begin := A_f_law_begin)
    (d_law_begin := PySem.W.fnOf "_law_begin" "_law_begin" (defArgs s_law_begin) (defBody s_law_begin) (defScope s_law_begin) .none kV0 dc0 pm0 an0 cd0 ct0)
    (F_law_begin := fun_mk (st := s_law_begin) l_law_begin cc_law_begin kp_law_begin)
    (b_law_begin := (fun_mk (st := s_law_begin) l_law_begin cc_law_begin kp_law_begin).binds (ps := ["_law_script"]) fun _ _ _ _ _ _ us hl => match us, hl with | [_], _ => rfl)
    (m_law_begin := PySem.W.mg_of X G at_law_begin)
    (a_f_law_take := A_f_law_take)
    (d_law_take := PySem.W.fnOf "_law_take" "_law_take" (defArgs s_law_take) (defBody s_law_take) (defScope s_law_take) .none kV1 dc1 pm1 an1 cd1 ct1)
    (F_law_take := fun_mk (st := s_law_take) l_law_take cc_law_take kp_law_take)
    (b_law_take := (fun_mk (st := s_law_take) l_law_take cc_law_take kp_law_take).binds (ps := ["_law_draw", "_law_size"]) fun _ _ _ _ _ _ us hl => match us, hl with | [_, _], _ => rfl)
    (m_law_take := PySem.W.mg_of X G at_law_take)
    (a_f_law_pick := A_f_law_pick)
    (d_law_pick := PySem.W.fnOf "_law_pick" "_law_pick" (defArgs s_law_pick) (defBody s_law_pick) (defScope s_law_pick) .none kV2 dc2 pm2 an2 cd2 ct2)
    (F_law_pick := fun_mk (st := s_law_pick) l_law_pick cc_law_pick kp_law_pick)
    (b_law_pick := (fun_mk (st := s_law_pick) l_law_pick cc_law_pick kp_law_pick).binds (ps := ["_law_draw", "_law_some"]) fun _ _ _ _ _ _ us hl => match us, hl with | [_, _], _ => rfl)
    (m_law_pick := PySem.W.mg_of X G at_law_pick)
    (a_f_is_between := A_f_is_between)
    (d_is_between := PySem.W.fnOf "is_between" "is_between" (defArgs s_is_between) (defBody s_is_between) (defScope s_is_between) .none kV3 dc3 pm3 an3 cd3 ct3)
    (F_is_between := fun_mk (st := s_is_between) l_is_between cc_is_between kp_is_between)
    (b_is_between := (fun_mk (st := s_is_between) l_is_between cc_is_between kp_is_between).binds (ps := ["value", "least", "most"]) fun _ _ _ _ _ _ us hl => match us, hl with | [_, _, _], _ => rfl)
    (m_is_between := PySem.W.mg_of X G at_is_between)
    (a_f_is_integer := A_f_is_integer)
    (d_is_integer := PySem.W.fnOf "is_integer" "is_integer" (defArgs s_is_integer) (defBody s_is_integer) (defScope s_is_integer) .none kV4 dc4 pm4 an4 cd4 ct4)
    (F_is_integer := fun_mk (st := s_is_integer) l_is_integer cc_is_integer kp_is_integer)
    (b_is_integer := (fun_mk (st := s_is_integer) l_is_integer cc_is_integer kp_is_integer).binds (ps := ["value"]) fun _ _ _ _ _ _ us hl => match us, hl with | [_], _ => rfl)
    (m_is_integer := PySem.W.mg_of X G at_is_integer)
    (w0_Shown_init := KwB.mk' (fun_mk (st := s_Shown_init) l_Shown_init cc_Shown_init kp_Shown_init) fun _ _ _ _ _ _ us ws h1 h2 => match us, ws, h1, h2 with | [_], [_, _, _, _, _], _, _ => rfl)
    (a_f_Shown_init := A_f_Shown_init)
    (d_Shown_init := PySem.W.fnOf "__init__" "Shown.__init__" (defArgs s_Shown_init) (defBody s_Shown_init) (defScope s_Shown_init) .none kV5 dc5 pm5 an5 cd5 ct5)
    (F_Shown_init := fun_mk (st := s_Shown_init) l_Shown_init cc_Shown_init kp_Shown_init)
    (b_Shown_init := (fun_mk (st := s_Shown_init) l_Shown_init cc_Shown_init kp_Shown_init).binds (ps := ["self", "drift", "slew", "jump", "reading", "value"]) fun _ _ _ _ _ _ us hl => match us, hl with | [_, _, _, _, _, _], _ => rfl)
    (k_Shown := ⟨mk_Shown, at_Shown_init, is_Shown_init, kc_Shown⟩)
    (a_f_Shown_reading := A_f_Shown_reading)
    (d_Shown_reading := PySem.W.fnOf "reading" "Shown.reading" (defArgs s_Shown_reading) (defBody s_Shown_reading) (defScope s_Shown_reading) .none kV6 dc6 pm6 an6 cd6 ct6)
    (F_Shown_reading := fun_mk (st := s_Shown_reading) l_Shown_reading cc_Shown_reading kp_Shown_reading)
    (b_Shown_reading := (fun_mk (st := s_Shown_reading) l_Shown_reading cc_Shown_reading kp_Shown_reading).binds (ps := ["self"]) fun _ _ _ _ _ _ us hl => match us, hl with | [_], _ => rfl)
    (p_Shown_reading := A_p_Shown_reading)
    (P_Shown_reading := ⟨at_Shown_reading, pget_Shown_reading, ptak_Shown_reading, _, prec_Shown_reading⟩)
    (a_f_Shown_value := A_f_Shown_value)
    (d_Shown_value := PySem.W.fnOf "value" "Shown.value" (defArgs s_Shown_value) (defBody s_Shown_value) (defScope s_Shown_value) .none kV7 dc7 pm7 an7 cd7 ct7)
    (F_Shown_value := fun_mk (st := s_Shown_value) l_Shown_value cc_Shown_value kp_Shown_value)
    (b_Shown_value := (fun_mk (st := s_Shown_value) l_Shown_value cc_Shown_value kp_Shown_value).binds (ps := ["self"]) fun _ _ _ _ _ _ us hl => match us, hl with | [_], _ => rfl)
    (p_Shown_value := A_p_Shown_value)
    (P_Shown_value := ⟨at_Shown_value, pget_Shown_value, ptak_Shown_value, _, prec_Shown_value⟩)
    (a_f_Shown_spans := A_f_Shown_spans)
    (d_Shown_spans := PySem.W.fnOf "spans" "Shown.spans" (defArgs s_Shown_spans) (defBody s_Shown_spans) (defScope s_Shown_spans) .none kV8 dc8 pm8 an8 cd8 ct8)
    (F_Shown_spans := fun_mk (st := s_Shown_spans) l_Shown_spans cc_Shown_spans kp_Shown_spans)
    (b_Shown_spans := (fun_mk (st := s_Shown_spans) l_Shown_spans cc_Shown_spans kp_Shown_spans).binds (ps := ["self"]) fun _ _ _ _ _ _ us hl => match us, hl with | [_], _ => rfl)
    (p_Shown_spans := A_p_Shown_spans)
    (P_Shown_spans := ⟨at_Shown_spans, pget_Shown_spans, ptak_Shown_spans, _, prec_Shown_spans⟩)
    (a_f_law_nearest := A_f_law_nearest)
    (d_law_nearest := PySem.W.fnOf "_law_nearest" "_law_nearest" (defArgs s_law_nearest) (defBody s_law_nearest) (defScope s_law_nearest) .none kV9 dc9 pm9 an9 cd9 ct9)
    (F_law_nearest := fun_mk (st := s_law_nearest) l_law_nearest cc_law_nearest kp_law_nearest)
    (b_law_nearest := (fun_mk (st := s_law_nearest) l_law_nearest cc_law_nearest kp_law_nearest).binds (ps := ["_law_ranges", "_law_dot"]) fun _ _ _ _ _ _ us hl => match us, hl with | [_, _], _ => rfl)
    (m_law_nearest := PySem.W.mg_of X G at_law_nearest)
    (a_f_law_wide := A_f_law_wide)
    (d_law_wide := PySem.W.fnOf "_law_wide" "_law_wide" (defArgs s_law_wide) (defBody s_law_wide) (defScope s_law_wide) .none kV10 dc10 pm10 an10 cd10 ct10)
    (F_law_wide := fun_mk (st := s_law_wide) l_law_wide cc_law_wide kp_law_wide)
    (b_law_wide := (fun_mk (st := s_law_wide) l_law_wide cc_law_wide kp_law_wide).binds (ps := ["_law_ranges", "_law_lean", "_law_more"]) fun _ _ _ _ _ _ us hl => match us, hl with | [_, _, _], _ => rfl)
    (m_law_wide := PySem.W.mg_of X G at_law_wide)
    (a_f_law_later := A_f_law_later)
    (d_law_later := PySem.W.fnOf "_law_later" "_law_later" (defArgs s_law_later) (defBody s_law_later) (defScope s_law_later) .none kV11 dc11 pm11 an11 cd11 ct11)
    (F_law_later := fun_mk (st := s_law_later) l_law_later cc_law_later kp_law_later)
    (b_law_later := (fun_mk (st := s_law_later) l_law_later cc_law_later kp_law_later).binds (ps := ["_law_dot", "_law_ranges", "_law_lean", "_law_slide", "_law_ticks"]) fun _ _ _ _ _ _ us hl => match us, hl with | [_, _, _, _, _], _ => rfl)
    (m_law_later := PySem.W.mg_of X G at_law_later)
    (a_f_Shown_ticks_to := A_f_Shown_ticks_to)
    (d_Shown_ticks_to := PySem.W.fnOf "ticks_to" "Shown.ticks_to" (defArgs s_Shown_ticks_to) (defBody s_Shown_ticks_to) (defScope s_Shown_ticks_to) .none kV12 dc12 pm12 an12 cd12 ct12)
    (F_Shown_ticks_to := fun_mk (st := s_Shown_ticks_to) l_Shown_ticks_to cc_Shown_ticks_to kp_Shown_ticks_to)
    (b_Shown_ticks_to := (fun_mk (st := s_Shown_ticks_to) l_Shown_ticks_to cc_Shown_ticks_to kp_Shown_ticks_to).binds (ps := ["self", "reading"]) fun _ _ _ _ _ _ us hl => match us, hl with | [_, _], _ => rfl)
    (M_Shown_ticks_to := ⟨at_Shown_ticks_to, is_Shown_ticks_to, kp_Shown_ticks_to⟩)
    (a_f_gaps := A_f_gaps)
    (d_gaps := PySem.W.fnOf "gaps" "gaps" (defArgs s_gaps) (defBody s_gaps) (defScope s_gaps) .none kV13 dc13 pm13 an13 cd13 ct13)
    (F_gaps := fun_mk (st := s_gaps) l_gaps cc_gaps kp_gaps)
    (b_gaps := (fun_mk (st := s_gaps) l_gaps cc_gaps kp_gaps).binds (ps := ["spans", "value"]) fun _ _ _ _ _ _ us hl => match us, hl with | [_, _], _ => rfl)
    (m_gaps := PySem.W.mg_of X G at_gaps)
    (a_f_way_to := A_f_way_to)
    (d_way_to := PySem.W.fnOf "way_to" "way_to" (defArgs s_way_to) (defBody s_way_to) (defScope s_way_to) .none kV14 dc14 pm14 an14 cd14 ct14)
    (F_way_to := fun_mk (st := s_way_to) l_way_to cc_way_to kp_way_to)
    (b_way_to := (fun_mk (st := s_way_to) l_way_to cc_way_to kp_way_to).binds (ps := ["spans", "value"]) fun _ _ _ _ _ _ us hl => match us, hl with | [_, _], _ => rfl)
    (m_way_to := PySem.W.mg_of X G at_way_to)
    (a_f_moved := A_f_moved)
    (d_moved := PySem.W.fnOf "moved" "moved" (defArgs s_moved) (defBody s_moved) (defScope s_moved) .none kV15 dc15 pm15 an15 cd15 ct15)
    (F_moved := fun_mk (st := s_moved) l_moved cc_moved kp_moved)
    (b_moved := (fun_mk (st := s_moved) l_moved cc_moved kp_moved).binds (ps := ["way", "drift", "slew", "ticks"]) fun _ _ _ _ _ _ us hl => match us, hl with | [_, _, _, _], _ => rfl)
    (m_moved := PySem.W.mg_of X G at_moved)
    (a_f_Shown_at := A_f_Shown_at)
    (d_Shown_at := PySem.W.fnOf "at" "Shown.at" (defArgs s_Shown_at) (defBody s_Shown_at) (defScope s_Shown_at) .none kV16 dc16 pm16 an16 cd16 ct16)
    (F_Shown_at := fun_mk (st := s_Shown_at) l_Shown_at cc_Shown_at kp_Shown_at)
    (b_Shown_at := (fun_mk (st := s_Shown_at) l_Shown_at cc_Shown_at kp_Shown_at).binds (ps := ["self", "reading"]) fun _ _ _ _ _ _ us hl => match us, hl with | [_, _], _ => rfl)
    (M_Shown_at := ⟨at_Shown_at, is_Shown_at, kp_Shown_at⟩)
    (a_f_widened := A_f_widened)
    (d_widened := PySem.W.fnOf "widened" "widened" (defArgs s_widened) (defBody s_widened) (defScope s_widened) .none kV17 dc17 pm17 an17 cd17 ct17)
    (F_widened := fun_mk (st := s_widened) l_widened cc_widened kp_widened)
    (b_widened := (fun_mk (st := s_widened) l_widened cc_widened kp_widened).binds (ps := ["spans", "drift", "ticks"]) fun _ _ _ _ _ _ us hl => match us, hl with | [_, _, _], _ => rfl)
    (m_widened := PySem.W.mg_of X G at_widened)
    (w0_Shown_distance := KwB.mk' (fun_mk (st := s_Shown_distance) l_Shown_distance cc_Shown_distance kp_Shown_distance) fun _ _ _ _ _ _ us ws h1 h2 => match us, ws, h1, h2 with | [_], [_], _, _ => rfl)
    (a_f_Shown_distance := A_f_Shown_distance)
    (d_Shown_distance := PySem.W.fnOf "distance" "Shown.distance" (defArgs s_Shown_distance) (defBody s_Shown_distance) (defScope s_Shown_distance) .none kV18 dc18 pm18 an18 cd18 ct18)
    (F_Shown_distance := fun_mk (st := s_Shown_distance) l_Shown_distance cc_Shown_distance kp_Shown_distance)
    (b_Shown_distance := (fun_mk (st := s_Shown_distance) l_Shown_distance cc_Shown_distance kp_Shown_distance).binds (ps := ["self", "reading"]) fun _ _ _ _ _ _ us hl => match us, hl with | [_, _], _ => rfl)
    (M_Shown_distance := ⟨at_Shown_distance, is_Shown_distance, kp_Shown_distance⟩)
    (a_f_law_gap := A_f_law_gap)
    (d_law_gap := PySem.W.fnOf "_law_gap" "_law_gap" (defArgs s_law_gap) (defBody s_law_gap) (defScope s_law_gap) .none kV19 dc19 pm19 an19 cd19 ct19)
    (F_law_gap := fun_mk (st := s_law_gap) l_law_gap cc_law_gap kp_law_gap)
    (b_law_gap := (fun_mk (st := s_law_gap) l_law_gap cc_law_gap kp_law_gap).binds (ps := ["_law_dot", "_law_ranges"]) fun _ _ _ _ _ _ us hl => match us, hl with | [_, _], _ => rfl)
    (m_law_gap := PySem.W.mg_of X G at_law_gap)
    (a_f_Shown_copy := A_f_Shown_copy)
    (d_Shown_copy := PySem.W.fnOf "copy" "Shown.copy" (defArgs s_Shown_copy) (defBody s_Shown_copy) (defScope s_Shown_copy) .none kV20 dc20 pm20 an20 cd20 ct20)
    (F_Shown_copy := fun_mk (st := s_Shown_copy) l_Shown_copy cc_Shown_copy kp_Shown_copy)
    (b_Shown_copy := (fun_mk (st := s_Shown_copy) l_Shown_copy cc_Shown_copy kp_Shown_copy).binds (ps := ["self"]) fun _ _ _ _ _ _ us hl => match us, hl with | [_], _ => rfl)
    (M_Shown_copy := ⟨at_Shown_copy, is_Shown_copy, kp_Shown_copy⟩)
    (a_f_law_spans := A_f_law_spans)
    (d_law_spans := PySem.W.fnOf "_law_spans" "_law_spans" (defArgs s_law_spans) (defBody s_law_spans) (defScope s_law_spans) .none kV21 dc21 pm21 an21 cd21 ct21)
    (F_law_spans := fun_mk (st := s_law_spans) l_law_spans cc_law_spans kp_law_spans)
    (b_law_spans := (fun_mk (st := s_law_spans) l_law_spans cc_law_spans kp_law_spans).binds (ps := ["_law_draw", "_law_dot"]) fun _ _ _ _ _ _ us hl => match us, hl with | [_, _], _ => rfl)
    (m_law_spans := PySem.W.mg_of X G at_law_spans)
    (a_f_is_list := A_f_is_list)
    (d_is_list := PySem.W.fnOf "is_list" "is_list" (defArgs s_is_list) (defBody s_is_list) (defScope s_is_list) .none kV22 dc22 pm22 an22 cd22 ct22)
    (F_is_list := fun_mk (st := s_is_list) l_is_list cc_is_list kp_is_list)
    (b_is_list := (fun_mk (st := s_is_list) l_is_list cc_is_list kp_is_list).binds (ps := ["value"]) fun _ _ _ _ _ _ us hl => match us, hl with | [_], _ => rfl)
    (m_is_list := PySem.W.mg_of X G at_is_list)
    (a_f_is_end := A_f_is_end)
    (d_is_end := PySem.W.fnOf "is_end" "is_end" (defArgs s_is_end) (defBody s_is_end) (defScope s_is_end) .none kV23 dc23 pm23 an23 cd23 ct23)
    (F_is_end := fun_mk (st := s_is_end) l_is_end cc_is_end kp_is_end)
    (b_is_end := (fun_mk (st := s_is_end) l_is_end cc_is_end kp_is_end).binds (ps := ["value"]) fun _ _ _ _ _ _ us hl => match us, hl with | [_], _ => rfl)
    (m_is_end := PySem.W.mg_of X G at_is_end)
    (a_f_are_spans := A_f_are_spans)
    (d_are_spans := PySem.W.fnOf "are_spans" "are_spans" (defArgs s_are_spans) (defBody s_are_spans) (defScope s_are_spans) .none kV24 dc24 pm24 an24 cd24 ct24)
    (F_are_spans := fun_mk (st := s_are_spans) l_are_spans cc_are_spans kp_are_spans)
    (b_are_spans := (fun_mk (st := s_are_spans) l_are_spans cc_are_spans kp_are_spans).binds (ps := ["value"]) fun _ _ _ _ _ _ us hl => match us, hl with | [_], _ => rfl)
    (m_are_spans := PySem.W.mg_of X G at_are_spans)
    (w0_Shown_learn := KwB.mk' (fun_mk (st := s_Shown_learn) l_Shown_learn cc_Shown_learn kp_Shown_learn) fun _ _ _ _ _ _ us ws h1 h2 => match us, ws, h1, h2 with | [_], [_, _], _, _ => rfl)
    (a_f_Shown_learn := A_f_Shown_learn)
    (d_Shown_learn := PySem.W.fnOf "learn" "Shown.learn" (defArgs s_Shown_learn) (defBody s_Shown_learn) (defScope s_Shown_learn) .none kV25 dc25 pm25 an25 cd25 ct25)
    (F_Shown_learn := fun_mk (st := s_Shown_learn) l_Shown_learn cc_Shown_learn kp_Shown_learn)
    (b_Shown_learn := (fun_mk (st := s_Shown_learn) l_Shown_learn cc_Shown_learn kp_Shown_learn).binds (ps := ["self", "reading", "spans"]) fun _ _ _ _ _ _ us hl => match us, hl with | [_, _, _], _ => rfl)
    (M_Shown_learn := ⟨at_Shown_learn, is_Shown_learn, kp_Shown_learn⟩)
    (a_f_law := fa)
    (d_law := PySem.W.fnOf "law" "law" (defArgs s_law) (defBody s_law) (defScope s_law) .none kV26 dc26 pm26 an26 cd26 ct26)
    (F_law := fun_mk (st := s_law) l_law cc_law kp_law)
    (b_law := (fun_mk (st := s_law) l_law cc_law kp_law).binds (ps := ["_law_script"]) fun _ _ _ _ _ _ us hl => match us, hl with | [_], _ => rfl)
    (m_law := PySem.W.mg_of X G at_law)
  exact ⟨T.d_law, fun s v => .of_eq rfl, fun base _ _ => ok_law T fun ns => hm _ ns⟩
end Law

set_option Elab.async false
set_option linter.all false
set_option maxRecDepth 100000
set_option maxHeartbeats 2000000
/-! M44: the plain law -/
namespace Law
open PySem DL
local macro_rules | `(tactic| walk_at "dlt") => `(tactic| repeat' (first | refine ok.and ?_ | refine ok.or ?_ | refine ok.not ?_ | refine yes ?_ | refine no ?_ | refine ok.eq (a := true) rfl ?_ | refine ok.eq (a := false) rfl ?_ | refine ok.dec rfl (fun _ => ?_) (fun _ => ?_)))
/-! ### spans -/
abbrev OI := Option Int
def oD : OI → D
  | none => .non
  | some i => .int i
abbrev Sp := OI × OI
def spD (x : Sp) : D := .tup [oD x.1, oD x.2]
def inside (lo hi : OI) (v : Int) : Bool := (match lo with | none => true | some l => decide (l ≤ v)) && (match hi with | none => true | some h => decide (v ≤ h))
def low' (lo : OI) (v : Int) (b : OI) : OI := match lo with
  | none => b
  | some l => if v < l then (match b with | none => some (l - v) | some x => if l - v < x then some (l - v) else b) else b
def high' (hi : OI) (v : Int) (a : OI) : OI := match hi with
  | none => a
  | some h => if h < v then (match a with | none => some (v - h) | some x => if v - h < x then some (v - h) else a) else a
/-- none: inside one -/
def gapsL : List Sp → Int → OI → OI → Option (OI × OI)
  | [], _, b, a => some (b, a)
  | (lo, hi) :: r, v, b, a => if inside lo hi v = true then none else gapsL r v (low' lo v b) (high' hi v a)
def gapsR (sp : List Sp) (v : Int) : OI × OI := (gapsL sp v none none).getD (some 0, some 0)
theorem gaps_loop (x : D) (v : Int) (sto : List MO) (dr : Option DrawSt) (Nx : State → Prop) (Rt : DL.T → State → Prop) : ∀ (sp : List Sp) (b a : OI) (w4 w5 : Option W), (w4 = none ∨ ∃ d, w4 = some (.fz d)) → (w5 = none ∨ ∃ d, w5 = some (.fz d)) →
    (match gapsL sp v b a with
      | some (b', a') => ∀ w4 w5, Nx { env := [some (.fz x), some (.fz (.int v)), some (.fz (oD b')), some (.fz (oD a')), w4, w5], sto := sto, dr := dr }
      | none => ∀ e', e'.length = 6 → Rt (.fz (.tup [.int 0, .int 0])) { env := e', sto := sto, dr := dr }) →
    okS (dForL (.tup [.name 4, .name 5]) L_gaps_0 (sp.map spD))
      { env := [some (.fz x), some (.fz (.int v)), some (.fz (oD b)), some (.fz (oD a)), w4, w5], sto := sto, dr := dr } Nx Rt
  | [], b, a, w4, w5, _, _, h => okS.nx rfl (h w4 w5)
  | (lo, hi) :: r, b, a, w4, w5, h4, h5, h => by
    have ih := gaps_loop x v sto dr Nx Rt r (low' lo v b) (high' hi v a) (some (.fz (oD lo))) (some (.fz (oD hi))) (.inr ⟨_, rfl⟩) (.inr ⟨_, rfl⟩)
    have e1 : bindP (.tup [.name 4, .name 5]) (spD (lo, hi)) { env := [some (.fz x), some (.fz (.int v)), some (.fz (oD b)), some (.fz (oD a)), w4, w5], sto := sto, dr := dr } = some { env := [some (.fz x), some (.fz (.int v)), some (.fz (oD b)), some (.fz (oD a)), some (.fz (oD lo)), some (.fz (oD hi))], sto := sto, dr := dr } := by
      rcases h4 with rfl | ⟨_, rfl⟩ <;> rcases h5 with rfl | ⟨_, rfl⟩ <;> rfl
    refine okS.turn e1 (okS.seq (okS.ite ?_))
    have t1 : ok (dAnd (dOr (dB (dOp2 isD (dSlot 4) (dV (dC .non)))) (dB (dOp2 leD (dSlot 4) (dSlot 1)))) (dOr (dB (dOp2 isD (dSlot 5) (dV (dC .non)))) (dB (dOp2 leD (dSlot 1) (dSlot 5))))) { env := [some (.fz x), some (.fz (.int v)), some (.fz (oD b)), some (.fz (oD a)), some (.fz (oD lo)), some (.fz (oD hi))], sto := sto, dr := dr } (fun t s => t = inside lo hi v ∧ s = { env := [some (.fz x), some (.fz (.int v)), some (.fz (oD b)), some (.fz (oD a)), some (.fz (oD lo)), some (.fz (oD hi))], sto := sto, dr := dr }) := by
      cases lo <;> cases hi <;> walk_at "dlt" <;> simp_all [inside] <;> omega
    refine t1.mono fun t s' ht => ?_
    obtain ⟨rfl, rfl⟩ := ht
    unfold gapsL at h
    cases hin : inside lo hi v with
    | true =>
      rw [hin, if_pos rfl] at h
      exact yes (okS.rt rfl (h _ rfl))
    | false =>
      rw [hin, if_neg Bool.false_ne_true] at h
      refine no (okS.skip (okS.seq ?_))
      have t2 : okS (dIf (dAnd (dB (dOp2 isNotD (dSlot 4) (dV (dC .non)))) (dAnd (dB (dOp2 ltD (dSlot 1) (dSlot 4))) (dOr (dB (dOp2 isD (dSlot 2) (dV (dC .non)))) (dB (dOp2 ltD (dV (dOp2 subD (dSlot 4) (dSlot 1))) (dSlot 2)))))) (dAsg 2 (dOp2 subD (dSlot 4) (dSlot 1))) (dNx)) { env := [some (.fz x), some (.fz (.int v)), some (.fz (oD b)), some (.fz (oD a)), some (.fz (oD lo)), some (.fz (oD hi))], sto := sto, dr := dr }
          (fun s => s = { env := [some (.fz x), some (.fz (.int v)), some (.fz (oD (low' lo v b))), some (.fz (oD a)), some (.fz (oD lo)), some (.fz (oD hi))], sto := sto, dr := dr }) Rt := by
        cases lo with
        | none => refine okS.ite ?_; walk_at "dlt"; exact okS.skip (Rt := Rt) rfl
        | some l =>
          by_cases h1 : v < l
          · cases b with
            | none =>
              have e : low' (some l) v none = some (l - v) := by simp [low', h1]
              rw [e]
              refine okS.ite ?_
              walk_at "dlt" <;> first | exact okS.nx (s1 := { env := [some (.fz x), some (.fz (.int v)), some (.fz (.int (l - v))), some (.fz (oD a)), some (.fz (.int l)), some (.fz (oD hi))], sto := sto, dr := dr }) rfl rfl | (exfalso; omega)
            | some y =>
              by_cases h2 : l - v < y
              · have e : low' (some l) v (some y) = some (l - v) := by simp [low', h1, h2]
                rw [e]
                refine okS.ite ?_
                walk_at "dlt" <;> first | exact okS.nx (s1 := { env := [some (.fz x), some (.fz (.int v)), some (.fz (.int (l - v))), some (.fz (oD a)), some (.fz (.int l)), some (.fz (oD hi))], sto := sto, dr := dr }) rfl rfl | (exfalso; omega)
              · have e : low' (some l) v (some y) = some y := by simp [low', h1, h2]
                rw [e]
                refine okS.ite ?_
                walk_at "dlt" <;> first | (exfalso; omega) | exact okS.skip (Rt := Rt) rfl
          · have e : low' (some l) v b = b := by simp [low', h1]
            rw [e]
            refine okS.ite ?_
            walk_at "dlt" <;> first | (exfalso; omega) | exact okS.skip (Rt := Rt) rfl
      refine t2.mono (fun s' hs => ?_) fun _ _ q => q
      subst hs
      have t3 : okS (dIf (dAnd (dB (dOp2 isNotD (dSlot 5) (dV (dC .non)))) (dAnd (dB (dOp2 ltD (dSlot 5) (dSlot 1))) (dOr (dB (dOp2 isD (dSlot 3) (dV (dC .non)))) (dB (dOp2 ltD (dV (dOp2 subD (dSlot 1) (dSlot 5))) (dSlot 3)))))) (dAsg 3 (dOp2 subD (dSlot 1) (dSlot 5))) (dNx)) { env := [some (.fz x), some (.fz (.int v)), some (.fz (oD (low' lo v b))), some (.fz (oD a)), some (.fz (oD lo)), some (.fz (oD hi))], sto := sto, dr := dr }
          (fun s => s = { env := [some (.fz x), some (.fz (.int v)), some (.fz (oD (low' lo v b))), some (.fz (oD (high' hi v a))), some (.fz (oD lo)), some (.fz (oD hi))], sto := sto, dr := dr }) Rt := by
        generalize low' lo v b = b2
        cases hi with
        | none => refine okS.ite ?_; walk_at "dlt"; exact okS.skip (Rt := Rt) rfl
        | some l =>
          by_cases h1 : l < v
          · cases a with
            | none =>
              have e : high' (some l) v none = some (v - l) := by simp [high', h1]
              rw [e]
              refine okS.ite ?_
              walk_at "dlt" <;> first | exact okS.nx (s1 := { env := [some (.fz x), some (.fz (.int v)), some (.fz (oD b2)), some (.fz (.int (v - l))), some (.fz (oD lo)), some (.fz (.int l))], sto := sto, dr := dr }) rfl rfl | (exfalso; omega)
            | some y =>
              by_cases h2 : v - l < y
              · have e : high' (some l) v (some y) = some (v - l) := by simp [high', h1, h2]
                rw [e]
                refine okS.ite ?_
                walk_at "dlt" <;> first | exact okS.nx (s1 := { env := [some (.fz x), some (.fz (.int v)), some (.fz (oD b2)), some (.fz (.int (v - l))), some (.fz (oD lo)), some (.fz (.int l))], sto := sto, dr := dr }) rfl rfl | (exfalso; omega)
              · have e : high' (some l) v (some y) = some y := by simp [high', h1, h2]
                rw [e]
                refine okS.ite ?_
                walk_at "dlt" <;> first | (exfalso; omega) | exact okS.skip (Rt := Rt) rfl
          · have e : high' (some l) v a = a := by simp [high', h1]
            rw [e]
            refine okS.ite ?_
            walk_at "dlt" <;> first | (exfalso; omega) | exact okS.skip (Rt := Rt) rfl
      refine t3.mono (fun s' hs => ?_) fun _ _ q => q
      subst hs
      exact ih h
theorem gaps_pure (sp : List Sp) (v : Int) : pureG F_gaps 6 [.fz (.lst (sp.map spD)), .fz (.int v)] (.fz (.tup [oD (gapsR sp v).1, oD (gapsR sp v).2])) := .of fun sto dr => by
  unfold F_gaps
  refine okS.seq (okS.nx (s1 := { env := [some (.fz (.lst (sp.map spD))), some (.fz (.int v)), some (.fz .non), some (.fz .non), none, none], sto := sto, dr := dr }) rfl ?_)
  refine okS.seq (okS.forS (d := .lst (sp.map spD)) rfl rfl rfl (gaps_loop _ v sto dr _ _ sp none none none none (.inl rfl) (.inl rfl) ?_))
  unfold gapsR
  cases q : gapsL sp v none none with
  | none => exact fun e' he => ⟨rfl, by rw [he]; show 2 ≤ 6; decide, rfl, rfl⟩
  | some p =>
    obtain ⟨b, a⟩ := p
    exact fun w4 w5 => okS.rt rfl ⟨rfl, by show 2 ≤ 6; decide, rfl, rfl⟩
def wayR (sp : List Sp) (v : Int) : OI := match gapsR sp v with
  | (none, none) => none
  | (none, some a) => some (-a)
  | (some b, none) => some b
  | (some b, some a) => if b ≤ a then some b else some (-a)
theorem way_pure (sp : List Sp) (v : Int) : pureG F_way_to 4 [.fz (.lst (sp.map spD)), .fz (.int v)] (.fz (oD (wayR sp v))) := .of fun sto dr => by
  unfold F_way_to
  have e := call_pure (gaps_pure sp v) (fl := dCons (dSlot 0) (dCons (dSlot 1) dNil)) (ms := [.R, .F]) (s := { env := [some (.fz (.lst (sp.map spD))), some (.fz (.int v)), none, none], sto := sto, dr := dr }) rfl rfl rfl rfl rfl
  unfold wayR
  generalize gapsR sp v = ba at e ⊢
  obtain ⟨b, a⟩ := ba
  refine okS.seq (okS.nx (s1 := { env := [some (.fz (.lst (sp.map spD))), some (.fz (.int v)), some (.fz (oD b)), some (.fz (oD a))], sto := sto, dr := dr }) ?_ ?_)
  · exact dUn_eq (dV_eq e) rfl rfl
  · refine okS.seq (okS.ite ?_)
    cases b with
    | none =>
      walk_at "dlt"
      cases a with
      | none => exact okS.rt rfl ⟨rfl, by show 2 ≤ 4; decide, rfl, rfl⟩
      | some y => exact okS.rt rfl ⟨rfl, by show 2 ≤ 4; decide, rfl, rfl⟩
    | some x =>
      walk_at "dlt"
      refine okS.skip ?_
      cases a with
      | none => exact okS.rt rfl ⟨rfl, by show 2 ≤ 4; decide, rfl, rfl⟩
      | some y =>
        refine okS.ret (ok.ite ?_)
        walk_at "dlt"
        · rename_i h
          exact ok.eq rfl ⟨by show _ = T.fz (oD (if x ≤ y then some x else some (-y))); rw [if_pos h], by show 2 ≤ 4; decide, rfl, rfl⟩
        · rename_i h
          exact ok.eq rfl ⟨by show _ = T.fz (oD (if x ≤ y then some x else some (-y))); rw [if_neg h]; rfl, by show 2 ≤ 4; decide, rfl, rfl⟩
/-! ### the clock -/
def movedR (way d s t : Int) : Int :=
  let far := absI way
  let found := if d + s = 0 ∨ t ≤ far / (d + s) then s * t else max (s * (far / (d + s))) (far - d * (far / (d + s) + 1))
  if 0 < way then found else -found
theorem moved_pure {way d s t : Int} (hd : 0 ≤ d) (hd2 : d ≤ 500) (hs : 0 ≤ s) (hs2 : s ≤ 900) : pureG F_moved 7 [.fz (.int way), .fz (.int d), .fz (.int s), .fz (.int t)] (.fz (.int (movedR way d s t))) := .of fun sto dr => by
  unfold F_moved
  have bs : bnd64 s = true := bnd_of (by omega) (by omega)
  have bd : bnd64 d = true := bnd_of (by omega) (by omega)
  refine okS.seq (okS.nx (s1 := { env := [some (.fz (.int way)), some (.fz (.int d)), some (.fz (.int s)), some (.fz (.int t)), some (.fz (.int (absI way))), none, none], sto := sto, dr := dr }) rfl ?_)
  have fin : ∀ (f : Int) (w : Option W), okS (dRet (dIf (dB (dOp2 gtD (dSlot 0) (dV (dC (.int 0))))) (dVar 5) (dOp1 negD (dSlot 5)))) { env := [some (.fz (.int way)), some (.fz (.int d)), some (.fz (.int s)), some (.fz (.int t)), some (.fz (.int (absI way))), some (.fz (.int f)), w], sto := sto, dr := dr } (fun _ => False) (fun r s' => r = .fz (.int (if 0 < way then f else -f)) ∧ 4 ≤ s'.env.length ∧ s'.sto = sto ∧ s'.dr = dr) := fun f w => by
    refine okS.ret (ok.ite ?_)
    walk_at "dlt"
    · rename_i h
      exact ok.eq rfl ⟨by rw [if_pos h], by show 4 ≤ 7; decide, rfl, rfl⟩
    · rename_i h
      exact ok.eq rfl ⟨by rw [if_neg h], by show 4 ≤ 7; decide, rfl, rfl⟩
  have one : (d + s = 0 ∨ t ≤ absI way / (d + s)) → okS (dAsg 5 (dOp2 mulD (dSlot 2) (dSlot 3))) { env := [some (.fz (.int way)), some (.fz (.int d)), some (.fz (.int s)), some (.fz (.int t)), some (.fz (.int (absI way))), none, none], sto := sto, dr := dr } (fun s1 => okS (dRet (dIf (dB (dOp2 gtD (dSlot 0) (dV (dC (.int 0))))) (dVar 5) (dOp1 negD (dSlot 5)))) s1 (fun _ => False) (fun r s' => r = .fz (.int (movedR way d s t)) ∧ 4 ≤ s'.env.length ∧ s'.sto = sto ∧ s'.dr = dr)) (fun r s' => r = .fz (.int (movedR way d s t)) ∧ 4 ≤ s'.env.length ∧ s'.sto = sto ∧ s'.dr = dr) := fun hc => by
    refine okS.asg (ok.eq (dOp2_eq rfl rfl rfl rfl (mul_l bs)) ⟨rfl, ?_⟩)
    unfold movedR
    simp only
    rw [if_pos hc]
    exact fin (s * t) none
  refine okS.seq (okS.ite (ok.or (ok.dec (P := d + s = 0) rfl (fun h => yes (yes (one (.inl h)))) fun h => no ?_)))
  have h0 : 0 < d + s := by omega
  have e : dOp2 fdivD (dSlot 4) (dV (dOp2 addD (dSlot 1) (dSlot 2))) { env := [some (.fz (.int way)), some (.fz (.int d)), some (.fz (.int s)), some (.fz (.int t)), some (.fz (.int (absI way))), none, none], sto := sto, dr := dr } = .ok (.fz (.int (absI way / (d + s)))) { env := [some (.fz (.int way)), some (.fz (.int d)), some (.fz (.int s)), some (.fz (.int t)), some (.fz (.int (absI way))), none, none], sto := sto, dr := dr } := dOp2_eq rfl rfl rfl rfl (fdiv_pos h0 (by omega))
  have e2 : dB (dOp2 leD (dSlot 3) (dV (dOp2 fdivD (dSlot 4) (dV (dOp2 addD (dSlot 1) (dSlot 2)))))) { env := [some (.fz (.int way)), some (.fz (.int d)), some (.fz (.int s)), some (.fz (.int t)), some (.fz (.int (absI way))), none, none], sto := sto, dr := dr } = .ok (decide (t ≤ absI way / (d + s))) { env := [some (.fz (.int way)), some (.fz (.int d)), some (.fz (.int s)), some (.fz (.int t)), some (.fz (.int (absI way))), none, none], sto := sto, dr := dr } := dB_eq (dOp2_eq rfl (dV_eq e) rfl rfl rfl)
  refine ok.dec (P := t ≤ absI way / (d + s)) e2 (fun h2 => yes (one (.inr h2))) fun h2 => no ?_
  refine okS.seq (okS.asg (ok.eq e ⟨rfl, ?_⟩))
  refine okS.asg (ok.eq (dCallB_eq (dCons_eq (dV_eq (dOp2_eq rfl rfl rfl rfl (mul_l bs))) (dCons_eq (dV_eq (dOp2_eq rfl (dV_eq (dOp2_eq rfl rfl rfl rfl (mul_l bd))) rfl rfl rfl)) rfl)) rfl rfl) ⟨rfl, ?_⟩)
  have hn : ¬ (d + s = 0 ∨ t ≤ absI way / (d + s)) := fun z => z.elim h h2
  unfold movedR
  simp only
  rw [if_neg hn]
  exact fin _ _
/-- a clock's attributes -/
def shF (d sl j r v : Int) (sp : List Sp) : List (Str × D) := [("c_rules", .tup [.int d, .int sl, .int j]), ("c_reading", .int r), ("c_value", .int v), ("c_spans", .lst (sp.map spD))]
theorem between_pure {v a b : Int} : pureG F_is_between 3 [.fz (.int v), .fz (.int a), .fz (.int b)] (.fz (.bl (decide (a ≤ v ∧ v ≤ b)))) := .of fun sto dr => by
  unfold F_is_between
  have e : dChain leD leD (dSlot 1) (dSlot 0) (dSlot 2) { env := [some (.fz (.int v)), some (.fz (.int a)), some (.fz (.int b))], sto := sto, dr := dr } = .ok (.fz (.bl (decide (a ≤ v ∧ v ≤ b)))) { env := [some (.fz (.int v)), some (.fz (.int a)), some (.fz (.int b))], sto := sto, dr := dr } := chain_le rfl rfl rfl rfl rfl rfl
  exact okS.ret (ok.eq (s1 := { env := [some (.fz (.int v)), some (.fz (.int a)), some (.fz (.int b))], sto := sto, dr := dr }) e ⟨rfl, by show 3 ≤ 3; decide, rfl, rfl⟩)
theorem ticks_pure (C : Addr) {d sl j r v t : Int} {sp : List Sp} (h1 : r ≤ t) (h2 : t ≤ 1000000000) : pureG (F_Shown_ticks_to C) 2 [.lkl (.obj C (shF d sl j r v sp)), .fz (.int t)] (.fz (.int (t - r))) := .of fun sto dr => by
  unfold F_Shown_ticks_to
  have e1 : dFld C "c_reading" (dSlot 0) { env := [some (.lkl (.obj C (shF d sl j r v sp))), some (.fz (.int t))], sto := sto, dr := dr } = .ok (.fz (.int r)) { env := [some (.lkl (.obj C (shF d sl j r v sp))), some (.fz (.int t))], sto := sto, dr := dr } := dFld_eq rfl (readO_slot rfl rfl) rfl
  have e2 := call_pure (between_pure (v := t) (a := r) (b := 1000000000)) (fl := dCons (dSlot 1) (dCons (dV (dFld C "c_reading" (dSlot 0))) (dCons (dV (dC (.int 1000000000))) dNil))) (ms := [.F, .F, .F]) (s := { env := [some (.lkl (.obj C (shF d sl j r v sp))), some (.fz (.int t))], sto := sto, dr := dr }) (dCons_eq rfl (dCons_eq (dV_eq e1) rfl)) rfl rfl rfl rfl
  have e3 : dB (dCall 3 [.F, .F, .F] [] F_is_between (dCons (dSlot 1) (dCons (dV (dFld C "c_reading" (dSlot 0))) (dCons (dV (dC (.int 1000000000))) dNil)))) { env := [some (.lkl (.obj C (shF d sl j r v sp))), some (.fz (.int t))], sto := sto, dr := dr } = .ok true { env := [some (.lkl (.obj C (shF d sl j r v sp))), some (.fz (.int t))], sto := sto, dr := dr } := by
    rw [dB_eq e2, decide_eq_true ⟨h1, h2⟩]
  refine okS.seq (okS.ite (ok.not (ok.eq e3 (no (okS.skip ?_)))))
  exact okS.ret (ok.eq (dOp2_eq rfl (dV_eq e1) rfl rfl rfl) ⟨rfl, by show 2 ≤ 2; decide, rfl, rfl⟩)
def moreR (d sl v t : Int) (sp : List Sp) : Int := match wayR sp v with
  | none => 0
  | some w => if w = 0 then 0 else movedR w d sl t
theorem at_pure (C : Addr) {d sl j r v t : Int} {sp : List Sp} (h1 : r ≤ t) (h2 : t ≤ 1000000000) (hd : 0 ≤ d) (hd2 : d ≤ 500) (hs : 0 ≤ sl) (hs2 : sl ≤ 900) :
    pureG (F_Shown_at C) 8 [.lkl (.obj C (shF d sl j r v sp)), .fz (.int t)] (.fz (.int (v + 1000 * (t - r) + moreR d sl v (t - r) sp))) := .of fun sto dr => by
  unfold F_Shown_at
  have fld : ∀ (f : Str) (x : D) (e : List (Option W)), (shF d sl j r v sp).lookup f = some x → dFld C f (dSlot 0) { env := some (.lkl (.obj C (shF d sl j r v sp))) :: e, sto := sto, dr := dr } = .ok (.fz x) { env := some (.lkl (.obj C (shF d sl j r v sp))) :: e, sto := sto, dr := dr } := fun f x e h => dFld_eq rfl (readO_slot rfl rfl) h
  refine okS.seq (okS.asg (ok.eq (meth_pure (ticks_pure C h1 h2) rfl (recv_slot rfl rfl rfl) rfl rfl rfl rfl rfl) ⟨rfl, ?_⟩))
  refine okS.seq (okS.nx (s1 := { env := [some (.lkl (.obj C (shF d sl j r v sp))), some (.fz (.int t)), some (.fz (.int (t - r))), some (.fz (.int d)), some (.fz (.int sl)), some (.fz (.int j)), none, none], sto := sto, dr := dr }) (dUn_eq (dV_eq (fld "c_rules" _ _ rfl)) rfl rfl) ?_)
  refine okS.seq (okS.asg (ok.eq (call_pure (way_pure sp v) (dCons_eq (dV_eq (fld "c_spans" _ _ rfl)) (dCons_eq (dV_eq (fld "c_value" _ _ rfl)) rfl)) rfl rfl rfl rfl) ⟨rfl, ?_⟩))
  have fin : ∀ m : Int, okS (dRet (dOp2 addD (dV (dOp2 addD (dV (dFld C "c_value" (dSlot 0))) (dV (dOp2 mulD (dV (dC (.int 1000))) (dSlot 2))))) (dSlot 7))) { env := [some (.lkl (.obj C (shF d sl j r v sp))), some (.fz (.int t)), some (.fz (.int (t - r))), some (.fz (.int d)), some (.fz (.int sl)), some (.fz (.int j)), some (.fz (oD (wayR sp v))), some (.fz (.int m))], sto := sto, dr := dr } (fun _ => False) (fun x s' => x = .fz (.int (v + 1000 * (t - r) + m)) ∧ 2 ≤ s'.env.length ∧ s'.sto = sto ∧ s'.dr = dr) := fun m =>
    okS.ret (ok.eq (dOp2_eq (dV_eq (dOp2_eq (dV_eq (fld "c_value" _ _ rfl)) (dV_eq (dOp2_eq rfl rfl rfl rfl (mul_l rfl))) rfl rfl rfl)) rfl rfl rfl rfl) ⟨rfl, by show 2 ≤ 8; decide, rfl, rfl⟩)
  unfold moreR
  refine okS.seq (okS.asg ?_)
  cases hw : wayR sp v with
  | none =>
    rw [hw] at fin
    refine ok.ite ?_
    walk_at "dlt"
    exact ok.eq rfl ⟨rfl, fin 0⟩
  | some w =>
    rw [hw] at fin
    refine ok.ite (ok.or (ok.eq (a := false) rfl (no (ok.dec (P := w = 0) rfl (fun h => yes ?_) fun h => no ?_))))
    · refine ok.eq rfl ⟨rfl, ?_⟩
      simp only [if_pos h]
      exact fin 0
    · simp only [if_neg h]
      exact ok.eq (call_pure (moved_pure hd hd2 hs hs2) rfl rfl rfl rfl rfl) ⟨rfl, fin _⟩
/-! ### wider spans -/
def wideO (k : Int) : OI → OI
  | none => none
  | some x => some (x + k)
def wideR (d t : Int) (sp : List Sp) : List Sp := sp.map fun x => (wideO (-(d * t)) x.1, wideO (d * t) x.2)
theorem wide_loop (X : D) (d t : Int) (hd : 0 ≤ d) (hd2 : d ≤ 500) (sto : List MO) (dr : Option DrawSt) (Nx : State → Prop) (Rt : DL.T → State → Prop) : ∀ (sp acc : List Sp) (w4 w5 : Option W), (w4 = none ∨ ∃ d, w4 = some (.fz d)) → (w5 = none ∨ ∃ d, w5 = some (.fz d)) → acc.length + sp.length ≤ 1000 →
    (∀ w4 w5, Nx { env := [some (.fz X), some (.fz (.int d)), some (.fz (.int t)), some (.own (.lst ((acc ++ wideR d t sp).map spD))), w4, w5], sto := sto, dr := dr }) →
    okS (dForL (.tup [.name 4, .name 5]) L_widened_0 (sp.map spD)) { env := [some (.fz X), some (.fz (.int d)), some (.fz (.int t)), some (.own (.lst (acc.map spD))), w4, w5], sto := sto, dr := dr } Nx Rt
  | [], acc, w4, w5, _, _, _, h => okS.nx rfl (by have := h w4 w5; unfold wideR at this; rw [List.map_nil, List.append_nil] at this; exact this)
  | (lo, hi) :: sp, acc, w4, w5, h4, h5, hl, h => by
    have e1 : bindP (.tup [.name 4, .name 5]) (spD (lo, hi)) { env := [some (.fz X), some (.fz (.int d)), some (.fz (.int t)), some (.own (.lst (acc.map spD))), w4, w5], sto := sto, dr := dr } = some { env := [some (.fz X), some (.fz (.int d)), some (.fz (.int t)), some (.own (.lst (acc.map spD))), some (.fz (oD lo)), some (.fz (oD hi))], sto := sto, dr := dr } := by
      rcases h4 with rfl | ⟨_, rfl⟩ <;> rcases h5 with rfl | ⟨_, rfl⟩ <;> rfl
    have bd : bnd64 d = true := bnd_of (by omega) (by omega)
    refine okS.turn e1 ?_
    have a1 : ok (dIf (dB (dOp2 isD (dSlot 4) (dV (dC .non)))) (dC .non) (dOp2 subD (dSlot 4) (dV (dOp2 mulD (dSlot 1) (dSlot 2))))) { env := [some (.fz X), some (.fz (.int d)), some (.fz (.int t)), some (.own (.lst (acc.map spD))), some (.fz (oD lo)), some (.fz (oD hi))], sto := sto, dr := dr } (fun r s => r = .fz (oD (wideO (-(d * t)) lo)) ∧ s = { env := [some (.fz X), some (.fz (.int d)), some (.fz (.int t)), some (.own (.lst (acc.map spD))), some (.fz (oD lo)), some (.fz (oD hi))], sto := sto, dr := dr }) := by
      refine ok.ite ?_
      cases lo with
      | none => walk_at "dlt"; exact ok.eq rfl ⟨rfl, rfl⟩
      | some l => walk_at "dlt"; exact ok.eq (dOp2_eq rfl (dV_eq (dOp2_eq rfl rfl rfl rfl (mul_l bd))) rfl rfl rfl) ⟨rfl, rfl⟩
    have a2 : ok (dIf (dB (dOp2 isD (dSlot 5) (dV (dC .non)))) (dC .non) (dOp2 addD (dSlot 5) (dV (dOp2 mulD (dSlot 1) (dSlot 2))))) { env := [some (.fz X), some (.fz (.int d)), some (.fz (.int t)), some (.own (.lst (acc.map spD))), some (.fz (oD lo)), some (.fz (oD hi))], sto := sto, dr := dr } (fun r s => r = .fz (oD (wideO (d * t) hi)) ∧ s = { env := [some (.fz X), some (.fz (.int d)), some (.fz (.int t)), some (.own (.lst (acc.map spD))), some (.fz (oD lo)), some (.fz (oD hi))], sto := sto, dr := dr }) := by
      refine ok.ite ?_
      cases hi with
      | none => walk_at "dlt"; exact ok.eq rfl ⟨rfl, rfl⟩
      | some l => walk_at "dlt"; exact ok.eq (dOp2_eq rfl (dV_eq (dOp2_eq rfl rfl rfl rfl (mul_l bd))) rfl rfl rfl) ⟨rfl, rfl⟩
    obtain ⟨_, _, q1, rfl, rfl⟩ := a1
    obtain ⟨_, _, q2, rfl, rfl⟩ := a2
    have hz : acc.length < sizeLine := Nat.lt_of_lt_of_le (show acc.length < 1001 by rw [List.length_cons] at hl; omega) (by decide)
    have e2 : L_widened_0 { env := [some (.fz X), some (.fz (.int d)), some (.fz (.int t)), some (.own (.lst (acc.map spD))), some (.fz (oD lo)), some (.fz (oD hi))], sto := sto, dr := dr } = .ok .nx { env := [some (.fz X), some (.fz (.int d)), some (.fz (.int t)), some (.own (.lst ((acc ++ [(wideO (-(d * t)) lo, wideO (d * t) hi)]).map spD))), some (.fz (oD lo)), some (.fz (oD hi))], sto := sto, dr := dr } := by
      unfold L_widened_0 dExpr
      have e3 := append_eq (i := 3) (ds := acc.map spD) rfl (dV_eq (dTup_eq (dCons_eq (dV_eq q1) (dCons_eq (dV_eq q2) (k := dNil) rfl)) rfl (by show 2 ≤ sizeLine; decide))) rfl rfl (by rw [List.length_map]; exact hz)
      rw [bind_eq, e3, List.map_append]
      rfl
    refine okS.nx e2 (wide_loop X d t hd hd2 sto dr Nx Rt sp _ _ _ (.inr ⟨_, rfl⟩) (.inr ⟨_, rfl⟩) (by rw [List.length_append]; simp at hl ⊢; omega) fun w4 w5 => ?_)
    have := h w4 w5
    unfold wideR at this ⊢
    rw [List.map_cons] at this
    rw [List.append_assoc]
    exact this
theorem widened_pure {d t : Int} {sp : List Sp} (hd : 0 ≤ d) (hd2 : d ≤ 500) (hl : sp.length ≤ 1000) : pureG F_widened 6 [.fz (.lst (sp.map spD)), .fz (.int d), .fz (.int t)] (.ow (.lst ((wideR d t sp).map spD))) := .of fun sto dr => by
  unfold F_widened
  refine okS.seq (okS.nx (s1 := { env := [some (.fz (.lst (sp.map spD))), some (.fz (.int d)), some (.fz (.int t)), some (.own (.lst [])), none, none], sto := sto, dr := dr }) rfl ?_)
  refine okS.seq (okS.forS (d := .lst (sp.map spD)) rfl rfl rfl (wide_loop _ d t hd hd2 sto dr _ _ sp [] none none (.inl rfl) (.inl rfl) (by simpa using hl) fun w4 w5 => ?_))
  exact okS.rt rfl ⟨rfl, by show 3 ≤ 6; decide, rfl, rfl⟩
def distR (d sl v t : Int) (sp : List Sp) : OI := match wayR (wideR d t sp) (v + 1000 * t + moreR d sl v t sp - 1000 * t) with
  | none => none
  | some w => some (absI w)
theorem dist_pure (C : Addr) {d sl j r v t : Int} {sp : List Sp} (h1 : r ≤ t) (h2 : t ≤ 1000000000) (hd : 0 ≤ d) (hd2 : d ≤ 500) (hs : 0 ≤ sl) (hs2 : sl ≤ 900) (hl : sp.length ≤ 1000) :
    pureG (F_Shown_distance C) 4 [.lkl (.obj C (shF d sl j r v sp)), .fz (.int t)] (.fz (oD (distR d sl v (t - r) sp))) := .of fun sto dr => by
  unfold F_Shown_distance
  have fld : ∀ (f : Str) (x : D) (e : List (Option W)), (shF d sl j r v sp).lookup f = some x → dFld C f (dSlot 0) { env := some (.lkl (.obj C (shF d sl j r v sp))) :: e, sto := sto, dr := dr } = .ok (.fz x) { env := some (.lkl (.obj C (shF d sl j r v sp))) :: e, sto := sto, dr := dr } := fun f x e h => dFld_eq rfl (readO_slot rfl rfl) h
  refine okS.seq (okS.asg (ok.eq (meth_pure (ticks_pure C h1 h2) rfl (recv_slot rfl rfl rfl) rfl rfl rfl rfl rfl) ⟨rfl, ?_⟩))
  have e1 := call_pure (widened_pure (t := t - r) (sp := sp) hd hd2 hl) (ms := [.F, .F, .F]) (fl := dCons (dV (dFld C "c_spans" (dSlot 0))) (dCons (dV (dOp2 ixD (dV (dFld C "c_rules" (dSlot 0))) (dV (dC (.int 0))))) (dCons (dSlot 2) dNil))) (s := { env := [some (.lkl (.obj C (shF d sl j r v sp))), some (.fz (.int t)), some (.fz (.int (t - r))), none], sto := sto, dr := dr }) (dCons_eq (dV_eq (fld "c_spans" _ _ rfl)) (dCons_eq (dV_eq (dOp2_eq (dV_eq (fld "c_rules" _ _ rfl)) rfl rfl rfl rfl)) rfl)) rfl rfl rfl rfl
  have e2 := meth_pure (C := C) (m := "at") (ms := [.R, .F]) (fo := dSlot 0) (fl := dCons (dSlot 1) dNil) (s := { env := [some (.lkl (.obj C (shF d sl j r v sp))), some (.fz (.int t)), some (.fz (.int (t - r))), none], sto := sto, dr := dr }) (at_pure C (j := j) (sp := sp) h1 h2 hd hd2 hs hs2) rfl (recv_slot rfl rfl rfl) rfl rfl rfl rfl rfl
  refine okS.seq (okS.asg (ok.eq (call_pure (way_pure (wideR d (t - r) sp) (v + 1000 * (t - r) + moreR d sl v (t - r) sp - 1000 * (t - r))) (dCons_eq (dV_eq e1) (dCons_eq (dV_eq (dOp2_eq (dV_eq e2) (dV_eq (dOp2_eq rfl rfl rfl rfl (mul_l rfl))) rfl rfl rfl)) rfl)) rfl rfl rfl rfl) ⟨rfl, ?_⟩))
  unfold distR
  generalize wayR (wideR d (t - r) sp) (v + 1000 * (t - r) + moreR d sl v (t - r) sp - 1000 * (t - r)) = w
  refine okS.ret (ok.ite ?_)
  cases w with
  | none => walk_at "dlt"; exact ok.eq rfl ⟨rfl, by show 2 ≤ 4; decide, rfl, rfl⟩
  | some w => walk_at "dlt"; exact ok.eq rfl ⟨rfl, by show 2 ≤ 4; decide, rfl, rfl⟩
/-! ### are_spans -/
theorem integer_pure {v : Int} : pureG F_is_integer 1 [.fz (.int v)] (.fz (.bl true)) := .of fun sto dr => okS.rt (s1 := { env := [some (.fz (.int v))], sto := sto, dr := dr }) rfl ⟨rfl, by show 1 ≤ 1; decide, rfl, rfl⟩
theorem end_pure {v : OI} : pureG F_is_end 1 [.fz (oD v)] (.fz (.bl true)) := .of fun sto dr => by
  cases v with
  | none => exact okS.rt (s1 := { env := [some (.fz .non)], sto := sto, dr := dr }) rfl ⟨rfl, by show 1 ≤ 1; decide, rfl, rfl⟩
  | some v =>
    unfold F_is_end
    have e := call_pure (integer_pure (v := v)) (ms := [.F]) (fl := dCons (dSlot 0) dNil) (s := { env := [some (.fz (.int v))], sto := sto, dr := dr }) rfl rfl rfl rfl rfl
    refine okS.ret (ok.eq (s1 := { env := [some (.fz (.int v))], sto := sto, dr := dr }) (a := .fz (.bl true)) ?_ ⟨rfl, by show 1 ≤ 1; decide, rfl, rfl⟩)
    exact e
theorem list_pure {ds : List D} : pureG F_is_list 1 [.fz (.lst ds)] (.fz (.bl true)) := .of fun sto dr => okS.rt (s1 := { env := [some (.fz (.lst ds))], sto := sto, dr := dr }) rfl ⟨rfl, by show 1 ≤ 1; decide, rfl, rfl⟩
structure GoodSp (sp : List Sp) : Prop where
  lo : ∀ (i : Nat) (x : Sp), sp[i]? = some x → x.1 = none → i = 0
  hi : ∀ (i : Nat) (x : Sp), sp[i]? = some x → x.2 = none → i + 1 = sp.length
  le : ∀ (i : Nat) (l h : Int), sp[i]? = some (some l, some h) → l ≤ h
  gap : ∀ (i : Nat) (x y : Sp), sp[i]? = some x → sp[i + 1]? = some y → ∃ h l, x.2 = some h ∧ y.1 = some l ∧ h + 1 < l
  len : sp.length ≤ 100
theorem spans_turn {sp : List Sp} (g : GoodSp sp) {i : Nat} {x : Sp} (hx : sp[i]? = some x) (w3 w4 : Option W) (h3 : w3 = none ∨ ∃ d, w3 = some (.fz d)) (h4 : w4 = none ∨ ∃ d, w4 = some (.fz d)) (sto : List MO) (dr : Option DrawSt) (Rt : DL.T → State → Prop) :
    okS L_are_spans_0 { env := [some (.fz (.lst (sp.map spD))), some (.fz (.int (i : Nat))), some (.fz (spD x)), w3, w4, none, none], sto := sto, dr := dr } (fun s => s = { env := [some (.fz (.lst (sp.map spD))), some (.fz (.int (i : Nat))), some (.fz (spD x)), some (.fz (oD x.1)), some (.fz (oD x.2)), none, none], sto := sto, dr := dr }) Rt := by
  obtain ⟨lo, hi⟩ := x
  unfold L_are_spans_0
  have e1 := call_pure (end_pure (v := lo)) (ms := [.F]) (fl := dCons (dV (dOp2 ixD (dSlot 2) (dV (dC (.int 0))))) dNil) (s := { env := [some (.fz (.lst (sp.map spD))), some (.fz (.int (i : Nat))), some (.fz (spD (lo, hi))), w3, w4, none, none], sto := sto, dr := dr }) rfl rfl rfl rfl rfl
  have e2 := call_pure (end_pure (v := hi)) (ms := [.F]) (fl := dCons (dV (dOp2 ixD (dSlot 2) (dV (dC (.int 1))))) dNil) (s := { env := [some (.fz (.lst (sp.map spD))), some (.fz (.int (i : Nat))), some (.fz (spD (lo, hi))), w3, w4, none, none], sto := sto, dr := dr }) rfl rfl rfl rfl rfl
  refine okS.seq (okS.ite (ok.or (ok.not (ok.eq (a := true) rfl (no (ok.or (ok.eq (a := false) rfl (no (ok.or (ok.not (ok.eq (dB_eq e1) (no (ok.not (ok.eq (dB_eq e2) (no (okS.skip ?_))))))))))))))))
  refine okS.seq (okS.nx (s1 := { env := [some (.fz (.lst (sp.map spD))), some (.fz (.int (i : Nat))), some (.fz (spD (lo, hi))), some (.fz (oD lo)), some (.fz (oD hi)), none, none], sto := sto, dr := dr }) (by rcases h3 with rfl | ⟨_, rfl⟩ <;> rcases h4 with rfl | ⟨_, rfl⟩ <;> rfl) ?_)
  refine okS.seq (okS.ite ?_)
  have hlo := g.lo i _ hx
  have hhi := g.hi i _ hx
  have hl : ((sp.map spD).length : Int) = (sp.length : Int) := by rw [List.length_map]
  have t2 : ok (dOr (dAnd (dB (dOp2 isD (dSlot 3) (dV (dC .non)))) (dB (dOp2 gtD (dSlot 1) (dV (dC (.int 0)))))) (dAnd (dB (dOp2 isD (dSlot 4) (dV (dC .non)))) (dB (dOp2 ltD (dV (dOp2 addD (dSlot 1) (dV (dC (.int 1))))) (dV (dCallB lenD (dCons (dSlot 0) (dNil)))))))) { env := [some (.fz (.lst (sp.map spD))), some (.fz (.int (i : Nat))), some (.fz (spD (lo, hi))), some (.fz (oD lo)), some (.fz (oD hi)), none, none], sto := sto, dr := dr } (fun t s => t = false ∧ s = { env := [some (.fz (.lst (sp.map spD))), some (.fz (.int (i : Nat))), some (.fz (spD (lo, hi))), some (.fz (oD lo)), some (.fz (oD hi)), none, none], sto := sto, dr := dr }) := by
    cases lo with
    | none =>
      have := hlo rfl
      cases hi with
      | none =>
        have := hhi rfl
        walk_at "dlt" <;> first | exact ⟨rfl, rfl⟩ | (exfalso; omega)
      | some h => walk_at "dlt" <;> first | exact ⟨rfl, rfl⟩ | (exfalso; omega)
    | some l =>
      cases hi with
      | none =>
        have := hhi rfl
        walk_at "dlt" <;> first | exact ⟨rfl, rfl⟩ | (exfalso; omega)
      | some h => walk_at "dlt" <;> first | exact ⟨rfl, rfl⟩ | (exfalso; omega)
  refine t2.mono fun t s' ht => ?_
  obtain ⟨rfl, rfl⟩ := ht
  refine no (okS.skip (okS.ite ?_))
  cases lo with
  | none => walk_at "dlt"; exact okS.skip rfl
  | some l =>
    cases hi with
    | none => walk_at "dlt"; exact okS.skip rfl
    | some h =>
      have := g.le i l h hx
      walk_at "dlt" <;> first | exact okS.skip (Rt := Rt) rfl | (exfalso; omega)
theorem cut_one (xs : List D) : cutD xs (some 1) none = xs.drop 1 := by
  unfold cutD
  rw [show HT.sIx xs.length 0 (some 1) = min 1 xs.length from HT.sIx_nat xs.length 0 1, HT.sIx_none]
  cases xs with
  | nil => rfl
  | cons x r =>
    rw [show min 1 (x :: r).length = 1 by
      rw [List.length_cons]
      omega]
    show (List.take ((x :: r).length - 1) r) = r
    rw [List.length_cons, Nat.add_sub_cancel]
    exact List.take_length
theorem bools_true (xs : List D) : allD [.lst (xs.map fun _ => D.bl true)] = some (.fz (.bl true)) := by
  have e : (xs.map fun _ => D.bl true) = (xs.map fun _ => true).map D.bl := by rw [List.map_map]; rfl
  show (boolsD (xs.map fun _ => D.bl true)).map (fun ns => T.fz (.bl (ns.all fun b => b))) = _
  rw [e, boolsD_map]
  have h : ((xs.map fun _ => true).all fun b => b) = true := by
    rw [List.all_eq_true]
    intro x hx
    obtain ⟨_, _, rfl⟩ := List.mem_map.mp hx
    rfl
  rw [Option.map_some, h]
theorem are_pure {sp : List Sp} (g : GoodSp sp) : pureG F_are_spans 7 [.fz (.lst (sp.map spD))] (.fz (.bl true)) := .of fun sto dr => by
  unfold F_are_spans
  have e1 := call_pure (list_pure (ds := sp.map spD)) (ms := [.R]) (fl := dCons (dSlot 0) dNil) (s := { env := [some (.fz (.lst (sp.map spD))), none, none, none, none, none, none], sto := sto, dr := dr }) rfl rfl rfl rfl rfl
  refine okS.seq (okS.ite (ok.not (ok.eq (dB_eq e1) (no (okS.skip ?_)))))
  refine okS.seq (okS.forS1 (fl := dCons (dSlot 0) dNil) (i := 0) (d := .lst (sp.map spD)) (items := enumL 0 (sp.map spD)) rfl rfl rfl rfl (okS.walk (fun k s => ∃ w1 w2 w3 w4 : Option W, (w1 = none ∨ ∃ d, w1 = some (.fz d)) ∧ (w2 = none ∨ ∃ d, w2 = some (.fz d)) ∧ (w3 = none ∨ ∃ d, w3 = some (.fz d)) ∧ (w4 = none ∨ ∃ d, w4 = some (.fz d)) ∧ s = { env := [some (.fz (.lst (sp.map spD))), w1, w2, w3, w4, none, none], sto := sto, dr := dr }) ⟨none, none, none, none, .inl rfl, .inl rfl, .inl rfl, .inl rfl, rfl⟩ ?_ ?_))
  · rintro i d s hi ⟨w1, w2, w3, w4, h1, h2, h3, h4, rfl⟩
    obtain ⟨x, hx, rfl⟩ := enumL_get 0 _ i d hi
    rw [List.getElem?_map] at hx
    cases q : sp[i]? with
    | none => rw [q] at hx; cases hx
    | some y =>
      rw [q] at hx
      cases hx
      refine ⟨{ env := [some (.fz (.lst (sp.map spD))), some (.fz (.int (i : Nat))), some (.fz (spD y)), w3, w4, none, none], sto := sto, dr := dr }, ?_, ?_⟩
      · rw [Nat.zero_add]
        rcases h1 with rfl | ⟨_, rfl⟩ <;> rcases h2 with rfl | ⟨_, rfl⟩ <;> rfl
      · refine (spans_turn g q w3 w4 h3 h4 sto dr _).mono (fun s' hs => ?_) fun _ _ h => h
        exact ⟨_, _, _, _, .inr ⟨_, rfl⟩, .inr ⟨_, rfl⟩, .inr ⟨_, rfl⟩, .inr ⟨_, rfl⟩, hs⟩
  · rintro s' ⟨w1, w2, w3, w4, h1, h2, h3, h4, rfl⟩
    have lz : (zipL (sp.map spD) ((sp.map spD).drop 1)).length < sizeLine := by
      rw [zipL_len, List.length_map]
      exact Nat.lt_of_le_of_lt (Nat.min_le_left _ _) (Nat.lt_of_le_of_lt g.len (by decide))
    have lp := loopC_pure (pt := .tup [.name 5, .name 6]) (vs := [5, 6]) (ft := dYes) (fe := dV (dOp2 ltD (dV (dOp2 addD (dV (dOp2 ixD (dSlot 5) (dV (dC (.int 1))))) (dV (dC (.int 1))))) (dV (dOp2 ixD (dSlot 6) (dV (dC (.int 0))))))) (s := { env := [some (.fz (.lst (sp.map spD))), w1, w2, w3, w4, none, none], sto := sto, dr := dr }) (p := fun _ => true) (q := fun _ => .bl true) (zipL (sp.map spD) ((sp.map spD).drop 1)) [] (fun d hd => by
      obtain ⟨i, hi⟩ := List.getElem?_of_mem hd
      obtain ⟨x, y, hx, hy, rfl⟩ := zipL_get _ _ i d hi
      rw [List.getElem?_drop, Nat.add_comm] at hy
      rw [List.getElem?_map] at hx hy
      cases qx : sp[i]? with
      | none => rw [qx] at hx; cases hx
      | some a =>
        cases qy : sp[i + 1]? with
        | none => rw [qy] at hy; cases hy
        | some b =>
          rw [qx] at hx; rw [qy] at hy
          cases hx; cases hy
          obtain ⟨h, l, ha, hb, hlt⟩ := g.gap i a b qx qy
          obtain ⟨a1, a2⟩ := a
          obtain ⟨b1, b2⟩ := b
          cases ha; cases hb
          refine ⟨{ env := [some (.fz (.lst (sp.map spD))), w1, w2, w3, w4, some (.fz (spD (a1, some h))), some (.fz (spD (some l, b2)))], sto := sto, dr := dr }, rfl, rfl, fun _ => ?_, rfl⟩
          show Rs.ok (D.bl (decide (h + 1 < l))) _ = _
          rw [decide_eq_true hlt])
    have e3 : dComp itZ (.tup [.name 5, .name 6]) [5, 6] dYes (dV (dOp2 ltD (dV (dOp2 addD (dV (dOp2 ixD (dSlot 5) (dV (dC (.int 1))))) (dV (dC (.int 1))))) (dV (dOp2 ixD (dSlot 6) (dV (dC (.int 0))))))) (dCons (dSlot 0) (dCons (dV (dSlice (dSlot 0) (dPart (dC (.int 1))) dNoPart)) dNil)) { env := [some (.fz (.lst (sp.map spD))), w1, w2, w3, w4, none, none], sto := sto, dr := dr } = .ok (.ow (.lst ((zipL (sp.map spD) ((sp.map spD).drop 1)).map fun _ => D.bl true))) { env := [some (.fz (.lst (sp.map spD))), w1, w2, w3, w4, none, none], sto := sto, dr := dr } := by
      unfold dComp
      have f1 : dCons (dSlot 0) (dCons (dV (dSlice (dSlot 0) (dPart (dC (.int 1))) dNoPart)) dNil) { env := [some (.fz (.lst (sp.map spD))), w1, w2, w3, w4, none, none], sto := sto, dr := dr } = .ok [.slot 0, .t (.ow (.lst (cutD (sp.map spD) (some 1) none)))] { env := [some (.fz (.lst (sp.map spD))), w1, w2, w3, w4, none, none], sto := sto, dr := dr } := rfl
      rw [bind_eq, f1]
      show (frzRs [.slot 0, .t (.ow (.lst (cutD (sp.map spD) (some 1) none)))] >>= fun ds => match itZ ds with
        | some items => dLoopC (.tup [.name 5, .name 6]) [5, 6] dYes _ items
        | none => M.bad) { env := [some (.fz (.lst (sp.map spD))), w1, w2, w3, w4, none, none], sto := sto, dr := dr } = _
      rw [cut_one]
      show dLoopC (.tup [.name 5, .name 6]) [5, 6] dYes _ (zipL (sp.map spD) ((sp.map spD).drop 1)) { env := [some (.fz (.lst (sp.map spD))), w1, w2, w3, w4, none, none], sto := sto, dr := dr } = _
      unfold dLoopC
      rw [if_pos ⟨rfl, lz⟩]
      have f2 : wipeS [5, 6] { env := [some (.fz (.lst (sp.map spD))), w1, w2, w3, w4, none, none], sto := sto, dr := dr } = { env := [some (.fz (.lst (sp.map spD))), w1, w2, w3, w4, none, none], sto := sto, dr := dr } := rfl
      rw [f2, lp]
      rw [List.nil_append, List.filter_eq_self.mpr fun _ _ => rfl]
      rfl
    refine okS.ret (ok.eq (dCallB_eq (dCons_eq (dV_eq e3) rfl) rfl (bools_true _)) ⟨rfl, by show 1 ≤ 7; decide, rfl, rfl⟩)
/-! ### a new clock; what it learns -/
theorem init_eq (C : Addr) {d sl j r v : Int} (hd : 0 ≤ d) (hd2 : d ≤ 500) (hs : 0 ≤ sl) (hs2 : sl ≤ 900) (hj : 0 ≤ j) (hr : 0 ≤ r) (hr2 : r ≤ 1000000000) (sto : List MO) (dr : Option DrawSt) :
    F_Shown_init C { env := [some (.lent (.obj C [])), some (.fz (.int d)), some (.fz (.int sl)), some (.fz (.int j)), some (.fz (.int r)), some (.fz (.int v))], sto := sto, dr := dr } = .ok .nx { env := [some (.lent (.obj C (shF d sl j r v []))), some (.fz (.int d)), some (.fz (.int sl)), some (.fz (.int j)), some (.fz (.int r)), some (.fz (.int v))], sto := sto, dr := dr } := okS.toNx (by
  unfold F_Shown_init
  have e1 := call_pure (between_pure (v := d) (a := 0) (b := 500)) (ms := [.F, .F, .F]) (fl := dCons (dSlot 1) (dCons (dV (dC (.int 0))) (dCons (dV (dC (.int 500))) dNil))) (s := { env := [some (.lent (.obj C [])), some (.fz (.int d)), some (.fz (.int sl)), some (.fz (.int j)), some (.fz (.int r)), some (.fz (.int v))], sto := sto, dr := dr }) rfl rfl rfl rfl rfl
  have e2 := call_pure (between_pure (v := sl) (a := 0) (b := 900)) (ms := [.F, .F, .F]) (fl := dCons (dSlot 2) (dCons (dV (dC (.int 0))) (dCons (dV (dC (.int 900))) dNil))) (s := { env := [some (.lent (.obj C [])), some (.fz (.int d)), some (.fz (.int sl)), some (.fz (.int j)), some (.fz (.int r)), some (.fz (.int v))], sto := sto, dr := dr }) rfl rfl rfl rfl rfl
  have e3 := call_pure (between_pure (v := r) (a := 0) (b := 1000000000)) (ms := [.F, .F, .F]) (fl := dCons (dSlot 4) (dCons (dV (dC (.int 0))) (dCons (dV (dC (.int 1000000000))) dNil))) (s := { env := [some (.lent (.obj C [])), some (.fz (.int d)), some (.fz (.int sl)), some (.fz (.int j)), some (.fz (.int r)), some (.fz (.int v))], sto := sto, dr := dr }) rfl rfl rfl rfl rfl
  have e4 := call_pure (integer_pure (v := j)) (ms := [.F]) (fl := dCons (dSlot 3) dNil) (s := { env := [some (.lent (.obj C [])), some (.fz (.int d)), some (.fz (.int sl)), some (.fz (.int j)), some (.fz (.int r)), some (.fz (.int v))], sto := sto, dr := dr }) rfl rfl rfl rfl rfl
  have e5 := call_pure (integer_pure (v := v)) (ms := [.F]) (fl := dCons (dSlot 5) dNil) (s := { env := [some (.lent (.obj C [])), some (.fz (.int d)), some (.fz (.int sl)), some (.fz (.int j)), some (.fz (.int r)), some (.fz (.int v))], sto := sto, dr := dr }) rfl rfl rfl rfl rfl
  rw [decide_eq_true ⟨hd, hd2⟩] at e1
  rw [decide_eq_true ⟨hs, hs2⟩] at e2
  rw [decide_eq_true ⟨hr, hr2⟩] at e3
  refine okS.seq (okS.ite (ok.or (ok.not (ok.eq (dB_eq e1) (no (ok.not (ok.eq (dB_eq e2) (no (okS.skip ?_)))))))))
  refine okS.seq (okS.ite (ok.or (ok.not (ok.eq (dB_eq e4) (no (ok.or (ok.dec (P := j < 0) rfl (fun h => absurd h (by omega)) fun _ => no (ok.or (ok.not (ok.eq (dB_eq e3) (no (ok.not (ok.eq (dB_eq e5) (no (okS.skip ?_)))))))))))))))
  refine okS.seq (okS.nx (setF_eq (fs := []) (d := .tup [.int d, .int sl, .int j]) rfl rfl rfl (by decide)) ?_)
  refine okS.seq (okS.nx (setF_eq (fs := [("c_rules", .tup [.int d, .int sl, .int j])]) (d := .int r) rfl rfl rfl (by show 1 < 1000; decide)) ?_)
  refine okS.seq (okS.nx (setF_eq (fs := [("c_rules", .tup [.int d, .int sl, .int j]), ("c_reading", .int r)]) (d := .int v) rfl rfl rfl (by show 2 < 1000; decide)) ?_)
  exact okS.nx (setF_eq (fs := [("c_rules", .tup [.int d, .int sl, .int j]), ("c_reading", .int r), ("c_value", .int v)]) (d := .lst []) rfl rfl rfl (by show 3 < 1000; decide)) rfl)
def stepR (j : Int) (w : OI) : Int := match w with
  | none => 0
  | some w => if j < w then w else 0
def newV (d sl v t : Int) (sp : List Sp) : Int := v + 1000 * t + moreR d sl v t sp
theorem learn_eq (C : Addr) {d sl j r v t : Int} {sp sp' : List Sp} (g : GoodSp sp') (h1 : r ≤ t) (h2 : t ≤ 1000000000) (hd : 0 ≤ d) (hd2 : d ≤ 500) (hs : 0 ≤ sl) (hs2 : sl ≤ 900) (sto : List MO) (dr : Option DrawSt) :
    ∃ e', F_Shown_learn C { env := [some (.lent (.obj C (shF d sl j r v sp))), some (.fz (.int t)), some (.fz (.lst (sp'.map spD))), none, none, none], sto := sto, dr := dr } = .ok (.rt (.fz (.int (stepR j (wayR sp' (newV d sl v (t - r) sp)))))) { env := some (.lent (.obj C (shF d sl j t (newV d sl v (t - r) sp + stepR j (wayR sp' (newV d sl v (t - r) sp))) sp'))) :: e', sto := sto, dr := dr } ∧ 2 ≤ e'.length := by
  refine ⟨[some (.fz (.int t)), some (.fz (.lst (sp'.map spD))), some (.fz (.int (newV d sl v (t - r) sp))), some (.fz (oD (wayR sp' (newV d sl v (t - r) sp)))), some (.fz (.int (stepR j (wayR sp' (newV d sl v (t - r) sp)))))], okS.toRt ?_, by show 2 ≤ 5; decide⟩
  unfold F_Shown_learn
  have m1 := meth_pure (C := C) (m := "ticks_to") (ms := [.R, .F]) (fo := dSlot 0) (fl := dCons (dSlot 1) dNil) (s := { env := [some (.lent (.obj C (shF d sl j r v sp))), some (.fz (.int t)), some (.fz (.lst (sp'.map spD))), none, none, none], sto := sto, dr := dr }) (ticks_pure C (d := d) (sl := sl) (j := j) (v := v) (sp := sp) h1 h2) rfl (recv_slot rfl rfl rfl) rfl rfl rfl rfl rfl
  refine okS.seq (okS.expr (ok.eq m1 ?_))
  have m2 := call_pure (are_pure g) (ms := [.R]) (fl := dCons (dSlot 2) dNil) (s := { env := [some (.lent (.obj C (shF d sl j r v sp))), some (.fz (.int t)), some (.fz (.lst (sp'.map spD))), none, none, none], sto := sto, dr := dr }) rfl rfl rfl rfl rfl
  refine okS.seq (okS.ite (ok.not (ok.eq (dB_eq m2) (no (okS.skip ?_)))))
  have m3 := meth_pure (C := C) (m := "at") (ms := [.R, .F]) (fo := dSlot 0) (fl := dCons (dSlot 1) dNil) (s := { env := [some (.lent (.obj C (shF d sl j r v sp))), some (.fz (.int t)), some (.fz (.lst (sp'.map spD))), none, none, none], sto := sto, dr := dr }) (at_pure C (j := j) (v := v) (sp := sp) h1 h2 hd hd2 hs hs2) rfl (recv_slot rfl rfl rfl) rfl rfl rfl rfl rfl
  refine okS.seq (okS.asg (ok.eq m3 ⟨rfl, ?_⟩))
  refine okS.seq (okS.asg (ok.eq (call_pure (way_pure sp' (newV d sl v (t - r) sp)) rfl rfl rfl rfl rfl) ⟨rfl, ?_⟩))
  have fld : ∀ (f : Str) (x : D) (e : List (Option W)), (shF d sl j r v sp).lookup f = some x → dFld C f (dSlot 0) { env := some (.lent (.obj C (shF d sl j r v sp))) :: e, sto := sto, dr := dr } = .ok (.fz x) { env := some (.lent (.obj C (shF d sl j r v sp))) :: e, sto := sto, dr := dr } := fun f x e h => dFld_eq rfl (readO_slot rfl rfl) h
  generalize wayR sp' (newV d sl v (t - r) sp) = w
  have st : ok (dIf (dAnd (dB (dOp2 isNotD (dSlot 4) (dV (dC .non)))) (dB (dOp2 gtD (dSlot 4) (dV (dOp2 ixD (dV (dFld C "c_rules" (dSlot 0))) (dV (dC (.int 2)))))))) (dVar 4) (dC (.int 0))) { env := [some (.lent (.obj C (shF d sl j r v sp))), some (.fz (.int t)), some (.fz (.lst (sp'.map spD))), some (.fz (.int (newV d sl v (t - r) sp))), some (.fz (oD w)), none], sto := sto, dr := dr } (fun x s => x = .fz (.int (stepR j w)) ∧ s = { env := [some (.lent (.obj C (shF d sl j r v sp))), some (.fz (.int t)), some (.fz (.lst (sp'.map spD))), some (.fz (.int (newV d sl v (t - r) sp))), some (.fz (oD w)), none], sto := sto, dr := dr }) := by
    cases w with
    | none =>
      refine ok.ite (ok.and (ok.eq (a := false) rfl (no (no (ok.eq rfl ⟨rfl, rfl⟩)))))
    | some w =>
      have e : dB (dOp2 gtD (dSlot 4) (dV (dOp2 ixD (dV (dFld C "c_rules" (dSlot 0))) (dV (dC (.int 2)))))) { env := [some (.lent (.obj C (shF d sl j r v sp))), some (.fz (.int t)), some (.fz (.lst (sp'.map spD))), some (.fz (.int (newV d sl v (t - r) sp))), some (.fz (.int w)), none], sto := sto, dr := dr } = .ok (decide (j < w)) { env := [some (.lent (.obj C (shF d sl j r v sp))), some (.fz (.int t)), some (.fz (.lst (sp'.map spD))), some (.fz (.int (newV d sl v (t - r) sp))), some (.fz (.int w)), none], sto := sto, dr := dr } := dB_eq (dOp2_eq rfl (dV_eq (dOp2_eq (dV_eq (fld "c_rules" _ _ rfl)) rfl rfl rfl rfl)) rfl rfl rfl)
      refine ok.ite (ok.and (ok.eq (a := true) rfl (yes (ok.dec e (fun h => yes (ok.eq rfl ⟨by show T.fz (D.int w) = T.fz (.int (if j < w then w else 0)); rw [if_pos h], rfl⟩)) fun h => no (ok.eq rfl ⟨by show T.fz (D.int 0) = T.fz (.int (if j < w then w else 0)); rw [if_neg h], rfl⟩)))))
  refine okS.seq (okS.asg (st.mono fun x s' hx => ?_))
  obtain ⟨rfl, rfl⟩ := hx
  refine ⟨rfl, ?_⟩
  refine okS.seq (okS.nx (setF_eq (fs := shF d sl j r v sp) (d := .int t) rfl rfl rfl (by show 4 < 1000; decide)) ?_)
  refine okS.seq (okS.nx (setF_eq (fs := shF d sl j t v sp) (d := .int (newV d sl v (t - r) sp + stepR j w)) rfl rfl rfl (by show 4 < 1000; decide)) ?_)
  have hz : (sp'.map spD).length ≤ sizeLine := by rw [List.length_map]; exact Nat.le_trans g.len (by decide)
  refine okS.seq (okS.nx (setF_eq (fs := shF d sl j t (newV d sl v (t - r) sp + stepR j w) sp) (d := .lst (sp'.map spD)) rfl rfl rfl (by show 4 < 1000; decide)) ?_)
  exact okS.rt rfl ⟨rfl, rfl⟩
/-! ### the law's own gap -/
end Law

set_option Elab.async false
set_option linter.all false
set_option maxRecDepth 100000
set_option maxHeartbeats 2000000
namespace Law
open PySem DL
local macro_rules | `(tactic| walk_at "dlt") => `(tactic| repeat' (first | refine ok.and ?_ | refine ok.or ?_ | refine ok.not ?_ | refine yes ?_ | refine no ?_ | refine ok.eq (a := true) rfl ?_ | refine ok.eq (a := false) rfl ?_ | refine ok.dec rfl (fun _ => ?_) (fun _ => ?_)))
theorem gaps_loopL (x : D) (v : Int) (sto : List MO) (dr : Option DrawSt) (Nx : State → Prop) (Rt : DL.T → State → Prop) : ∀ (sp : List Sp) (b a : OI) (w4 w5 : Option W), (w4 = none ∨ ∃ d, w4 = some (.fz d)) → (w5 = none ∨ ∃ d, w5 = some (.fz d)) →
    (match gapsL sp v b a with
      | some (b', a') => ∀ w4 w5, Nx { env := [some (.lkl x), some (.fz (.int v)), some (.fz (oD b')), some (.fz (oD a')), w4, w5], sto := sto, dr := dr }
      | none => ∀ e', e'.length = 6 → Rt (.fz (.tup [.int 0, .int 0])) { env := e', sto := sto, dr := dr }) →
    okS (dForL (.tup [.name 4, .name 5]) L_gaps_0 (sp.map spD))
      { env := [some (.lkl x), some (.fz (.int v)), some (.fz (oD b)), some (.fz (oD a)), w4, w5], sto := sto, dr := dr } Nx Rt
  | [], b, a, w4, w5, _, _, h => okS.nx rfl (h w4 w5)
  | (lo, hi) :: r, b, a, w4, w5, h4, h5, h => by
    have ih := gaps_loopL x v sto dr Nx Rt r (low' lo v b) (high' hi v a) (some (.fz (oD lo))) (some (.fz (oD hi))) (.inr ⟨_, rfl⟩) (.inr ⟨_, rfl⟩)
    have e1 : bindP (.tup [.name 4, .name 5]) (spD (lo, hi)) { env := [some (.lkl x), some (.fz (.int v)), some (.fz (oD b)), some (.fz (oD a)), w4, w5], sto := sto, dr := dr } = some { env := [some (.lkl x), some (.fz (.int v)), some (.fz (oD b)), some (.fz (oD a)), some (.fz (oD lo)), some (.fz (oD hi))], sto := sto, dr := dr } := by
      rcases h4 with rfl | ⟨_, rfl⟩ <;> rcases h5 with rfl | ⟨_, rfl⟩ <;> rfl
    refine okS.turn e1 (okS.seq (okS.ite ?_))
    have t1 : ok (dAnd (dOr (dB (dOp2 isD (dSlot 4) (dV (dC .non)))) (dB (dOp2 leD (dSlot 4) (dSlot 1)))) (dOr (dB (dOp2 isD (dSlot 5) (dV (dC .non)))) (dB (dOp2 leD (dSlot 1) (dSlot 5))))) { env := [some (.lkl x), some (.fz (.int v)), some (.fz (oD b)), some (.fz (oD a)), some (.fz (oD lo)), some (.fz (oD hi))], sto := sto, dr := dr } (fun t s => t = inside lo hi v ∧ s = { env := [some (.lkl x), some (.fz (.int v)), some (.fz (oD b)), some (.fz (oD a)), some (.fz (oD lo)), some (.fz (oD hi))], sto := sto, dr := dr }) := by
      cases lo <;> cases hi <;> walk_at "dlt" <;> simp_all [inside] <;> omega
    refine t1.mono fun t s' ht => ?_
    obtain ⟨rfl, rfl⟩ := ht
    unfold gapsL at h
    cases hin : inside lo hi v with
    | true =>
      rw [hin, if_pos rfl] at h
      exact yes (okS.rt rfl (h _ rfl))
    | false =>
      rw [hin, if_neg Bool.false_ne_true] at h
      refine no (okS.skip (okS.seq ?_))
      have t2 : okS (dIf (dAnd (dB (dOp2 isNotD (dSlot 4) (dV (dC .non)))) (dAnd (dB (dOp2 ltD (dSlot 1) (dSlot 4))) (dOr (dB (dOp2 isD (dSlot 2) (dV (dC .non)))) (dB (dOp2 ltD (dV (dOp2 subD (dSlot 4) (dSlot 1))) (dSlot 2)))))) (dAsg 2 (dOp2 subD (dSlot 4) (dSlot 1))) (dNx)) { env := [some (.lkl x), some (.fz (.int v)), some (.fz (oD b)), some (.fz (oD a)), some (.fz (oD lo)), some (.fz (oD hi))], sto := sto, dr := dr }
          (fun s => s = { env := [some (.lkl x), some (.fz (.int v)), some (.fz (oD (low' lo v b))), some (.fz (oD a)), some (.fz (oD lo)), some (.fz (oD hi))], sto := sto, dr := dr }) Rt := by
        cases lo with
        | none => refine okS.ite ?_; walk_at "dlt"; exact okS.skip (Rt := Rt) rfl
        | some l =>
          by_cases h1 : v < l
          · cases b with
            | none =>
              have e : low' (some l) v none = some (l - v) := by simp [low', h1]
              rw [e]
              refine okS.ite ?_
              walk_at "dlt" <;> first | exact okS.nx (s1 := { env := [some (.lkl x), some (.fz (.int v)), some (.fz (.int (l - v))), some (.fz (oD a)), some (.fz (.int l)), some (.fz (oD hi))], sto := sto, dr := dr }) rfl rfl | (exfalso; omega)
            | some y =>
              by_cases h2 : l - v < y
              · have e : low' (some l) v (some y) = some (l - v) := by simp [low', h1, h2]
                rw [e]
                refine okS.ite ?_
                walk_at "dlt" <;> first | exact okS.nx (s1 := { env := [some (.lkl x), some (.fz (.int v)), some (.fz (.int (l - v))), some (.fz (oD a)), some (.fz (.int l)), some (.fz (oD hi))], sto := sto, dr := dr }) rfl rfl | (exfalso; omega)
              · have e : low' (some l) v (some y) = some y := by simp [low', h1, h2]
                rw [e]
                refine okS.ite ?_
                walk_at "dlt" <;> first | (exfalso; omega) | exact okS.skip (Rt := Rt) rfl
          · have e : low' (some l) v b = b := by simp [low', h1]
            rw [e]
            refine okS.ite ?_
            walk_at "dlt" <;> first | (exfalso; omega) | exact okS.skip (Rt := Rt) rfl
      refine t2.mono (fun s' hs => ?_) fun _ _ q => q
      subst hs
      have t3 : okS (dIf (dAnd (dB (dOp2 isNotD (dSlot 5) (dV (dC .non)))) (dAnd (dB (dOp2 ltD (dSlot 5) (dSlot 1))) (dOr (dB (dOp2 isD (dSlot 3) (dV (dC .non)))) (dB (dOp2 ltD (dV (dOp2 subD (dSlot 1) (dSlot 5))) (dSlot 3)))))) (dAsg 3 (dOp2 subD (dSlot 1) (dSlot 5))) (dNx)) { env := [some (.lkl x), some (.fz (.int v)), some (.fz (oD (low' lo v b))), some (.fz (oD a)), some (.fz (oD lo)), some (.fz (oD hi))], sto := sto, dr := dr }
          (fun s => s = { env := [some (.lkl x), some (.fz (.int v)), some (.fz (oD (low' lo v b))), some (.fz (oD (high' hi v a))), some (.fz (oD lo)), some (.fz (oD hi))], sto := sto, dr := dr }) Rt := by
        generalize low' lo v b = b2
        cases hi with
        | none => refine okS.ite ?_; walk_at "dlt"; exact okS.skip (Rt := Rt) rfl
        | some l =>
          by_cases h1 : l < v
          · cases a with
            | none =>
              have e : high' (some l) v none = some (v - l) := by simp [high', h1]
              rw [e]
              refine okS.ite ?_
              walk_at "dlt" <;> first | exact okS.nx (s1 := { env := [some (.lkl x), some (.fz (.int v)), some (.fz (oD b2)), some (.fz (.int (v - l))), some (.fz (oD lo)), some (.fz (.int l))], sto := sto, dr := dr }) rfl rfl | (exfalso; omega)
            | some y =>
              by_cases h2 : v - l < y
              · have e : high' (some l) v (some y) = some (v - l) := by simp [high', h1, h2]
                rw [e]
                refine okS.ite ?_
                walk_at "dlt" <;> first | exact okS.nx (s1 := { env := [some (.lkl x), some (.fz (.int v)), some (.fz (oD b2)), some (.fz (.int (v - l))), some (.fz (oD lo)), some (.fz (.int l))], sto := sto, dr := dr }) rfl rfl | (exfalso; omega)
              · have e : high' (some l) v (some y) = some y := by simp [high', h1, h2]
                rw [e]
                refine okS.ite ?_
                walk_at "dlt" <;> first | (exfalso; omega) | exact okS.skip (Rt := Rt) rfl
          · have e : high' (some l) v a = a := by simp [high', h1]
            rw [e]
            refine okS.ite ?_
            walk_at "dlt" <;> first | (exfalso; omega) | exact okS.skip (Rt := Rt) rfl
      refine t3.mono (fun s' hs => ?_) fun _ _ q => q
      subst hs
      exact ih h
theorem gaps_pureL (sp : List Sp) (v : Int) : pureG F_gaps 6 [.lkl (.lst (sp.map spD)), .fz (.int v)] (.fz (.tup [oD (gapsR sp v).1, oD (gapsR sp v).2])) := .of fun sto dr => by
  unfold F_gaps
  refine okS.seq (okS.nx (s1 := { env := [some (.lkl (.lst (sp.map spD))), some (.fz (.int v)), some (.fz .non), some (.fz .non), none, none], sto := sto, dr := dr }) rfl ?_)
  refine okS.seq (okS.forLk (d := .lst (sp.map spD)) rfl rfl rfl (gaps_loopL _ v sto dr _ _ sp none none none none (.inl rfl) (.inl rfl) ?_))
  unfold gapsR
  cases q : gapsL sp v none none with
  | none => exact fun e' he => ⟨rfl, by rw [he]; show 2 ≤ 6; decide, rfl, rfl⟩
  | some p =>
    obtain ⟨b, a⟩ := p
    exact fun w4 w5 => okS.rt rfl ⟨rfl, by show 2 ≤ 6; decide, rfl, rfl⟩
theorem way_pureL (sp : List Sp) (v : Int) : pureG F_way_to 4 [.lkl (.lst (sp.map spD)), .fz (.int v)] (.fz (oD (wayR sp v))) := .of fun sto dr => by
  unfold F_way_to
  have e := call_pure (gaps_pureL sp v) (fl := dCons (dSlot 0) (dCons (dSlot 1) dNil)) (ms := [.R, .F]) (s := { env := [some (.lkl (.lst (sp.map spD))), some (.fz (.int v)), none, none], sto := sto, dr := dr }) rfl rfl rfl rfl rfl
  unfold wayR
  generalize gapsR sp v = ba at e ⊢
  obtain ⟨b, a⟩ := ba
  refine okS.seq (okS.nx (s1 := { env := [some (.lkl (.lst (sp.map spD))), some (.fz (.int v)), some (.fz (oD b)), some (.fz (oD a))], sto := sto, dr := dr }) ?_ ?_)
  · exact dUn_eq (dV_eq e) rfl rfl
  · refine okS.seq (okS.ite ?_)
    cases b with
    | none =>
      walk_at "dlt"
      cases a with
      | none => exact okS.rt rfl ⟨rfl, by show 2 ≤ 4; decide, rfl, rfl⟩
      | some y => exact okS.rt rfl ⟨rfl, by show 2 ≤ 4; decide, rfl, rfl⟩
    | some x =>
      walk_at "dlt"
      refine okS.skip ?_
      cases a with
      | none => exact okS.rt rfl ⟨rfl, by show 2 ≤ 4; decide, rfl, rfl⟩
      | some y =>
        refine okS.ret (ok.ite ?_)
        walk_at "dlt"
        · rename_i h
          exact ok.eq rfl ⟨by show _ = T.fz (oD (if x ≤ y then some x else some (-y))); rw [if_pos h], by show 2 ≤ 4; decide, rfl, rfl⟩
        · rename_i h
          exact ok.eq rfl ⟨by show _ = T.fz (oD (if x ≤ y then some x else some (-y))); rw [if_neg h]; rfl, by show 2 ≤ 4; decide, rfl, rfl⟩
theorem list_pureL {ds : List D} : pureG F_is_list 1 [.lkl (.lst ds)] (.fz (.bl true)) := .of fun sto dr => okS.rt (s1 := { env := [some (.lkl (.lst ds))], sto := sto, dr := dr }) rfl ⟨rfl, by show 1 ≤ 1; decide, rfl, rfl⟩
theorem spans_turnL {sp : List Sp} (g : GoodSp sp) {i : Nat} {x : Sp} (hx : sp[i]? = some x) (w3 w4 : Option W) (h3 : w3 = none ∨ ∃ d, w3 = some (.fz d)) (h4 : w4 = none ∨ ∃ d, w4 = some (.fz d)) (sto : List MO) (dr : Option DrawSt) (Rt : DL.T → State → Prop) :
    okS L_are_spans_0 { env := [some (.lkl (.lst (sp.map spD))), some (.fz (.int (i : Nat))), some (.fz (spD x)), w3, w4, none, none], sto := sto, dr := dr } (fun s => s = { env := [some (.lkl (.lst (sp.map spD))), some (.fz (.int (i : Nat))), some (.fz (spD x)), some (.fz (oD x.1)), some (.fz (oD x.2)), none, none], sto := sto, dr := dr }) Rt := by
  obtain ⟨lo, hi⟩ := x
  unfold L_are_spans_0
  have e1 := call_pure (end_pure (v := lo)) (ms := [.F]) (fl := dCons (dV (dOp2 ixD (dSlot 2) (dV (dC (.int 0))))) dNil) (s := { env := [some (.lkl (.lst (sp.map spD))), some (.fz (.int (i : Nat))), some (.fz (spD (lo, hi))), w3, w4, none, none], sto := sto, dr := dr }) rfl rfl rfl rfl rfl
  have e2 := call_pure (end_pure (v := hi)) (ms := [.F]) (fl := dCons (dV (dOp2 ixD (dSlot 2) (dV (dC (.int 1))))) dNil) (s := { env := [some (.lkl (.lst (sp.map spD))), some (.fz (.int (i : Nat))), some (.fz (spD (lo, hi))), w3, w4, none, none], sto := sto, dr := dr }) rfl rfl rfl rfl rfl
  refine okS.seq (okS.ite (ok.or (ok.not (ok.eq (a := true) rfl (no (ok.or (ok.eq (a := false) rfl (no (ok.or (ok.not (ok.eq (dB_eq e1) (no (ok.not (ok.eq (dB_eq e2) (no (okS.skip ?_))))))))))))))))
  refine okS.seq (okS.nx (s1 := { env := [some (.lkl (.lst (sp.map spD))), some (.fz (.int (i : Nat))), some (.fz (spD (lo, hi))), some (.fz (oD lo)), some (.fz (oD hi)), none, none], sto := sto, dr := dr }) (by rcases h3 with rfl | ⟨_, rfl⟩ <;> rcases h4 with rfl | ⟨_, rfl⟩ <;> rfl) ?_)
  refine okS.seq (okS.ite ?_)
  have hlo := g.lo i _ hx
  have hhi := g.hi i _ hx
  have hl : ((sp.map spD).length : Int) = (sp.length : Int) := by rw [List.length_map]
  have t2 : ok (dOr (dAnd (dB (dOp2 isD (dSlot 3) (dV (dC .non)))) (dB (dOp2 gtD (dSlot 1) (dV (dC (.int 0)))))) (dAnd (dB (dOp2 isD (dSlot 4) (dV (dC .non)))) (dB (dOp2 ltD (dV (dOp2 addD (dSlot 1) (dV (dC (.int 1))))) (dV (dCallB lenD (dCons (dSlot 0) (dNil)))))))) { env := [some (.lkl (.lst (sp.map spD))), some (.fz (.int (i : Nat))), some (.fz (spD (lo, hi))), some (.fz (oD lo)), some (.fz (oD hi)), none, none], sto := sto, dr := dr } (fun t s => t = false ∧ s = { env := [some (.lkl (.lst (sp.map spD))), some (.fz (.int (i : Nat))), some (.fz (spD (lo, hi))), some (.fz (oD lo)), some (.fz (oD hi)), none, none], sto := sto, dr := dr }) := by
    cases lo with
    | none =>
      have := hlo rfl
      cases hi with
      | none =>
        have := hhi rfl
        walk_at "dlt" <;> first | exact ⟨rfl, rfl⟩ | (exfalso; omega)
      | some h => walk_at "dlt" <;> first | exact ⟨rfl, rfl⟩ | (exfalso; omega)
    | some l =>
      cases hi with
      | none =>
        have := hhi rfl
        walk_at "dlt" <;> first | exact ⟨rfl, rfl⟩ | (exfalso; omega)
      | some h => walk_at "dlt" <;> first | exact ⟨rfl, rfl⟩ | (exfalso; omega)
  refine t2.mono fun t s' ht => ?_
  obtain ⟨rfl, rfl⟩ := ht
  refine no (okS.skip (okS.ite ?_))
  cases lo with
  | none => walk_at "dlt"; exact okS.skip rfl
  | some l =>
    cases hi with
    | none => walk_at "dlt"; exact okS.skip rfl
    | some h =>
      have := g.le i l h hx
      walk_at "dlt" <;> first | exact okS.skip (Rt := Rt) rfl | (exfalso; omega)
theorem are_pureL {sp : List Sp} (g : GoodSp sp) : pureG F_are_spans 7 [.lkl (.lst (sp.map spD))] (.fz (.bl true)) := .of fun sto dr => by
  unfold F_are_spans
  have e1 := call_pure (list_pureL (ds := sp.map spD)) (ms := [.R]) (fl := dCons (dSlot 0) dNil) (s := { env := [some (.lkl (.lst (sp.map spD))), none, none, none, none, none, none], sto := sto, dr := dr }) rfl rfl rfl rfl rfl
  refine okS.seq (okS.ite (ok.not (ok.eq (dB_eq e1) (no (okS.skip ?_)))))
  refine okS.seq (okS.forLk1 (fl := dCons (dSlot 0) dNil) (i := 0) (d := .lst (sp.map spD)) (items := enumL 0 (sp.map spD)) rfl rfl rfl rfl (okS.walk (fun k s => ∃ w1 w2 w3 w4 : Option W, (w1 = none ∨ ∃ d, w1 = some (.fz d)) ∧ (w2 = none ∨ ∃ d, w2 = some (.fz d)) ∧ (w3 = none ∨ ∃ d, w3 = some (.fz d)) ∧ (w4 = none ∨ ∃ d, w4 = some (.fz d)) ∧ s = { env := [some (.lkl (.lst (sp.map spD))), w1, w2, w3, w4, none, none], sto := sto, dr := dr }) ⟨none, none, none, none, .inl rfl, .inl rfl, .inl rfl, .inl rfl, rfl⟩ ?_ ?_))
  · rintro i d s hi ⟨w1, w2, w3, w4, h1, h2, h3, h4, rfl⟩
    obtain ⟨x, hx, rfl⟩ := enumL_get 0 _ i d hi
    rw [List.getElem?_map] at hx
    cases q : sp[i]? with
    | none => rw [q] at hx; cases hx
    | some y =>
      rw [q] at hx
      cases hx
      refine ⟨{ env := [some (.lkl (.lst (sp.map spD))), some (.fz (.int (i : Nat))), some (.fz (spD y)), w3, w4, none, none], sto := sto, dr := dr }, ?_, ?_⟩
      · rw [Nat.zero_add]
        rcases h1 with rfl | ⟨_, rfl⟩ <;> rcases h2 with rfl | ⟨_, rfl⟩ <;> rfl
      · refine (spans_turnL g q w3 w4 h3 h4 sto dr _).mono (fun s' hs => ?_) fun _ _ h => h
        exact ⟨_, _, _, _, .inr ⟨_, rfl⟩, .inr ⟨_, rfl⟩, .inr ⟨_, rfl⟩, .inr ⟨_, rfl⟩, hs⟩
  · rintro s' ⟨w1, w2, w3, w4, h1, h2, h3, h4, rfl⟩
    have lz : (zipL (sp.map spD) ((sp.map spD).drop 1)).length < sizeLine := by
      rw [zipL_len, List.length_map]
      exact Nat.lt_of_le_of_lt (Nat.min_le_left _ _) (Nat.lt_of_le_of_lt g.len (by decide))
    have lp := loopC_pure (pt := .tup [.name 5, .name 6]) (vs := [5, 6]) (ft := dYes) (fe := dV (dOp2 ltD (dV (dOp2 addD (dV (dOp2 ixD (dSlot 5) (dV (dC (.int 1))))) (dV (dC (.int 1))))) (dV (dOp2 ixD (dSlot 6) (dV (dC (.int 0))))))) (s := { env := [some (.lkl (.lst (sp.map spD))), w1, w2, w3, w4, none, none], sto := sto, dr := dr }) (p := fun _ => true) (q := fun _ => .bl true) (zipL (sp.map spD) ((sp.map spD).drop 1)) [] (fun d hd => by
      obtain ⟨i, hi⟩ := List.getElem?_of_mem hd
      obtain ⟨x, y, hx, hy, rfl⟩ := zipL_get _ _ i d hi
      rw [List.getElem?_drop, Nat.add_comm] at hy
      rw [List.getElem?_map] at hx hy
      cases qx : sp[i]? with
      | none => rw [qx] at hx; cases hx
      | some a =>
        cases qy : sp[i + 1]? with
        | none => rw [qy] at hy; cases hy
        | some b =>
          rw [qx] at hx; rw [qy] at hy
          cases hx; cases hy
          obtain ⟨h, l, ha, hb, hlt⟩ := g.gap i a b qx qy
          obtain ⟨a1, a2⟩ := a
          obtain ⟨b1, b2⟩ := b
          cases ha; cases hb
          refine ⟨{ env := [some (.lkl (.lst (sp.map spD))), w1, w2, w3, w4, some (.fz (spD (a1, some h))), some (.fz (spD (some l, b2)))], sto := sto, dr := dr }, rfl, rfl, fun _ => ?_, rfl⟩
          show Rs.ok (D.bl (decide (h + 1 < l))) _ = _
          rw [decide_eq_true hlt])
    have e3 : dComp itZ (.tup [.name 5, .name 6]) [5, 6] dYes (dV (dOp2 ltD (dV (dOp2 addD (dV (dOp2 ixD (dSlot 5) (dV (dC (.int 1))))) (dV (dC (.int 1))))) (dV (dOp2 ixD (dSlot 6) (dV (dC (.int 0))))))) (dCons (dSlot 0) (dCons (dV (dSlice (dSlot 0) (dPart (dC (.int 1))) dNoPart)) dNil)) { env := [some (.lkl (.lst (sp.map spD))), w1, w2, w3, w4, none, none], sto := sto, dr := dr } = .ok (.ow (.lst ((zipL (sp.map spD) ((sp.map spD).drop 1)).map fun _ => D.bl true))) { env := [some (.lkl (.lst (sp.map spD))), w1, w2, w3, w4, none, none], sto := sto, dr := dr } := by
      unfold dComp
      have f1 : dCons (dSlot 0) (dCons (dV (dSlice (dSlot 0) (dPart (dC (.int 1))) dNoPart)) dNil) { env := [some (.lkl (.lst (sp.map spD))), w1, w2, w3, w4, none, none], sto := sto, dr := dr } = .ok [.slot 0, .t (.ow (.lst (cutD (sp.map spD) (some 1) none)))] { env := [some (.lkl (.lst (sp.map spD))), w1, w2, w3, w4, none, none], sto := sto, dr := dr } := rfl
      rw [bind_eq, f1]
      show (frzRs [.slot 0, .t (.ow (.lst (cutD (sp.map spD) (some 1) none)))] >>= fun ds => match itZ ds with
        | some items => dLoopC (.tup [.name 5, .name 6]) [5, 6] dYes _ items
        | none => M.bad) { env := [some (.lkl (.lst (sp.map spD))), w1, w2, w3, w4, none, none], sto := sto, dr := dr } = _
      rw [cut_one]
      show dLoopC (.tup [.name 5, .name 6]) [5, 6] dYes _ (zipL (sp.map spD) ((sp.map spD).drop 1)) { env := [some (.lkl (.lst (sp.map spD))), w1, w2, w3, w4, none, none], sto := sto, dr := dr } = _
      unfold dLoopC
      rw [if_pos ⟨rfl, lz⟩]
      have f2 : wipeS [5, 6] { env := [some (.lkl (.lst (sp.map spD))), w1, w2, w3, w4, none, none], sto := sto, dr := dr } = { env := [some (.lkl (.lst (sp.map spD))), w1, w2, w3, w4, none, none], sto := sto, dr := dr } := rfl
      rw [f2, lp]
      rw [List.nil_append, List.filter_eq_self.mpr fun _ _ => rfl]
      rfl
    refine okS.ret (ok.eq (dCallB_eq (dCons_eq (dV_eq e3) rfl) rfl (bools_true _)) ⟨rfl, by show 1 ≤ 7; decide, rfl, rfl⟩)
theorem learn_eqL (C : Addr) {d sl j r v t : Int} {sp sp' : List Sp} (g : GoodSp sp') (h1 : r ≤ t) (h2 : t ≤ 1000000000) (hd : 0 ≤ d) (hd2 : d ≤ 500) (hs : 0 ≤ sl) (hs2 : sl ≤ 900) (sto : List MO) (dr : Option DrawSt) :
    ∃ e', F_Shown_learn C { env := [some (.lent (.obj C (shF d sl j r v sp))), some (.fz (.int t)), some (.lkl (.lst (sp'.map spD))), none, none, none], sto := sto, dr := dr } = .ok (.rt (.fz (.int (stepR j (wayR sp' (newV d sl v (t - r) sp)))))) { env := some (.lent (.obj C (shF d sl j t (newV d sl v (t - r) sp + stepR j (wayR sp' (newV d sl v (t - r) sp))) sp'))) :: e', sto := sto, dr := dr } ∧ 2 ≤ e'.length := by
  refine ⟨[some (.fz (.int t)), some (.lkl (.lst (sp'.map spD))), some (.fz (.int (newV d sl v (t - r) sp))), some (.fz (oD (wayR sp' (newV d sl v (t - r) sp)))), some (.fz (.int (stepR j (wayR sp' (newV d sl v (t - r) sp)))))], okS.toRt ?_, by show 2 ≤ 5; decide⟩
  unfold F_Shown_learn
  have m1 := meth_pure (C := C) (m := "ticks_to") (ms := [.R, .F]) (fo := dSlot 0) (fl := dCons (dSlot 1) dNil) (s := { env := [some (.lent (.obj C (shF d sl j r v sp))), some (.fz (.int t)), some (.lkl (.lst (sp'.map spD))), none, none, none], sto := sto, dr := dr }) (ticks_pure C (d := d) (sl := sl) (j := j) (v := v) (sp := sp) h1 h2) rfl (recv_slot rfl rfl rfl) rfl rfl rfl rfl rfl
  refine okS.seq (okS.expr (ok.eq m1 ?_))
  have m2 := call_pure (are_pureL g) (ms := [.R]) (fl := dCons (dSlot 2) dNil) (s := { env := [some (.lent (.obj C (shF d sl j r v sp))), some (.fz (.int t)), some (.lkl (.lst (sp'.map spD))), none, none, none], sto := sto, dr := dr }) rfl rfl rfl rfl rfl
  refine okS.seq (okS.ite (ok.not (ok.eq (dB_eq m2) (no (okS.skip ?_)))))
  have m3 := meth_pure (C := C) (m := "at") (ms := [.R, .F]) (fo := dSlot 0) (fl := dCons (dSlot 1) dNil) (s := { env := [some (.lent (.obj C (shF d sl j r v sp))), some (.fz (.int t)), some (.lkl (.lst (sp'.map spD))), none, none, none], sto := sto, dr := dr }) (at_pure C (j := j) (v := v) (sp := sp) h1 h2 hd hd2 hs hs2) rfl (recv_slot rfl rfl rfl) rfl rfl rfl rfl rfl
  refine okS.seq (okS.asg (ok.eq m3 ⟨rfl, ?_⟩))
  refine okS.seq (okS.asg (ok.eq (call_pure (way_pureL sp' (newV d sl v (t - r) sp)) rfl rfl rfl rfl rfl) ⟨rfl, ?_⟩))
  have fld : ∀ (f : Str) (x : D) (e : List (Option W)), (shF d sl j r v sp).lookup f = some x → dFld C f (dSlot 0) { env := some (.lent (.obj C (shF d sl j r v sp))) :: e, sto := sto, dr := dr } = .ok (.fz x) { env := some (.lent (.obj C (shF d sl j r v sp))) :: e, sto := sto, dr := dr } := fun f x e h => dFld_eq rfl (readO_slot rfl rfl) h
  generalize wayR sp' (newV d sl v (t - r) sp) = w
  have st : ok (dIf (dAnd (dB (dOp2 isNotD (dSlot 4) (dV (dC .non)))) (dB (dOp2 gtD (dSlot 4) (dV (dOp2 ixD (dV (dFld C "c_rules" (dSlot 0))) (dV (dC (.int 2)))))))) (dVar 4) (dC (.int 0))) { env := [some (.lent (.obj C (shF d sl j r v sp))), some (.fz (.int t)), some (.lkl (.lst (sp'.map spD))), some (.fz (.int (newV d sl v (t - r) sp))), some (.fz (oD w)), none], sto := sto, dr := dr } (fun x s => x = .fz (.int (stepR j w)) ∧ s = { env := [some (.lent (.obj C (shF d sl j r v sp))), some (.fz (.int t)), some (.lkl (.lst (sp'.map spD))), some (.fz (.int (newV d sl v (t - r) sp))), some (.fz (oD w)), none], sto := sto, dr := dr }) := by
    cases w with
    | none =>
      refine ok.ite (ok.and (ok.eq (a := false) rfl (no (no (ok.eq rfl ⟨rfl, rfl⟩)))))
    | some w =>
      have e : dB (dOp2 gtD (dSlot 4) (dV (dOp2 ixD (dV (dFld C "c_rules" (dSlot 0))) (dV (dC (.int 2)))))) { env := [some (.lent (.obj C (shF d sl j r v sp))), some (.fz (.int t)), some (.lkl (.lst (sp'.map spD))), some (.fz (.int (newV d sl v (t - r) sp))), some (.fz (.int w)), none], sto := sto, dr := dr } = .ok (decide (j < w)) { env := [some (.lent (.obj C (shF d sl j r v sp))), some (.fz (.int t)), some (.lkl (.lst (sp'.map spD))), some (.fz (.int (newV d sl v (t - r) sp))), some (.fz (.int w)), none], sto := sto, dr := dr } := dB_eq (dOp2_eq rfl (dV_eq (dOp2_eq (dV_eq (fld "c_rules" _ _ rfl)) rfl rfl rfl rfl)) rfl rfl rfl)
      refine ok.ite (ok.and (ok.eq (a := true) rfl (yes (ok.dec e (fun h => yes (ok.eq rfl ⟨by show T.fz (D.int w) = T.fz (.int (if j < w then w else 0)); rw [if_pos h], rfl⟩)) fun h => no (ok.eq rfl ⟨by show T.fz (D.int 0) = T.fz (.int (if j < w then w else 0)); rw [if_neg h], rfl⟩)))))
  refine okS.seq (okS.asg (st.mono fun x s' hx => ?_))
  obtain ⟨rfl, rfl⟩ := hx
  refine ⟨rfl, ?_⟩
  refine okS.seq (okS.nx (setF_eq (fs := shF d sl j r v sp) (d := .int t) rfl rfl rfl (by show 4 < 1000; decide)) ?_)
  refine okS.seq (okS.nx (setF_eq (fs := shF d sl j t v sp) (d := .int (newV d sl v (t - r) sp + stepR j w)) rfl rfl rfl (by show 4 < 1000; decide)) ?_)
  have hz : (sp'.map spD).length ≤ sizeLine := by rw [List.length_map]; exact Nat.le_trans g.len (by decide)
  refine okS.seq (okS.nx (setF_eq (fs := shF d sl j t (newV d sl v (t - r) sp + stepR j w) sp) (d := .lst (sp'.map spD)) rfl rfl rfl (by show 4 < 1000; decide)) ?_)
  exact okS.rt rfl ⟨rfl, rfl⟩
end Law

set_option Elab.async false
set_option linter.all false
set_option maxRecDepth 100000
set_option maxHeartbeats 2000000
/-! W44: ways and moves, in plain numbers -/
namespace Law
open PySem DL
def mk (p : Int × Int) : Sp := (some p.1, some p.2)
theorem gapsL_spec (v : Int) : ∀ (ps : List (Int × Int)) (b a : OI), match gapsL (ps.map mk) v b a with
    | none => ∃ p ∈ ps, p.1 ≤ v ∧ v ≤ p.2
    | some (b', a') => (∀ p ∈ ps, v < p.1 ∨ p.2 < v) ∧ (∀ x, b' = some x → b = some x ∨ ∃ p ∈ ps, v < p.1 ∧ x = p.1 - v) ∧ (∀ p ∈ ps, v < p.1 → ∃ x, b' = some x ∧ x ≤ p.1 - v) ∧ (∀ y, b = some y → ∃ x, b' = some x ∧ x ≤ y)
      ∧ (∀ x, a' = some x → a = some x ∨ ∃ p ∈ ps, p.2 < v ∧ x = v - p.2) ∧ (∀ p ∈ ps, p.2 < v → ∃ x, a' = some x ∧ x ≤ v - p.2) ∧ (∀ y, a = some y → ∃ x, a' = some x ∧ x ≤ y)
  | [], b, a => ⟨fun _ h => (by cases h), fun x h => .inl h, fun _ h => (by cases h), fun y h => ⟨y, h, Int.le_refl _⟩, fun x h => .inl h, fun _ h => (by cases h), fun y h => ⟨y, h, Int.le_refl _⟩⟩
  | (l, u) :: ps, b, a => by
    have ih := gapsL_spec v ps (low' (some l) v b) (high' (some u) v a)
    show match gapsL ((some l, some u) :: ps.map mk) v b a with | none => _ | some (b', a') => _
    unfold gapsL
    by_cases hin : inside (some l) (some u) v = true
    · rw [if_pos hin]
      simp only [inside, Bool.and_eq_true, decide_eq_true_eq] at hin
      exact ⟨(l, u), List.mem_cons_self, hin⟩
    · rw [if_neg hin]
      simp only [inside, Bool.and_eq_true, decide_eq_true_eq] at hin
      cases q : gapsL (ps.map mk) v (low' (some l) v b) (high' (some u) v a) with
      | none =>
        rw [q] at ih
        obtain ⟨p, hp, h⟩ := ih
        exact ⟨p, List.mem_cons_of_mem _ hp, h⟩
      | some ba =>
        obtain ⟨b', a'⟩ := ba
        rw [q] at ih
        obtain ⟨i1, i2, i3, i4, i5, i6, i7⟩ := ih
        -- what the step does to b and a
        have lb : (∀ x, low' (some l) v b = some x → b = some x ∨ (v < l ∧ x = l - v)) ∧ (v < l → ∃ x, low' (some l) v b = some x ∧ x ≤ l - v) ∧ (∀ y, b = some y → ∃ x, low' (some l) v b = some x ∧ x ≤ y) := by
          unfold low'
          by_cases h1 : v < l
          · cases b with
            | none => simp [h1]
            | some z =>
              by_cases h2 : l - v < z
              · simp [h1, h2]; omega
              · simp [h1, h2]; omega
          · simp only [h1, if_false, false_and, or_false]
            exact ⟨fun x h => h, fun h => h.elim, fun y h => ⟨y, h, Int.le_refl _⟩⟩
        have ha : (∀ x, high' (some u) v a = some x → a = some x ∨ (u < v ∧ x = v - u)) ∧ (u < v → ∃ x, high' (some u) v a = some x ∧ x ≤ v - u) ∧ (∀ y, a = some y → ∃ x, high' (some u) v a = some x ∧ x ≤ y) := by
          unfold high'
          by_cases h1 : u < v
          · cases a with
            | none => simp [h1]
            | some z =>
              by_cases h2 : v - u < z
              · simp [h1, h2]; omega
              · simp [h1, h2]; omega
          · simp only [h1, if_false, false_and, or_false]
            exact ⟨fun x h => h, fun h => h.elim, fun y h => ⟨y, h, Int.le_refl _⟩⟩
        refine ⟨fun p hp => ?_, fun x hx => ?_, fun p hp h => ?_, fun y hy => ?_, fun x hx => ?_, fun p hp h => ?_, fun y hy => ?_⟩
        · rcases List.mem_cons.mp hp with rfl | hp
          · show v < l ∨ u < v
            clear lb ha i1 i2 i3 i4 i5 i6 i7
            omega
          · exact i1 p hp
        · rcases i2 x hx with h | ⟨p, hp, h⟩
          · rcases lb.1 x h with h | ⟨h1, h2⟩
            · exact .inl h
            · exact .inr ⟨(l, u), List.mem_cons_self, h1, h2⟩
          · exact .inr ⟨p, List.mem_cons_of_mem _ hp, h⟩
        · rcases List.mem_cons.mp hp with rfl | hp
          · obtain ⟨x, h1, h2⟩ := lb.2.1 h
            obtain ⟨z, h3, h4⟩ := i4 x h1
            exact ⟨z, h3, Int.le_trans h4 h2⟩
          · exact i3 p hp h
        · obtain ⟨x, h1, h2⟩ := lb.2.2 y hy
          obtain ⟨z, h3, h4⟩ := i4 x h1
          exact ⟨z, h3, Int.le_trans h4 h2⟩
        · rcases i5 x hx with h | ⟨p, hp, h⟩
          · rcases ha.1 x h with h | ⟨h1, h2⟩
            · exact .inl h
            · exact .inr ⟨(l, u), List.mem_cons_self, h1, h2⟩
          · exact .inr ⟨p, List.mem_cons_of_mem _ hp, h⟩
        · rcases List.mem_cons.mp hp with rfl | hp
          · obtain ⟨x, h1, h2⟩ := ha.2.1 h
            obtain ⟨z, h3, h4⟩ := i7 x h1
            exact ⟨z, h3, Int.le_trans h4 h2⟩
          · exact i6 p hp h
        · obtain ⟨x, h1, h2⟩ := ha.2.2 y hy
          obtain ⟨z, h3, h4⟩ := i7 x h1
          exact ⟨z, h3, Int.le_trans h4 h2⟩
/-- w: the way from v to the nearest of the spans -/
structure IsW (ps : List (Int × Int)) (v w : Int) : Prop where
  at_ : ∃ p ∈ ps, p.1 ≤ v + w ∧ v + w ≤ p.2
  min : ∀ p ∈ ps, absI w ≤ max (p.1 - v) (max (v - p.2) 0)
theorem way_is {ps : List (Int × Int)} {v : Int} (h0 : ps ≠ []) (le : ∀ p ∈ ps, p.1 ≤ p.2) : ∃ w, wayR (ps.map mk) v = some w ∧ IsW ps v w := by
  have sp := gapsL_spec v ps none none
  unfold wayR gapsR
  cases q : gapsL (ps.map mk) v none none with
  | none =>
    rw [q] at sp
    obtain ⟨p, hp, h1, h2⟩ := sp
    refine ⟨0, by simp, ⟨p, hp, by omega, by omega⟩, fun p _ => ?_⟩
    show absI 0 ≤ _
    have : absI 0 = 0 := rfl
    omega
  | some ba =>
    obtain ⟨b, a⟩ := ba
    rw [q] at sp
    obtain ⟨s1, s2, s3, _, s5, s6, _⟩ := sp
    have fromB : ∀ x, b = some x → (∀ y, a = some y → x ≤ y) → IsW ps v x := fun x hx hy => by
      rcases s2 x hx with h | ⟨p, hp, h1, h2⟩
      · cases h
      · refine ⟨⟨p, hp, by omega, by have := le p hp; omega⟩, fun r hr => ?_⟩
        have hx0 : absI x = x := by unfold absI; rw [if_neg (by omega)]
        rw [hx0]
        rcases s1 r hr with h | h
        · obtain ⟨z, hz, hz2⟩ := s3 r hr h
          rw [hx] at hz; cases hz
          omega
        · obtain ⟨z, hz, hz2⟩ := s6 r hr h
          have := hy z hz
          omega
    have fromA : ∀ y, a = some y → (∀ x, b = some x → y ≤ x) → IsW ps v (-y) := fun y hy hx => by
      rcases s5 y hy with h | ⟨p, hp, h1, h2⟩
      · cases h
      · refine ⟨⟨p, hp, by have := le p hp; omega, by omega⟩, fun r hr => ?_⟩
        have hx0 : absI (-y) = y := by unfold absI; rw [if_pos (by omega)]; omega
        rw [hx0]
        rcases s1 r hr with h | h
        · obtain ⟨z, hz, hz2⟩ := s3 r hr h
          have := hx z hz
          omega
        · obtain ⟨z, hz, hz2⟩ := s6 r hr h
          rw [hy] at hz; cases hz
          omega
    cases b with
    | none =>
      cases a with
      | none =>
        cases ps with
        | nil => exact absurd rfl h0
        | cons p ps =>
          rcases s1 p List.mem_cons_self with h | h
          · obtain ⟨x, hx, _⟩ := s3 p List.mem_cons_self h; cases hx
          · obtain ⟨x, hx, _⟩ := s6 p List.mem_cons_self h; cases hx
      | some y => exact ⟨-y, rfl, fromA y rfl fun x hx => (by cases hx)⟩
    | some x =>
      cases a with
      | none => exact ⟨x, rfl, fromB x rfl fun y hy => (by cases hy)⟩
      | some y =>
        by_cases h : x ≤ y
        · exact ⟨x, if_pos h, fromB x rfl fun z hz => (by cases hz; exact h)⟩
        · exact ⟨-y, if_neg h, fromA y rfl fun z hz => (by cases hz; omega)⟩
/-! ### moves -/
def fnd (far d s t : Int) : Int := if d + s = 0 ∨ t ≤ far / (d + s) then s * t else max (s * (far / (d + s))) (far - d * (far / (d + s) + 1))
theorem fnd_facts {far d s t : Int} (hf : 0 ≤ far) (hd : 0 ≤ d) (hs : 0 ≤ s) (ht : 0 ≤ t) : 0 ≤ fnd far d s t ∧ fnd far d s t ≤ far ∧ fnd far d s t ≤ s * t ∧ (far - fnd far d s t - d * t ≤ 0 ∨ far - fnd far d s t - d * t ≤ far - t * (d + s)) := by
  have e1 : t * (d + s) = d * t + s * t := by rw [Int.mul_add, Int.mul_comm t d, Int.mul_comm t s]
  have st0 : 0 ≤ s * t := Int.mul_nonneg hs ht
  have dt0 : 0 ≤ d * t := Int.mul_nonneg hd ht
  unfold fnd
  by_cases h0 : d + s = 0
  · rw [if_pos (.inl h0)]
    have hs0 : s = 0 := by omega
    have hd0 : d = 0 := by omega
    subst hs0; subst hd0
    simp only [Int.zero_mul] at *
    omega
  · have hp : 0 < d + s := by omega
    have q0 : 0 ≤ far / (d + s) := Int.ediv_nonneg hf (Int.le_of_lt hp)
    have lo : far / (d + s) * (d + s) ≤ far := Int.ediv_mul_le far (by omega)
    have hi : far < (far / (d + s) + 1) * (d + s) := Int.lt_ediv_add_one_mul_self far hp
    generalize far / (d + s) = q at q0 lo hi ⊢
    have eA : q * (d + s) = d * q + s * q := by rw [Int.mul_add, Int.mul_comm q d, Int.mul_comm q s]
    have eB : (q + 1) * (d + s) = d * q + s * q + (d + s) := by rw [Int.add_mul, eA, Int.one_mul]
    have eC : d * (q + 1) = d * q + d := by rw [Int.mul_add, Int.mul_one]
    have sq0 : 0 ≤ s * q := Int.mul_nonneg hs q0
    have dq0 : 0 ≤ d * q := Int.mul_nonneg hd q0
    rw [eA] at lo
    rw [eB] at hi
    by_cases h1 : t ≤ q
    · rw [if_pos (.inr h1)]
      have a : s * t ≤ s * q := Int.mul_le_mul_of_nonneg_left h1 hs
      have b : d * t ≤ d * q := Int.mul_le_mul_of_nonneg_left h1 hd
      omega
    · rw [if_neg (fun z => z.elim h0 h1), eC]
      have a : s * (q + 1) ≤ s * t := Int.mul_le_mul_of_nonneg_left (by omega) hs
      have b : d * (q + 1) ≤ d * t := Int.mul_le_mul_of_nonneg_left (by omega) hd
      rw [Int.mul_add, Int.mul_one] at a b
      omega
/-- what is added at t -/
def mv (w d s t : Int) : Int := if w = 0 then 0 else movedR w d s t
theorem mv_facts {w d s t : Int} (hd : 0 ≤ d) (hs : 0 ≤ s) (ht : 0 ≤ t) : absI (mv w d s t) ≤ s * t ∧ absI (w - mv w d s t) = absI w - absI (mv w d s t) ∧ (absI w - absI (mv w d s t) - d * t ≤ 0 ∨ absI w - absI (mv w d s t) - d * t ≤ absI w - t * (d + s)) := by
  have hf : 0 ≤ absI w := by unfold absI; split <;> omega
  obtain ⟨f1, f2, f3, f4⟩ := fnd_facts hf hd hs ht
  have st0 : 0 ≤ s * t := Int.mul_nonneg hs ht
  have dt0 : 0 ≤ d * t := Int.mul_nonneg hd ht
  unfold mv
  by_cases h0 : w = 0
  · subst h0
    rw [if_pos rfl]
    have : absI 0 = 0 := rfl
    rw [this]
    refine ⟨st0, rfl, .inl (by omega)⟩
  · rw [if_neg h0]
    have e : movedR w d s t = if 0 < w then fnd (absI w) d s t else -(fnd (absI w) d s t) := rfl
    rw [e]
    generalize fnd (absI w) d s t = f at *
    by_cases h1 : 0 < w
    · rw [if_pos h1]
      have a1 : absI w = w := by unfold absI; rw [if_neg (by omega)]
      have a2 : absI f = f := by unfold absI; rw [if_neg (by omega)]
      have a3 : absI (w - f) = w - f := by unfold absI; rw [if_neg (by omega)]
      rw [a1] at f2 f4 ⊢
      rw [a2, a3]
      exact ⟨f3, rfl, f4⟩
    · rw [if_neg h1]
      have a1 : absI w = -w := by unfold absI; rw [if_pos (by omega)]
      have a2 : absI (-f) = f := by unfold absI; split <;> omega
      have a3 : absI (w - -f) = -w - f := by unfold absI; split <;> omega
      rw [a1] at f2 f4 ⊢
      rw [a2, a3]
      exact ⟨f3, rfl, f4⟩
def wideP (k : Int) (p : Int × Int) : Int × Int := (p.1 - k, p.2 + k)
theorem wide_mk (d t : Int) (ps : List (Int × Int)) : wideR d t (ps.map mk) = (ps.map (wideP (d * t))).map mk := by
  unfold wideR
  rw [List.map_map, List.map_map]
  refine List.map_congr_left fun p _ => ?_
  show (some (p.1 + -(d * t)), some (p.2 + d * t)) = (some (p.1 - d * t), some (p.2 + d * t))
  rw [← Int.sub_eq_add_neg]
/-- how far the nearest of the wider spans is -/
theorem dist_is {ps : List (Int × Int)} {v w d s t : Int} (h0 : ps ≠ []) (le : ∀ p ∈ ps, p.1 ≤ p.2) (hw : wayR (ps.map mk) v = some w) (iw : IsW ps v w) (hd : 0 ≤ d) (hs : 0 ≤ s) (ht : 0 ≤ t) :
    moreR d s v t (ps.map mk) = mv w d s t ∧ distR d s v t (ps.map mk) = some (max 0 (absI w - t * (d + s))) := by
  have hm : moreR d s v t (ps.map mk) = mv w d s t := by unfold moreR mv; rw [hw]
  refine ⟨hm, ?_⟩
  unfold distR
  rw [hm, wide_mk, show v + 1000 * t + mv w d s t - 1000 * t = v + mv w d s t from by omega]
  have dt0 : 0 ≤ d * t := Int.mul_nonneg hd ht
  obtain ⟨m1, m2, m3⟩ := mv_facts (w := w) hd hs ht
  obtain ⟨w', hw', iw'⟩ := way_is (ps := ps.map (wideP (d * t))) (v := v + mv w d s t) (by simpa using h0) (fun p hp => by
    obtain ⟨r, hr, rfl⟩ := List.mem_map.mp hp
    have := le r hr
    show r.1 - d * t ≤ r.2 + d * t
    omega)
  rw [hw']
  show some (absI w') = some (max 0 (absI w - t * (d + s)))
  congr 1
  have e1 : t * (d + s) = d * t + s * t := by rw [Int.mul_add, Int.mul_comm t d, Int.mul_comm t s]
  generalize mv w d s t = m at *
  have am : m ≤ absI m ∧ -m ≤ absI m := by unfold absI; split <;> omega
  have aw : absI w' = w' ∨ absI w' = -w' := by unfold absI; split <;> omega
  have aw0 : 0 ≤ absI w' := by unfold absI; split <;> omega
  refine Int.le_antisymm ?_ ?_
  · obtain ⟨p, hp, p1, p2⟩ := iw.at_
    have := iw'.min (wideP (d * t) p) (List.mem_map_of_mem hp)
    have a4 : w - m ≤ absI (w - m) ∧ -(w - m) ≤ absI (w - m) := by unfold absI; split <;> omega
    simp only [wideP] at this
    omega
  · obtain ⟨p, hp, p1, p2⟩ := iw'.at_
    obtain ⟨r, hr, rfl⟩ := List.mem_map.mp hp
    have := iw.min r hr
    simp only [wideP] at p1 p2
    omega
theorem fnd_lo {far d s t : Int} (h : t ≤ far / (d + s)) : fnd far d s t = s * t := if_pos (.inr h)
theorem fnd_hi {far d s t : Int} (h0 : ¬ d + s = 0) (h : ¬ t ≤ far / (d + s)) : fnd far d s t = max (s * (far / (d + s))) (far - d * (far / (d + s) + 1)) := if_neg fun z => z.elim h0 h
/-- from one turn to the next -/
theorem fnd_step {far d s t : Int} (hf : 0 ≤ far) (hd : 0 ≤ d) (hs : 0 ≤ s) (ht : 0 ≤ t) : fnd far d s t ≤ fnd far d s (t + 1) ∧ fnd far d s (t + 1) ≤ fnd far d s t + s ∧ (far ≤ t * (d + s) → fnd far d s (t + 1) = fnd far d s t) := by
  by_cases h0 : d + s = 0
  · have hs0 : s = 0 := by omega
    have hd0 : d = 0 := by omega
    subst hs0; subst hd0
    simp [fnd]
  · have hp : 0 < d + s := by omega
    have q0 : 0 ≤ far / (d + s) := Int.ediv_nonneg hf (Int.le_of_lt hp)
    have lo : far / (d + s) * (d + s) ≤ far := Int.ediv_mul_le far (by omega)
    have hi : far < (far / (d + s) + 1) * (d + s) := Int.lt_ediv_add_one_mul_self far hp
    have l1 : t ≤ far / (d + s) → fnd far d s t = s * t := fnd_lo
    have l2 : t + 1 ≤ far / (d + s) → fnd far d s (t + 1) = s * (t + 1) := fnd_lo
    have g1 : ¬ t ≤ far / (d + s) → fnd far d s t = max (s * (far / (d + s))) (far - d * (far / (d + s) + 1)) := fnd_hi h0
    have g2 : ¬ t + 1 ≤ far / (d + s) → fnd far d s (t + 1) = max (s * (far / (d + s))) (far - d * (far / (d + s) + 1)) := fnd_hi h0
    generalize far / (d + s) = q at *
    have eA : q * (d + s) = d * q + s * q := by rw [Int.mul_add, Int.mul_comm q d, Int.mul_comm q s]
    have eB : (q + 1) * (d + s) = d * q + s * q + (d + s) := by rw [Int.add_mul, eA, Int.one_mul]
    have eC : d * (q + 1) = d * q + d := by rw [Int.mul_add, Int.mul_one]
    have eD : s * (t + 1) = s * t + s := by rw [Int.mul_add, Int.mul_one]
    rw [eA] at lo
    rw [eB] at hi
    rw [eC] at g1 g2
    rw [eD] at l2
    by_cases h1 : t + 1 ≤ q
    · have k : far ≤ t * (d + s) → False := fun hk => by
        have a : t * (d + s) ≤ (q - 1) * (d + s) := Int.mul_le_mul_of_nonneg_right (by omega) (by omega)
        have b : (q - 1) * (d + s) = q * (d + s) - (d + s) := by rw [Int.sub_mul, Int.one_mul]
        rw [b, eA] at a
        omega
      rw [l2 h1, l1 (by omega)]
      exact ⟨by omega, by omega, fun hk => (k hk).elim⟩
    · rw [g2 h1]
      by_cases h2 : t ≤ q
      · have e : t = q := by omega
        subst e
        rw [l1 (Int.le_refl t)]
        refine ⟨by omega, by omega, fun hk => ?_⟩
        rw [eA] at hk
        omega
      · rw [g1 h2]
        exact ⟨Int.le_refl _, by omega, fun _ => rfl⟩
/-- behind its end nothing moves -/
theorem fnd_end {far d s t u : Int} (hf : 0 ≤ far) (hd : 0 ≤ d) (hs : 0 ≤ s) (ht : 0 ≤ t) (htu : t ≤ u) (h : far ≤ t * (d + s)) : fnd far d s u = fnd far d s t := by
  obtain ⟨n, rfl⟩ : ∃ n : Nat, u = t + n := ⟨(u - t).toNat, by omega⟩
  clear htu
  induction n with
  | zero => simp
  | succ n ih =>
    have h2 : far ≤ (t + n) * (d + s) := by
      rw [Int.add_mul]
      have : 0 ≤ (n : Int) * (d + s) := Int.mul_nonneg (by omega) (by omega)
      omega
    have := (fnd_step (d := d) (s := s) hf hd hs (show 0 ≤ t + (n : Int) by omega)).2.2 h2
    rw [← ih, ← this]
    congr 1
    omega
end Law

set_option Elab.async false
set_option linter.all false
set_option maxRecDepth 100000
set_option maxHeartbeats 2000000
/-! ShO: the nearest point; what a clock does from one time to a later one; two clocks -/
namespace Law
open PySem DL
/-- n: the point of the spans that is nearest to v, the later one of two -/
structure IsN (ps : List (Int × Int)) (v n : Int) : Prop where
  at_ : ∃ p ∈ ps, p.1 ≤ n ∧ n ≤ p.2
  min : ∀ p ∈ ps, ∀ m, p.1 ≤ m → m ≤ p.2 → absI (n - v) < absI (m - v) ∨ (absI (n - v) = absI (m - v) ∧ m ≤ n)
theorem absI_le {a b : Int} : absI a ≤ b ↔ -b ≤ a ∧ a ≤ b := by unfold absI; split <;> omega
theorem absI_cases (a : Int) : (0 ≤ a ∧ absI a = a) ∨ (a < 0 ∧ absI a = -a) := by unfold absI; split <;> omega
theorem IsN.uniq {ps : List (Int × Int)} {v n m : Int} (a : IsN ps v n) (b : IsN ps v m) : n = m := by
  obtain ⟨p, hp, p1, p2⟩ := a.at_
  obtain ⟨q, hq, q1, q2⟩ := b.at_
  have h1 := a.min q hq m q1 q2
  have h2 := b.min p hp n p1 p2
  omega
theorem IsN.mono {ps : List (Int × Int)} {v v' n n' : Int} (a : IsN ps v n) (b : IsN ps v' n') (h : v ≤ v') : n ≤ n' := by
  obtain ⟨p, hp, p1, p2⟩ := a.at_
  obtain ⟨q, hq, q1, q2⟩ := b.at_
  have h1 := a.min q hq n' q1 q2
  have h2 := b.min p hp n p1 p2
  have c1 := absI_cases (n - v); have c2 := absI_cases (n' - v); have c3 := absI_cases (n - v'); have c4 := absI_cases (n' - v')
  omega
/-- the way leads to the nearest point -/
theorem way_near {ps : List (Int × Int)} {v : Int} (h0 : ps ≠ []) (le : ∀ p ∈ ps, p.1 ≤ p.2) : ∃ w, wayR (ps.map mk) v = some w ∧ IsN ps v (v + w) := by
  have sp := gapsL_spec v ps none none
  unfold wayR gapsR
  cases q : gapsL (ps.map mk) v none none with
  | none =>
    rw [q] at sp
    obtain ⟨p, hp, h1, h2⟩ := sp
    refine ⟨0, by simp, ⟨p, hp, by omega, by omega⟩, fun p _ m _ _ => ?_⟩
    have c1 := absI_cases (v + 0 - v); have c2 := absI_cases (m - v)
    omega
  | some ba =>
    obtain ⟨b, a⟩ := ba
    rw [q] at sp
    obtain ⟨s1, s2, s3, _, s5, s6, _⟩ := sp
    have fromB : ∀ x, b = some x → (∀ y, a = some y → x ≤ y) → IsN ps v (v + x) := fun x hx hy => by
      rcases s2 x hx with h | ⟨p, hp, h1, h2⟩
      · cases h
      · refine ⟨⟨p, hp, by omega, by have := le p hp; omega⟩, fun r hr m m1 m2 => ?_⟩
        have c1 := absI_cases (v + x - v); have c2 := absI_cases (m - v)
        rcases s1 r hr with h | h
        · obtain ⟨z, hz, hz2⟩ := s3 r hr h
          rw [hx] at hz; cases hz
          omega
        · obtain ⟨z, hz, hz2⟩ := s6 r hr h
          have := hy z hz
          omega
    have fromA : ∀ y, a = some y → (∀ x, b = some x → y < x) → IsN ps v (v + -y) := fun y hy hx => by
      rcases s5 y hy with h | ⟨p, hp, h1, h2⟩
      · cases h
      · refine ⟨⟨p, hp, by have := le p hp; omega, by omega⟩, fun r hr m m1 m2 => ?_⟩
        have c1 := absI_cases (v + -y - v); have c2 := absI_cases (m - v)
        rcases s1 r hr with h | h
        · obtain ⟨z, hz, hz2⟩ := s3 r hr h
          have := hx z hz
          omega
        · obtain ⟨z, hz, hz2⟩ := s6 r hr h
          rw [hy] at hz; cases hz
          omega
    cases b with
    | none =>
      cases a with
      | none =>
        cases ps with
        | nil => exact absurd rfl h0
        | cons p ps =>
          rcases s1 p List.mem_cons_self with h | h
          · obtain ⟨x, hx, _⟩ := s3 p List.mem_cons_self h; cases hx
          · obtain ⟨x, hx, _⟩ := s6 p List.mem_cons_self h; cases hx
      | some y => exact ⟨-y, rfl, fromA y rfl fun x hx => (by cases hx)⟩
    | some x =>
      cases a with
      | none => exact ⟨x, rfl, fromB x rfl fun y hy => (by cases hy)⟩
      | some y =>
        by_cases h : x ≤ y
        · exact ⟨x, if_pos h, fromB x rfl fun z hz => (by cases hz; exact h)⟩
        · exact ⟨-y, if_neg h, fromA y rfl fun z hz => (by cases hz; omega)⟩
theorem way_of_near {ps : List (Int × Int)} {v n : Int} (h0 : ps ≠ []) (le : ∀ p ∈ ps, p.1 ≤ p.2) (a : IsN ps v n) : wayR (ps.map mk) v = some (n - v) := by
  obtain ⟨w, e, b⟩ := way_near (v := v) h0 le
  have := a.uniq b
  rw [e]
  congr 1
  omega
/-! ### the amount, as the greatest of some -/
theorem fnd_max {far d s t : Int} (hf : 0 ≤ far) (hd : 0 ≤ d) (hs : 0 ≤ s) (ht : 0 ≤ t) : (∃ k, 0 ≤ k ∧ k ≤ t ∧ fnd far d s t = min (s * k) (far - d * k)) ∧ ∀ k, 0 ≤ k → k ≤ t → min (s * k) (far - d * k) ≤ fnd far d s t := by
  by_cases h0 : d + s = 0
  · have hs0 : s = 0 := by omega
    have hd0 : d = 0 := by omega
    subst hs0; subst hd0
    have e : fnd far 0 0 t = 0 * t := if_pos (.inl rfl)
    rw [e]
    refine ⟨⟨0, Int.le_refl 0, ht, by omega⟩, fun k _ _ => by omega⟩
  · have hp : 0 < d + s := by omega
    have q0 : 0 ≤ far / (d + s) := Int.ediv_nonneg hf (Int.le_of_lt hp)
    have lo : far / (d + s) * (d + s) ≤ far := Int.ediv_mul_le far (by omega)
    have hi : far < (far / (d + s) + 1) * (d + s) := Int.lt_ediv_add_one_mul_self far hp
    have l1 : t ≤ far / (d + s) → fnd far d s t = s * t := fnd_lo
    have g1 : ¬ t ≤ far / (d + s) → fnd far d s t = max (s * (far / (d + s))) (far - d * (far / (d + s) + 1)) := fnd_hi h0
    generalize far / (d + s) = q at *
    have eA : q * (d + s) = d * q + s * q := by rw [Int.mul_add, Int.mul_comm q d, Int.mul_comm q s]
    have eB : (q + 1) * (d + s) = d * q + s * q + (d + s) := by rw [Int.add_mul, eA, Int.one_mul]
    have eC : d * (q + 1) = d * q + d := by rw [Int.mul_add, Int.mul_one]
    have eD : s * (q + 1) = s * q + s := by rw [Int.mul_add, Int.mul_one]
    rw [eA] at lo
    rw [eB] at hi
    rw [eC] at g1
    have sl : ∀ {a b : Int}, a ≤ b → s * a ≤ s * b := fun h => Int.mul_le_mul_of_nonneg_left h hs
    have dl : ∀ {a b : Int}, a ≤ b → d * a ≤ d * b := fun h => Int.mul_le_mul_of_nonneg_left h hd
    by_cases h1 : t ≤ q
    · rw [l1 h1]
      have := dl h1; have := sl h1
      refine ⟨⟨t, ht, Int.le_refl t, by omega⟩, fun k k0 k1 => by have := sl k1; omega⟩
    · rw [g1 h1]
      refine ⟨?_, fun k k0 k1 => ?_⟩
      · by_cases h2 : s * q ≤ far - (d * q + d)
        · refine ⟨q + 1, by omega, by omega, ?_⟩
          rw [eC, eD]
          omega
        · exact ⟨q, q0, by omega, by omega⟩
      · by_cases h2 : k ≤ q
        · have := sl h2; omega
        · have := dl (show q + 1 ≤ k by omega)
          rw [eC] at this
          omega
theorem fnd_mono {f f' d s t : Int} (hf : 0 ≤ f) (h : f ≤ f') (hd : 0 ≤ d) (hs : 0 ≤ s) (ht : 0 ≤ t) : fnd f d s t ≤ fnd f' d s t ∧ fnd f' d s t ≤ fnd f d s t + (f' - f) := by
  obtain ⟨⟨k, k0, k1, e⟩, m⟩ := fnd_max hf hd hs ht
  obtain ⟨⟨k', k0', k1', e'⟩, m'⟩ := fnd_max (Int.le_trans hf h) hd hs ht
  have a1 := m' k k0 k1
  have a2 := m k' k0' k1'
  omega
/-- what is left of the way -/
def remF (f d s t : Int) : Int := max 0 (f - t * (d + s))
theorem fnd_semi {f d s t u : Int} (hf : 0 ≤ f) (hd : 0 ≤ d) (hs : 0 ≤ s) (ht : 0 ≤ t) (hu : 0 ≤ u) : fnd f d s (t + u) = fnd f d s t + fnd (remF f d s t) d s u := by
  by_cases h0 : d + s = 0
  · have hs0 : s = 0 := by omega
    have e : ∀ g x, fnd g d s x = s * x := fun g x => if_pos (.inl h0)
    rw [e, e, e, hs0, Int.zero_mul, Int.zero_mul, Int.zero_mul]
    rfl
  · have hp : 0 < d + s := by omega
    have l1 : t ≤ f / (d + s) → fnd f d s t = s * t := fnd_lo
    have l2 : t + u ≤ f / (d + s) → fnd f d s (t + u) = s * (t + u) := fnd_lo
    have g1 : ¬ t ≤ f / (d + s) → fnd f d s t = max (s * (f / (d + s))) (f - d * (f / (d + s) + 1)) := fnd_hi h0
    have g2 : ¬ t + u ≤ f / (d + s) → fnd f d s (t + u) = max (s * (f / (d + s))) (f - d * (f / (d + s) + 1)) := fnd_hi h0
    have q0 : 0 ≤ f / (d + s) := Int.ediv_nonneg hf (Int.le_of_lt hp)
    have lo : f / (d + s) * (d + s) ≤ f := Int.ediv_mul_le f (by omega)
    have hi : f < (f / (d + s) + 1) * (d + s) := Int.lt_ediv_add_one_mul_self f hp
    by_cases h1 : t ≤ f / (d + s)
    · have e1 : t * (d + s) ≤ f / (d + s) * (d + s) := Int.mul_le_mul_of_nonneg_right h1 (by omega)
      have er : remF f d s t = f - t * (d + s) := by unfold remF; omega
      have ed : (f - t * (d + s)) / (d + s) = f / (d + s) - t := by
        rw [show f - t * (d + s) = f + (-t) * (d + s) by rw [Int.neg_mul]; omega, Int.add_mul_ediv_right _ _ (by omega)]
        omega
      rw [er, l1 h1]
      have l3 : u ≤ f / (d + s) - t → fnd (f - t * (d + s)) d s u = s * u := fun h => by rw [← ed] at h; exact fnd_lo h
      have g3 : ¬ u ≤ f / (d + s) - t → fnd (f - t * (d + s)) d s u = max (s * (f / (d + s) - t)) (f - t * (d + s) - d * (f / (d + s) - t + 1)) := fun h => by rw [← ed] at h ⊢; exact fnd_hi h0 h
      generalize f / (d + s) = q at *
      by_cases h2 : t + u ≤ q
      · rw [l2 h2, l3 (by omega), Int.mul_add]
      · rw [g2 h2, g3 (by omega)]
        have a1 : s * (q - t) = s * q - s * t := Int.mul_sub s q t
        have a2 : d * (q - t + 1) = d * q - d * t + d := by rw [Int.mul_add, Int.mul_sub, Int.mul_one]
        have a3 : d * (q + 1) = d * q + d := by rw [Int.mul_add, Int.mul_one]
        have a4 : t * (d + s) = d * t + s * t := by rw [Int.mul_add, Int.mul_comm t d, Int.mul_comm t s]
        rw [a1, a2, a3, a4]
        omega
    · have e1 : (f / (d + s) + 1) * (d + s) ≤ t * (d + s) := Int.mul_le_mul_of_nonneg_right (by omega) (by omega)
      have er : remF f d s t = 0 := by unfold remF; omega
      rw [er, g1 h1, g2 (by omega)]
      have : fnd 0 d s u = 0 := by
        have := fnd_facts (far := 0) (d := d) (s := s) (t := u) (Int.le_refl 0) hd hs hu
        omega
      omega
/-! ### the way that is left -/
def remW (w d s t : Int) : Int := if 0 < w then remF w d s t else -(remF (-w) d s t)
theorem mv_of {w d s t : Int} (hd : 0 ≤ d) (hs : 0 ≤ s) (ht : 0 ≤ t) : mv w d s t = if 0 < w then fnd w d s t else -(fnd (-w) d s t) := by
  unfold mv
  by_cases h0 : w = 0
  · subst h0
    have := fnd_facts (far := 0) (d := d) (s := s) (t := t) (Int.le_refl 0) hd hs ht
    rw [if_pos rfl, if_neg (by decide)]
    have e : -(0 : Int) = 0 := rfl
    rw [e]
    omega
  · rw [if_neg h0]
    have e : movedR w d s t = if 0 < w then fnd (absI w) d s t else -(fnd (absI w) d s t) := rfl
    rw [e]
    by_cases h1 : 0 < w
    · rw [if_pos h1, if_pos h1]
      have : absI w = w := by unfold absI; omega
      rw [this]
    · rw [if_neg h1, if_neg h1]
      have : absI w = -w := by unfold absI; rw [if_pos (by omega)]
      rw [this]
theorem mv_semi {w d s t u : Int} (hd : 0 ≤ d) (hs : 0 ≤ s) (ht : 0 ≤ t) (hu : 0 ≤ u) : mv w d s (t + u) = mv w d s t + mv (remW w d s t) d s u := by
  rw [mv_of hd hs (by omega), mv_of hd hs ht, mv_of hd hs hu]
  unfold remW
  by_cases h : 0 < w
  · rw [if_pos h, if_pos h, if_pos h, fnd_semi (by omega) hd hs ht hu]
    have r0 : 0 ≤ remF w d s t := by unfold remF; omega
    by_cases hr : 0 < remF w d s t
    · rw [if_pos hr]
    · have e : remF w d s t = 0 := by omega
      rw [if_neg hr, e]
      have := fnd_facts (far := 0) (d := d) (s := s) (t := u) (Int.le_refl 0) hd hs hu
      have e2 : -(0 : Int) = 0 := rfl
      rw [e2]
      omega
  · rw [if_neg h, if_neg h, if_neg h, fnd_semi (by omega) hd hs ht hu]
    have r0 : 0 ≤ remF (-w) d s t := by unfold remF; omega
    rw [if_neg (by omega), Int.neg_neg]
    omega
/-- from far the way that is left is right -/
theorem near_later {ps : List (Int × Int)} {v w d s t : Int} (le : ∀ p ∈ ps, p.1 ≤ p.2) (a : IsN ps v (v + w)) (hd : 0 ≤ d) (hs : 0 ≤ s) (ht : 0 ≤ t) : IsN (ps.map (wideP (d * t))) (v + mv w d s t) (v + mv w d s t + remW w d s t) := by
  have dt0 : 0 ≤ d * t := Int.mul_nonneg hd ht
  have a4 : t * (d + s) = d * t + s * t := by rw [Int.mul_add, Int.mul_comm t d, Int.mul_comm t s]
  have key : ∀ f, 0 ≤ f → 0 ≤ fnd f d s t ∧ fnd f d s t ≤ f ∧ remF f d s t = max 0 (f - d * t - fnd f d s t) := fun f hf => by
    obtain ⟨f1, f2, f3, f4⟩ := fnd_facts (far := f) (d := d) (s := s) (t := t) hf hd hs ht
    refine ⟨f1, f2, ?_⟩
    unfold remF
    rw [a4] at f4 ⊢
    omega
  rw [mv_of hd hs ht]
  unfold remW
  obtain ⟨p, hp, p1, p2⟩ := a.at_
  by_cases h : 0 < w
  · rw [if_pos h, if_pos h]
    obtain ⟨f1, f2, f3⟩ := key w (by omega)
    rw [f3]
    generalize fnd w d s t = x at *
    refine ⟨?_, fun r hr m m1 m2 => ?_⟩
    · -- the wider end, or where it stands
      refine ⟨wideP (d * t) p, List.mem_map_of_mem hp, ?_, ?_⟩ <;> simp only [wideP]
      · have := a.min p hp (max p.1 (v + x)) (by omega) (by omega)
        omega
      · omega
    · obtain ⟨r, hr2, rfl⟩ := List.mem_map.mp hr
      simp only [wideP] at m1 m2
      have hle := le r hr2
      have hm := a.min r hr2 (max r.1 (min m r.2)) (by omega) (by omega)
      have c1 := absI_cases (v + w - v); have c2 := absI_cases (max r.1 (min m r.2) - v)
      have c3 := absI_cases (v + x + max 0 (w - d * t - x) - (v + x)); have c4 := absI_cases (m - (v + x))
      omega
  · rw [if_neg h, if_neg h]
    obtain ⟨f1, f2, f3⟩ := key (-w) (by omega)
    rw [f3]
    generalize fnd (-w) d s t = x at *
    refine ⟨?_, fun r hr m m1 m2 => ?_⟩
    · refine ⟨wideP (d * t) p, List.mem_map_of_mem hp, ?_, ?_⟩ <;> simp only [wideP]
      · omega
      · have := a.min p hp (min p.2 (v - x)) (by omega) (by omega)
        omega
    · obtain ⟨r, hr2, rfl⟩ := List.mem_map.mp hr
      simp only [wideP] at m1 m2
      have hle := le r hr2
      have hm := a.min r hr2 (max r.1 (min m r.2)) (by omega) (by omega)
      have c1 := absI_cases (v + w - v); have c2 := absI_cases (max r.1 (min m r.2) - v)
      have c3 := absI_cases (v + -x + -max 0 (-w - d * t - x) - (v + -x)); have c4 := absI_cases (m - (v + -x))
      omega
/-- two clocks -/
theorem mv_order {ps : List (Int × Int)} {v v' w w' d s t : Int} (a : IsN ps v (v + w)) (b : IsN ps v' (v' + w')) (h : v ≤ v') (hd : 0 ≤ d) (hs : 0 ≤ s) (ht : 0 ≤ t) : v + mv w d s t ≤ v' + mv w' d s t := by
  have hn := a.mono b h
  rw [mv_of hd hs ht, mv_of hd hs ht]
  have key : ∀ f, 0 ≤ f → 0 ≤ fnd f d s t ∧ fnd f d s t ≤ f := fun f hf => ⟨(fnd_facts hf hd hs ht).1, (fnd_facts hf hd hs ht).2.1⟩
  obtain ⟨p, hp, p1, p2⟩ := a.at_
  obtain ⟨q, hq, q1, q2⟩ := b.at_
  have h1 := a.min q hq _ q1 q2
  have h2 := b.min p hp _ p1 p2
  have c1 := absI_cases (v + w - v); have c2 := absI_cases (v' + w' - v); have c3 := absI_cases (v + w - v'); have c4 := absI_cases (v' + w' - v')
  by_cases x1 : 0 < w
  · by_cases x2 : 0 < w'
    · rw [if_pos x1, if_pos x2]
      have k1 := key w (by omega)
      have k2 := key w' (by omega)
      by_cases e : v + w = v' + w'
      · have := fnd_mono (f := w') (f' := w) (d := d) (s := s) (t := t) (by omega) (by omega) hd hs ht
        omega
      · omega
    · rw [if_pos x1, if_neg x2]
      have k1 := key w (by omega)
      have k2 := key (-w') (by omega)
      omega
  · by_cases x2 : 0 < w'
    · rw [if_neg x1, if_pos x2]
      have k1 := key (-w) (by omega)
      have k2 := key w' (by omega)
      omega
    · rw [if_neg x1, if_neg x2]
      have k1 := key (-w) (by omega)
      have k2 := key (-w') (by omega)
      by_cases e : v + w = v' + w'
      · have := fnd_mono (f := -w) (f' := -w') (d := d) (s := s) (t := t) (by omega) (by omega) hd hs ht
        omega
      · omega
theorem mv_mono {w w' d s t : Int} (h : w' ≤ w) (hd : 0 ≤ d) (hs : 0 ≤ s) (ht : 0 ≤ t) : mv w' d s t ≤ mv w d s t := by
  rw [mv_of hd hs ht, mv_of hd hs ht]
  have key : ∀ f, 0 ≤ f → 0 ≤ fnd f d s t ∧ fnd f d s t ≤ f := fun f hf => ⟨(fnd_facts hf hd hs ht).1, (fnd_facts hf hd hs ht).2.1⟩
  by_cases x1 : 0 < w
  · by_cases x2 : 0 < w'
    · rw [if_pos x1, if_pos x2]
      exact (fnd_mono (by omega) h hd hs ht).1
    · rw [if_pos x1, if_neg x2]
      have k1 := key w (by omega)
      have k2 := key (-w') (by omega)
      omega
  · rw [if_neg x1, if_neg (by omega)]
    have := (fnd_mono (f := -w) (f' := -w') (d := d) (s := s) (t := t) (by omega) (by omega) hd hs ht).1
    omega
end Law

set_option Elab.async false
set_option linter.all false
set_option maxRecDepth 100000
set_option maxHeartbeats 2000000
/-! ShP: the same of spans without ends -/
namespace Law
open PySem DL
def cloB (B : Int) (x : Sp) : Int × Int := (x.1.getD (-B), x.2.getD B)
theorem gaps_clo {B v : Int} (h1 : -B ≤ v) (h2 : v ≤ B) : ∀ (sp : List Sp) (b a : OI), gapsL sp v b a = gapsL ((sp.map (cloB B)).map mk) v b a
  | [], _, _ => rfl
  | (lo, hi) :: r, b, a => by
    have ih := gaps_clo h1 h2 r
    show gapsL ((lo, hi) :: r) v b a = gapsL (mk (cloB B (lo, hi)) :: (r.map (cloB B)).map mk) v b a
    have e1 : inside (some (lo.getD (-B))) (some (hi.getD B)) v = inside lo hi v := by
      cases lo <;> cases hi <;> simp [inside, h1, h2]
    have e2 : low' (some (lo.getD (-B))) v b = low' lo v b := by
      cases lo with
      | none => show (if v < -B then _ else b) = b; rw [if_neg (by omega)]
      | some l => rfl
    have e3 : high' (some (hi.getD B)) v a = high' hi v a := by
      cases hi with
      | none => show (if B < v then _ else a) = a; rw [if_neg (by omega)]
      | some l => rfl
    show (if inside lo hi v = true then none else gapsL r v (low' lo v b) (high' hi v a)) = (if inside (some (lo.getD (-B))) (some (hi.getD B)) v = true then none else gapsL ((r.map (cloB B)).map mk) v (low' (some (lo.getD (-B))) v b) (high' (some (hi.getD B)) v a))
    rw [e1, e2, e3, ih]
theorem way_clo {B v : Int} (h1 : -B ≤ v) (h2 : v ≤ B) (sp : List Sp) : wayR sp v = wayR ((sp.map (cloB B)).map mk) v := by
  unfold wayR gapsR
  rw [gaps_clo h1 h2]
def LeS (sp : List Sp) : Prop := ∀ x ∈ sp, ∀ l h, x.1 = some l → x.2 = some h → l ≤ h
def InB (B : Int) (sp : List Sp) : Prop := ∀ x ∈ sp, (∀ l, x.1 = some l → l ≤ B) ∧ (∀ h, x.2 = some h → -B ≤ h)
theorem bnd_ex : ∀ sp : List Sp, ∃ B0 : Int, 0 ≤ B0 ∧ ∀ B, B0 ≤ B → InB B sp
  | [] => ⟨0, Int.le_refl 0, fun _ _ x h => by cases h⟩
  | (lo, hi) :: r => by
    obtain ⟨B0, h0, h⟩ := bnd_ex r
    obtain ⟨x, hx0, hx⟩ : ∃ x : Int, 0 ≤ x ∧ ∀ l, lo = some l → l ≤ x := by
      cases lo with
      | none => exact ⟨0, Int.le_refl 0, fun l e => by cases e⟩
      | some l => exact ⟨max 0 l, by omega, fun l' e => by cases e; omega⟩
    obtain ⟨y, hy0, hy⟩ : ∃ x : Int, 0 ≤ x ∧ ∀ l, hi = some l → -x ≤ l := by
      cases hi with
      | none => exact ⟨0, Int.le_refl 0, fun l e => by cases e⟩
      | some l => exact ⟨max 0 (-l), by omega, fun l' e => by cases e; omega⟩
    refine ⟨B0 + x + y, by omega, fun B hB z hz => ?_⟩
    rcases List.mem_cons.mp hz with rfl | hz
    · exact ⟨fun l e => by have := hx l e; omega, fun l e => by have := hy l e; omega⟩
    · exact h B (by omega) z hz
theorem clo_le {B : Int} {sp : List Sp} (h : LeS sp) (hb : InB B sp) (h0 : 0 ≤ B) : ∀ p ∈ sp.map (cloB B), p.1 ≤ p.2 := fun p hp => by
  obtain ⟨x, hx, rfl⟩ := List.mem_map.mp hp
  obtain ⟨lo, hi⟩ := x
  have b := hb _ hx
  have c := h _ hx
  cases lo with
  | none =>
    cases hi with
    | none => show -B ≤ B; omega
    | some u => exact b.2 u rfl
  | some l =>
    cases hi with
    | none => exact b.1 l rfl
    | some u => exact c l u rfl rfl
theorem wide_clo (B d t : Int) (sp : List Sp) : (wideR d t sp).map (cloB (B + d * t)) = (sp.map (cloB B)).map (wideP (d * t)) := by
  unfold wideR
  rw [List.map_map, List.map_map]
  refine List.map_congr_left fun x _ => ?_
  obtain ⟨lo, hi⟩ := x
  show ((wideO (-(d * t)) lo).getD (-(B + d * t)), (wideO (d * t) hi).getD (B + d * t)) = (lo.getD (-B) - d * t, hi.getD B + d * t)
  cases lo <;> cases hi <;> simp [wideO] <;> omega
theorem wide_le {d t : Int} {sp : List Sp} (h : LeS sp) (k : 0 ≤ d * t) : LeS (wideR d t sp) := fun x hx l u e1 e2 => by
  unfold wideR at hx
  obtain ⟨⟨lo, hi⟩, hy, rfl⟩ := List.mem_map.mp hx
  cases lo with
  | none => cases e1
  | some a =>
    cases hi with
    | none => cases e2
    | some b =>
      have := h _ hy a b rfl rfl
      cases e1; cases e2
      omega
theorem wide_wide (d t u : Int) (sp : List Sp) : wideR d u (wideR d t sp) = wideR d (t + u) sp := by
  unfold wideR
  rw [List.map_map]
  refine List.map_congr_left fun x _ => ?_
  obtain ⟨lo, hi⟩ := x
  have e := Int.mul_add d t u
  cases lo <;> cases hi <;> simp [wideO] <;> omega
theorem way_nil (v : Int) : wayR [] v = none := rfl
/-- .. and the nearest point -/
theorem clo_near {B v w : Int} {sp : List Sp} (h : LeS sp) (hb : InB B sp) (h0 : 0 ≤ B) (h1 : -B ≤ v) (h2 : v ≤ B) (e : wayR sp v = some w) : IsN (sp.map (cloB B)) v (v + w) := by
  have ne : sp.map (cloB B) ≠ [] := fun z => by
    cases sp with
    | nil => cases e
    | cons _ _ => cases z
  obtain ⟨w', e', n⟩ := way_near (v := v) ne (clo_le h hb h0)
  rw [way_clo h1 h2, e'] at e
  cases e
  exact n
theorem way_some {v : Int} {sp : List Sp} (h : LeS sp) (ne : sp ≠ []) : ∃ w, wayR sp v = some w := by
  obtain ⟨B0, b0, hb⟩ := bnd_ex sp
  have hB := hb (B0 + absI v) (by have := absI_cases v; omega)
  obtain ⟨w', e', n⟩ := way_near (ps := sp.map (cloB (B0 + absI v))) (v := v) (by simpa using ne) (clo_le h hB (by have := absI_cases v; omega))
  exact ⟨w', by rw [way_clo (B := B0 + absI v) (by have := absI_cases v; omega) (by have := absI_cases v; omega)]; exact e'⟩
theorem way_wide {v w d s t : Int} {sp : List Sp} (h : LeS sp) (e : wayR sp v = some w) (hd : 0 ≤ d) (hs : 0 ≤ s) (ht : 0 ≤ t) : wayR (wideR d t sp) (v + mv w d s t) = some (remW w d s t) := by
  obtain ⟨B0, b0, hb⟩ := bnd_ex sp
  have c1 := absI_cases v
  have c2 := absI_cases (v + mv w d s t)
  have dt0 : 0 ≤ d * t := Int.mul_nonneg hd ht
  generalize hBe : B0 + absI v + absI (v + mv w d s t) = B
  have hB := hb B (by omega)
  have n := clo_near h hB (by omega) (by omega) (by omega) e
  have n2 := near_later (clo_le h hB (by omega)) n hd hs ht
  have ne : (sp.map (cloB B)).map (wideP (d * t)) ≠ [] := fun z => by
    cases sp with
    | nil => cases e
    | cons _ _ => cases z
  have le2 : ∀ p ∈ (sp.map (cloB B)).map (wideP (d * t)), p.1 ≤ p.2 := fun p hp => by
    obtain ⟨r, hr, rfl⟩ := List.mem_map.mp hp
    have := clo_le h hB (by omega) r hr
    show r.1 - d * t ≤ r.2 + d * t
    omega
  have e2 := way_of_near ne le2 n2
  rw [way_clo (B := B + d * t) (by omega) (by omega), wide_clo, e2]
  congr 1
  omega
theorem more_some {v w d s t : Int} {sp : List Sp} (e : wayR sp v = some w) : moreR d s v t sp = mv w d s t := by unfold moreR mv; rw [e]
theorem more_none {v d s t : Int} {sp : List Sp} (e : wayR sp v = none) : moreR d s v t sp = 0 := by unfold moreR; rw [e]
theorem way_none_nil {v : Int} {sp : List Sp} (h : LeS sp) (e : wayR sp v = none) : sp = [] := by
  cases sp with
  | nil => rfl
  | cons x r =>
    obtain ⟨w, e2⟩ := way_some (v := v) h (by simp : x :: r ≠ [])
    rw [e] at e2; cases e2
/-- from one time to a later one -/
theorem more_semi {v d s t u : Int} {sp : List Sp} (h : LeS sp) (hd : 0 ≤ d) (hs : 0 ≤ s) (ht : 0 ≤ t) (hu : 0 ≤ u) : moreR d s v (t + u) sp = moreR d s v t sp + moreR d s (v + moreR d s v t sp) u (wideR d t sp) := by
  cases e : wayR sp v with
  | none =>
    have := way_none_nil h e
    subst this
    rfl
  | some w =>
    rw [more_some e, more_some e, more_some (way_wide h e hd hs ht), mv_semi hd hs ht hu]
/-- how far it is then -/
theorem dist_later {v d s t : Int} {sp : List Sp} (h : LeS sp) (hd : 0 ≤ d) (hs : 0 ≤ s) (ht : 0 ≤ t) : distR d s v t sp = (wayR sp v).map fun w => absI (remW w d s t) := by
  unfold distR
  rw [show v + 1000 * t + moreR d s v t sp - 1000 * t = v + moreR d s v t sp by omega]
  cases e : wayR sp v with
  | none =>
    have := way_none_nil h e
    subst this
    rfl
  | some w =>
    rw [more_some e, way_wide h e hd hs ht]
    rfl
theorem more_order {v v' d s t : Int} {sp : List Sp} (h : LeS sp) (hv : v ≤ v') (hd : 0 ≤ d) (hs : 0 ≤ s) (ht : 0 ≤ t) : v + moreR d s v t sp ≤ v' + moreR d s v' t sp := by
  cases e : wayR sp v with
  | none =>
    have := way_none_nil h e
    subst this
    show v + 0 ≤ v' + 0
    omega
  | some w =>
    cases e' : wayR sp v' with
    | none =>
      have := way_none_nil h e'
      subst this
      cases e
    | some w' =>
      rw [more_some e, more_some e']
      obtain ⟨B0, b0, hb⟩ := bnd_ex sp
      have c1 := absI_cases v
      have c2 := absI_cases v'
      generalize hBe : B0 + absI v + absI v' = B
      have hB := hb B (by omega)
      exact mv_order (clo_near h hB (by omega) (by omega) (by omega) e) (clo_near h hB (by omega) (by omega) (by omega) e') hv hd hs ht
/-- one span alone: they come no farther from one another -/
theorem more_narrow {v v' d s t : Int} {sp : List Sp} (h : LeS sp) (hl : sp.length < 2) (hv : v ≤ v') (hd : 0 ≤ d) (hs : 0 ≤ s) (ht : 0 ≤ t) : moreR d s v' t sp ≤ moreR d s v t sp := by
  match sp, hl with
  | [], _ => exact Int.le_refl _
  | [x], _ =>
    obtain ⟨w, e⟩ := way_some (v := v) h (by simp : [x] ≠ [])
    obtain ⟨w', e'⟩ := way_some (v := v') h (by simp : [x] ≠ [])
    rw [more_some e, more_some e']
    refine mv_mono ?_ hd hs ht
    obtain ⟨B0, b0, hb⟩ := bnd_ex [x]
    have c1 := absI_cases v
    have c2 := absI_cases v'
    generalize hBe : B0 + absI v + absI v' = B
    have hB := hb B (by omega)
    have le := clo_le h hB (by omega) (cloB B x) List.mem_cons_self
    have n := clo_near h hB (by omega) (by omega) (by omega) e
    have n' := clo_near h hB (by omega) (by omega) (by omega) e'
    have k : ∀ {u z : Int}, IsN ([x].map (cloB B)) u z → z = max (cloB B x).1 (min u (cloB B x).2) := fun {u z} n => by
      obtain ⟨p, hp, p1, p2⟩ := n.at_
      have hp : p = cloB B x := by simpa using hp
      subst hp
      have := n.min _ List.mem_cons_self (max (cloB B x).1 (min u (cloB B x).2)) (by omega) (by omega)
      have c1 := absI_cases (z - u); have c2 := absI_cases (max (cloB B x).1 (min u (cloB B x).2) - u)
      omega
    have k1 := k n
    have k2 := k n'
    omega
def shiftS (c : Int) (sp : List Sp) : List Sp := sp.map fun x => (x.1.map (· + c), x.2.map (· + c))
theorem gaps_shift (c v : Int) : ∀ (sp : List Sp) (b a : OI), gapsL (shiftS c sp) (v + c) b a = gapsL sp v b a
  | [], _, _ => rfl
  | (lo, hi) :: r, b, a => by
    have ih := gaps_shift c v r
    have e1 : inside (lo.map (· + c)) (hi.map (· + c)) (v + c) = inside lo hi v := by
      cases lo <;> cases hi <;> simp [inside]
    have e2 : low' (lo.map (· + c)) (v + c) b = low' lo v b := by
      cases lo with
      | none => rfl
      | some l =>
        show (if v + c < l + c then (match b with | none => some (l + c - (v + c)) | some x => if l + c - (v + c) < x then some (l + c - (v + c)) else b) else b) = (if v < l then (match b with | none => some (l - v) | some x => if l - v < x then some (l - v) else b) else b)
        rw [show l + c - (v + c) = l - v by omega]
        by_cases hh : v < l
        · rw [if_pos hh, if_pos (by omega)]
        · rw [if_neg hh, if_neg (by omega)]
    have e3 : high' (hi.map (· + c)) (v + c) a = high' hi v a := by
      cases hi with
      | none => rfl
      | some l =>
        show (if l + c < v + c then (match a with | none => some (v + c - (l + c)) | some x => if v + c - (l + c) < x then some (v + c - (l + c)) else a) else a) = (if l < v then (match a with | none => some (v - l) | some x => if v - l < x then some (v - l) else a) else a)
        rw [show v + c - (l + c) = v - l by omega]
        by_cases hh : l < v
        · rw [if_pos hh, if_pos (by omega)]
        · rw [if_neg hh, if_neg (by omega)]
    show (if inside (lo.map (· + c)) (hi.map (· + c)) (v + c) = true then none else gapsL (shiftS c r) (v + c) (low' (lo.map (· + c)) (v + c) b) (high' (hi.map (· + c)) (v + c) a)) = (if inside lo hi v = true then none else gapsL r v (low' lo v b) (high' hi v a))
    rw [e1, e2, e3, ih]
theorem way_shift (c v : Int) (sp : List Sp) : wayR (shiftS c sp) (v + c) = wayR sp v := by
  unfold wayR gapsR
  rw [gaps_shift]
theorem more_shift (c v d s t : Int) (sp : List Sp) : moreR d s (v + c) t (shiftS c sp) = moreR d s v t sp := by
  unfold moreR
  rw [way_shift]
theorem shift_le {c : Int} {sp : List Sp} (h : LeS sp) : LeS (shiftS c sp) := fun x hx l u e1 e2 => by
  obtain ⟨⟨lo, hi⟩, hy, rfl⟩ := List.mem_map.mp hx
  cases lo with
  | none => cases e1
  | some a =>
    cases hi with
    | none => cases e2
    | some b =>
      have := h _ hy a b rfl rfl
      cases e1; cases e2
      show a + c ≤ b + c
      omega
theorem dist_shift {c v d s t : Int} {sp : List Sp} (h : LeS sp) (hd : 0 ≤ d) (hs : 0 ≤ s) (ht : 0 ≤ t) : distR d s (v + c) t (shiftS c sp) = distR d s v t sp := by
  rw [dist_later h hd hs ht, dist_later (shift_le h) hd hs ht, way_shift]
theorem good_le {sp : List Sp} (g : GoodSp sp) : LeS sp := fun x hx l u e1 e2 => by
  obtain ⟨i, hi⟩ := List.getElem?_of_mem hx
  obtain ⟨lo, hi'⟩ := x
  cases e1; cases e2
  exact g.le i _ _ hi
end Law

set_option Elab.async false
set_option linter.all false
set_option maxRecDepth 100000
set_option maxHeartbeats 2000000
/-! ShR: spans that are drawn, some without an end -/
namespace Law
open PySem DL
theorem get_set {α : Type} {sp : List α} {j i : Nat} {y z : α} (h : (sp.set j y)[i]? = some z) : (i = j ∧ z = y) ∨ (i ≠ j ∧ sp[i]? = some z) := by
  by_cases e : j = i
  · subst e
    by_cases hl : j < sp.length
    · rw [List.getElem?_set_self hl] at h
      cases h
      exact .inl ⟨rfl, rfl⟩
    · rw [List.getElem?_eq_none (by simpa using hl)] at h; cases h
  · rw [List.getElem?_set_ne e] at h
    exact .inr ⟨fun q => e q.symm, h⟩
theorem good_lo {sp : List Sp} (g : GoodSp sp) {x : Sp} (hx : sp[0]? = some x) : GoodSp (sp.set 0 (none, x.2)) := by
  refine ⟨fun i y e n => ?_, fun i y e n => ?_, fun i l u e => ?_, fun i y z e1 e2 => ?_, by rw [List.length_set]; exact g.len⟩
  · rcases get_set e with ⟨h, _⟩ | ⟨_, h⟩
    · exact h
    · exact g.lo i y h n
  · rw [List.length_set]
    rcases get_set e with ⟨rfl, rfl⟩ | ⟨_, h⟩
    · exact g.hi 0 x hx n
    · exact g.hi i y h n
  · rcases get_set e with ⟨_, h⟩ | ⟨_, h⟩
    · cases h
    · exact g.le i l u h
  · rcases get_set e2 with ⟨h, _⟩ | ⟨_, h2⟩
    · omega
    · rcases get_set e1 with ⟨rfl, rfl⟩ | ⟨_, h1⟩
      · exact g.gap 0 x z hx h2
      · exact g.gap i y z h1 h2
theorem good_hi {sp : List Sp} (g : GoodSp sp) {x : Sp} (hx : sp[sp.length - 1]? = some x) : GoodSp (sp.set (sp.length - 1) (x.1, none)) := by
  have hl := (List.getElem?_eq_some_iff.mp hx).1
  refine ⟨fun i y e n => ?_, fun i y e n => ?_, fun i l u e => ?_, fun i y z e1 e2 => ?_, by rw [List.length_set]; exact g.len⟩
  · rcases get_set e with ⟨rfl, rfl⟩ | ⟨_, h⟩
    · exact g.lo _ x hx n
    · exact g.lo i y h n
  · rw [List.length_set]
    rcases get_set e with ⟨rfl, _⟩ | ⟨_, h⟩
    · omega
    · exact g.hi i y h n
  · rcases get_set e with ⟨_, h⟩ | ⟨_, h⟩
    · have := congrArg Prod.snd h
      cases this
    · exact g.le i l u h
  · have hb := (List.getElem?_eq_some_iff.mp e2).1
    rw [List.length_set] at hb
    rcases get_set e1 with ⟨h, _⟩ | ⟨_, h1⟩
    · omega
    · rcases get_set e2 with ⟨h3, rfl⟩ | ⟨_, h2⟩
      · exact g.gap i y x h1 (by rw [h3]; exact hx)
      · exact g.gap i y z h1 h2
/-- spans near a point -/
structure NearS (dot : Int) (sp : List Sp) : Prop where
  good : GoodSp sp
  near : ∀ x ∈ sp, (∀ l, x.1 = some l → dot - 1000000 ≤ l ∧ l ≤ dot + 1000000) ∧ (∀ h, x.2 = some h → dot - 1000000 ≤ h ∧ h ≤ dot + 1000000)
  len : sp.length ≤ 3
theorem NearS.lo {dot : Int} {sp : List Sp} (n : NearS dot sp) {x : Sp} (hx : sp[0]? = some x) : NearS dot (sp.set 0 (none, x.2)) := ⟨good_lo n.good hx, fun y hy => by
  obtain ⟨i, hi⟩ := List.getElem?_of_mem hy
  rcases get_set hi with ⟨_, rfl⟩ | ⟨_, h⟩
  · exact ⟨fun l e => (by cases e), (n.near x (List.mem_of_getElem? hx)).2⟩
  · exact n.near y (List.mem_of_getElem? h), by rw [List.length_set]; exact n.len⟩
theorem NearS.hi {dot : Int} {sp : List Sp} (n : NearS dot sp) {x : Sp} (hx : sp[sp.length - 1]? = some x) : NearS dot (sp.set (sp.length - 1) (x.1, none)) := ⟨good_hi n.good hx, fun y hy => by
  obtain ⟨i, hi⟩ := List.getElem?_of_mem hy
  rcases get_set hi with ⟨_, rfl⟩ | ⟨_, h⟩
  · exact ⟨(n.near x (List.mem_of_getElem? hx)).1, fun l e => (by cases e)⟩
  · exact n.near y (List.mem_of_getElem? h), by rw [List.length_set]; exact n.len⟩
theorem shp_oD (o : OI) : Shp 0 (oD o) := by
  cases o with
  | none => exact .non 0
  | some i => exact .int 0 i
theorem shp_sp (x : Sp) : Shp 1 (spD x) := Shp.tup fun d hd => by
  simp only [List.mem_cons, List.not_mem_nil, or_false] at hd
  rcases hd with rfl | rfl
  · exact shp_oD _
  · exact shp_oD _
theorem shp_sps (sp : List Sp) : ∀ d ∈ sp.map spD, Shp 1 d := fun d hd => by
  obtain ⟨x, _, rfl⟩ := List.mem_map.mp hd
  exact shp_sp x
/-- the way to spans that are near is not long -/
theorem way_small {dot v w : Int} {sp : List Sp} (n : NearS dot sp) (e : wayR sp v = some w) : absI w ≤ absI (v - dot) + 1000000 := by
  have le := good_le n.good
  obtain ⟨B0, b0, hb⟩ := bnd_ex sp
  have c1 := absI_cases v
  have c3 := absI_cases dot
  generalize hBe : B0 + absI v + absI dot + 2000000 = B
  have hB := hb B (by omega)
  have nn := clo_near le hB (by omega) (by omega) (by omega) e
  obtain ⟨p, hp, p1, p2⟩ := nn.at_
  have hm := nn.min p hp (max p.1 (min dot p.2)) (by have := clo_le le hB (by omega) p hp; omega) (by have := clo_le le hB (by omega) p hp; omega)
  obtain ⟨x, hx, rfl⟩ := List.mem_map.mp hp
  have near := n.near x hx
  have k1 : (cloB B x).1 ≤ dot + 1000000 := by
    obtain ⟨lo, hi⟩ := x
    cases lo with
    | none => show -B ≤ _; omega
    | some l => exact (near.1 l rfl).2
  have k2 : dot - 1000000 ≤ (cloB B x).2 := by
    obtain ⟨lo, hi⟩ := x
    cases hi with
    | none => show _ ≤ B; omega
    | some l => exact (near.2 l rfl).1
  have d1 := absI_cases (v + w - v)
  have d2 := absI_cases (max (cloB B x).1 (min dot (cloB B x).2) - v)
  have d3 := absI_cases (v - dot)
  have d4 : absI w = absI (v + w - v) := by rw [show v + w - v = w by omega]
  omega
theorem drop_set {α : Type} {sp : List α} {x y : α} (h : sp[0]? = some x) : y :: sp.drop 1 = sp.set 0 y := by
  cases sp with
  | nil => cases h
  | cons z r => rfl
theorem take_set {α : Type} : ∀ {sp : List α} {x y : α}, sp[sp.length - 1]? = some x → sp.take (sp.length - 1) ++ [y] = sp.set (sp.length - 1) y
  | [], _, _, h => by cases h
  | [_], _, _, _ => rfl
  | a :: b :: r, x, y, h => by
    have ih := take_set (sp := b :: r) (x := x) (y := y) (by simpa using h)
    have e : (a :: b :: r).length - 1 = ((b :: r).length - 1) + 1 := by simp
    rw [e, List.take_succ_cons, List.cons_append, ih, List.set_cons_succ]
theorem last_split {α : Type} : ∀ {xs : List α} {v : α}, xs[xs.length - 1]? = some v → ∃ ys, xs = ys ++ [v]
  | [], _, h => by cases h
  | [a], _, h => by cases h; exact ⟨[], rfl⟩
  | a :: b :: r, v, h => by
    obtain ⟨ys, e⟩ := last_split (xs := b :: r) (v := v) (by simpa using h)
    exact ⟨a :: ys, by rw [e]; rfl⟩
theorem at_end {xs : List D} {v : D} (h : xs[xs.length - 1]? = some v) : L2.atI xs (-1) = some v := by
  obtain ⟨ys, rfl⟩ := last_split h
  exact L2.atI_last ys v
theorem cut_last (xs : List D) : cutD xs none (some (-1)) = xs.take (xs.length - 1) := by
  unfold cutD
  rw [HT.sIx_none, List.drop_zero, Nat.sub_zero]
  congr 1
  show (if (-1 : Int) < 0 then ((-1 : Int) + (xs.length : Int)).toNat else min (-1 : Int).toNat xs.length) = _
  rw [if_pos (by decide)]
  omega
end Law

set_option Elab.async false
set_option linter.all false
set_option maxRecDepth 100000
set_option maxHeartbeats 2000000
/-! A43: the nearest point as the law finds it; one tick -/
namespace Law
open PySem DL
def hiC (hi : OI) (v : Int) : Int := match hi with
  | some h => if h < v then h else v
  | none => v
def clampO (x : Sp) (v : Int) : Int := match x.1 with
  | some l => if v < l then l else hiC x.2 v
  | none => hiC x.2 v
def bestO (n : Int) (b : OI) (v : Int) : OI := match b with
  | none => some n
  | some m => if HT.lexLt [absI (n - v), -n] [absI (m - v), -m] = true then some n else some m
def nearL : List Sp → Int → OI → OI
  | [], _, b => b
  | x :: r, v, b => nearL r v (bestO (clampO x v) b v)
def nearR (sp : List Sp) (v : Int) : OI := nearL sp v none
/-- n is nearer to v than m, or as near and not ahead of it -/
def Better (v n m : Int) : Prop := absI (n - v) < absI (m - v) ∨ (absI (n - v) = absI (m - v) ∧ m ≤ n)
theorem Better.trans {v a b c : Int} (h : Better v a b) (k : Better v b c) : Better v a c := by unfold Better at *; omega
theorem Better.refl (v a : Int) : Better v a a := .inr ⟨rfl, Int.le_refl a⟩
theorem lex2 (a b c d : Int) : HT.lexLt [a, b] [c, d] = true ↔ a < c ∨ (a = c ∧ b < d) := by
  show (if a = c then (if b = d then false else decide (b < d)) else decide (a < c)) = true ↔ _
  by_cases h : a = c
  · rw [if_pos h]
    by_cases k : b = d
    · rw [if_pos k]; constructor
      · intro z; cases z
      · intro z; omega
    · rw [if_neg k, decide_eq_true_eq]; omega
  · rw [if_neg h, decide_eq_true_eq]; omega
theorem near_some (v : Int) : ∀ (sp : List Sp) (m : Int), ∃ n, nearL sp v (some m) = some n ∧ (n = m ∨ ∃ x ∈ sp, n = clampO x v) ∧ Better v n m ∧ ∀ x ∈ sp, Better v n (clampO x v)
  | [], m => ⟨m, rfl, .inl rfl, .refl v m, fun _ h => by cases h⟩
  | x :: r, m => by
    have step : ∃ m', bestO (clampO x v) (some m) v = some m' ∧ (m' = m ∨ m' = clampO x v) ∧ Better v m' m ∧ Better v m' (clampO x v) := by
      show ∃ m', (if HT.lexLt [absI (clampO x v - v), -(clampO x v)] [absI (m - v), -m] = true then some (clampO x v) else some m) = some m' ∧ _
      by_cases h : HT.lexLt [absI (clampO x v - v), -(clampO x v)] [absI (m - v), -m] = true
      · rw [if_pos h]
        have := (lex2 _ _ _ _).mp h
        refine ⟨_, rfl, .inr rfl, ?_, .refl v _⟩
        unfold Better; omega
      · rw [if_neg h]
        have : ¬ _ := fun z => h ((lex2 _ _ _ _).mpr z)
        refine ⟨_, rfl, .inl rfl, .refl v _, ?_⟩
        unfold Better; omega
    obtain ⟨m', e, o, b1, b2⟩ := step
    obtain ⟨n, e2, o2, c1, c2⟩ := near_some v r m'
    refine ⟨n, by show nearL r v (bestO (clampO x v) (some m) v) = _; rw [e]; exact e2, ?_, c1.trans b1, fun y hy => ?_⟩
    · rcases o2 with rfl | ⟨y, hy, rfl⟩
      · rcases o with rfl | rfl
        · exact .inl rfl
        · exact .inr ⟨x, List.mem_cons_self, rfl⟩
      · exact .inr ⟨y, List.mem_cons_of_mem _ hy, rfl⟩
    · rcases List.mem_cons.mp hy with rfl | hy
      · exact c1.trans b2
      · exact c2 y hy
theorem near_is {v : Int} {sp : List Sp} (ne : sp ≠ []) : ∃ n, nearR sp v = some n ∧ (∃ x ∈ sp, n = clampO x v) ∧ ∀ x ∈ sp, Better v n (clampO x v) := by
  cases sp with
  | nil => exact absurd rfl ne
  | cons x r =>
    obtain ⟨n, e, o, c1, c2⟩ := near_some v r (clampO x v)
    refine ⟨n, e, ?_, fun y hy => ?_⟩
    · rcases o with rfl | ⟨y, hy, rfl⟩
      · exact ⟨x, List.mem_cons_self, rfl⟩
      · exact ⟨y, List.mem_cons_of_mem _ hy, rfl⟩
    · rcases List.mem_cons.mp hy with rfl | hy
      · exact c1
      · exact c2 y hy
theorem clamp_in {B v : Int} {x : Sp} (h1 : -B ≤ v) (h2 : v ≤ B) (le : (cloB B x).1 ≤ (cloB B x).2) : (cloB B x).1 ≤ clampO x v ∧ clampO x v ≤ (cloB B x).2 ∧ ∀ m, (cloB B x).1 ≤ m → m ≤ (cloB B x).2 → Better v (clampO x v) m := by
  obtain ⟨lo, hi⟩ := x
  have e : clampO (lo, hi) v = max (cloB B (lo, hi)).1 (min v (cloB B (lo, hi)).2) := by
    cases lo with
    | none =>
      cases hi with
      | none => show v = max (-B) (min v B); omega
      | some u =>
        have le : -B ≤ u := le
        show (if u < v then u else v) = max (-B) (min v u)
        split <;> omega
    | some l =>
      cases hi with
      | none =>
        have le : l ≤ B := le
        show (if v < l then l else v) = max l (min v B)
        split <;> omega
      | some u =>
        have le : l ≤ u := le
        show (if v < l then l else if u < v then u else v) = max l (min v u)
        split
        · omega
        · split <;> omega
  rw [e]
  generalize (cloB B (lo, hi)).1 = a at le ⊢
  generalize (cloB B (lo, hi)).2 = b at le ⊢
  refine ⟨by omega, by omega, fun m m1 m2 => ?_⟩
  unfold Better
  have c1 := absI_cases (max a (min v b) - v); have c2 := absI_cases (m - v)
  omega
theorem near_way {v : Int} {sp : List Sp} (h : LeS sp) : nearR sp v = (wayR sp v).map (· + v) := by
  by_cases ne : sp = []
  · subst ne; rfl
  · obtain ⟨n, e, ⟨x, hx, hn⟩, best⟩ := near_is (v := v) ne
    obtain ⟨B0, b0, hb⟩ := bnd_ex sp
    have c1 := absI_cases v
    have hB := hb (B0 + absI v) (by omega)
    have le := clo_le h hB (by omega)
    have isn : IsN (sp.map (cloB (B0 + absI v))) v n := by
      refine ⟨⟨cloB (B0 + absI v) x, List.mem_map_of_mem hx, ?_⟩, fun p hp m m1 m2 => ?_⟩
      · have := clamp_in (v := v) (by omega) (by omega) (le _ (List.mem_map_of_mem hx))
        rw [hn]; exact ⟨this.1, this.2.1⟩
      · obtain ⟨y, hy, rfl⟩ := List.mem_map.mp hp
        exact (best y hy).trans ((clamp_in (v := v) (by omega) (by omega) (le _ (List.mem_map_of_mem hy))).2.2 m m1 m2)
    rw [e, way_clo (B := B0 + absI v) (by omega) (by omega), way_of_near (by simpa using ne) le isn]
    show some n = some (n - v + v)
    congr 1
    omega
/-! ### one tick -/
theorem fnd_one {far d s : Int} (hf : 0 ≤ far) (hd : 0 ≤ d) (hs : 0 ≤ s) : fnd far d s 1 = max 0 (min s (far - d)) := by
  obtain ⟨⟨k, k0, k1, e⟩, mx⟩ := fnd_max (far := far) (d := d) (s := s) (t := 1) hf hd hs (by decide)
  have m0 := mx 0 (by decide) (by decide)
  have m1 := mx 1 (by decide) (by decide)
  rw [Int.mul_zero, Int.mul_zero] at m0
  rw [Int.mul_one, Int.mul_one] at m1
  have hk : k = 0 ∨ k = 1 := by omega
  rcases hk with rfl | rfl
  · rw [Int.mul_zero, Int.mul_zero] at e; omega
  · rw [Int.mul_one, Int.mul_one] at e; omega
theorem tick_one {u w d s : Int} (hd : 0 ≤ d) (hs : 0 ≤ s) : max (u - s) (min (u + s) (u + remW w d 0 1)) = u + mv w d s 1 := by
  rw [mv_of hd hs (by decide)]
  unfold remW remF
  rw [Int.one_mul, Int.add_zero]
  by_cases h : 0 < w
  · rw [if_pos h, if_pos h, fnd_one (by omega) hd hs]; omega
  · rw [if_neg h, if_neg h, fnd_one (by omega) hd hs]; omega
theorem mv_still {w d t : Int} (hd : 0 ≤ d) (ht : 0 ≤ t) : mv w d 0 t = 0 := by
  have h := (mv_facts (w := w) (d := d) (s := 0) (t := t) hd (Int.le_refl 0) ht).1
  rw [Int.zero_mul] at h
  have := absI_cases (mv w d 0 t)
  omega
/-- the law's wide spans -/
def wideL (d k : Int) (sp : List Sp) : List Sp := sp.map fun x => (wideO (k * (1000 - d)) x.1, wideO (k * (1000 + d)) x.2)
theorem wideL_eq (d k : Int) (sp : List Sp) : wideL d k sp = shiftS (1000 * k) (wideR d k sp) := by
  unfold wideL shiftS wideR
  rw [List.map_map]
  refine List.map_congr_left fun x _ => ?_
  obtain ⟨lo, hi⟩ := x
  have e1 : k * (1000 - d) = 1000 * k - d * k := by rw [Int.mul_sub, Int.mul_comm k 1000, Int.mul_comm k d]
  have e2 : k * (1000 + d) = 1000 * k + d * k := by rw [Int.mul_add, Int.mul_comm k 1000, Int.mul_comm k d]
  show (wideO (k * (1000 - d)) lo, wideO (k * (1000 + d)) hi) = ((wideO (-(d * k)) lo).map (· + 1000 * k), (wideO (d * k) hi).map (· + 1000 * k))
  rw [e1, e2]
  cases lo <;> cases hi <;> simp [wideO] <;> omega
/-- what a clock shows t ticks later -/
def laterR (d s v t : Int) (sp : List Sp) : Int := v + 1000 * t + moreR d s v t sp
def tickR (d s x k : Int) (sp : List Sp) : Int := max (x + 1000 - s) (min (x + 1000 + s) ((nearR (wideL d k sp) (x + 1000)).getD (x + 1000)))
theorem later_zero {d s v : Int} {sp : List Sp} (hd : 0 ≤ d) (hs : 0 ≤ s) : laterR d s v 0 sp = v := by
  unfold laterR
  cases e : wayR sp v with
  | none => rw [more_none e]; omega
  | some w =>
    rw [more_some e]
    have h := (mv_facts (w := w) (d := d) (s := s) (t := 0) hd hs (Int.le_refl 0)).1
    rw [Int.mul_zero] at h
    have := absI_cases (mv w d s 0)
    omega
theorem later_step {d s v t : Int} {sp : List Sp} (h : LeS sp) (hd : 0 ≤ d) (hs : 0 ≤ s) (ht : 0 ≤ t) : tickR d s (laterR d s v t sp) (t + 1) sp = laterR d s v (t + 1) sp := by
  have k0 : 0 ≤ d * t := Int.mul_nonneg hd ht
  have kS := wide_le h k0 (d := d) (t := t)
  have k1 : 0 ≤ d * 1 := Int.mul_nonneg hd (by decide)
  have semi := more_semi (v := v) (u := 1) h hd hs ht (by decide)
  unfold tickR
  rw [wideL_eq, ← wide_wide d t 1, near_way (shift_le (wide_le kS k1))]
  have ex : laterR d s v t sp + 1000 = v + moreR d s v t sp + 1000 * (t + 1) := by unfold laterR; omega
  rw [ex, way_shift]
  have e2 : laterR d s v (t + 1) sp = v + moreR d s v t sp + 1000 * (t + 1) + moreR d s (v + moreR d s v t sp) 1 (wideR d t sp) := by unfold laterR; rw [semi]; omega
  rw [e2]
  generalize wideR d t sp = S at kS ⊢
  generalize v + moreR d s v t sp = u
  generalize hc : 1000 * (t + 1) = c
  cases e : wayR S u with
  | none =>
    have := way_none_nil kS e
    subst this
    show max (u + c - s) (min (u + c + s) (u + c)) = u + c + 0
    omega
  | some w =>
    have wn := way_wide kS e hd (Int.le_refl 0) (show (0 : Int) ≤ 1 by decide)
    rw [mv_still hd (by decide), Int.add_zero] at wn
    rw [wn, more_some e]
    have tk := tick_one (u := u) (w := w) hd hs
    show max (u + c - s) (min (u + c + s) (remW w d 0 1 + (u + c))) = _
    omega
theorem gap_later {d s v t : Int} {sp : List Sp} : (wayR (wideL d t sp) (laterR d s v t sp)).map absI = distR d s v t sp := by
  unfold distR
  rw [wideL_eq, show laterR d s v t sp = v + moreR d s v t sp + 1000 * t by unfold laterR; omega, way_shift, show v + 1000 * t + moreR d s v t sp - 1000 * t = v + moreR d s v t sp by omega]
  cases wayR (wideR d t sp) (v + moreR d s v t sp) <;> rfl
end Law

set_option Elab.async false
set_option linter.all false
set_option maxRecDepth 100000
set_option maxHeartbeats 2000000
/-! B43: what the law's own defs give -/
namespace Law
open PySem DL
local macro_rules | `(tactic| walk_at "dlt") => `(tactic| repeat' (first | refine ok.and ?_ | refine ok.or ?_ | refine ok.not ?_ | refine yes ?_ | refine no ?_ | refine ok.eq (a := true) rfl ?_ | refine ok.eq (a := false) rfl ?_ | refine ok.dec rfl (fun _ => ?_) (fun _ => ?_)))
def nSt (x : D) (v : Int) (b lo hi : OI) (w5 : Option W) (sto : List MO) (dr : Option DrawSt) : State := { env := [some (.fz x), some (.fz (.int v)), some (.fz (oD b)), some (.fz (oD lo)), some (.fz (oD hi)), w5], sto := sto, dr := dr }
theorem near_clamp (x : D) (v : Int) (b lo hi : OI) (sto : List MO) (dr : Option DrawSt) (Rt : DL.T → State → Prop) :
    okS (dIf (dAnd (dB (dOp2 isNotD (dSlot 3) (dV (dC .non)))) (dB (dOp2 ltD (dSlot 1) (dSlot 3)))) (dAsg 5 (dVar 3)) (dIf (dAnd (dB (dOp2 isNotD (dSlot 4) (dV (dC .non)))) (dB (dOp2 gtD (dSlot 1) (dSlot 4)))) (dAsg 5 (dVar 4)) (dNx))) (nSt x v b lo hi (some (.fz (.int v))) sto dr)
      (fun s => s = nSt x v b lo hi (some (.fz (.int (clampO (lo, hi) v)))) sto dr) Rt := by
  have second : ∀ lo : OI, (clampO (lo, hi) v = hiC hi v) → okS (dIf (dAnd (dB (dOp2 isNotD (dSlot 4) (dV (dC .non)))) (dB (dOp2 gtD (dSlot 1) (dSlot 4)))) (dAsg 5 (dVar 4)) (dNx)) (nSt x v b lo hi (some (.fz (.int v))) sto dr) (fun s => s = nSt x v b lo hi (some (.fz (.int (clampO (lo, hi) v)))) sto dr) Rt := fun lo e => by
    rw [e]
    cases hi with
    | none =>
      refine okS.ite ?_
      walk_at "dlt"
      exact okS.skip (Rt := Rt) rfl
    | some u =>
      refine okS.ite ?_
      walk_at "dlt"
      · rename_i h
        have e2 : hiC (some u) v = u := if_pos h
        rw [e2]
        exact okS.nx (s1 := nSt x v b lo (some u) (some (.fz (.int u))) sto dr) rfl rfl
      · rename_i h
        have e2 : hiC (some u) v = v := if_neg h
        rw [e2]
        exact okS.skip (Rt := Rt) rfl
  cases lo with
  | none =>
    refine okS.ite ?_
    walk_at "dlt"
    exact second none rfl
  | some l =>
    refine okS.ite ?_
    walk_at "dlt"
    · rename_i h
      have e2 : clampO (some l, hi) v = l := if_pos h
      rw [e2]
      exact okS.nx (s1 := nSt x v b (some l) hi (some (.fz (.int l))) sto dr) rfl rfl
    · rename_i h
      exact second (some l) (if_neg h)
theorem near_best (x : D) (v n : Int) (b lo hi : OI) (sto : List MO) (dr : Option DrawSt) (Rt : DL.T → State → Prop) :
    okS (dIf (dOr (dB (dOp2 isD (dSlot 2) (dV (dC .non)))) (dB (dOp2 ltT (dV (dTup (dCons (dV (dCallB absD (dCons (dV (dOp2 subD (dSlot 5) (dSlot 1))) (dNil)))) (dCons (dV (dOp1 negD (dSlot 5))) (dNil))))) (dV (dTup (dCons (dV (dCallB absD (dCons (dV (dOp2 subD (dSlot 2) (dSlot 1))) (dNil)))) (dCons (dV (dOp1 negD (dSlot 2))) (dNil)))))))) (dAsg 2 (dVar 5)) (dNx)) (nSt x v b lo hi (some (.fz (.int n))) sto dr)
      (fun s => s = nSt x v (bestO n b v) lo hi (some (.fz (.int n))) sto dr) Rt := by
  cases b with
  | none =>
    refine okS.ite ?_
    walk_at "dlt"
    exact okS.nx (s1 := nSt x v (some n) lo hi (some (.fz (.int n))) sto dr) rfl rfl
  | some m =>
    have e : dB (dOp2 ltT (dV (dTup (dCons (dV (dCallB absD (dCons (dV (dOp2 subD (dSlot 5) (dSlot 1))) (dNil)))) (dCons (dV (dOp1 negD (dSlot 5))) (dNil))))) (dV (dTup (dCons (dV (dCallB absD (dCons (dV (dOp2 subD (dSlot 2) (dSlot 1))) (dNil)))) (dCons (dV (dOp1 negD (dSlot 2))) (dNil)))))) (nSt x v (some m) lo hi (some (.fz (.int n))) sto dr) = .ok (HT.lexLt [absI (n - v), -n] [absI (m - v), -m]) (nSt x v (some m) lo hi (some (.fz (.int n))) sto dr) := rfl
    refine okS.ite (ok.or (ok.eq (a := false) rfl (no (ok.eq e ?_))))
    show if HT.lexLt [absI (n - v), -n] [absI (m - v), -m] = true then _ else _
    by_cases h : HT.lexLt [absI (n - v), -n] [absI (m - v), -m] = true
    · have e2 : bestO n (some m) v = some n := if_pos h
      rw [e2, if_pos h]
      exact okS.nx (s1 := nSt x v (some n) lo hi (some (.fz (.int n))) sto dr) rfl rfl
    · have e2 : bestO n (some m) v = some m := if_neg h
      rw [e2, if_neg h]
      exact okS.skip (Rt := Rt) rfl
theorem near_loop (x : D) (v : Int) (sto : List MO) (dr : Option DrawSt) (Nx : State → Prop) (Rt : DL.T → State → Prop) : ∀ (sp : List Sp) (b : OI) (w3 w4 w5 : Option W), (w3 = none ∨ ∃ d, w3 = some (.fz d)) → (w4 = none ∨ ∃ d, w4 = some (.fz d)) → (w5 = none ∨ ∃ d, w5 = some (.fz d)) →
    (∀ w3 w4 w5, Nx { env := [some (.fz x), some (.fz (.int v)), some (.fz (oD (nearL sp v b))), w3, w4, w5], sto := sto, dr := dr }) →
    okS (dForL (.tup [.name 3, .name 4]) L_law_nearest_0 (sp.map spD)) { env := [some (.fz x), some (.fz (.int v)), some (.fz (oD b)), w3, w4, w5], sto := sto, dr := dr } Nx Rt
  | [], b, w3, w4, w5, _, _, _, h => okS.nx rfl (h w3 w4 w5)
  | (lo, hi) :: sp, b, w3, w4, w5, h3, h4, h5, h => by
    have e1 : bindP (.tup [.name 3, .name 4]) (spD (lo, hi)) { env := [some (.fz x), some (.fz (.int v)), some (.fz (oD b)), w3, w4, w5], sto := sto, dr := dr } = some (nSt x v b lo hi w5 sto dr) := by
      rcases h3 with rfl | ⟨_, rfl⟩ <;> rcases h4 with rfl | ⟨_, rfl⟩ <;> rfl
    refine okS.turn e1 ?_
    unfold L_law_nearest_0
    have e2 : dAsg 5 (dVar 1) (nSt x v b lo hi w5 sto dr) = .ok .nx (nSt x v b lo hi (some (.fz (.int v))) sto dr) := by
      rcases h5 with rfl | ⟨_, rfl⟩ <;> rfl
    refine okS.seq (okS.nx e2 (okS.seq ((near_clamp x v b lo hi sto dr _).mono (fun s hs => ?_) fun _ _ q => q)))
    subst hs
    refine (near_best x v (clampO (lo, hi) v) b lo hi sto dr _).mono (fun s hs => ?_) fun _ _ q => q
    subst hs
    exact near_loop x v sto dr Nx Rt sp (bestO (clampO (lo, hi) v) b v) _ _ _ (.inr ⟨_, rfl⟩) (.inr ⟨_, rfl⟩) (.inr ⟨_, rfl⟩) h
theorem near_pure (sp : List Sp) (v : Int) : pureG F_law_nearest 6 [.fz (.lst (sp.map spD)), .fz (.int v)] (.fz (oD (nearR sp v))) := .of fun sto dr => by
  unfold F_law_nearest
  refine okS.seq (okS.nx (s1 := { env := [some (.fz (.lst (sp.map spD))), some (.fz (.int v)), some (.fz .non), none, none, none], sto := sto, dr := dr }) rfl ?_)
  refine okS.seq (okS.forS (d := .lst (sp.map spD)) rfl rfl rfl (near_loop _ v sto dr _ _ sp none none none none (.inl rfl) (.inl rfl) (.inl rfl) fun w3 w4 w5 => ?_))
  exact okS.rt rfl ⟨rfl, by show 2 ≤ 6; decide, rfl, rfl⟩
/-! ### wider spans -/
theorem wideL_loop (X : D) (d t : Int) (hd : 0 ≤ d) (hd2 : d ≤ 500) (sto : List MO) (dr : Option DrawSt) (Nx : State → Prop) (Rt : DL.T → State → Prop) : ∀ (sp acc : List Sp) (w4 w5 w6 : Option W), (w4 = none ∨ ∃ d, w4 = some (.fz d)) → (w5 = none ∨ ∃ d, w5 = some (.fz d)) → (w6 = none ∨ ∃ d, w6 = some (.fz d)) → acc.length + sp.length ≤ 1000 →
    (∀ w4 w5 w6, Nx { env := [some (.fz X), some (.fz (.int d)), some (.fz (.int t)), some (.own (.lst ((acc ++ wideL d t sp).map spD))), w4, w5, w6], sto := sto, dr := dr }) →
    okS (dForL (.tup [.name 4, .name 5]) L_law_wide_0 (sp.map spD)) { env := [some (.fz X), some (.fz (.int d)), some (.fz (.int t)), some (.own (.lst (acc.map spD))), w4, w5, w6], sto := sto, dr := dr } Nx Rt
  | [], acc, w4, w5, w6, _, _, _, _, h => okS.nx rfl (by have := h w4 w5 w6; unfold wideL at this; rw [List.map_nil, List.append_nil] at this; exact this)
  | (lo, hi) :: sp, acc, w4, w5, w6, h4, h5, h6, hl, h => by
    have e1 : bindP (.tup [.name 4, .name 5]) (spD (lo, hi)) { env := [some (.fz X), some (.fz (.int d)), some (.fz (.int t)), some (.own (.lst (acc.map spD))), w4, w5, w6], sto := sto, dr := dr } = some { env := [some (.fz X), some (.fz (.int d)), some (.fz (.int t)), some (.own (.lst (acc.map spD))), some (.fz (oD lo)), some (.fz (oD hi)), w6], sto := sto, dr := dr } := by
      rcases h4 with rfl | ⟨_, rfl⟩ <;> rcases h5 with rfl | ⟨_, rfl⟩ <;> rfl
    have b1 : bnd64 (1000 - d) = true := bnd_of (by omega) (by omega)
    have b2 : bnd64 (1000 + d) = true := bnd_of (by omega) (by omega)
    refine okS.turn e1 ?_
    have a1 : ok (dIf (dB (dOp2 isD (dSlot 4) (dV (dC .non)))) (dC .non) (dOp2 addD (dSlot 4) (dV (dOp2 mulD (dSlot 2) (dV (dOp2 subD (dV (dC (.int 1000))) (dSlot 1))))))) { env := [some (.fz X), some (.fz (.int d)), some (.fz (.int t)), some (.own (.lst (acc.map spD))), some (.fz (oD lo)), some (.fz (oD hi)), w6], sto := sto, dr := dr } (fun r s => r = .fz (oD (wideO (t * (1000 - d)) lo)) ∧ s = { env := [some (.fz X), some (.fz (.int d)), some (.fz (.int t)), some (.own (.lst (acc.map spD))), some (.fz (oD lo)), some (.fz (oD hi)), w6], sto := sto, dr := dr }) := by
      refine ok.ite ?_
      cases lo with
      | none => walk_at "dlt"; exact ok.eq rfl ⟨rfl, rfl⟩
      | some l => walk_at "dlt"; exact ok.eq (dOp2_eq rfl (dV_eq (dOp2_eq rfl (dV_eq (dOp2_eq rfl rfl rfl rfl rfl)) rfl rfl (mul_r b1))) rfl rfl rfl) ⟨rfl, rfl⟩
    obtain ⟨_, _, q1, rfl, rfl⟩ := a1
    unfold L_law_wide_0
    have e3 : dAsg 6 (dIf (dB (dOp2 isD (dSlot 4) (dV (dC .non)))) (dC .non) (dOp2 addD (dSlot 4) (dV (dOp2 mulD (dSlot 2) (dV (dOp2 subD (dV (dC (.int 1000))) (dSlot 1))))))) { env := [some (.fz X), some (.fz (.int d)), some (.fz (.int t)), some (.own (.lst (acc.map spD))), some (.fz (oD lo)), some (.fz (oD hi)), w6], sto := sto, dr := dr } = .ok .nx { env := [some (.fz X), some (.fz (.int d)), some (.fz (.int t)), some (.own (.lst (acc.map spD))), some (.fz (oD lo)), some (.fz (oD hi)), some (.fz (oD (wideO (t * (1000 - d)) lo)))], sto := sto, dr := dr } := by
      refine okS.toNx (okS.asg (ok.eq q1 ⟨?_, rfl⟩))
      rcases h6 with rfl | ⟨_, rfl⟩ <;> rfl
    refine okS.seq (okS.nx e3 ?_)
    have a2 : ok (dIf (dB (dOp2 isD (dSlot 5) (dV (dC .non)))) (dC .non) (dOp2 addD (dSlot 5) (dV (dOp2 mulD (dSlot 2) (dV (dOp2 addD (dV (dC (.int 1000))) (dSlot 1))))))) { env := [some (.fz X), some (.fz (.int d)), some (.fz (.int t)), some (.own (.lst (acc.map spD))), some (.fz (oD lo)), some (.fz (oD hi)), some (.fz (oD (wideO (t * (1000 - d)) lo)))], sto := sto, dr := dr } (fun r s => r = .fz (oD (wideO (t * (1000 + d)) hi)) ∧ s = { env := [some (.fz X), some (.fz (.int d)), some (.fz (.int t)), some (.own (.lst (acc.map spD))), some (.fz (oD lo)), some (.fz (oD hi)), some (.fz (oD (wideO (t * (1000 - d)) lo)))], sto := sto, dr := dr }) := by
      refine ok.ite ?_
      cases hi with
      | none => walk_at "dlt"; exact ok.eq rfl ⟨rfl, rfl⟩
      | some l => walk_at "dlt"; exact ok.eq (dOp2_eq rfl (dV_eq (dOp2_eq rfl (dV_eq (dOp2_eq rfl rfl rfl rfl rfl)) rfl rfl (mul_r b2))) rfl rfl rfl) ⟨rfl, rfl⟩
    obtain ⟨_, _, q2, rfl, rfl⟩ := a2
    have hz : acc.length < sizeLine := Nat.lt_of_lt_of_le (show acc.length < 1001 by rw [List.length_cons] at hl; omega) (by decide)
    have e2 : dExpr (dAppend 3 (dV (dTup (dCons (dSlot 6) (dCons (dV (dIf (dB (dOp2 isD (dSlot 5) (dV (dC .non)))) (dC .non) (dOp2 addD (dSlot 5) (dV (dOp2 mulD (dSlot 2) (dV (dOp2 addD (dV (dC (.int 1000))) (dSlot 1)))))))) (dNil)))))) { env := [some (.fz X), some (.fz (.int d)), some (.fz (.int t)), some (.own (.lst (acc.map spD))), some (.fz (oD lo)), some (.fz (oD hi)), some (.fz (oD (wideO (t * (1000 - d)) lo)))], sto := sto, dr := dr } = .ok .nx { env := [some (.fz X), some (.fz (.int d)), some (.fz (.int t)), some (.own (.lst ((acc ++ [(wideO (t * (1000 - d)) lo, wideO (t * (1000 + d)) hi)]).map spD))), some (.fz (oD lo)), some (.fz (oD hi)), some (.fz (oD (wideO (t * (1000 - d)) lo)))], sto := sto, dr := dr } := by
      unfold dExpr
      have e4 : dTup (dCons (dSlot 6) (dCons (dV (dIf (dB (dOp2 isD (dSlot 5) (dV (dC .non)))) (dC .non) (dOp2 addD (dSlot 5) (dV (dOp2 mulD (dSlot 2) (dV (dOp2 addD (dV (dC (.int 1000))) (dSlot 1)))))))) (dNil))) { env := [some (.fz X), some (.fz (.int d)), some (.fz (.int t)), some (.own (.lst (acc.map spD))), some (.fz (oD lo)), some (.fz (oD hi)), some (.fz (oD (wideO (t * (1000 - d)) lo)))], sto := sto, dr := dr } = .ok (.fz (spD (wideO (t * (1000 - d)) lo, wideO (t * (1000 + d)) hi))) { env := [some (.fz X), some (.fz (.int d)), some (.fz (.int t)), some (.own (.lst (acc.map spD))), some (.fz (oD lo)), some (.fz (oD hi)), some (.fz (oD (wideO (t * (1000 - d)) lo)))], sto := sto, dr := dr } := dTup_eq (dCons_eq rfl (dCons_eq (dV_eq q2) (k := dNil) rfl)) rfl (by show 2 ≤ sizeLine; decide)
      have e3 := append_eq (i := 3) (ds := acc.map spD) (s := { env := [some (.fz X), some (.fz (.int d)), some (.fz (.int t)), some (.own (.lst (acc.map spD))), some (.fz (oD lo)), some (.fz (oD hi)), some (.fz (oD (wideO (t * (1000 - d)) lo)))], sto := sto, dr := dr }) rfl (dV_eq e4) rfl rfl (by rw [List.length_map]; exact hz)
      rw [bind_eq, e3, List.map_append]
      rfl
    refine okS.nx e2 (wideL_loop X d t hd hd2 sto dr Nx Rt sp _ _ _ _ (.inr ⟨_, rfl⟩) (.inr ⟨_, rfl⟩) (.inr ⟨_, rfl⟩) (by rw [List.length_append]; simp at hl ⊢; omega) fun w4 w5 w6 => ?_)
    have := h w4 w5 w6
    unfold wideL at this ⊢
    rw [List.map_cons] at this
    rw [List.append_assoc]
    exact this
theorem wideL_pure {d t : Int} {sp : List Sp} (hd : 0 ≤ d) (hd2 : d ≤ 500) (hl : sp.length ≤ 1000) : pureG F_law_wide 7 [.fz (.lst (sp.map spD)), .fz (.int d), .fz (.int t)] (.ow (.lst ((wideL d t sp).map spD))) := .of fun sto dr => by
  unfold F_law_wide
  refine okS.seq (okS.nx (s1 := { env := [some (.fz (.lst (sp.map spD))), some (.fz (.int d)), some (.fz (.int t)), some (.own (.lst [])), none, none, none], sto := sto, dr := dr }) rfl ?_)
  refine okS.seq (okS.forS (d := .lst (sp.map spD)) rfl rfl rfl (wideL_loop _ d t hd hd2 sto dr _ _ sp [] none none none (.inl rfl) (.inl rfl) (.inl rfl) (by simpa using hl) fun w4 w5 w6 => ?_))
  exact okS.rt rfl ⟨rfl, by show 3 ≤ 7; decide, rfl, rfl⟩
theorem gapL_pure (sp : List Sp) (x : Int) : pureG F_law_gap 3 [.fz (.int x), .fz (.lst (sp.map spD))] (.fz (oD ((nearR sp x).map fun n => absI (n - x)))) := .of fun sto dr => by
  unfold F_law_gap
  have e := call_pure (near_pure sp x) (ms := [.F, .F]) (fl := dCons (dSlot 1) (dCons (dSlot 0) dNil)) (s := { env := [some (.fz (.int x)), some (.fz (.lst (sp.map spD))), none], sto := sto, dr := dr }) rfl rfl rfl rfl rfl
  refine okS.seq (okS.asg (ok.eq e ⟨rfl, ?_⟩))
  refine okS.ret (ok.ite ?_)
  cases nearR sp x with
  | none => walk_at "dlt"; exact ok.eq rfl ⟨rfl, by show 2 ≤ 3; decide, rfl, rfl⟩
  | some n => walk_at "dlt"; exact ok.eq rfl ⟨rfl, by show 2 ≤ 3; decide, rfl, rfl⟩
/-! ### tick by tick -/
theorem later_pure {v d s : Int} {t : Nat} {sp : List Sp} (h : LeS sp) (hl : sp.length ≤ 1000) (hd : 0 ≤ d) (hd2 : d ≤ 500) (hs : 0 ≤ s) (ht : t ≤ 1000) : pureG F_law_later 7 [.fz (.int v), .fz (.lst (sp.map spD)), .fz (.int d), .fz (.int s), .fz (.int t)] (.fz (.int (laterR d s v t sp))) := .of fun sto dr => by
  unfold F_law_later
  have f1 : dCons (dV (dC (.int 1))) (dCons (dV (dOp2 addD (dSlot 4) (dV (dC (.int 1))))) (dNil)) { env := [some (.fz (.int v)), some (.fz (.lst (sp.map spD))), some (.fz (.int d)), some (.fz (.int s)), some (.fz (.int t)), none, none], sto := sto, dr := dr } = .ok [.t (.fz (.int 1)), .t (.fz (.int ((t : Int) + 1)))] { env := [some (.fz (.int v)), some (.fz (.lst (sp.map spD))), some (.fz (.int d)), some (.fz (.int s)), some (.fz (.int t)), none, none], sto := sto, dr := dr } := dCons_eq rfl (dCons_eq (dV_eq (dOp2_eq rfl rfl rfl rfl rfl)) (k := dNil) rfl)
  have f3 : itR2 [.int 1, .int ((t : Int) + 1)] = some (rangeL 1 t) := by
    show (if bnd62 1 = true ∧ bnd62 ((t : Int) + 1) = true then some (rangeL 1 ((t : Int) + 1 - 1).toNat) else none) = _
    have z : bnd62 ((t : Int) + 1) = true := by unfold bnd62; rw [Bool.and_eq_true, decide_eq_true_eq, decide_eq_true_eq]; omega
    rw [if_pos ⟨rfl, z⟩, show ((t : Int) + 1 - 1).toNat = t by omega]
  show okS (dSeq _ _) { env := [some (.fz (.int v)), some (.fz (.lst (sp.map spD))), some (.fz (.int d)), some (.fz (.int s)), some (.fz (.int t)), none, none], sto := sto, dr := dr } _ _
  have f2 : ∀ (y : D) (S : State), toHSs [.t (.fz (.int 1)), .t (.fz y)] S = .ok ([.int 1, y].map HS.d) S := fun _ _ => rfl
  refine okS.seq ?_
  generalize hT : (t : Int) = T at f1 f3 ⊢
  refine okS.forV (ds := [.int 1, .int (T + 1)]) f1 (f2 _ _) f3 ?_
  refine okS.walk (fun k S => ∃ w5 w6 : Option W, (w5 = none ∨ ∃ d, w5 = some (.fz d)) ∧ (w6 = none ∨ ∃ d, w6 = some (.fz d)) ∧ S = { env := [some (.fz (.int (laterR d s v (k : Nat) sp))), some (.fz (.lst (sp.map spD))), some (.fz (.int d)), some (.fz (.int s)), some (.fz (.int T)), w5, w6], sto := sto, dr := dr }) ?_ ?_ ?_
  · exact ⟨none, none, .inl rfl, .inl rfl, by rw [show ((0 : Nat) : Int) = 0 from rfl, later_zero hd hs]⟩
  · rintro i d0 S hi ⟨w5, w6, h5, h6, rfl⟩
    obtain ⟨rfl, hlt⟩ := rangeL_get 1 _ i d0 hi
    generalize hx : laterR d s v (i : Nat) sp = x
    refine ⟨{ env := [some (.fz (.int x)), some (.fz (.lst (sp.map spD))), some (.fz (.int d)), some (.fz (.int s)), some (.fz (.int T)), some (.fz (.int (1 + (i : Nat)))), w6], sto := sto, dr := dr }, by rcases h5 with rfl | ⟨_, rfl⟩ <;> rfl, ?_⟩
    unfold L_law_later_0
    have e1 := call_pure (wideL_pure (t := 1 + (i : Nat)) (sp := sp) hd hd2 hl) (ms := [.F, .F, .F]) (fl := dCons (dSlot 1) (dCons (dSlot 2) (dCons (dSlot 5) dNil))) (s := { env := [some (.fz (.int x)), some (.fz (.lst (sp.map spD))), some (.fz (.int d)), some (.fz (.int s)), some (.fz (.int T)), some (.fz (.int (1 + (i : Nat)))), w6], sto := sto, dr := dr }) rfl rfl rfl rfl rfl
    have e2 := call_pure (near_pure (wideL d (1 + (i : Nat)) sp) (x + 1000)) (ms := [.F, .F]) (fl := dCons (dV (dCall 7 [.F, .F, .F] [] F_law_wide (dCons (dSlot 1) (dCons (dSlot 2) (dCons (dSlot 5) (dNil)))))) (dCons (dV (dOp2 addD (dSlot 0) (dV (dC (.int 1000))))) (dNil))) (s := { env := [some (.fz (.int x)), some (.fz (.lst (sp.map spD))), some (.fz (.int d)), some (.fz (.int s)), some (.fz (.int T)), some (.fz (.int (1 + (i : Nat)))), w6], sto := sto, dr := dr }) (dCons_eq (dV_eq e1) (dCons_eq rfl (k := dNil) rfl)) rfl rfl rfl rfl
    refine okS.seq (okS.asg (ok.eq e2 ⟨by rcases h6 with rfl | ⟨_, rfl⟩ <;> rfl, ?_⟩))
    have fin : ∀ (q : Int), max (x + 1000 - s) (min (x + 1000 + s) q) = laterR d s v ((i + 1 : Nat) : Int) sp → okS (dAsg 0 (dCallB maxD (dCons (dV (dOp2 subD (dV (dOp2 addD (dSlot 0) (dV (dC (.int 1000))))) (dSlot 3))) (dCons (dV (dCallB minD (dCons (dV (dOp2 addD (dV (dOp2 addD (dSlot 0) (dV (dC (.int 1000))))) (dSlot 3))) (dCons (dSlot 6) (dNil))))) (dNil))))) { env := [some (.fz (.int x)), some (.fz (.lst (sp.map spD))), some (.fz (.int d)), some (.fz (.int s)), some (.fz (.int T)), some (.fz (.int (1 + (i : Nat)))), some (.fz (.int q))], sto := sto, dr := dr } (fun S => ∃ w5 w6 : Option W, (w5 = none ∨ ∃ d, w5 = some (.fz d)) ∧ (w6 = none ∨ ∃ d, w6 = some (.fz d)) ∧ S = { env := [some (.fz (.int (laterR d s v ((i + 1 : Nat) : Int) sp))), some (.fz (.lst (sp.map spD))), some (.fz (.int d)), some (.fz (.int s)), some (.fz (.int T)), w5, w6], sto := sto, dr := dr }) (fun t s' => False) := fun q hq => by
      refine okS.asg (ok.eq (a := .fz (.int (max (x + 1000 - s) (min (x + 1000 + s) q)))) rfl ⟨rfl, ?_⟩)
      rw [hq]
      exact ⟨_, _, .inr ⟨_, rfl⟩, .inr ⟨_, rfl⟩, rfl⟩
    have st := later_step (v := v) (t := (i : Nat)) h hd hs (Int.natCast_nonneg i)
    unfold tickR at st
    rw [hx, Int.add_comm ((i : Nat) : Int) 1] at st
    have ec : ((i + 1 : Nat) : Int) = 1 + (i : Nat) := by omega
    cases hq : nearR (wideL d (1 + (i : Nat)) sp) (x + 1000) with
    | none =>
      rw [hq] at st
      refine okS.seq (okS.asg (ok.ite (ok.eq (a := true) rfl (yes (ok.eq (a := .fz (.int (x + 1000))) rfl ⟨rfl, ?_⟩)))))
      exact (fin (x + 1000) (by rw [ec]; exact st)).mono (fun _ z => z) fun _ _ z => z.elim
    | some n =>
      rw [hq] at st
      refine okS.seq (okS.asg (ok.ite (ok.eq (a := false) rfl (no (ok.eq (a := .fz (.int n)) rfl ⟨rfl, ?_⟩)))))
      exact (fin n (by rw [ec]; exact st)).mono (fun _ z => z) fun _ _ z => z.elim
  · rintro S ⟨w5, w6, h5, h6, rfl⟩
    rw [rangeL_length]
    rw [hT]
    exact okS.rt rfl ⟨rfl, by show 5 ≤ 7; decide, rfl, rfl⟩
end Law

set_option Elab.async false
set_option linter.all false
set_option maxRecDepth 100000
set_option maxHeartbeats 4000000
/-! C43: the law's drawing of spans -/
namespace Law
open PySem DL
def spSt (dot low : Int) (sp : List Sp) (w4 w5 : Option W) (sto : List MO) (st : DrawSt) : State := { env := [some (.fz .draw), some (.fz (.int dot)), some (.fz (.int low)), some (.own (.lst (sp.map spD))), w4, w5], sto := sto, dr := some st }
theorem near_nil (dot : Int) : NearS dot [] := ⟨⟨fun _ _ e _ => (by cases e), fun _ _ e _ => (by cases e), fun _ _ _ e => (by cases e), fun _ _ _ e _ => (by cases e), by decide⟩, fun _ h => (by cases h), by decide⟩
theorem near_mk {dot : Int} {ps : List (Int × Int)} (h1 : ∀ p ∈ ps, p.1 ≤ p.2) (h2 : ∀ (i : Nat) (p q : Int × Int), ps[i]? = some p → ps[i + 1]? = some q → p.2 + 1 < q.1) (h3 : ∀ p ∈ ps, dot - 1000000 ≤ p.1 ∧ p.2 ≤ dot + 1000000) (hl : ps.length ≤ 3) : NearS dot (ps.map mk) := by
  refine ⟨⟨fun i x e n => ?_, fun i x e n => ?_, fun i l u e => ?_, fun i x y e1 e2 => ?_, by rw [List.length_map]; omega⟩, fun x hx => ?_, by rw [List.length_map]; exact hl⟩
  · rw [List.getElem?_map] at e
    cases q : ps[i]? with
    | none => rw [q] at e; cases e
    | some p => rw [q] at e; cases e; cases n
  · rw [List.getElem?_map] at e
    cases q : ps[i]? with
    | none => rw [q] at e; cases e
    | some p => rw [q] at e; cases e; cases n
  · rw [List.getElem?_map] at e
    cases q : ps[i]? with
    | none => rw [q] at e; cases e
    | some p => rw [q] at e; cases e; exact h1 p (List.mem_of_getElem? q)
  · rw [List.getElem?_map] at e1 e2
    cases q : ps[i]? with
    | none => rw [q] at e1; cases e1
    | some p =>
      cases q2 : ps[i + 1]? with
      | none => rw [q2] at e2; cases e2
      | some p2 =>
        rw [q] at e1; rw [q2] at e2
        cases e1; cases e2
        exact ⟨p.2, p2.1, rfl, rfl, h2 i p p2 q q2⟩
  · obtain ⟨p, hp, rfl⟩ := List.mem_map.mp hx
    have := h3 p hp
    have := h1 p hp
    exact ⟨fun l e => (by cases e; omega), fun l e => (by cases e; omega)⟩
/-- a draw that is asked for nought -/
theorem take_zero {S : State} {st : DrawSt} {n : Int} (hs : S.dr = some st) (hd : DrOk1 st) (h0 : 0 < n) (h1 : n < 1073741824) {i : Nat} (he : S.env[i]? = some (some (.fz .draw))) {f : M VR} (hf : ∀ s, f s = .ok (.t (.fz (.int n))) s) :
    ok (dB (dOp2 eqT (dV (dCall 4 [.F, .F] [] F_law_take (dCons (dSlot i) (dCons f dNil)))) (dV (dC (.int 0))))) S (fun _ s => ∃ st', DrOk1 st' ∧ s = { S with dr := some st' }) := by
  have tk : ok (dCall 4 [.F, .F] [] F_law_take (dCons (dSlot i) (dCons f dNil))) S (fun x s => ∃ (q : Int) (st' : DrawSt), x = .fz (.int q) ∧ DrOk1 st' ∧ s = { S with dr := some st' }) := by
    refine ok.call (ds := [.draw, .int n]) (rs := [.slot i, .t (.fz (.int n))]) (s1 := S) (s2 := S) ?_ ?_ (take_gives (st := st) hs hd h0 h1 fun q st' _ _ h2 => ⟨q, st', rfl, h2, rfl⟩)
    · refine dCons_eq ?_ (dCons_eq (hf S) (k := dNil) rfl)
      unfold dSlot
      simp only [he]
    · show (toHM .F (.slot i) >>= fun h => toHMs [.F] [.t (.fz (.int n))] >>= fun hs => pure (h :: hs)) S = _
      have e : toHM .F (.slot i) S = .ok (.d .draw) S := by
        show (frz (.slot i) >>= fun d => pure (HS.d d)) S = _
        rw [bind_eq]
        unfold frz
        simp only [he]
        rfl
      rw [bind_eq, e]
      rfl
  obtain ⟨_, _, e2, q, st', rfl, hd', rfl⟩ := tk
  exact ok.eq (dB_eq (dOp2_eq (dV_eq e2) rfl rfl rfl rfl)) ⟨st', hd', rfl⟩
theorem spans_gives {s : State} {st : DrawSt} {dot : Int} {Q : DL.T → State → Prop} (hs : s.dr = some st) (hd : DrOk1 st) (h : ∀ (sp : List Sp) (st' : DrawSt), NearS dot sp → DrOk1 st' → Q (.ow (.lst (sp.map spD))) { s with dr := some st' }) : gives F_law_spans 6 [.draw, .int dot] s Q := by
  refine .of ?_
  obtain ⟨env, sto, dr⟩ := s
  cases hs
  show okS F_law_spans { env := [some (.fz .draw), some (.fz (.int dot)), none, none, none, none], sto := sto, dr := some st } _ _
  unfold F_law_spans
  refine okS.seq (okS.ite ((take_zero (st := st) (n := 6) rfl hd (by decide) (by decide) rfl (fun _ => rfl)).mono fun b S hS => ?_))
  obtain ⟨st1, hd1, rfl⟩ := hS
  cases b with
  | true => exact yes (okS.rt (t := .ow (.lst [])) (s1 := { env := [some (.fz .draw), some (.fz (.int dot)), none, none, none, none], sto := sto, dr := some st1 }) rfl ⟨by show 2 ≤ 6; decide, h [] st1 (near_nil dot) hd1⟩)
  | false =>
  refine no (okS.skip ?_)
  show okS _ { env := [some (.fz .draw), some (.fz (.int dot)), none, none, none, none], sto := sto, dr := some st1 } _ _
  have first : ok (dOp2 subD (dV (dOp2 addD (dSlot 1) (dV (dCall 2 [.F, .F] [] F_law_pick (dCons (dSlot 0) (dCons (dV (dLst (dCons (dV (dOp1 negD (dV (dC (.int 3000))))) (dCons (dV (dOp1 negD (dV (dC (.int 500))))) (dCons (dV (dOp1 negD (dV (dC (.int 40))))) (dCons (dV (dC (.int 0))) (dCons (dV (dC (.int 1))) (dCons (dV (dC (.int 30))) (dCons (dV (dC (.int 900))) (dCons (dV (dC (.int 4000))) (dNil))))))))))) (dNil))))))) (dV (dCall 4 [.F, .F] [] F_law_take (dCons (dSlot 0) (dCons (dV (dC (.int 60))) (dNil)))))) { env := [some (.fz .draw), some (.fz (.int dot)), none, none, none, none], sto := sto, dr := some st1 } (fun x S => ∃ (low : Int) (st' : DrawSt), x = .fz (.int low) ∧ dot - 4000 ≤ low ∧ low ≤ dot + 4000 ∧ DrOk1 st' ∧ S = { env := [some (.fz .draw), some (.fz (.int dot)), none, none, none, none], sto := sto, dr := some st' }) := by
    have pk : ok (dCall 2 [.F, .F] [] F_law_pick (dCons (dSlot 0) (dCons (dV (dLst (dCons (dV (dOp1 negD (dV (dC (.int 3000))))) (dCons (dV (dOp1 negD (dV (dC (.int 500))))) (dCons (dV (dOp1 negD (dV (dC (.int 40))))) (dCons (dV (dC (.int 0))) (dCons (dV (dC (.int 1))) (dCons (dV (dC (.int 30))) (dCons (dV (dC (.int 900))) (dCons (dV (dC (.int 4000))) (dNil))))))))))) (dNil)))) { env := [some (.fz .draw), some (.fz (.int dot)), none, none, none, none], sto := sto, dr := some st1 } (fun x S => ∃ (n : Int) (st' : DrawSt), x = .fz (.int n) ∧ -3000 ≤ n ∧ n ≤ 4000 ∧ DrOk1 st' ∧ S = { env := [some (.fz .draw), some (.fz (.int dot)), none, none, none, none], sto := sto, dr := some st' }) := by
      refine ok.call (ds := [.draw, .lst [.int (-3000), .int (-500), .int (-40), .int 0, .int 1, .int 30, .int 900, .int 4000]]) rfl rfl (pick_gives (st := st1) rfl hd1 (by show 0 < 8; decide) (by show 8 < 1073741824; decide) fun x hx st' hd' => ?_)
      simp only [List.mem_cons, List.not_mem_nil, or_false] at hx
      rcases hx with rfl | rfl | rfl | rfl | rfl | rfl | rfl | rfl <;> exact ⟨_, st', rfl, by decide, by decide, hd', rfl⟩
    obtain ⟨_, _, e1, n, st2, rfl, n1, n2, hd2, rfl⟩ := pk
    have tk : ok (dCall 4 [.F, .F] [] F_law_take (dCons (dSlot 0) (dCons (dV (dC (.int 60))) (dNil)))) { env := [some (.fz .draw), some (.fz (.int dot)), none, none, none, none], sto := sto, dr := some st2 } (fun x S => ∃ (n : Int) (st' : DrawSt), x = .fz (.int n) ∧ 0 ≤ n ∧ n < 60 ∧ DrOk1 st' ∧ S = { env := [some (.fz .draw), some (.fz (.int dot)), none, none, none, none], sto := sto, dr := some st' }) :=
      ok.call (ds := [.draw, .int 60]) rfl rfl (take_gives (st := st2) rfl hd2 (by decide) (by decide) fun q st' q0 q1 hd' => ⟨q, st', rfl, q0, q1, hd', rfl⟩)
    obtain ⟨_, _, e2, q, st3, rfl, q0, q1, hd3, rfl⟩ := tk
    exact ok.eq (dOp2_eq (dV_eq (dOp2_eq (d := .int dot) (e := .int n) rfl (dV_eq e1) rfl rfl rfl)) (dV_eq e2) rfl rfl rfl) ⟨_, st3, rfl, by omega, by omega, hd3, rfl⟩
  refine okS.seq (okS.par (first.mono fun x S hx => ?_))
  obtain ⟨low, st2, rfl, lo1, lo2, hd2, rfl⟩ := hx
  refine ok.eq (a := .ow (.lst [])) (s1 := { env := [some (.fz .draw), some (.fz (.int dot)), none, none, none, none], sto := sto, dr := some st2 }) rfl ⟨rfl, rfl, ?_⟩
  show okS _ (spSt dot low [] none none sto st2) _ _
  have cnt : ok (dCons (dV (dOp2 addD (dV (dC (.int 1))) (dV (dCall 4 [.F, .F] [] F_law_take (dCons (dSlot 0) (dCons (dV (dC (.int 3))) (dNil))))))) (dNil)) (spSt dot low [] none none sto st2) (fun rs S => ∃ (r : Nat) (st' : DrawSt), rs = [.t (.fz (.int (r : Nat)))] ∧ 1 ≤ r ∧ r ≤ 3 ∧ DrOk1 st' ∧ S = spSt dot low [] none none sto st') := by
    have tk : ok (dCall 4 [.F, .F] [] F_law_take (dCons (dSlot 0) (dCons (dV (dC (.int 3))) (dNil)))) (spSt dot low [] none none sto st2) (fun x S => ∃ (n : Int) (st' : DrawSt), x = .fz (.int n) ∧ 0 ≤ n ∧ n < 3 ∧ DrOk1 st' ∧ S = spSt dot low [] none none sto st') :=
      ok.call (ds := [.draw, .int 3]) rfl rfl (take_gives (st := st2) rfl hd2 (by decide) (by decide) fun q st' q0 q1 hd' => ⟨q, st', rfl, q0, q1, hd', rfl⟩)
    obtain ⟨_, _, e2, q, st3, rfl, q0, q1, hd3, rfl⟩ := tk
    refine ok.eq (dCons_eq (dV_eq (dOp2_eq (d := .int 1) (e := .int q) (t := .fz (.int (((1 + q).toNat : Nat) : Int))) rfl (dV_eq e2) rfl rfl ?_)) (k := dNil) rfl) ⟨(1 + q).toNat, st3, rfl, by omega, by omega, hd3, rfl⟩
    show some (DL.T.fz (.int (1 + q))) = _
    rw [show (((1 + q).toNat : Nat) : Int) = 1 + q by omega]
  refine okS.seq (okS.forO (cnt.mono fun rs S hr => ?_))
  obtain ⟨r, st3, rfl, r1, r3, hd3, rfl⟩ := hr
  refine ⟨[.int (r : Nat)], rangeL 0 r, spSt dot low [] none none sto st3, rfl, ?_, ?_⟩
  · show (if bnd62 ((r : Nat) : Int) = true then some (rangeL 0 ((r : Nat) : Int).toNat) else none) = _
    have : bnd62 ((r : Nat) : Int) = true := by
      unfold bnd62
      rw [decide_eq_true (by omega), decide_eq_true (by omega)]
      rfl
    rw [if_pos this, Int.toNat_natCast]
  · refine okS.walk (fun i s => ∃ (ps : List (Int × Int)) (low : Int) (w4 w5 : Option W) (st : DrawSt), ps.length = i ∧ (∀ p ∈ ps, p.1 ≤ p.2) ∧ (∀ (i : Nat) (p q : Int × Int), ps[i]? = some p → ps[i + 1]? = some q → p.2 + 1 < q.1) ∧ (∀ p ∈ ps, dot - 4000 ≤ p.1 ∧ p.2 ≤ low) ∧ (∀ p, ps[i - 1]? = some p → p.2 + 1 < low) ∧ dot - 4000 ≤ low ∧ low ≤ dot + 4000 + i * 3702 ∧ (w4 = none ∨ ∃ d, w4 = some (.fz d)) ∧ (w5 = none ∨ ∃ d, w5 = some (.fz d)) ∧ DrOk1 st ∧ s = spSt dot low (ps.map mk) w4 w5 sto st) ?_ ?_ ?_
    · exact ⟨[], low, none, none, st3, rfl, fun _ h => (by cases h), fun i p q h => (by cases h), fun _ h => (by cases h), fun _ h => (by cases h), by omega, by omega, .inl rfl, .inl rfl, hd3, rfl⟩
    · rintro i d s hi ⟨ps, low, w4, w5, st, hl, h1, h2, h3, h3b, h4, h5, hw4, hw5, hst, rfl⟩
      obtain ⟨rfl, hlt⟩ := rangeL_get 0 _ i d hi
      refine ⟨spSt dot low (ps.map mk) (some (.fz (.int (0 + (i : Nat))))) w5 sto st, by rcases hw4 with rfl | ⟨_, rfl⟩ <;> rfl, ?_⟩
      unfold L_law_spans_0
      refine okS.seq (okS.asg (ok.op2R rfl (ok.call (ds := [.draw, .lst [.int 0, .int 1, .int 50, .int 700]]) rfl rfl (pick_gives (st := st) rfl hst (by show 0 < 4; decide) (by show 4 < 1073741824; decide) fun x hx st3 hd3 => ?_))))
      obtain ⟨m, rfl, hm1, hm2⟩ : ∃ m : Int, x = .int m ∧ 0 ≤ m ∧ m ≤ 700 := by
        simp only [List.mem_cons, List.not_mem_nil, or_false] at hx
        rcases hx with rfl | rfl | rfl | rfl <;> exact ⟨_, rfl, by decide, by decide⟩
      refine ⟨.int low, .fz (.int (low + m)), rfl, rfl, by rcases hw5 with rfl | ⟨_, rfl⟩ <;> rfl, ?_⟩
      have hz : ((ps.map mk).map spD).length < sizeLine := by
        rw [List.length_map, List.length_map]
        exact Nat.lt_of_lt_of_le (show ps.length < 10 by omega) (by decide)
      show okS _ (spSt dot low (ps.map mk) (some (.fz (.int (0 + (i : Nat))))) (some (.fz (.int (low + m)))) sto st3) _ _
      refine okS.seq (okS.expr (ok.eq (append_eq (i := 3) (ds := (ps.map mk).map spD) rfl (dV_eq (t := .fz (spD (mk (low, low + m)))) rfl) rfl rfl hz) ?_))
      refine okS.asg (ok.op2R rfl (ok.call (ds := [.draw, .lst [.int 0, .int 1, .int 10, .int 200, .int 3000]]) rfl rfl (pick_gives (st := st3) rfl hd3 (by show 0 < 5; decide) (by show 5 < 1073741824; decide) fun x hx st4 hd4 => ?_)))
      obtain ⟨k, rfl, hk1, hk2⟩ : ∃ m : Int, x = .int m ∧ 0 ≤ m ∧ m ≤ 3000 := by
        simp only [List.mem_cons, List.not_mem_nil, or_false] at hx
        rcases hx with rfl | rfl | rfl | rfl | rfl <;> exact ⟨_, rfl, by decide, by decide⟩
      refine ⟨.int (low + m + 2), .fz (.int (low + m + 2 + k)), rfl, rfl, rfl, ps ++ [(low, low + m)], low + m + 2 + k, some (.fz (.int (0 + (i : Nat)))), some (.fz (.int (low + m))), st4, ?_, ?_, ?_, ?_, ?_, by omega, ?_, .inr ⟨_, rfl⟩, .inr ⟨_, rfl⟩, hd4, ?_⟩
      · rw [List.length_append, hl]; rfl
      · intro p hp
        rcases List.mem_append.mp hp with hp | hp
        · exact h1 p hp
        · rw [List.mem_singleton.mp hp]; show low ≤ low + m; omega
      · intro i' p q hp hq
        by_cases hlt2 : i' + 1 < ps.length
        · rw [List.getElem?_append_left (by omega)] at hp
          rw [List.getElem?_append_left hlt2] at hq
          exact h2 i' p q hp hq
        · have hb := (List.getElem?_eq_some_iff.mp hq).1
          rw [List.length_append] at hb
          have he : i' + 1 = ps.length := by simp at hb; omega
          rw [List.getElem?_append_right (by omega), he, Nat.sub_self] at hq
          cases hq
          rw [List.getElem?_append_left (by omega)] at hp
          exact h3b p (by rw [show i - 1 = i' by omega]; exact hp)
      · intro p hp
        rcases List.mem_append.mp hp with hp | hp
        · obtain ⟨a1, a2⟩ := h3 p hp
          exact ⟨a1, by omega⟩
        · rw [List.mem_singleton.mp hp]
          exact ⟨h4, by show low + m ≤ _; omega⟩
      · intro p hp
        rw [Nat.add_sub_cancel, ← hl, List.getElem?_append_right (Nat.le_refl _), Nat.sub_self] at hp
        cases hp
        show low + m + 1 < low + m + 2 + k
        omega
      · omega
      · rw [List.map_append]
        show _ = spSt dot _ (ps.map mk ++ [mk (low, low + m)]) _ _ _ _
        unfold spSt
        rw [List.map_append]
        rfl
    · rintro s' ⟨ps, low, w4, w5, st', hl, h1, h2, h3, h3b, h4, h5, hw4, hw5, hst, rfl⟩
      rw [rangeL_length] at hl h5
      have near : NearS dot (ps.map mk) := near_mk h1 h2 (fun p hp => by
        obtain ⟨a, b⟩ := h3 p hp
        exact ⟨by omega, by omega⟩) (by omega)
      have ne : ps.map mk ≠ [] := fun z => by
        have := congrArg List.length z
        rw [List.length_map] at this
        have e0 : ([] : List Sp).length = 0 := rfl
        omega
      generalize ps.map mk = sp at near ne
      have pos : 0 < sp.length := List.length_pos_iff.mpr ne
      have ix : ∀ {i : Int} {j : Nat} {x : Sp} (sp : List Sp), L2.ixN sp.length i = some j → sp[j]? = some x → ixD (.lst (sp.map spD)) (.int i) = some (.fz (spD x)) := fun {i j x} sp h1 h2 => by
        show (L2.atI (sp.map spD) i).map DL.T.fz = _
        unfold L2.atI
        rw [List.length_map, h1]
        show ((sp.map spD)[j]?).map DL.T.fz = _
        rw [List.getElem?_map, h2]
        rfl
      have lo0 : L2.ixN sp.length 0 = some 0 := by unfold L2.ixN; rw [if_pos (by decide), if_pos (by omega)]; rfl
      have hi1 : ∀ n : Nat, 0 < n → L2.ixN n (-1) = some (n - 1) := fun n hn => by
        unfold L2.ixN
        rw [if_neg (by decide), if_pos (by omega)]
        congr 1
        omega
      have last : ∀ (sp : List Sp) (st : DrawSt), 0 < sp.length → NearS dot sp → DrOk1 st → okS (dSeq (dIf (dB (dOp2 eqT (dV (dCall 4 [.F, .F] [] F_law_take (dCons (dSlot 0) (dCons (dV (dC (.int 5))) (dNil))))) (dV (dC (.int 0))))) (dSub 3 (dV (dTup (dCons (dV (dOp2 ixD (dV (dOp2 ixD (dSlot 3) (dV (dOp1 negD (dV (dC (.int 1))))))) (dV (dC (.int 0))))) (dCons (dV (dC .non)) (dNil))))) (dV (dOp1 negD (dV (dC (.int 1)))))) (dNx)) (dRetV 3)) (spSt dot low sp w4 w5 sto st) (fun _ => False) (fun t s' => [D.draw, D.int dot].length ≤ s'.env.length ∧ Q t { env := env, sto := s'.sto, dr := s'.dr }) := fun sp st pos near hst => by
        refine okS.seq (okS.ite ((take_zero (st := st) (n := 5) rfl hst (by decide) (by decide) rfl (fun _ => rfl)).mono fun b S hS => ?_))
        obtain ⟨st2, hd2, rfl⟩ := hS
        cases b with
        | false => exact no (okS.skip (okS.rt (t := .ow (.lst (sp.map spD))) rfl ⟨by show 2 ≤ 6; decide, h sp st2 near hd2⟩))
        | true =>
          obtain ⟨x, hx⟩ : ∃ x, sp[sp.length - 1]? = some x := ⟨_, List.getElem?_eq_getElem (by omega)⟩
          have i1 := ix sp (hi1 _ pos) hx
          have t1 : dOp2 ixD (dV (dOp2 ixD (dSlot 3) (dV (dOp1 negD (dV (dC (.int 1))))))) (dV (dC (.int 0))) (spSt dot low sp w4 w5 sto st2) = .ok (.fz (oD x.1)) (spSt dot low sp w4 w5 sto st2) := dOp2_eq (dV_eq (dOp2_eq rfl rfl rfl rfl i1)) rfl rfl rfl rfl
          have t2 : dTup (dCons (dV (dOp2 ixD (dV (dOp2 ixD (dSlot 3) (dV (dOp1 negD (dV (dC (.int 1))))))) (dV (dC (.int 0))))) (dCons (dV (dC .non)) (dNil))) (spSt dot low sp w4 w5 sto st2) = .ok (.fz (spD (x.1, none))) (spSt dot low sp w4 w5 sto st2) := dTup_eq (dCons_eq (dV_eq t1) (dCons_eq rfl (k := dNil) rfl)) rfl (by show 2 ≤ sizeLine; decide)
          have t3 : dSub 3 (dV (dTup (dCons (dV (dOp2 ixD (dV (dOp2 ixD (dSlot 3) (dV (dOp1 negD (dV (dC (.int 1))))))) (dV (dC (.int 0))))) (dCons (dV (dC .non)) (dNil))))) (dV (dOp1 negD (dV (dC (.int 1))))) (spSt dot low sp w4 w5 sto st2) = .ok .nx (spSt dot low (sp.set (sp.length - 1) (x.1, none)) w4 w5 sto st2) := by
            refine sub_eq (w := .own (.lst (sp.map spD))) (kd := .int (-1)) (d := spD (x.1, none)) (d' := .lst ((sp.set (sp.length - 1) (x.1, none)).map spD)) (dV_eq t2) rfl rfl rfl rfl ⟨.own (.lst (sp.map spD)), rfl, ?_, rfl⟩
            show (L2.ixN (sp.map spD).length (-1)).map (fun j => D.lst ((sp.map spD).set j (spD (x.1, none)))) = _
            rw [List.length_map, hi1 _ pos, List.map_set]
            rfl
          refine yes (okS.nx t3 ?_)
          exact okS.rt (t := .ow (.lst ((sp.set (sp.length - 1) (x.1, none)).map spD))) rfl ⟨by show 2 ≤ 6; decide, h _ st2 (near.hi hx) hd2⟩
      refine okS.seq (okS.ite ((take_zero (st := st') (n := 5) rfl hst (by decide) (by decide) rfl (fun _ => rfl)).mono fun b S hS => ?_))
      obtain ⟨st2, hd2, rfl⟩ := hS
      cases b with
      | false => exact no (okS.skip (last sp st2 pos near hd2))
      | true =>
        obtain ⟨x, hx⟩ : ∃ x, sp[0]? = some x := ⟨_, List.getElem?_eq_getElem pos⟩
        have i1 := ix sp lo0 hx
        have t1 : dOp2 ixD (dV (dOp2 ixD (dSlot 3) (dV (dC (.int 0))))) (dV (dC (.int 1))) (spSt dot low sp w4 w5 sto st2) = .ok (.fz (oD x.2)) (spSt dot low sp w4 w5 sto st2) := dOp2_eq (dV_eq (dOp2_eq rfl rfl rfl rfl i1)) rfl rfl rfl rfl
        have t2 : dTup (dCons (dV (dC .non)) (dCons (dV (dOp2 ixD (dV (dOp2 ixD (dSlot 3) (dV (dC (.int 0))))) (dV (dC (.int 1))))) (dNil))) (spSt dot low sp w4 w5 sto st2) = .ok (.fz (spD (none, x.2))) (spSt dot low sp w4 w5 sto st2) := dTup_eq (dCons_eq rfl (dCons_eq (dV_eq t1) (k := dNil) rfl)) rfl (by show 2 ≤ sizeLine; decide)
        have t3 : dSub 3 (dV (dTup (dCons (dV (dC .non)) (dCons (dV (dOp2 ixD (dV (dOp2 ixD (dSlot 3) (dV (dC (.int 0))))) (dV (dC (.int 1))))) (dNil))))) (dV (dC (.int 0))) (spSt dot low sp w4 w5 sto st2) = .ok .nx (spSt dot low (sp.set 0 (none, x.2)) w4 w5 sto st2) := by
          refine sub_eq (w := .own (.lst (sp.map spD))) (kd := .int 0) (d := spD (none, x.2)) (d' := .lst ((sp.set 0 (none, x.2)).map spD)) (dV_eq t2) rfl rfl rfl rfl ⟨.own (.lst (sp.map spD)), rfl, ?_, rfl⟩
          show (L2.ixN (sp.map spD).length 0).map (fun j => D.lst ((sp.map spD).set j (spD (none, x.2)))) = _
          rw [List.length_map, lo0, List.map_set]
          rfl
        refine yes (okS.nx t3 ?_)
        exact last (sp.set 0 (none, x.2)) st2 (by rw [List.length_set]; exact pos) (near.lo hx) hd2
end Law

set_option Elab.async false
set_option linter.all false
set_option maxRecDepth 100000
set_option maxHeartbeats 4000000
/-! E43: texts of data; calls with keywords; copies -/
namespace DL
open PySem
section
variable {s s1 s2 s3 : State}
theorem dPick_eq {π : List Nat} {fl : M (List VR)} {rs rs' : List VR} (h : fl s = .ok rs s1) (hl : rs.length = π.length) (hp : pick π rs = rs') : dPick π fl s = .ok rs' s1 := by
  unfold dPick
  rw [bind_eq, h]
  show (if rs.length = π.length then (pure (pick π rs) : M (List VR)) else M.bad) s1 = _
  rw [if_pos hl, hp]
  rfl
/-- a method, whatever it is lent -/
theorem meth_eq {C : Addr} {m : Str} {n : Nat} {ms : List AM} {F : M Flow} {fo : M VR} {fl : M (List VR)} {r : VR} {rs : List VR} {hs : List HS} {ws : List W} {t : T} {sc s0 : State} (e0 : fo s = .ok r s0) (er : recv C m r s0 = .ok () s0) (e : fl s0 = .ok rs s1) (e2 : toHMs ms (r :: rs) s1 = .ok hs s2) (e3 : ents ms hs s2 = some ws) (e4 : oneEach hs = true)
    (h : F { env := ws.map some ++ List.replicate (n - ws.length) none, sto := s2.sto, dr := s2.dr } = .ok (.rt t) sc) (e5 : backS hs ws s2 sc = some s3) : dMeth C m n ms [] F fo fl s = .ok t s3 := by
  unfold dMeth
  rw [bind_eq, e0]
  show (recv C m r >>= fun _ => fl >>= fun rs => dPass n ms [] F (r :: rs)) s0 = _
  rw [bind_eq, er]
  show (fl >>= fun rs => dPass n ms [] F (r :: rs)) s0 = _
  rw [bind_eq, e]
  show dPass n ms [] F (r :: rs) s1 = _
  unfold dPass
  rw [bind_eq, e2]
  show pass2 n ms [] F hs s2 = _
  unfold pass2
  rw [e3]
  simp only
  rw [if_pos e4]
  have e6 : { env := (ws ++ ([] : List D).map W.fz).map some ++ List.replicate (n - (ws.length + ([] : List D).length)) none, sto := s2.sto, dr := s2.dr : State } = { env := ws.map some ++ List.replicate (n - ws.length) none, sto := s2.sto, dr := s2.dr } := by simp
  rw [e6, h]
  show (match backS hs ws s2 sc with | some s' => Rs.ok t s' | none => .bad) = _
  rw [e5]
theorem appT_eq {fo f : M VR} {ds : List D} {r : VR} {d : D} (h : fo s = .ok (.t (.ow (.lst ds))) s1) (h2 : f s1 = .ok r s2) (h3 : frz r s2 = .ok d s3) (hz : ds.length < sizeLine) : dAppT fo f s = .ok (.fz .non) s3 := by
  unfold dAppT
  rw [bind_eq, h]
  show (owLst (.t (.ow (.lst ds))) >>= fun ds => f >>= fun r2 => frz r2 >>= fun d => if ds.length < sizeLine then dC .non else M.bad) s1 = _
  show (f >>= fun r2 => frz r2 >>= fun d => if ds.length < sizeLine then dC .non else M.bad) s1 = _
  rw [bind_eq, h2]
  show (frz r >>= fun d => if ds.length < sizeLine then dC .non else M.bad) s2 = _
  rw [bind_eq, h3]
  show (if ds.length < sizeLine then dC .non else M.bad) s3 = _
  rw [if_pos hz]
  rfl
/-- both texts are of the same data -/
theorem repr_ne {f1 f2 : M (List VR)} {x y : List VR} {d : D} {p : PyData} (h1 : f1 s = .ok x s1) (g1 : readVs x s1 = .ok [d] s1) (h2 : f2 s1 = .ok y s2) (g2 : readVs y s2 = .ok [d] s2) (hp : toPy d = some p) (hs : shows p = true) :
    dB (dOp2 neS (dV (dCallB reprD f1)) (dV (dCallB reprD f2))) s = .ok false s2 := by
  have e0 : reprD [d] = some (.fz (.str p.shown)) := by
    unfold reprD
    simp only [hp]
    rw [if_pos hs]
  exact dB_eq (dOp2_eq (dV_eq (dCallB_eq h1 g1 e0)) (dV_eq (dCallB_eq h2 g2 e0)) rfl rfl (neS_refl _))
end
end DL
namespace Law
open PySem DL
/-! ### texts that fit -/
def small (i : Int) : Prop := i.natAbs < 10 ^ 12
def smallO (o : OI) : Prop := ∀ i, o = some i → small i
def oP : OI → PyData
  | none => .none
  | some i => .int i
def spP (x : Sp) : PyData := .tuple [oP x.1, oP x.2]
theorem oP_py (o : OI) : toPy (oD o) = some (oP o) := by cases o <;> rfl
theorem spP_py (x : Sp) : toPy (spD x) = some (spP x) := by
  show (toPys [oD x.1, oD x.2]).map PyData.tuple = _
  unfold toPys toPys toPys
  rw [oP_py, oP_py]
  rfl
theorem spsP_py : ∀ sp : List Sp, toPys (sp.map spD) = some (sp.map spP)
  | [] => rfl
  | x :: sp => by
    show toPys (spD x :: sp.map spD) = _
    unfold toPys
    rw [spP_py, spsP_py sp]
    rfl
theorem oP_ok {o : OI} (h : smallO o) : (oP o).showable = true ∧ (oP o).leavesShort 13 = true := by
  cases o with
  | none => exact ⟨by simp [oP, PyData.showable], by simp [oP, PyData.leavesShort]⟩
  | some i =>
    have hi : i.natAbs < 10 ^ 12 := h i rfl
    refine ⟨?_, ?_⟩
    · simp only [oP, PyData.showable, decide_eq_true_eq]
      exact PySem.Spec.log2_small (Nat.lt_trans hi (by decide))
    · simp only [oP, PyData.leavesShort, decide_eq_true_eq]
      exact PyData.shown_int_le hi
theorem shows_o {o : OI} (h : smallO o) : shows (oP o) = true := by
  obtain ⟨h1, h2⟩ := oP_ok h
  have h3 : (oP o).depth = 0 := by cases o <;> simp [oP, PyData.depth]
  have h4 : (oP o).bulk = 0 := by cases o <;> simp [oP, PyData.bulk]
  have h5 : (oP o).shown.length ≤ sizeLine := PyData.shown_fits_bulk (B := 13) (by decide) (by decide) h2 (by rw [h4]; decide)
  unfold shows
  rw [h1, decide_eq_true h5, decide_eq_true (by rw [h3]; decide)]
  rfl
def smallS (sp : List Sp) : Prop := ∀ x ∈ sp, smallO x.1 ∧ smallO x.2
theorem sps_ok : ∀ {sp : List Sp}, smallS sp → PyData.showableAll (sp.map spP) = true ∧ PyData.leavesShortAll 13 (sp.map spP) = true ∧ PyData.depthAll (sp.map spP) ≤ 1 ∧ PyData.bulkAll (sp.map spP) ≤ 3 * sp.length
  | [], _ => ⟨by simp [PyData.showableAll], by simp [PyData.leavesShortAll], by simp [PyData.depthAll], by simp [PyData.bulkAll]⟩
  | x :: sp, h => by
    obtain ⟨h1, h2, h3, h4⟩ := sps_ok (sp := sp) fun y hy => h y (List.mem_cons_of_mem _ hy)
    obtain ⟨ha, hb⟩ := h x List.mem_cons_self
    obtain ⟨a1, a2⟩ := oP_ok ha
    obtain ⟨b1, b2⟩ := oP_ok hb
    have d1 : (oP x.1).depth = 0 := by cases x.1 <;> simp [oP, PyData.depth]
    have d2 : (oP x.2).depth = 0 := by cases x.2 <;> simp [oP, PyData.depth]
    have k1 : (oP x.1).bulk = 0 := by cases x.1 <;> simp [oP, PyData.bulk]
    have k2 : (oP x.2).bulk = 0 := by cases x.2 <;> simp [oP, PyData.bulk]
    refine ⟨?_, ?_, ?_, ?_⟩
    · simp [PyData.showableAll, PyData.showable, spP, a1, b1, h1]
    · simp [PyData.leavesShortAll, PyData.leavesShort, spP, a2, b2, h2]
    · simp only [List.map_cons, PyData.depthAll, PyData.depth, spP, d1, d2]; omega
    · simp only [List.map_cons, PyData.bulkAll, PyData.bulk, spP, k1, k2, List.length_cons]; omega
def triP (a b : Int) (sp : List Sp) : PyData := .tuple [.int a, .int b, .list (sp.map spP)]
theorem triP_py (a b : Int) (sp : List Sp) : toPy (.tup [.int a, .int b, .lst (sp.map spD)]) = some (triP a b sp) := by
  have e : toPy (.lst (sp.map spD)) = some (.list (sp.map spP)) := by
    show (toPys (sp.map spD)).map PyData.list = _
    rw [spsP_py]
    rfl
  show (toPys [.int a, .int b, .lst (sp.map spD)]).map PyData.tuple = _
  unfold toPys toPys toPys
  rw [e]
  rfl
theorem shows_tri {a b : Int} {sp : List Sp} (ha : small a) (hb : small b) (hs : smallS sp) (hl : sp.length ≤ 100) : shows (triP a b sp) = true := by
  obtain ⟨h1, h2, h3, h4⟩ := sps_ok hs
  obtain ⟨a1, a2⟩ := oP_ok (o := some a) fun i e => by cases e; exact ha
  obtain ⟨b1, b2⟩ := oP_ok (o := some b) fun i e => by cases e; exact hb
  have s1 : (triP a b sp).showable = true := by
    simp only [triP, PyData.showable, PyData.showableAll, Bool.and_eq_true]
    exact ⟨a1, b1, h1, trivial⟩
  have s2 : (triP a b sp).leavesShort 13 = true := by
    simp only [triP, PyData.leavesShort, PyData.leavesShortAll, Bool.and_eq_true]
    exact ⟨a2, b2, h2, trivial⟩
  have s3 : (triP a b sp).depth ≤ 32 := by simp only [triP, PyData.depth, PyData.depthAll]; omega
  have s4 : (triP a b sp).bulk ≤ 2 ^ 20 := by
    simp only [triP, PyData.bulk, PyData.bulkAll]
    have : (2 : Nat) ^ 20 = 1048576 := by decide
    omega
  unfold shows
  rw [s1, decide_eq_true (PyData.shown_fits_bulk (B := 13) (by decide) (by decide) s2 s4), decide_eq_true s3]
  rfl
end Law

set_option Elab.async false
set_option linter.all false
set_option maxRecDepth 100000
set_option maxHeartbeats 4000000
/-! F43: copies, properties, one turn of the law's inner loop -/
namespace Law
open PySem DL
def fzO (w : Option W) : Prop := w = none ∨ ∃ d, w = some (.fz d)
def free (w : Option W) : Prop := w = none ∨ (∃ d, w = some (.fz d)) ∨ ∃ d, w = some (.own d)
theorem can_free {s : State} {i : Nat} {w : Option W} (e : s.env[i]? = some w) (h : free w) : canSet s i = true := by
  unfold canSet
  rw [e]
  rcases h with rfl | ⟨_, rfl⟩ | ⟨_, rfl⟩ <;> rfl
theorem free_fz {d : D} : free (some (.fz d)) := .inr (.inl ⟨_, rfl⟩)
theorem free_own {d : D} : free (some (.own d)) := .inr (.inr ⟨_, rfl⟩)
theorem free_of {w : Option W} (h : fzO w) : free w := by
  rcases h with h | ⟨d, h⟩
  · exact .inl h
  · exact .inr (.inl ⟨d, h⟩)
theorem fzO_fz {d : D} : fzO (some (.fz d)) := .inr ⟨_, rfl⟩
theorem prop_pure {C : Addr} {F : M DL.Flow} {n : Nat} {m : AM} {fo : M VR} {r : VR} {fs : List (Str × D)} {hs : List HS} {ws : List W} {v : DL.T} {s s0 s2 : State} (h : pureG F n ws v) (e0 : fo s = .ok r s0) (er : readO C r s0 = .ok fs s0) (ow : isOw r = false) (e2 : toHMs [m] [r] s0 = .ok hs s2) (e3 : ents [m] hs s2 = some ws) (e4 : oneEach hs = true) (e5 : ws.all notLent = true) : dProp C n m F fo s = .ok v s2 := by
  unfold dProp
  simp only [bind_eq, e0, er]
  rw [if_pos ow]
  unfold noErr
  rw [pass_pure e2 e3 e4 e5 h]
theorem setF_own {C : Addr} {f : Str} {j : Nat} {fv : M VR} {r : VR} {d : D} {fs : List (Str × D)} {s s1 s2 : State} (h1 : fv s = .ok r s1) (h2 : frz r s1 = .ok d s2) (h3 : s2.env[j]? = some (some (.own (.obj C fs)))) (hl : fs.length < 1000) : dSetF C f (dSlot j) fv s = .ok .nx (putE s2 j (.own (.obj C (putFD f d fs)))) := by
  unfold dSetF
  have e : dSlot j s2 = .ok (.slot j) s2 := by unfold dSlot; rw [h3]
  simp only [bind_eq, h1, h2, e]
  unfold putO
  simp only [h3]
  rw [if_pos ⟨trivial, hl⟩]
section
variable (C : Addr) {d s j r v : Int} {sp : List Sp}
theorem reading_pure : pureG (F_Shown_reading C) 1 [.lkl (.obj C (shF d s j r v sp))] (.fz (.int r)) := .of fun sto dr => by
  unfold F_Shown_reading
  exact okS.ret (ok.eq (s1 := { env := [some (.lkl (.obj C (shF d s j r v sp)))], sto := sto, dr := dr }) (dFld_eq rfl (readO_slot rfl rfl) rfl) ⟨rfl, by show 1 ≤ 1; decide, rfl, rfl⟩)
theorem value_pure : pureG (F_Shown_value C) 1 [.lkl (.obj C (shF d s j r v sp))] (.fz (.int v)) := .of fun sto dr => by
  unfold F_Shown_value
  exact okS.ret (ok.eq (s1 := { env := [some (.lkl (.obj C (shF d s j r v sp)))], sto := sto, dr := dr }) (dFld_eq rfl (readO_slot rfl rfl) rfl) ⟨rfl, by show 1 ≤ 1; decide, rfl, rfl⟩)
theorem spans_pure : pureG (F_Shown_spans C) 1 [.lkl (.obj C (shF d s j r v sp))] (.ow (.lst (sp.map spD))) := .of fun sto dr => by
  unfold F_Shown_spans
  have e : dFld C "c_spans" (dSlot 0) { env := [some (.lkl (.obj C (shF d s j r v sp)))], sto := sto, dr := dr } = .ok (.fz (.lst (sp.map spD))) { env := [some (.lkl (.obj C (shF d s j r v sp)))], sto := sto, dr := dr } := dFld_eq rfl (readO_slot rfl rfl) rfl
  exact okS.ret (ok.eq (dCallB_eq (dCons_eq (dV_eq e) (k := dNil) rfl) rfl rfl) ⟨rfl, by show 1 ≤ 1; decide, rfl, rfl⟩)
theorem copy_pure (hd : 0 ≤ d) (hd2 : d ≤ 500) (hs : 0 ≤ s) (hs2 : s ≤ 900) (hj : 0 ≤ j) (hr : 0 ≤ r) (hr2 : r ≤ 1000000000) : pureG (F_Shown_copy C) 5 [.lkl (.obj C (shF d s j r v sp))] (.ow (.obj C (shF d s j r v sp))) := .of fun sto dr => by
  unfold F_Shown_copy
  have fld : ∀ (f : Str) (x : D) (e : List (Option W)), (shF d s j r v sp).lookup f = some x → dFld C f (dSlot 0) { env := some (.lkl (.obj C (shF d s j r v sp))) :: e, sto := sto, dr := dr } = .ok (.fz x) { env := some (.lkl (.obj C (shF d s j r v sp))) :: e, sto := sto, dr := dr } := fun f x e h => dFld_eq rfl (readO_slot rfl rfl) h
  refine okS.seq (okS.nx (s1 := { env := [some (.lkl (.obj C (shF d s j r v sp))), some (.fz (.int d)), some (.fz (.int s)), some (.fz (.int j)), none], sto := sto, dr := dr }) (dUn_eq (dV_eq (fld "c_rules" _ _ rfl)) rfl rfl) ?_)
  have mk1 := make_eq (C := C) (n := 6) (ms := [.F, .F, .F, .F, .F]) (F := F_Shown_init C) (fl := dCons (dSlot 1) (dCons (dSlot 2) (dCons (dSlot 3) (dCons (dV (dFld C "c_reading" (dSlot 0))) (dCons (dV (dFld C "c_value" (dSlot 0))) (dNil)))))) (sto := sto) (dr := dr) (e' := [some (.fz (.int d)), some (.fz (.int s)), some (.fz (.int j)), some (.fz (.int r)), some (.fz (.int v))]) (fs := shF d s j r v []) (ds := [.int d, .int s, .int j, .int r, .int v]) (s := { env := [some (.lkl (.obj C (shF d s j r v sp))), some (.fz (.int d)), some (.fz (.int s)), some (.fz (.int j)), none], sto := sto, dr := dr }) (dCons_eq rfl (dCons_eq rfl (dCons_eq rfl (dCons_eq (dV_eq (fld "c_reading" _ _ rfl)) (dCons_eq (dV_eq (fld "c_value" _ _ rfl)) (k := dNil) rfl))))) rfl (init_eq C hd hd2 hs hs2 hj hr hr2 sto dr) (by show 5 ≤ 5; decide)
  refine okS.seq (okS.asg (ok.eq mk1 ⟨rfl, ?_⟩))
  refine okS.seq (okS.nx (setF_own (j := 4) (fs := shF d s j r v []) (d := .lst (sp.map spD)) (dV_eq (dCallB_eq (dCons_eq (dV_eq (fld "c_spans" _ _ rfl)) (k := dNil) rfl) rfl rfl)) rfl rfl (by show 4 < 1000; decide)) ?_)
  exact okS.rt (t := .ow (.obj C (shF d s j r v sp))) rfl ⟨rfl, by show 1 ≤ 5; decide, rfl, rfl⟩
end
/-! ### the inner loop -/
def spL (sp : List Sp) : D := .lst (sp.map spD)
def inS (ns : List Int) (C : Addr) (w2 : Option W) (d s j r v : Int) (sp : List Sp) (m9 : W) (w10 : Option W) (T : Int) (w12 w13 w14 w15 w16 w17 : Option W) (st : DrawSt) : State :=
  { env := [some (.fz (.frl ns)), some (.fz .draw), w2, some (.fz (.int d)), some (.fz (.int s)), some (.fz (.int j)), some (.fz (.int r)), some (.fz (.int v)), some (.own (.obj C (shF d s j r v sp))), some m9, w10, some (.fz (.int T)), w12, w13, w14, w15, w16, w17], sto := [], dr := some st }
structure Known (d s j r v : Int) (sp : List Sp) : Prop where
  d0 : 0 ≤ d
  d1 : d ≤ 500
  s0 : 0 ≤ s
  s1 : s ≤ 900
  j0 : 0 ≤ j
  r0 : 0 ≤ r
  r1 : r ≤ 1000000
  good : GoodSp sp
  len : sp.length ≤ 3
  bv : absI v ≤ 100000000
  ws : smallS sp
  way : ∀ w, wayR sp v = some w → absI w ≤ 100000000
theorem small_of {i : Int} (h : absI i ≤ 1000000000) : small i := by
  unfold small
  have := absI_cases i
  have e : (10 : Nat) ^ 12 = 1000000000000 := by decide
  omega
section
variable {ns : List Int} {C : Addr} {w2 : Option W} {d s j r v : Int} {sp : List Sp} {m9 : W} {w10 : Option W} {T : Int} {w12 w13 w14 w15 w16 w17 : Option W} {st : DrawSt}
theorem Known.later {t : Int} (K : Known d s j r v sp) (ht : 0 ≤ t) (ht2 : t ≤ 50) : absI (laterR d s v t sp - v - 1000 * t) ≤ 45000 := by
  unfold laterR
  have st : s * t ≤ 45000 := Int.le_trans (Int.mul_le_mul_of_nonneg_right K.s1 ht) (by omega)
  cases e : wayR sp v with
  | none =>
    rw [more_none e]
    have := absI_cases (v + 1000 * t + 0 - v - 1000 * t)
    omega
  | some w =>
    rw [more_some e]
    have h := (mv_facts (w := w) (d := d) (s := s) (t := t) K.d0 K.s0 ht).1
    have := absI_cases (v + 1000 * t + mv w d s t - v - 1000 * t)
    have := absI_cases (mv w d s t)
    omega
theorem Known.dist {t : Int} (K : Known d s j r v sp) (ht : 0 ≤ t) : smallO (distR d s v t sp) := by
  intro i hi
  rw [dist_later (good_le K.good) K.d0 K.s0 ht] at hi
  cases e : wayR sp v with
  | none => rw [e] at hi; cases hi
  | some w =>
    rw [e] at hi
    cases hi
    have hw := K.way w e
    have td : 0 ≤ t * (d + s) := Int.mul_nonneg ht (by have := K.d0; have := K.s0; omega)
    refine small_of ?_
    show absI (absI (remW w d s t)) ≤ 1000000000
    unfold remW remF
    have c := absI_cases w
    split
    · have := absI_cases (max 0 (w - t * (d + s))); have := absI_cases (absI (max 0 (w - t * (d + s)))); omega
    · have := absI_cases (-(max 0 (-w - t * (d + s)))); have := absI_cases (absI (-(max 0 (-w - t * (d + s))))); omega
theorem at_in {f : M VR} {x : VR} {t : Int} (K : Known d s j r v sp) (ht : 0 ≤ t) (ht2 : t ≤ 1000) (h : f (inS ns C w2 d s j r v sp m9 w10 T w12 w13 w14 w15 w16 w17 st) = .ok x (inS ns C w2 d s j r v sp m9 w10 T w12 w13 w14 w15 w16 w17 st))
    (hx : toHMs [.R, .F] [.slot 8, x] (inS ns C w2 d s j r v sp m9 w10 T w12 w13 w14 w15 w16 w17 st) = .ok [.slot 8, .d (.int (r + t))] (inS ns C w2 d s j r v sp m9 w10 T w12 w13 w14 w15 w16 w17 st)) :
    dMeth C "at" 8 [.R, .F] [] (F_Shown_at C) (dSlot 8) (dCons f dNil) (inS ns C w2 d s j r v sp m9 w10 T w12 w13 w14 w15 w16 w17 st) = .ok (.fz (.int (laterR d s v t sp))) (inS ns C w2 d s j r v sp m9 w10 T w12 w13 w14 w15 w16 w17 st) := by
  have k := meth_pure (C := C) (m := "at") (ms := [.R, .F]) (fo := dSlot 8) (at_pure C (j := j) (v := v) (sp := sp) (show r ≤ r + t by omega) (by have := K.r1; omega) K.d0 K.d1 K.s0 K.s1) (s := inS ns C w2 d s j r v sp m9 w10 T w12 w13 w14 w15 w16 w17 st) rfl (recv_slot rfl rfl rfl) (dCons_eq h (k := dNil) rfl) hx rfl rfl rfl
  rw [show r + t - r = t by omega] at k
  exact k
theorem dist_in {f : M VR} {x : VR} {t : Int} (K : Known d s j r v sp) (ht : 0 ≤ t) (ht2 : t ≤ 1000) (h : f (inS ns C w2 d s j r v sp m9 w10 T w12 w13 w14 w15 w16 w17 st) = .ok x (inS ns C w2 d s j r v sp m9 w10 T w12 w13 w14 w15 w16 w17 st))
    (hx : toHMs [.R, .F] [.slot 8, x] (inS ns C w2 d s j r v sp m9 w10 T w12 w13 w14 w15 w16 w17 st) = .ok [.slot 8, .d (.int (r + t))] (inS ns C w2 d s j r v sp m9 w10 T w12 w13 w14 w15 w16 w17 st)) :
    dMeth C "distance" 4 [.R, .F] [] (F_Shown_distance C) (dSlot 8) (dPick [0] (dCons f dNil)) (inS ns C w2 d s j r v sp m9 w10 T w12 w13 w14 w15 w16 w17 st) = .ok (.fz (oD (distR d s v t sp))) (inS ns C w2 d s j r v sp m9 w10 T w12 w13 w14 w15 w16 w17 st) := by
  have k := meth_pure (C := C) (m := "distance") (ms := [.R, .F]) (fo := dSlot 8) (fl := dPick [0] (dCons f dNil)) (dist_pure C (j := j) (v := v) (sp := sp) (show r ≤ r + t by omega) (by have := K.r1; omega) K.d0 K.d1 K.s0 K.s1 (Nat.le_trans K.len (by decide))) (s := inS ns C w2 d s j r v sp m9 w10 T w12 w13 w14 w15 w16 w17 st) rfl (recv_slot rfl rfl rfl) (dPick_eq (dCons_eq h (k := dNil) rfl) rfl rfl) hx rfl rfl rfl
  rw [show r + t - r = t by omega] at k
  exact k
theorem later12 {t : Nat} (K : Known d s j r v sp) (ht2 : t ≤ 50) (h9 : m9 = .own (spL sp) ∨ m9 = .fz (spL sp)) :
    dCall 7 [.F, .F, .F, .F, .F] [] F_law_later (dCons (dSlot 7) (dCons (dSlot 9) (dCons (dSlot 3) (dCons (dSlot 4) (dCons (dSlot 12) dNil))))) (inS ns C w2 d s j r v sp m9 w10 T (some (.fz (.int t))) w13 w14 w15 w16 w17 st) = .ok (.fz (.int (laterR d s v t sp))) (inS ns C w2 d s j r v sp (.fz (spL sp)) w10 T (some (.fz (.int t))) w13 w14 w15 w16 w17 st) := by
  have p := later_pure (v := v) (t := t) (good_le K.good) (Nat.le_trans K.len (by decide)) K.d0 K.d1 K.s0 (by omega)
  rcases h9 with rfl | rfl
  · exact call_pure p (rs := [.slot 7, .slot 9, .slot 3, .slot 4, .slot 12]) (hs := [.d (.int v), .d (spL sp), .d (.int d), .d (.int s), .d (.int t)]) rfl rfl rfl rfl rfl
  · exact call_pure p (rs := [.slot 7, .slot 9, .slot 3, .slot 4, .slot 12]) (hs := [.d (.int v), .d (spL sp), .d (.int d), .d (.int s), .d (.int t)]) rfl rfl rfl rfl rfl
theorem later11 {t : Nat} (K : Known d s j r v sp) (ht2 : t ≤ 50) (h9 : m9 = .own (spL sp) ∨ m9 = .fz (spL sp)) :
    dCall 7 [.F, .F, .F, .F, .F] [] F_law_later (dCons (dSlot 7) (dCons (dSlot 9) (dCons (dSlot 3) (dCons (dSlot 4) (dCons (dSlot 11) dNil))))) (inS ns C w2 d s j r v sp m9 w10 t w12 w13 w14 w15 w16 w17 st) = .ok (.fz (.int (laterR d s v t sp))) (inS ns C w2 d s j r v sp (.fz (spL sp)) w10 t w12 w13 w14 w15 w16 w17 st) := by
  have p := later_pure (v := v) (t := t) (good_le K.good) (Nat.le_trans K.len (by decide)) K.d0 K.d1 K.s0 (by omega)
  rcases h9 with rfl | rfl
  · exact call_pure p (rs := [.slot 7, .slot 9, .slot 3, .slot 4, .slot 11]) (hs := [.d (.int v), .d (spL sp), .d (.int d), .d (.int s), .d (.int t)]) rfl rfl rfl rfl rfl
  · exact call_pure p (rs := [.slot 7, .slot 9, .slot 3, .slot 4, .slot 11]) (hs := [.d (.int v), .d (spL sp), .d (.int d), .d (.int s), .d (.int t)]) rfl rfl rfl rfl rfl
theorem gap_in {k : Nat} {due : Int} (K : Known d s j r v sp) (hdue : due = laterR d s v k sp) :
    dCall 3 [.F, .F] [] F_law_gap (dCons (dSlot 13) (dCons (dV (dCall 7 [.F, .F, .F] [] F_law_wide (dCons (dSlot 9) (dCons (dSlot 3) (dCons (dSlot 12) dNil))))) dNil)) (inS ns C w2 d s j r v sp (.fz (spL sp)) w10 T (some (.fz (.int k))) (some (.fz (.int due))) w14 w15 w16 w17 st) = .ok (.fz (oD (distR d s v k sp))) (inS ns C w2 d s j r v sp (.fz (spL sp)) w10 T (some (.fz (.int k))) (some (.fz (.int due))) w14 w15 w16 w17 st) := by
  have e1 := call_pure (wideL_pure (t := (k : Nat)) (sp := sp) K.d0 K.d1 (Nat.le_trans K.len (by decide))) (ms := [.F, .F, .F]) (fl := dCons (dSlot 9) (dCons (dSlot 3) (dCons (dSlot 12) dNil))) (s := inS ns C w2 d s j r v sp (.fz (spL sp)) w10 T (some (.fz (.int k))) (some (.fz (.int due))) w14 w15 w16 w17 st) rfl rfl rfl rfl rfl
  have e2 := call_pure (gapL_pure (wideL d k sp) due) (ms := [.F, .F]) (fl := dCons (dSlot 13) (dCons (dV (dCall 7 [.F, .F, .F] [] F_law_wide (dCons (dSlot 9) (dCons (dSlot 3) (dCons (dSlot 12) dNil))))) dNil)) (s := inS ns C w2 d s j r v sp (.fz (spL sp)) w10 T (some (.fz (.int k))) (some (.fz (.int due))) w14 w15 w16 w17 st) (dCons_eq rfl (dCons_eq (dV_eq e1) (k := dNil) rfl)) rfl rfl rfl rfl
  have k0 : 0 ≤ d * (k : Int) := Int.mul_nonneg K.d0 (Int.natCast_nonneg k)
  have le : LeS (wideL d k sp) := by rw [wideL_eq]; exact shift_le (wide_le (good_le K.good) k0)
  have e3 : ((nearR (wideL d k sp) due).map fun n => absI (n - due)) = distR d s v k sp := by
    rw [near_way le, ← gap_later, hdue]
    cases wayR (wideL d k sp) (laterR d s v k sp) with
    | none => rfl
    | some w =>
      show some (absI (w + laterR d s v k sp - laterR d s v k sp)) = some (absI w)
      rw [show w + laterR d s v k sp - laterR d s v k sp = w by omega]
  rw [e3] at e2
  exact e2
theorem inner_turn {k : Nat} (K : Known d s j r v sp) (hk : k ≤ 41) (h9 : m9 = .own (spL sp) ∨ m9 = .fz (spL sp)) (h13 : fzO w13) {Rt : DL.T → State → Prop} :
    okS (L_law_0 C) (inS ns C w2 d s j r v sp m9 w10 T (some (.fz (.int k))) w13 w14 w15 w16 w17 st)
      (fun S => S = inS ns C w2 d s j r v sp (.fz (spL sp)) w10 T (some (.fz (.int k))) (some (.fz (.int (laterR d s v k sp)))) w14 w15 w16 w17 st) Rt := by
  have hk0 : (0 : Int) ≤ k := Int.natCast_nonneg k
  have bl := K.later (t := k) hk0 (by omega)
  have bv := K.bv
  unfold L_law_0
  refine okS.seq (okS.asg (ok.eq (later12 (t := k) K (by omega) h9) ⟨can_free rfl (free_of h13), ?_⟩))
  generalize hd : laterR d s v k sp = due at bl
  show okS _ (inS ns C w2 d s j r v sp (.fz (spL sp)) w10 T (some (.fz (.int k))) (some (.fz (.int due))) w14 w15 w16 w17 st) _ _
  have a1 := at_in (C := C) (ns := ns) (w2 := w2) (m9 := .fz (spL sp)) (w10 := w10) (T := T) (w12 := some (.fz (.int k))) (w13 := some (.fz (.int due))) (w14 := w14) (w15 := w15) (w16 := w16) (w17 := w17) (st := st) (f := dV (dOp2 addD (dSlot 6) (dSlot 12))) (x := .t (.fz (.int (r + k)))) (t := k) K hk0 (by omega) rfl rfl
  rw [hd] at a1
  have c1 : absI due ≤ 1000000000 := by
    have := absI_cases (due - v - 1000 * k); have := absI_cases v; have := absI_cases due
    omega
  refine okS.seq (okS.ite (ok.eq (repr_ne (d := .int due) (p := oP (some due)) (dCons_eq (dV_eq a1) (k := dNil) rfl) rfl (dCons_eq rfl (k := dNil) rfl) rfl rfl (shows_o fun i e => by cases e; exact small_of c1)) (no (okS.skip ?_))))
  have a2 := dist_in (C := C) (ns := ns) (w2 := w2) (m9 := .fz (spL sp)) (w10 := w10) (T := T) (w12 := some (.fz (.int k))) (w13 := some (.fz (.int due))) (w14 := w14) (w15 := w15) (w16 := w16) (w17 := w17) (st := st) (f := dV (dOp2 addD (dSlot 6) (dSlot 12))) (x := .t (.fz (.int (r + k)))) (t := k) K hk0 (by omega) rfl rfl
  have g := gap_in (C := C) (ns := ns) (w2 := w2) (w10 := w10) (T := T) (w14 := w14) (w15 := w15) (w16 := w16) (w17 := w17) (st := st) (k := k) K hd.symm
  exact okS.ite (ok.eq (repr_ne (d := oD (distR d s v k sp)) (p := oP (distR d s v k sp)) (dCons_eq (dV_eq a2) (k := dNil) rfl) rfl (dCons_eq (dV_eq g) (k := dNil) rfl) rfl (oP_py _) (shows_o (K.dist hk0))) (no (okS.skip rfl)))
end
end Law

set_option Elab.async false
set_option linter.all false
set_option maxRecDepth 100000
set_option maxHeartbeats 4000000
/-! K43: one update of the law's clock -/
namespace Law
open PySem DL
def lawS (ns : List Int) (C : Addr) (w2 : Option W) (d s j r v : Int) (o8 : List (Str × D)) (m9 : W) (w10 w11 w12 w13 w14 w15 w16 w17 : Option W) (st : DrawSt) : State :=
  { env := [some (.fz (.frl ns)), some (.fz .draw), w2, some (.fz (.int d)), some (.fz (.int s)), some (.fz (.int j)), some (.fz (.int r)), some (.fz (.int v)), some (.own (.obj C o8)), some m9, w10, w11, w12, w13, w14, w15, w16, w17], sto := [], dr := some st }
/-- what the law knows of its clock behind m updates -/
structure Bet (m : Nat) (d s j r v : Int) (sp : List Sp) : Prop where
  d0 : 0 ≤ d
  d1 : d ≤ 500
  s0 : 0 ≤ s
  s1 : s ≤ 900
  j0 : 0 ≤ j
  r0 : 0 ≤ r
  r1 : r ≤ 50 + 41 * m
  bv : absI v ≤ 10000 + 2000000 * m
  near : ∃ p, NearS p sp ∧ absI (v - p) ≤ 1000000
theorem small_near {p : Int} {sp : List Sp} (n : NearS p sp) (hp : absI p ≤ 100000000) : smallS sp := fun x hx => by
  have c := absI_cases p
  obtain ⟨h1, h2⟩ := n.near x hx
  refine ⟨fun i hi => ?_, fun i hi => ?_⟩
  · have := h1 i hi
    exact small_of (by have := absI_cases i; omega)
  · have := h2 i hi
    exact small_of (by have := absI_cases i; omega)
theorem Bet.known {m : Nat} {d s j r v : Int} {sp : List Sp} (B : Bet m d s j r v sp) (hm : m ≤ 5) : Known d s j r v sp := by
  obtain ⟨p, n, hp⟩ := B.near
  have bv := B.bv
  have c1 := absI_cases v; have c2 := absI_cases (v - p); have c3 := absI_cases p
  refine ⟨B.d0, B.d1, B.s0, B.s1, B.j0, B.r0, by have := B.r1; omega, n.good, n.len, by omega, small_near n (by omega), fun w hw => ?_⟩
  have := way_small n hw
  omega
def Mid (ns : List Int) (C : Addr) (w2 : Option W) (d s j : Int) (m : Nat) (S : State) : Prop := ∃ (r v : Int) (sp : List Sp) (m9 : W) (w10 w11 w12 w13 w14 w15 w16 w17 : Option W) (st : DrawSt), Bet m d s j r v sp ∧ (m9 = .own (spL sp) ∨ m9 = .fz (spL sp)) ∧ fzO w10 ∧ fzO w11 ∧ fzO w12 ∧ fzO w13 ∧ free w14 ∧ fzO w15 ∧ free w16 ∧ fzO w17 ∧ DrOk1 st ∧ S = lawS ns C w2 d s j r v (shF d s j r v sp) m9 w10 w11 w12 w13 w14 w15 w16 w17 st
section
variable {ns : List Int} {C : Addr} {w2 : Option W} {d s j r v : Int} {sp : List Sp} {m9 : W} {w10 : Option W} {w12 w13 w14 w15 w16 w17 : Option W} {st : DrawSt}
theorem inner_loop {n : Nat} {N : Int} (hN : (n : Int) = N) (K : Known d s j r v sp) (hn : n < 41) (h9 : m9 = .own (spL sp) ∨ m9 = .fz (spL sp)) (f12 : fzO w12) (f13 : fzO w13) {Nx : State → Prop} {Rt : DL.T → State → Prop}
    (h : ∀ (m9 : W) (w12 w13 : Option W), (m9 = .own (spL sp) ∨ m9 = .fz (spL sp)) → fzO w12 → fzO w13 → Nx (inS ns C w2 d s j r v sp m9 w10 N w12 w13 w14 w15 w16 w17 st)) :
    okS (dFor itR1 (.name 12) (L_law_0 C) (dCons (dV (dOp2 addD (dSlot 11) (dV (dC (.int 1))))) (dNil))) (inS ns C w2 d s j r v sp m9 w10 N w12 w13 w14 w15 w16 w17 st) Nx Rt := by
  have f3 : itR1 [.int (N + 1)] = some (rangeL 0 (n + 1)) := by
    show (if bnd62 (N + 1) = true then some (rangeL 0 (N + 1).toNat) else none) = _
    have z : bnd62 (N + 1) = true := by unfold bnd62; rw [Bool.and_eq_true, decide_eq_true_eq, decide_eq_true_eq]; omega
    rw [if_pos z, show (N + 1).toNat = n + 1 by omega]
  have f1 : dCons (dV (dOp2 addD (dSlot 11) (dV (dC (.int 1))))) (dNil) (inS ns C w2 d s j r v sp m9 w10 N w12 w13 w14 w15 w16 w17 st) = .ok [.t (.fz (.int (N + 1)))] (inS ns C w2 d s j r v sp m9 w10 N w12 w13 w14 w15 w16 w17 st) := dCons_eq (dV_eq (dOp2_eq rfl rfl rfl rfl rfl)) (k := dNil) rfl
  have f2 : ∀ (y : D) (S : State), toHSs [.t (.fz y)] S = .ok ([y].map HS.d) S := fun _ _ => rfl
  refine okS.forV (ds := [.int (N + 1)]) f1 (f2 _ _) f3 ?_
  refine okS.walk (fun _ S => ∃ (m9 : W) (w12 w13 : Option W), (m9 = .own (spL sp) ∨ m9 = .fz (spL sp)) ∧ fzO w12 ∧ fzO w13 ∧ S = inS ns C w2 d s j r v sp m9 w10 N w12 w13 w14 w15 w16 w17 st) ⟨m9, w12, w13, h9, f12, f13, rfl⟩ ?_ ?_
  · rintro i x S hi ⟨m9, w12, w13, h9, f12, f13, rfl⟩
    obtain ⟨rfl, hlt⟩ := rangeL_get 0 _ i x hi
    refine ⟨inS ns C w2 d s j r v sp m9 w10 N (some (.fz (.int (i : Nat)))) w13 w14 w15 w16 w17 st, ?_, ?_⟩
    · rw [Int.zero_add]
      rcases f12 with rfl | ⟨_, rfl⟩ <;> rfl
    · refine (inner_turn (k := i) K (by omega) h9 f13).mono (fun S h => ?_) fun _ _ h => h
      exact ⟨_, _, _, .inr rfl, fzO_fz, fzO_fz, h⟩
  · rintro S ⟨m9, w12, w13, h9, f12, f13, rfl⟩
    exact h m9 w12 w13 h9 f12 f13
theorem step_eval {v' : Int} {sp' : List Sp} {o8 : List (Str × D)} {w11 : Option W} (le : LeS sp') :
    ok (dIf (dAnd (dB (dOp2 isNotD (dSlot 15) (dV (dC .non)))) (dB (dOp2 gtD (dV (dOp2 subD (dSlot 15) (dSlot 7))) (dSlot 5)))) (dOp2 subD (dSlot 15) (dSlot 7)) (dC (.int 0))) (lawS ns C w2 d s j r v' o8 m9 w10 w11 w12 w13 w14 (some (.fz (oD (nearR sp' v')))) w16 w17 st)
      (fun x S => x = .fz (.int (stepR j (wayR sp' v'))) ∧ S = lawS ns C w2 d s j r v' o8 m9 w10 w11 w12 w13 w14 (some (.fz (oD (nearR sp' v')))) w16 w17 st) := by
  rw [near_way le]
  cases wayR sp' v' with
  | none => exact ok.ite (ok.and (ok.eq (a := false) rfl (no (no (ok.eq rfl ⟨rfl, rfl⟩)))))
  | some w =>
    have e : w + v' - v' = w := by omega
    show ok _ (lawS ns C w2 d s j r v' o8 m9 w10 w11 w12 w13 w14 (some (.fz (.int (w + v')))) w16 w17 st) (fun x S => x = DL.T.fz (.int (if j < w then w else 0)) ∧ S = lawS ns C w2 d s j r v' o8 m9 w10 w11 w12 w13 w14 (some (.fz (.int (w + v')))) w16 w17 st)
    refine ok.ite (ok.and (ok.eq (a := true) rfl (yes (ok.dec (P := j < w + v' - v') rfl (fun h => yes (ok.eq (a := DL.T.fz (.int (w + v' - v'))) rfl ⟨?_, rfl⟩)) fun h => no (ok.eq rfl ⟨?_, rfl⟩)))))
    · rw [e] at h ⊢
      rw [if_pos h]
    · rw [e] at h
      rw [if_neg h]
theorem learn_in {v' t : Int} {sp' : List Sp} {w11 : Option W} (K : Known d s j r v sp) (g : GoodSp sp') (ht : 0 ≤ t) (ht2 : t ≤ 1000) (hv : laterR d s v t sp = v') :
    dMeth C "learn" 6 [.L, .F, .R] [] (F_Shown_learn C) (dSlot 8) (dPick [1, 0] (dCons (dSlot 16) (dCons (dSlot 6) (dNil)))) (lawS ns C w2 d s j (r + t) v' (shF d s j r v sp) m9 w10 w11 w12 w13 w14 w15 (some (.own (spL sp'))) w17 st)
      = .ok (.fz (.int (stepR j (wayR sp' v')))) (lawS ns C w2 d s j (r + t) v' (shF d s j (r + t) (v' + stepR j (wayR sp' v')) sp') m9 w10 w11 w12 w13 w14 w15 (some (.own (spL sp'))) w17 st) := by
  obtain ⟨e', le, hl⟩ := learn_eqL C (j := j) (r := r) (v := v) (t := r + t) (sp := sp) g (by omega) (by have := K.r1; omega) K.d0 K.d1 K.s0 K.s1 [] (some st)
  have nv : newV d s v (r + t - r) sp = v' := by
    rw [show r + t - r = t by omega]
    exact hv
  rw [nv] at le
  match e', hl with
  | a :: b :: rest, _ =>
    exact meth_eq (ws := [.lent (.obj C (shF d s j r v sp)), .fz (.int (r + t)), .lkl (.lst (sp'.map spD))]) rfl (recv_slot rfl rfl rfl) (dPick_eq (dCons_eq rfl (dCons_eq rfl (k := dNil) rfl)) rfl rfl) rfl rfl rfl le rfl
theorem tri_eval {a b r' v' : Int} {sp' : List Sp} {w11 : Option W} :
    dTup (dCons (dV (dProp C 1 .R (F_Shown_reading C) (dSlot 8))) (dCons (dV (dProp C 1 .R (F_Shown_value C) (dSlot 8))) (dCons (dV (dProp C 1 .R (F_Shown_spans C) (dSlot 8))) (dNil)))) (lawS ns C w2 d s j r' v' (shF d s j a b sp') m9 w10 w11 w12 w13 w14 w15 w16 w17 st)
      = .ok (.fz (.tup [.int a, .int b, .lst (sp'.map spD)])) (lawS ns C w2 d s j r' v' (shF d s j a b sp') m9 w10 w11 w12 w13 w14 w15 w16 w17 st) := by
  have p1 := prop_pure (C := C) (m := .R) (fo := dSlot 8) (fs := shF d s j a b sp') (s := lawS ns C w2 d s j r' v' (shF d s j a b sp') m9 w10 w11 w12 w13 w14 w15 w16 w17 st) (reading_pure C (d := d) (s := s) (j := j) (r := a) (v := b) (sp := sp')) rfl (readO_slot rfl rfl) rfl rfl rfl rfl rfl
  have p2 := prop_pure (C := C) (m := .R) (fo := dSlot 8) (fs := shF d s j a b sp') (s := lawS ns C w2 d s j r' v' (shF d s j a b sp') m9 w10 w11 w12 w13 w14 w15 w16 w17 st) (value_pure C (d := d) (s := s) (j := j) (r := a) (v := b) (sp := sp')) rfl (readO_slot rfl rfl) rfl rfl rfl rfl rfl
  have p3 := prop_pure (C := C) (m := .R) (fo := dSlot 8) (fs := shF d s j a b sp') (s := lawS ns C w2 d s j r' v' (shF d s j a b sp') m9 w10 w11 w12 w13 w14 w15 w16 w17 st) (spans_pure C (d := d) (s := s) (j := j) (r := a) (v := b) (sp := sp')) rfl (readO_slot rfl rfl) rfl rfl rfl rfl rfl
  exact dTup_eq (dCons_eq (dV_eq p1) (dCons_eq (dV_eq p2) (dCons_eq (dV_eq p3) (k := dNil) rfl))) rfl (by show 3 ≤ sizeLine; decide)
theorem mid_turn {m : Nat} {S : State} (hm : m < 5) (h : Mid ns C w2 d s j m S) {Rt : DL.T → State → Prop} : okS (L_law_1 C) S (Mid ns C w2 d s j (m + 1)) Rt := by
  obtain ⟨r, v, sp, m9, w10, w11, w12, w13, w14, w15, w16, w17, st, B, h9, f10, f11, f12, f13, f14, f15, f16, f17, hd, rfl⟩ := h
  have K := B.known (by omega)
  unfold L_law_1
  refine okS.seq (okS.asg (ok.call (ds := [.draw, .int 41]) (s1 := lawS ns C w2 d s j r v (shF d s j r v sp) m9 w10 w11 w12 w13 w14 w15 w16 w17 st) rfl rfl (take_gives (st := st) rfl hd (by decide) (by decide) fun T st1 T0 T1 hd1 => ?_)))
  obtain ⟨n, hN⟩ : ∃ n : Nat, (n : Int) = T := ⟨T.toNat, by omega⟩
  have hn : n < 41 := by omega
  refine ⟨can_free rfl (free_of f11), ?_⟩
  show okS _ (inS ns C w2 d s j r v sp m9 w10 T w12 w13 w14 w15 w16 w17 st1) _ _
  refine okS.seq (inner_loop hN K hn h9 f12 f13 fun m9 w12 w13 h9 f12 f13 => ?_)
  have hn0 := T0
  have bl := K.later (t := T) hn0 (by omega)
  have cp := meth_pure (C := C) (m := "copy") (ms := [.R]) (fo := dSlot 8) (fl := dNil') (copy_pure C (d := d) (s := s) (j := j) (r := r) (v := v) (sp := sp) K.d0 K.d1 K.s0 K.s1 K.j0 K.r0 (by have := K.r1; omega)) (s := inS ns C w2 d s j r v sp m9 w10 T w12 w13 w14 w15 w16 w17 st1) rfl (recv_slot rfl rfl rfl) rfl rfl rfl rfl rfl
  have lt := later11 (C := C) (ns := ns) (w2 := w2) (m9 := m9) (w10 := w10) (w12 := w12) (w13 := w13) (w14 := w14) (w15 := w15) (w16 := w16) (w17 := w17) (st := st1) (t := n) K (by omega) h9
  rw [hN] at lt
  generalize hv : laterR d s v T sp = v' at bl lt
  have c1 : absI v' ≤ 10000 + 2000000 * m + 100000 := by
    have := absI_cases (v' - v - 1000 * T); have := absI_cases v; have := absI_cases v'; have := B.bv
    omega
  have e6 : dOp2 addD (dSlot 6) (dSlot 11) (inS ns C w2 d s j r v sp (.fz (spL sp)) w10 T w12 w13 w14 w15 w16 w17 st1) = .ok (.fz (.int (r + T))) (inS ns C w2 d s j r v sp (.fz (spL sp)) w10 T w12 w13 w14 w15 w16 w17 st1) := dOp2_eq rfl rfl rfl rfl rfl
  refine okS.seq (okS.par3 (ok.eq cp (ok.eq lt (ok.eq e6 ⟨can_free rfl f14, rfl, rfl, ?_⟩))))
  show okS _ (lawS ns C w2 d s j (r + T) v' (shF d s j r v sp) (.fz (spL sp)) w10 (some (.fz (.int T))) w12 w13 (some (.own (.obj C (shF d s j r v sp)))) w15 w16 w17 st1) _ _
  refine okS.seq (okS.asg (ok.call (ds := [.draw, .int v']) (s1 := lawS ns C w2 d s j (r + T) v' (shF d s j r v sp) (.fz (spL sp)) w10 (some (.fz (.int T))) w12 w13 (some (.own (.obj C (shF d s j r v sp)))) w15 w16 w17 st1) rfl rfl (spans_gives (st := st1) rfl hd1 fun sp' st2 near hd2 => ⟨rfl, ?_⟩)))
  show okS _ (lawS ns C w2 d s j (r + T) v' (shF d s j r v sp) (.own (spL sp')) w10 (some (.fz (.int T))) w12 w13 (some (.own (.obj C (shF d s j r v sp)))) w15 w16 w17 st2) _ _
  have le := good_le near.good
  have np := call_pure (near_pure sp' v') (ms := [.F, .F]) (fl := dCons (dSlot 9) (dCons (dSlot 7) dNil)) (s := lawS ns C w2 d s j (r + T) v' (shF d s j r v sp) (.own (spL sp')) w10 (some (.fz (.int T))) w12 w13 (some (.own (.obj C (shF d s j r v sp)))) w15 w16 w17 st2) (s1 := lawS ns C w2 d s j (r + T) v' (shF d s j r v sp) (.own (spL sp')) w10 (some (.fz (.int T))) w12 w13 (some (.own (.obj C (shF d s j r v sp)))) w15 w16 w17 st2) (s2 := lawS ns C w2 d s j (r + T) v' (shF d s j r v sp) (.fz (spL sp')) w10 (some (.fz (.int T))) w12 w13 (some (.own (.obj C (shF d s j r v sp)))) w15 w16 w17 st2) rfl rfl rfl rfl rfl
  have ls : dCallB listD (dCons (dSlot 9) dNil) (lawS ns C w2 d s j (r + T) v' (shF d s j r v sp) (.fz (spL sp')) w10 (some (.fz (.int T))) w12 w13 (some (.own (.obj C (shF d s j r v sp)))) w15 w16 w17 st2) = .ok (.ow (spL sp')) (lawS ns C w2 d s j (r + T) v' (shF d s j r v sp) (.fz (spL sp')) w10 (some (.fz (.int T))) w12 w13 (some (.own (.obj C (shF d s j r v sp)))) w15 w16 w17 st2) := dCallB_eq (dCons_eq rfl (k := dNil) rfl) rfl rfl
  refine okS.seq (okS.par (ok.eq np (ok.eq ls ⟨can_free rfl (free_of f15), can_free rfl f16, ?_⟩)))
  show okS _ (lawS ns C w2 d s j (r + T) v' (shF d s j r v sp) (.fz (spL sp')) w10 (some (.fz (.int T))) w12 w13 (some (.own (.obj C (shF d s j r v sp)))) (some (.fz (oD (nearR sp' v')))) (some (.own (spL sp'))) w17 st2) _ _
  refine okS.seq (okS.asg ((step_eval le).mono fun x S hx => ?_))
  obtain ⟨rfl, rfl⟩ := hx
  refine ⟨can_free rfl (free_of f17), ?_⟩
  generalize hst : stepR j (wayR sp' v') = step
  show okS _ (lawS ns C w2 d s j (r + T) v' (shF d s j r v sp) (.fz (spL sp')) w10 (some (.fz (.int T))) w12 w13 (some (.own (.obj C (shF d s j r v sp)))) (some (.fz (oD (nearR sp' v')))) (some (.own (spL sp'))) (some (.fz (.int step))) st2) _ _
  obtain ⟨w15', h15, f15'⟩ : ∃ w15' : Option W, some (W.fz (oD (nearR sp' v'))) = w15' ∧ fzO w15' := ⟨_, rfl, fzO_fz⟩
  rw [h15]
  have cs : absI step ≤ 1000000 := by
    rw [← hst]
    cases e : wayR sp' v' with
    | none => show absI 0 ≤ _; decide
    | some w =>
      have := way_small near e
      rw [show v' - v' = 0 by omega, show absI 0 = 0 from rfl] at this
      show absI (if j < w then w else 0) ≤ _
      split
      · omega
      · decide
  have ln := learn_in (C := C) (ns := ns) (w2 := w2) (m9 := .fz (spL sp')) (w10 := w10) (w11 := some (.fz (.int T))) (w12 := w12) (w13 := w13) (w14 := (some (.own (.obj C (shF d s j r v sp))))) (w15 := w15') (w17 := some (.fz (.int step))) (st := st2) (t := T) K near.good T0 (by omega) hv
  rw [hst] at ln
  have r1 := B.r1
  have r0 := B.r0
  have sm : shows (oP (some step)) = true := shows_o fun i e => by cases e; exact small_of (by omega)
  have sv : shows (oP (some v')) = true := shows_o fun i e => by cases e; exact small_of (by omega)
  have ta := meth_pure (C := C) (m := "at") (ms := [.R, .F]) (fo := dSlot 14) (fl := dCons (dSlot 6) dNil) (at_pure C (j := j) (r := r) (v := v) (sp := sp) (t := r + T) (by omega) (by omega) K.d0 K.d1 K.s0 K.s1) (s := lawS ns C w2 d s j (r + T) v' (shF d s j (r + T) (v' + step) sp') (.fz (spL sp')) w10 (some (.fz (.int T))) w12 w13 (some (.own (.obj C (shF d s j r v sp)))) w15' (some (.own (spL sp'))) (some (.fz (.int step))) st2) rfl (recv_slot rfl rfl rfl) (dCons_eq rfl (k := dNil) rfl) rfl rfl rfl rfl
  have hv2 : v + 1000 * (r + T - r) + moreR d s v (r + T - r) sp = v' := by rw [show r + T - r = T by omega]; exact hv
  rw [hv2] at ta
  refine okS.seq (okS.ite (ok.or (ok.eq (repr_ne (d := .int step) (p := oP (some step)) (dCons_eq (dV_eq ln) (k := dNil) rfl) rfl (dCons_eq rfl (k := dNil) rfl) rfl rfl sm) (no (ok.eq (repr_ne (d := .int v') (p := oP (some v')) (dCons_eq (dV_eq ta) (k := dNil) rfl) rfl (dCons_eq rfl (k := dNil) rfl) rfl rfl sv) (no (okS.skip ?_)))))))
  refine okS.seq (okS.asg (ok.eq (a := .fz (.int (v' + step))) (s1 := lawS ns C w2 d s j (r + T) v' (shF d s j (r + T) (v' + step) sp') (.fz (spL sp')) w10 (some (.fz (.int T))) w12 w13 (some (.own (.obj C (shF d s j r v sp)))) w15' (some (.own (spL sp'))) (some (.fz (.int step))) st2) (dOp2_eq rfl rfl rfl rfl rfl) ⟨rfl, ?_⟩))
  show okS _ (lawS ns C w2 d s j (r + T) (v' + step) (shF d s j (r + T) (v' + step) sp') (.fz (spL sp')) w10 (some (.fz (.int T))) w12 w13 (some (.own (.obj C (shF d s j r v sp)))) w15' (some (.own (spL sp'))) (some (.fz (.int step))) st2) _ _
  have ec : dClear 16 (lawS ns C w2 d s j (r + T) (v' + step) (shF d s j (r + T) (v' + step) sp') (.fz (spL sp')) w10 (some (.fz (.int T))) w12 w13 (some (.own (.obj C (shF d s j r v sp)))) w15' (some (.own (spL sp'))) (some (.fz (.int step))) st2) = .ok (.fz .non) (lawS ns C w2 d s j (r + T) (v' + step) (shF d s j (r + T) (v' + step) sp') (.fz (spL sp')) w10 (some (.fz (.int T))) w12 w13 (some (.own (.obj C (shF d s j r v sp)))) w15' (some (.own (.lst []))) (some (.fz (.int step))) st2) := rfl
  refine okS.seq (okS.expr (ok.eq ec ?_))
  have tri := tri_eval (C := C) (ns := ns) (w2 := w2) (d := d) (s := s) (j := j) (a := r + T) (b := v' + step) (r' := r + T) (v' := v' + step) (sp' := sp') (m9 := .fz (spL sp')) (w10 := w10) (w11 := some (.fz (.int T))) (w12 := w12) (w13 := w13) (w14 := (some (.own (.obj C (shF d s j r v sp))))) (w15 := w15') (w16 := (some (.own (.lst [])))) (w17 := some (.fz (.int step))) (st := st2)
  have tr2 : dTup (dCons (dSlot 6) (dCons (dSlot 7) (dCons (dSlot 9) (dNil)))) (lawS ns C w2 d s j (r + T) (v' + step) (shF d s j (r + T) (v' + step) sp') (.fz (spL sp')) w10 (some (.fz (.int T))) w12 w13 (some (.own (.obj C (shF d s j r v sp)))) w15' (some (.own (.lst []))) (some (.fz (.int step))) st2) = .ok (.fz (.tup [.int (r + T), .int (v' + step), .lst (sp'.map spD)])) (lawS ns C w2 d s j (r + T) (v' + step) (shF d s j (r + T) (v' + step) sp') (.fz (spL sp')) w10 (some (.fz (.int T))) w12 w13 (some (.own (.obj C (shF d s j r v sp)))) w15' (some (.own (.lst []))) (some (.fz (.int step))) st2) := dTup_eq (dCons_eq rfl (dCons_eq rfl (dCons_eq rfl (k := dNil) rfl))) rfl (by show 3 ≤ sizeLine; decide)
  have bv := B.bv
  have cv : absI (v' + step) ≤ 10000 + 2000000 * ((m : Int) + 1) := by
    have := absI_cases v'; have := absI_cases step; have := absI_cases (v' + step)
    omega
  have st3 : shows (triP (r + T) (v' + step) sp') = true := shows_tri (small_of (by have := absI_cases (r + T); omega)) (small_of (by omega)) (small_near near (by omega)) (Nat.le_trans near.len (by decide))
  refine okS.seq (okS.ite (ok.eq (repr_ne (d := .tup [.int (r + T), .int (v' + step), .lst (sp'.map spD)]) (p := triP (r + T) (v' + step) sp') (dCons_eq (dV_eq tri) (k := dNil) rfl) rfl (dCons_eq (dV_eq tr2) (k := dNil) rfl) rfl (triP_py _ _ _) st3) (no (okS.skip ?_))))
  have p3 := prop_pure (C := C) (m := .R) (fo := dSlot 8) (fs := (shF d s j (r + T) (v' + step) sp')) (s := lawS ns C w2 d s j (r + T) (v' + step) (shF d s j (r + T) (v' + step) sp') (.fz (spL sp')) w10 (some (.fz (.int T))) w12 w13 (some (.own (.obj C (shF d s j r v sp)))) w15' (some (.own (.lst []))) (some (.fz (.int step))) st2) (spans_pure C (d := d) (s := s) (j := j) (r := r + T) (v := v' + step) (sp := sp')) rfl (readO_slot rfl rfl) rfl rfl rfl rfl rfl
  have t12 : dTup (dCons (dV (dC (.int 1))) (dCons (dV (dC (.int 2))) (dNil))) (lawS ns C w2 d s j (r + T) (v' + step) (shF d s j (r + T) (v' + step) sp') (.fz (spL sp')) w10 (some (.fz (.int T))) w12 w13 (some (.own (.obj C (shF d s j r v sp)))) w15' (some (.own (.lst []))) (some (.fz (.int step))) st2) = .ok (.fz (.tup [.int 1, .int 2])) (lawS ns C w2 d s j (r + T) (v' + step) (shF d s j (r + T) (v' + step) sp') (.fz (spL sp')) w10 (some (.fz (.int T))) w12 w13 (some (.own (.obj C (shF d s j r v sp)))) w15' (some (.own (.lst []))) (some (.fz (.int step))) st2) := rfl
  have hz : (sp'.map spD).length < sizeLine := by
    rw [List.length_map]
    exact Nat.lt_of_le_of_lt near.len (by decide)
  refine okS.seq (okS.expr (ok.eq (appT_eq (dV_eq p3) (dV_eq t12) rfl hz) ?_))
  obtain ⟨e', le1, hl1⟩ := learn_eq C (j := j) (r := r) (v := v) (t := r + T) (sp := sp) (sp' := []) (near_nil 0).good (by omega) (by omega) K.d0 K.d1 K.s0 K.s1 [] (some st2)
  have tl := meth_lend (C := C) (F := F_Shown_learn C) (m := "learn") (n := 6) (ms := [.F, .F]) (i := 14) (ds := [.int (r + T), .lst []]) (fl := dCons (dSlot 6) (dCons (dV (dLst dNil)) dNil)) (s := lawS ns C w2 d s j (r + T) (v' + step) (shF d s j (r + T) (v' + step) sp') (.fz (spL sp')) w10 (some (.fz (.int T))) w12 w13 (some (.own (.obj C (shF d s j r v sp)))) w15' (some (.own (.lst []))) (some (.fz (.int step))) st2) (s1 := lawS ns C w2 d s j (r + T) (v' + step) (shF d s j (r + T) (v' + step) sp') (.fz (spL sp')) w10 (some (.fz (.int T))) w12 w13 (some (.own (.obj C (shF d s j r v sp)))) w15' (some (.own (.lst []))) (some (.fz (.int step))) st2) (s2 := lawS ns C w2 d s j (r + T) (v' + step) (shF d s j (r + T) (v' + step) sp') (.fz (spL sp')) w10 (some (.fz (.int T))) w12 w13 (some (.own (.obj C (shF d s j r v sp)))) w15' (some (.own (.lst []))) (some (.fz (.int step))) st2) rfl rfl rfl rfl rfl rfl le1 hl1
  have p4 := prop_pure (C := C) (m := .R) (fo := dSlot 8) (fs := (shF d s j (r + T) (v' + step) sp')) (s := lawS ns C w2 d s j (r + T) (v' + step) (shF d s j (r + T) (v' + step) sp') (.fz (spL sp')) w10 (some (.fz (.int T))) w12 w13 (some (.own (.obj C (shF d s j (r + T) (newV d s v (r + T - r) sp + stepR j (wayR [] (newV d s v (r + T - r) sp))) [])))) w15' (some (.own (.lst []))) (some (.fz (.int step))) st2) (spans_pure C (d := d) (s := s) (j := j) (r := r + T) (v := v' + step) (sp := sp')) rfl (readO_slot rfl rfl) rfl rfl rfl rfl rfl
  refine okS.ite (ok.or (ok.eq (dB_eq (b := false) (dOp2_eq (dV_eq tl) rfl rfl rfl (neT_refl (Shp.int 0 0) (by decide)))) (no (ok.eq (dB_eq (b := false) (dOp2_eq (d := .lst (sp'.map spD)) (e := .lst (sp'.map spD)) (dV_eq p4) rfl rfl rfl (neT_refl (Shp.lst (shp_sps sp')) (by decide)))) (no (okS.skip ?_))))))
  have em : ((m + 1 : Nat) : Int) = (m : Int) + 1 := by omega
  have B2 : Bet (m + 1) d s j (r + T) (v' + step) sp' := ⟨B.d0, B.d1, B.s0, B.s1, B.j0, by omega, by rw [em]; omega, by rw [em]; exact cv, v', near, by rw [show v' + step - v' = step by omega]; exact cs⟩
  exact ⟨r + T, v' + step, sp', .fz (spL sp'), w10, some (.fz (.int T)), w12, w13, (some (.own (.obj C (shF d s j (r + T) (newV d s v (r + T - r) sp + stepR j (wayR [] (newV d s v (r + T - r) sp))) [])))), w15', some (.own (.lst [])), some (.fz (.int step)), st2, B2, .inr rfl, f10, fzO_fz, f12, f13, free_own, f15', free_own, fzO_fz, hd2, rfl⟩
end
end Law

set_option Elab.async false
set_option linter.all false
set_option maxRecDepth 100000
set_option maxHeartbeats 4000000
/-! P43: one clock; the law -/
namespace Law
open PySem DL
def outS (ns : List Int) (w2 w3 w4 w5 w6 w7 w8 w9 w10 w11 w12 w13 w14 w15 w16 w17 : Option W) (st : DrawSt) : State :=
  { env := [some (.fz (.frl ns)), some (.fz .draw), w2, w3, w4, w5, w6, w7, w8, w9, w10, w11, w12, w13, w14, w15, w16, w17], sto := [], dr := some st }
def Out (ns : List Int) (S : State) : Prop := ∃ (w2 w3 w4 w5 w6 w7 w8 w9 w10 w11 w12 w13 w14 w15 w16 w17 : Option W) (st : DrawSt), fzO w2 ∧ free w3 ∧ free w4 ∧ free w5 ∧ free w6 ∧ free w7 ∧ free w8 ∧ free w9 ∧ fzO w10 ∧ fzO w11 ∧ fzO w12 ∧ fzO w13 ∧ free w14 ∧ fzO w15 ∧ free w16 ∧ fzO w17 ∧ DrOk1 st ∧ S = outS ns w2 w3 w4 w5 w6 w7 w8 w9 w10 w11 w12 w13 w14 w15 w16 w17 st
theorem out_turn (C : Addr) {ns : List Int} {S : State} (h : Out ns S) {Rt : DL.T → State → Prop} : okS (L_law_2 C) S (Out ns) Rt := by
  obtain ⟨w2, w3, w4, w5, w6, w7, w8, w9, w10, w11, w12, w13, w14, w15, w16, w17, st, f2, f3, f4, f5, f6, f7, f8, f9, f10, f11, f12, f13, f14, f15, f16, f17, hd, rfl⟩ := h
  unfold L_law_2
  refine okS.seq (okS.par (ok.call (ds := [.draw, .lst [.int 0, .int 1, .int 50, .int 500]]) rfl rfl (pick_gives (st := st) rfl hd (by show 0 < 4; decide) (by show 4 < 1073741824; decide) fun x hx st1 hd1 => ok.call (ds := [.draw, .lst [.int 0, .int 1, .int 10, .int 300, .int 900]]) rfl rfl (pick_gives (st := st1) rfl hd1 (by show 0 < 5; decide) (by show 5 < 1073741824; decide) fun y hy st2 hd2 => ⟨can_free rfl f3, can_free rfl f4, ?_⟩))))
  obtain ⟨d, rfl, d0, d1⟩ : ∃ d : Int, x = .int d ∧ 0 ≤ d ∧ d ≤ 500 := by
    simp only [List.mem_cons, List.not_mem_nil, or_false] at hx
    rcases hx with rfl | rfl | rfl | rfl <;> exact ⟨_, rfl, by decide, by decide⟩
  obtain ⟨s, rfl, s0, s1⟩ : ∃ s : Int, y = .int s ∧ 0 ≤ s ∧ s ≤ 900 := by
    simp only [List.mem_cons, List.not_mem_nil, or_false] at hy
    rcases hy with rfl | rfl | rfl | rfl | rfl <;> exact ⟨_, rfl, by decide, by decide⟩
  show okS _ (outS ns w2 (some (.fz (.int d))) (some (.fz (.int s))) w5 w6 w7 w8 w9 w10 w11 w12 w13 w14 w15 w16 w17 st2) _ _
  refine okS.seq (okS.par3 (ok.call (ds := [.draw, .lst [.int 0, .int 1, .int 100, .int 1000000000]]) rfl rfl (pick_gives (st := st2) rfl hd2 (by show 0 < 4; decide) (by show 4 < 1073741824; decide) fun x hx st3 hd3 => ok.call (ds := [.draw, .int 50]) rfl rfl (take_gives (st := st3) rfl hd3 (by decide) (by decide) fun r st4 r0 r1 hd4 => ok.op2L (ok.call (ds := [.draw, .int 9000]) rfl rfl (take_gives (st := st4) rfl hd4 (by decide) (by decide) fun k st5 k0 k1 hd5 => ⟨.t (.fz (.int 4000)), _, .int 4000, .fz (.int (k - 4000)), rfl, rfl, rfl, can_free rfl f5, can_free rfl f6, can_free rfl f7, ?_⟩))))))
  obtain ⟨j, rfl, j0⟩ : ∃ j : Int, x = .int j ∧ 0 ≤ j := by
    simp only [List.mem_cons, List.not_mem_nil, or_false] at hx
    rcases hx with rfl | rfl | rfl | rfl <;> exact ⟨_, rfl, by decide⟩
  obtain ⟨v, hv⟩ : ∃ v : Int, k - 4000 = v := ⟨_, rfl⟩
  rw [hv]
  show okS _ (outS ns w2 (some (.fz (.int d))) (some (.fz (.int s))) (some (.fz (.int j))) (some (.fz (.int r))) (some (.fz (.int v))) w8 w9 w10 w11 w12 w13 w14 w15 w16 w17 st5) _ _
  have mk1 := make_eq (C := C) (n := 6) (ms := [.F, .F, .F, .F, .F]) (F := F_Shown_init C) (fl := dPick [4, 3, 2, 1, 0] (dCons (dSlot 7) (dCons (dSlot 6) (dCons (dSlot 5) (dCons (dSlot 4) (dCons (dSlot 3) (dNil))))))) (ds := [.int d, .int s, .int j, .int r, .int v]) (s := outS ns w2 (some (.fz (.int d))) (some (.fz (.int s))) (some (.fz (.int j))) (some (.fz (.int r))) (some (.fz (.int v))) w8 w9 w10 w11 w12 w13 w14 w15 w16 w17 st5) (dPick_eq (rs' := [.slot 3, .slot 4, .slot 5, .slot 6, .slot 7]) (dCons_eq rfl (dCons_eq rfl (dCons_eq rfl (dCons_eq rfl (dCons_eq rfl (k := dNil) rfl))))) rfl rfl) rfl (init_eq C d0 d1 s0 s1 j0 r0 (by omega) [] (some st5)) (by show 5 ≤ 5; decide)
  refine okS.seq (okS.par (ok.eq mk1 (ok.eq (a := .ow (.lst [])) rfl ⟨can_free rfl f8, can_free rfl f9, ?_⟩)))
  show okS _ (lawS ns C w2 d s j r v (shF d s j r v []) (.own (spL [])) w10 w11 w12 w13 w14 w15 w16 w17 st5) _ _
  have tri := tri_eval (C := C) (ns := ns) (w2 := w2) (d := d) (s := s) (j := j) (a := r) (b := v) (r' := r) (v' := v) (sp' := []) (m9 := .own (spL [])) (w10 := w10) (w11 := w11) (w12 := w12) (w13 := w13) (w14 := w14) (w15 := w15) (w16 := w16) (w17 := w17) (st := st5)
  have tr2 : dTup (dCons (dSlot 6) (dCons (dSlot 7) (dCons (dV (dLst (dNil))) (dNil)))) (lawS ns C w2 d s j r v (shF d s j r v []) (.own (spL [])) w10 w11 w12 w13 w14 w15 w16 w17 st5) = .ok (.fz (.tup [.int r, .int v, .lst (([] : List Sp).map spD)])) (lawS ns C w2 d s j r v (shF d s j r v []) (.own (spL [])) w10 w11 w12 w13 w14 w15 w16 w17 st5) := dTup_eq (dCons_eq rfl (dCons_eq rfl (dCons_eq rfl (k := dNil) rfl))) rfl (by show 3 ≤ sizeLine; decide)
  have cv : absI v ≤ 10000 := by have := absI_cases v; omega
  have st3 : shows (triP r v []) = true := shows_tri (small_of (by have := absI_cases r; omega)) (small_of (by omega)) (fun _ h => by cases h) (by decide)
  refine okS.seq (okS.ite (ok.eq (repr_ne (d := .tup [.int r, .int v, .lst (([] : List Sp).map spD)]) (p := triP r v []) (dCons_eq (dV_eq tri) (k := dNil) rfl) rfl (dCons_eq (dV_eq tr2) (k := dNil) rfl) rfl (triP_py _ _ _) st3) (no (okS.skip ?_))))
  have cnt : ok (dCons (dV (dOp2 addD (dV (dC (.int 1))) (dV (dCall 4 [.F, .F] [] F_law_take (dCons (dSlot 1) (dCons (dV (dC (.int 5))) (dNil))))))) (dNil)) (lawS ns C w2 d s j r v (shF d s j r v []) (.own (spL [])) w10 w11 w12 w13 w14 w15 w16 w17 st5) (fun rs S => ∃ (q : Nat) (st' : DrawSt), rs = [.t (.fz (.int (q : Nat)))] ∧ q ≤ 5 ∧ DrOk1 st' ∧ S = lawS ns C w2 d s j r v (shF d s j r v []) (.own (spL [])) w10 w11 w12 w13 w14 w15 w16 w17 st') := by
    have tk : ok (dCall 4 [.F, .F] [] F_law_take (dCons (dSlot 1) (dCons (dV (dC (.int 5))) (dNil)))) (lawS ns C w2 d s j r v (shF d s j r v []) (.own (spL [])) w10 w11 w12 w13 w14 w15 w16 w17 st5) (fun x S => ∃ (n : Int) (st' : DrawSt), x = .fz (.int n) ∧ 0 ≤ n ∧ n < 5 ∧ DrOk1 st' ∧ S = lawS ns C w2 d s j r v (shF d s j r v []) (.own (spL [])) w10 w11 w12 w13 w14 w15 w16 w17 st') :=
      ok.call (ds := [.draw, .int 5]) (s1 := lawS ns C w2 d s j r v (shF d s j r v []) (.own (spL [])) w10 w11 w12 w13 w14 w15 w16 w17 st5) rfl rfl (take_gives (st := st5) rfl hd5 (by decide) (by decide) fun q st' q0 q1 hd' => ⟨q, st', rfl, q0, q1, hd', rfl⟩)
    obtain ⟨_, _, e2, q, st6, rfl, q0, q1, hd6, rfl⟩ := tk
    refine ok.eq (dCons_eq (dV_eq (dOp2_eq (d := .int 1) (e := .int q) (t := .fz (.int (((1 + q).toNat : Nat) : Int))) rfl (dV_eq e2) rfl rfl ?_)) (k := dNil) rfl) ⟨(1 + q).toNat, st6, rfl, by omega, hd6, rfl⟩
    show some (DL.T.fz (.int (1 + q))) = _
    rw [show (((1 + q).toNat : Nat) : Int) = 1 + q by omega]
  refine okS.forO (cnt.mono fun rs S hr => ?_)
  obtain ⟨q, st6, rfl, q5, hd6, rfl⟩ := hr
  refine ⟨[.int (q : Nat)], rangeL 0 q, lawS ns C w2 d s j r v (shF d s j r v []) (.own (spL [])) w10 w11 w12 w13 w14 w15 w16 w17 st6, rfl, ?_, ?_⟩
  · show (if bnd62 ((q : Nat) : Int) = true then some (rangeL 0 ((q : Nat) : Int).toNat) else none) = _
    have : bnd62 ((q : Nat) : Int) = true := by
      unfold bnd62
      rw [decide_eq_true (by omega), decide_eq_true (by omega)]
      rfl
    rw [if_pos this, Int.toNat_natCast]
  · refine okS.walk (fun i S => Mid ns C w2 d s j i S) ?_ ?_ ?_
    · exact ⟨r, v, [], .own (spL []), w10, w11, w12, w13, w14, w15, w16, w17, st6, ⟨d0, d1, s0, s1, j0, r0, by omega, by omega, v, near_nil v, by rw [show v - v = 0 by omega]; decide⟩, .inl rfl, f10, f11, f12, f13, f14, f15, f16, f17, hd6, rfl⟩
    · rintro i x S hi ⟨r, v, sp, m9, w10, w11, w12, w13, w14, w15, w16, w17, st, B, h9, f10, rest⟩
      obtain ⟨rfl, hlt⟩ := rangeL_get 0 _ i x hi
      obtain ⟨f11, f12, f13, f14, f15, f16, f17, hd, rfl⟩ := rest
      refine ⟨lawS ns C w2 d s j r v (shF d s j r v sp) m9 (some (.fz (.int (0 + (i : Nat))))) w11 w12 w13 w14 w15 w16 w17 st, by rcases f10 with rfl | ⟨_, rfl⟩ <;> rfl, ?_⟩
      exact mid_turn (by omega) ⟨r, v, sp, m9, _, w11, w12, w13, w14, w15, w16, w17, st, B, h9, fzO_fz, f11, f12, f13, f14, f15, f16, f17, hd, rfl⟩
    · rintro S ⟨r, v, sp, m9, w10, w11, w12, w13, w14, w15, w16, w17, st, B, h9, f10, f11, f12, f13, f14, f15, f16, f17, hd, rfl⟩
      have f9 : free (some m9) := by rcases h9 with rfl | rfl; exact free_own; exact free_fz
      exact ⟨w2, some (.fz (.int d)), some (.fz (.int s)), some (.fz (.int j)), some (.fz (.int r)), some (.fz (.int v)), some (.own (.obj C (shF d s j r v sp))), some m9, w10, w11, w12, w13, w14, w15, w16, w17, st, f2, free_fz, free_fz, free_fz, free_fz, free_fz, free_own, f9, f10, f11, f12, f13, f14, f15, f16, f17, hd, rfl⟩
theorem begin_ok {ns : List Int} (h : ns.length ≤ 63) : DrOk1 (beginSt ns) := by
  refine ⟨?_, ?_, ?_, ?_⟩
  · show (0 : Int) ≤ 7; decide
  · show (7 : Int) < 2147483629; decide
  · show (largeOf ns).length ≤ 63
    unfold largeOf
    rw [List.length_map]
    exact Nat.le_trans (List.length_filter_le _ _) h
  · exact h
theorem math (a_Shown : Addr) (ns : List Int) (h : ns.length ≤ 63) : ∃ s', F_law a_Shown (lawSt ns 16) = .ok (.rt (.fz (.bl true))) s' := by
  have k : okS (F_law a_Shown) (lawSt ns 16) (fun _ => False) (fun t s' => t = .fz (.bl true)) := by
    unfold F_law
    refine okS.seq (okS.forV (ds := [.int (3 + min (ns.length : Int) 8)]) (items := rangeL 0 (3 + min (ns.length : Int) 8).toNat) (s2 := lawSt ns 16) rfl rfl (if_pos ?_) (okS.walk (fun _ S => Out ns S) ?_ ?_ ?_))
    · unfold bnd62
      rw [Bool.and_eq_true, decide_eq_true_eq, decide_eq_true_eq]
      omega
    · exact ⟨none, none, none, none, none, none, none, none, none, none, none, none, none, none, none, none, beginSt ns, .inl rfl, .inl rfl, .inl rfl, .inl rfl, .inl rfl, .inl rfl, .inl rfl, .inl rfl, .inl rfl, .inl rfl, .inl rfl, .inl rfl, .inl rfl, .inl rfl, .inl rfl, .inl rfl, begin_ok h, rfl⟩
    · rintro i x S hi ⟨w2, w3, w4, w5, w6, w7, w8, w9, w10, w11, w12, w13, w14, w15, w16, w17, st, f2, f⟩
      obtain ⟨rfl, hlt⟩ := rangeL_get _ _ i x hi
      obtain ⟨f3, f4, f5, f6, f7, f8, f9, f10, f11, f12, f13, f14, f15, f16, f17, hd, rfl⟩ := f
      refine ⟨outS ns (some (.fz (.int (0 + (i : Int))))) w3 w4 w5 w6 w7 w8 w9 w10 w11 w12 w13 w14 w15 w16 w17 st, ?_, out_turn a_Shown ⟨_, w3, w4, w5, w6, w7, w8, w9, w10, w11, w12, w13, w14, w15, w16, w17, st, fzO_fz, f3, f4, f5, f6, f7, f8, f9, f10, f11, f12, f13, f14, f15, f16, f17, hd, rfl⟩⟩
      rcases f2 with rfl | ⟨_, rfl⟩ <;> rfl
    · rintro S h
      exact okS.rt rfl rfl
  unfold okS at k
  cases q : F_law a_Shown (lawSt ns 16) with
  | bad => rw [q] at k; exact k.elim
  | err x s' => rw [q] at k; exact k.elim
  | ok f s' =>
    rw [q] at k
    cases f with
    | nx => exact k.elim
    | bk => exact k.elim
    | ct => exact k.elim
    | rt t => cases k; exact ⟨s', rfl⟩
end Law

open PySem PySem.W PyProof.Rows
set_option Elab.async false
set_option maxRecDepth 100000 in
set_option maxHeartbeats 0 in
theorem PySem.Challenge.cw_surehour_k43_shown_clocks_tick_by_tick_holds : PySem.Challenge.rw_surehour_k43_shown_clocks_tick_by_tick.Holds := by
  w_on; o_law; k_head; (case hw => w_witness2)
  k_fill
  refine DL.walk_ofG (l := PySem.Challenge.rw_surehour_k43_shown_clocks_tick_by_tick) (most := 63) (n := 5) (nm := "_law_script") (cx := fun w => L2.CX PySem.Challenge.rw_surehour_k43_shown_clocks_tick_by_tick.prog w) (pr := fun w => DL.spLaw _) rfl (by decide) rfl ⟨⟨rfl, by decide, by decide⟩, rfl⟩ (fun w h Y => PySem.W.kIn_of Y) ?F (fun _ _ a ns hl _ hS => ⟨a, ns, rfl, hS, hl, fun _ => rfl⟩) (fun w H s e s' z => DL.cx_none z)
  case F =>
    intro w mg fa h KX G hmg
    refine' Law.all_mk Law.math KX G hmg ?zz_abs ?zz_list ?zz_range ?zz_len ?zz_min ?zz_int ?zz_divmod ?zz_isinstance ?zz_bool ?zz_repr ?zz_max ?zz_tuple ?zz_enumerate ?zz_zip ?zz_all ?hg_MOST_SLEW ?hg_MOST_DRIFT ?hg_MOST_READING ?hg_EXACT ?hm_Shown ?pg_Shown ?hd_Shown ?po_Shown ?sa_Shown ?hn_Shown_c_reading ?hn_Shown_c_rules ?hn_Shown_c_spans ?hn_Shown_c_value ?l_law_begin ?cc_law_begin ?kp_law_begin ?at_law_begin ?l_law_take ?cc_law_take ?kp_law_take ?at_law_take ?l_law_pick ?cc_law_pick ?kp_law_pick ?at_law_pick ?l_is_between ?cc_is_between ?kp_is_between ?at_is_between ?l_is_integer ?cc_is_integer ?kp_is_integer ?at_is_integer ?l_Shown_init ?cc_Shown_init ?kp_Shown_init ?mk_Shown ?at_Shown_init ?is_Shown_init ?kc_Shown ?l_Shown_reading ?cc_Shown_reading ?kp_Shown_reading ?at_Shown_reading ?pget_Shown_reading ?ptak_Shown_reading ?prec_Shown_reading ?l_Shown_value ?cc_Shown_value ?kp_Shown_value ?at_Shown_value ?pget_Shown_value ?ptak_Shown_value ?prec_Shown_value ?l_Shown_spans ?cc_Shown_spans ?kp_Shown_spans ?at_Shown_spans ?pget_Shown_spans ?ptak_Shown_spans ?prec_Shown_spans ?l_law_nearest ?cc_law_nearest ?kp_law_nearest ?at_law_nearest ?l_law_wide ?cc_law_wide ?kp_law_wide ?at_law_wide ?l_law_later ?cc_law_later ?kp_law_later ?at_law_later ?l_Shown_ticks_to ?cc_Shown_ticks_to ?kp_Shown_ticks_to ?at_Shown_ticks_to ?is_Shown_ticks_to ?l_gaps ?cc_gaps ?kp_gaps ?at_gaps ?l_way_to ?cc_way_to ?kp_way_to ?at_way_to ?l_moved ?cc_moved ?kp_moved ?at_moved ?l_Shown_at ?cc_Shown_at ?kp_Shown_at ?at_Shown_at ?is_Shown_at ?l_widened ?cc_widened ?kp_widened ?at_widened ?l_Shown_distance ?cc_Shown_distance ?kp_Shown_distance ?at_Shown_distance ?is_Shown_distance ?l_law_gap ?cc_law_gap ?kp_law_gap ?at_law_gap ?l_Shown_copy ?cc_Shown_copy ?kp_Shown_copy ?at_Shown_copy ?is_Shown_copy ?l_law_spans ?cc_law_spans ?kp_law_spans ?at_law_spans ?l_is_list ?cc_is_list ?kp_is_list ?at_is_list ?l_is_end ?cc_is_end ?kp_is_end ?at_is_end ?l_are_spans ?cc_are_spans ?kp_are_spans ?at_are_spans ?l_Shown_learn ?cc_Shown_learn ?kp_Shown_learn ?at_Shown_learn ?is_Shown_learn ?l_law ?cc_law ?kp_law ?at_law
    (case zz_abs => k_is)
    (case zz_list => k_is)
    (case zz_range => k_is)
    (case zz_len => k_is)
    (case zz_min => k_is)
    (case zz_int => k_is)
    (case zz_divmod => k_is)
    (case zz_isinstance => k_is)
    (case zz_bool => k_is)
    (case zz_repr => k_is)
    (case zz_max => k_is)
    (case zz_tuple => k_is)
    (case zz_enumerate => k_is)
    (case zz_zip => k_is)
    (case zz_all => k_is)
    (case hg_MOST_SLEW => k_is)
    (case hg_MOST_DRIFT => k_is)
    (case hg_MOST_READING => k_is)
    (case hg_EXACT => k_is)
    (case hm_Shown => k_is)
    (case pg_Shown => k_is)
    (case hd_Shown => k_is)
    (case po_Shown => k_is)
    (case sa_Shown => k_is)
    (case hn_Shown_c_reading => k_is)
    (case hn_Shown_c_rules => k_is)
    (case hn_Shown_c_spans => k_is)
    (case hn_Shown_c_value => k_is)
    (case at_law_begin => k_is)
    (case at_law_take => k_is)
    (case at_law_pick => k_is)
    (case at_is_between => k_is)
    (case at_is_integer => k_is)
    (case mk_Shown => k_is)
    (case at_Shown_init => k_is)
    (case kc_Shown => k_is)
    (case at_Shown_reading => k_is)
    (case pget_Shown_reading => k_is)
    (case ptak_Shown_reading => k_is)
    (case prec_Shown_reading => k_is)
    (case at_Shown_value => k_is)
    (case pget_Shown_value => k_is)
    (case ptak_Shown_value => k_is)
    (case prec_Shown_value => k_is)
    (case at_Shown_spans => k_is)
    (case pget_Shown_spans => k_is)
    (case ptak_Shown_spans => k_is)
    (case prec_Shown_spans => k_is)
    (case at_law_nearest => k_is)
    (case at_law_wide => k_is)
    (case at_law_later => k_is)
    (case at_Shown_ticks_to => k_is)
    (case at_gaps => k_is)
    (case at_way_to => k_is)
    (case at_moved => k_is)
    (case at_Shown_at => k_is)
    (case at_widened => k_is)
    (case at_Shown_distance => k_is)
    (case at_law_gap => k_is)
    (case at_Shown_copy => k_is)
    (case at_law_spans => k_is)
    (case at_is_list => k_is)
    (case at_is_end => k_is)
    (case at_are_spans => k_is)
    (case at_Shown_learn => k_is)
    (case at_law => k_is)
    (case l_law_begin => k_is)
    (case l_law_take => k_is)
    (case l_law_pick => k_is)
    (case l_is_between => k_is)
    (case l_is_integer => k_is)
    (case l_Shown_init => k_is)
    (case l_Shown_reading => k_is)
    (case l_Shown_value => k_is)
    (case l_Shown_spans => k_is)
    (case l_law_nearest => k_is)
    (case l_law_wide => k_is)
    (case l_law_later => k_is)
    (case l_Shown_ticks_to => k_is)
    (case l_gaps => k_is)
    (case l_way_to => k_is)
    (case l_moved => k_is)
    (case l_Shown_at => k_is)
    (case l_widened => k_is)
    (case l_Shown_distance => k_is)
    (case l_law_gap => k_is)
    (case l_Shown_copy => k_is)
    (case l_law_spans => k_is)
    (case l_is_list => k_is)
    (case l_is_end => k_is)
    (case l_are_spans => k_is)
    (case l_Shown_learn => k_is)
    (case l_law => k_is)
    (case cc_law_begin => k_is)
    (case kp_law_begin => k_is)
    (case cc_law_take => k_is)
    (case kp_law_take => k_is)
    (case cc_law_pick => k_is)
    (case kp_law_pick => k_is)
    (case cc_is_between => k_is)
    (case kp_is_between => k_is)
    (case cc_is_integer => k_is)
    (case kp_is_integer => k_is)
    (case cc_Shown_init => k_is)
    (case kp_Shown_init => k_is)
    (case is_Shown_init => k_is)
    (case cc_Shown_reading => k_is)
    (case kp_Shown_reading => k_is)
    (case cc_Shown_value => k_is)
    (case kp_Shown_value => k_is)
    (case cc_Shown_spans => k_is)
    (case kp_Shown_spans => k_is)
    (case cc_law_nearest => k_is)
    (case kp_law_nearest => k_is)
    (case cc_law_wide => k_is)
    (case kp_law_wide => k_is)
    (case cc_law_later => k_is)
    (case kp_law_later => k_is)
    (case cc_Shown_ticks_to => k_is)
    (case kp_Shown_ticks_to => k_is)
    (case is_Shown_ticks_to => k_is)
    (case cc_gaps => k_is)
    (case kp_gaps => k_is)
    (case cc_way_to => k_is)
    (case kp_way_to => k_is)
    (case cc_moved => k_is)
    (case kp_moved => k_is)
    (case cc_Shown_at => k_is)
    (case kp_Shown_at => k_is)
    (case is_Shown_at => k_is)
    (case cc_widened => k_is)
    (case kp_widened => k_is)
    (case cc_Shown_distance => k_is)
    (case kp_Shown_distance => k_is)
    (case is_Shown_distance => k_is)
    (case cc_law_gap => k_is)
    (case kp_law_gap => k_is)
    (case cc_Shown_copy => k_is)
    (case kp_Shown_copy => k_is)
    (case is_Shown_copy => k_is)
    (case cc_law_spans => k_is)
    (case kp_law_spans => k_is)
    (case cc_is_list => k_is)
    (case kp_is_list => k_is)
    (case cc_is_end => k_is)
    (case kp_is_end => k_is)
    (case cc_are_spans => k_is)
    (case kp_are_spans => k_is)
    (case cc_Shown_learn => k_is)
    (case kp_Shown_learn => k_is)
    (case is_Shown_learn => k_is)
    (case cc_law => k_is)
    (case kp_law => k_is)
