import PyProof.Rows.All
import Wide.All
import OpenK.AllK
import Wide.FinOn
import HandS.ForMost
import HandS.ForExc
import HandS.CallSlots
import HandS.Property
import HandS.Lambda
import HandS.TupAny
import HandS.Wide
import HandS.IsInst
import HandS.Text
import HandS.TupLe
import PyProof.MaxThree
import HandS.TupLen
import HandS.Style
import HandS.Zip
import HandS.WideBits
import HandS.SortInts
import HandS.SortRule
import HandS.Iter
import HandS.DictTup
import HandS.DictComp
import KE.KDictZip
import HandS.Conv
import HandS.Strs
import KE.SortKeyHeap
import HandS.Defaults
import KE.GoesMore
import HandS.Deep
import HandS.SetFor
import HandS.ListItems
import HandS.RaiseMore
import HandS.Flow
import KE.DataMinMax
import KE.GoesZip
import HandS.TryOnly
import HandS.SetKeys
import PyProof.TupleIter
import PyProof.WalksMore
import HandS.ExcValue
import HandS.ExcCtx
import KE.KExcIs
import HandS.ExcField
import HandS.ExcIs
import PySem.Challenge.RW_surehour_k45_shown_clocks_refused
set_option Elab.async false
set_option linter.all false
set_option maxRecDepth 100000
set_option maxHeartbeats 1000000
namespace DL
open PySem PySem.Spec PyProof.Rows L2
inductive D where
  | non | bl (b : Bool) | int (i : Int) | str (x : Str) | tup (xs : List D) | lst (xs : List D) | frl (ns : List Int)
  | dk (kvs : List (Key × D)) | dt (kvs : List (List Key × D)) | obj (C : Addr) (fs : List (Str × D)) | ptr (i : Nat) | draw
  | exc (C : Addr) (fs : List (Str × D))
  deriving Inhabited
structure Gh where
  G : Hp
  η : List Addr
  dr : Option (Addr × Addr)
def exk (a C : Addr) (dx : Option Addr) : HO := .ext fun h => ∃ o vs, h.get? a = some o ∧ o.cls = .ref C ∧ o.dict = dx ∧ o.data = .fields vs
def XdAt (G : Hp) (dx : Option Addr) (fs : List (Str × V)) : Prop := (dx = none ∧ fs = []) ∨ ∃ dd, dx = some dd ∧ G dd = some (.xd fs)
theorem XdAt.le {G G' : Hp} {dx : Option Addr} {fs : List (Str × V)} (s : ∀ a o, G a = some o → G' a = some o) (h : XdAt G dx fs) : XdAt G' dx fs := by
  rcases h with h | ⟨dd, e, h⟩
  · exact .inl h
  · exact .inr ⟨dd, e, s _ _ h⟩
mutual
inductive Rep (K : PySem.W.Frag) (g : Gh) : V → D → Prop
  | non : Rep K g .non .non
  | bl (b : Bool) : Rep K g (.bl b) (.bl b)
  | int (i : Int) : Rep K g (.int i) (.int i)
  | str (x : Str) : Rep K g (.str x) (.str x)
  | tup {a : Addr} {xs : List V} {ds : List D} : g.G a = some (.tup xs) → Reps K g xs ds → Rep K g (.ref a) (.tup ds)
  | tup0 {a : Addr} : SqT K g.G a [] → Rep K g (.ref a) (.tup [])
  | lst {a : Addr} {xs : List V} {ds : List D} : g.G a = some (.lst xs) → Reps K g xs ds → Rep K g (.ref a) (.lst ds)
  | frl {a : Addr} {ns : List Int} : SqL K g.G a (ns.map V.int) → Rep K g (.ref a) (.frl ns)
  | dk {a : Addr} {kvs : List (Key × V)} {ds : List (Key × D)} : g.G a = some (.dK kvs) → kvs.map Prod.fst = ds.map Prod.fst → Reps K g (kvs.map Prod.snd) (ds.map Prod.snd) → Rep K g (.ref a) (.dk ds)
  | dt {a : Addr} {kvs : List (List Key × V)} {ds : List (List Key × D)} : g.G a = some (.dT kvs) → kvs.map Prod.fst = ds.map Prod.fst → Reps K g (kvs.map Prod.snd) (ds.map Prod.snd) → Rep K g (.ref a) (.dt ds)
  | obj {a C dx : Addr} {fs : List (Str × V)} {ds : List (Str × D)} : g.G a = some (.ins C dx fs) → fs.map Prod.fst = ds.map Prod.fst → Reps K g (fs.map Prod.snd) (ds.map Prod.snd) → Rep K g (.ref a) (.obj C ds)
  | ptr {a : Addr} {i : Nat} : g.η[i]? = some a → Rep K g (.ref a) (.ptr i)
  | draw {a l : Addr} : g.dr = some (a, l) → Rep K g (.ref a) .draw
  | exc {a C : Addr} {dx : Option Addr} {fs : List (Str × V)} {ds : List (Str × D)} : g.G a = some (exk a C dx) → XdAt g.G dx fs → fs.map Prod.fst = ds.map Prod.fst → Reps K g (fs.map Prod.snd) (ds.map Prod.snd) → Rep K g (.ref a) (.exc C ds)
inductive Reps (K : PySem.W.Frag) (g : Gh) : List V → List D → Prop
  | nil : Reps K g [] []
  | cons {v : V} {vs : List V} {d : D} {ds : List D} : Rep K g v d → Reps K g vs ds → Reps K g (v :: vs) (d :: ds)
end
structure Le (g g' : Gh) : Prop where
  G : ∀ a o, g.G a = some o → g'.G a = some o
  η : ∀ (i : Nat) (a : Addr), g.η[i]? = some a → g'.η[i]? = some a
  dr : g'.dr = g.dr
theorem Le.refl (g : Gh) : Le g g := ⟨fun _ _ h => h, fun _ _ h => h, rfl⟩
theorem Le.trans {g1 g2 g3 : Gh} (a : Le g1 g2) (b : Le g2 g3) : Le g1 g3 := ⟨fun _ _ h => b.G _ _ (a.G _ _ h), fun _ _ h => b.η _ _ (a.η _ _ h), b.dr.trans a.dr⟩
theorem SqT.le {K : PySem.W.Frag} {H H' : Hp} {a : Addr} {xs : List V} (s : ∀ a o, H a = some o → H' a = some o) (h : SqT K H a xs) : SqT K H' a xs := by
  rcases h with (h | ⟨o, h⟩) | h
  · exact .inl (.inl (s _ _ h))
  · exact .inl (.inr ⟨o, s _ _ h⟩)
  · exact .inr h
theorem SqL.le {K : PySem.W.Frag} {H H' : Hp} {a : Addr} {xs : List V} (s : ∀ a o, H a = some o → H' a = some o) (h : SqL K H a xs) : SqL K H' a xs := by
  rcases h with (h | ⟨o, h⟩) | h
  · exact .inl (.inl (s _ _ h))
  · exact .inl (.inr ⟨o, s _ _ h⟩)
  · exact .inr h
section
variable {K : PySem.W.Frag} {g g' : Gh}
mutual
theorem Rep.mono (h : Le g g') : ∀ {v : V} {d : D}, Rep K g v d → Rep K g' v d
  | _, _, .non => .non
  | _, _, .bl b => .bl b
  | _, _, .int i => .int i
  | _, _, .str x => .str x
  | _, _, .tup a r => .tup (h.G _ _ a) (Reps.mono h r)
  | _, _, .tup0 a => .tup0 (SqT.le h.G a)
  | _, _, .lst a r => .lst (h.G _ _ a) (Reps.mono h r)
  | _, _, .frl a => .frl (SqL.le h.G a)
  | _, _, .dk a e r => .dk (h.G _ _ a) e (Reps.mono h r)
  | _, _, .dt a e r => .dt (h.G _ _ a) e (Reps.mono h r)
  | _, _, .obj a e r => .obj (h.G _ _ a) e (Reps.mono h r)
  | _, _, .ptr e => .ptr (h.η _ _ e)
  | _, _, .draw e => .draw (h.dr.trans e)
  | _, _, .exc a x e r => .exc (h.G _ _ a) (x.le h.G) e (Reps.mono h r)
theorem Reps.mono (h : Le g g') : ∀ {v : List V} {d : List D}, Reps K g v d → Reps K g' v d
  | _, _, .nil => .nil
  | _, _, .cons a r => .cons (Rep.mono h a) (Reps.mono h r)
end
theorem Reps.length : ∀ {vs : List V} {ds : List D}, Reps K g vs ds → vs.length = ds.length
  | _, _, .nil => rfl
  | _, _, .cons _ r => by rw [List.length_cons, List.length_cons, Reps.length r]
theorem Reps.get : ∀ {vs : List V} {ds : List D} {i : Nat} {d : D}, Reps K g vs ds → ds[i]? = some d → ∃ v, vs[i]? = some v ∧ Rep K g v d
  | _, _, _, _, .nil, e => by simp at e
  | _, _, 0, _, .cons a r, e => by simp at e; subst e; exact ⟨_, rfl, a⟩
  | _, _, i + 1, d, .cons a r, e => by
    obtain ⟨v, h1, h2⟩ := Reps.get (i := i) (d := d) r (by simpa using e)
    exact ⟨v, by simpa using h1, h2⟩
theorem Reps.append : ∀ {vs ws : List V} {ds es : List D}, Reps K g vs ds → Reps K g ws es → Reps K g (vs ++ ws) (ds ++ es)
  | _, _, _, _, .nil, s => s
  | _, _, _, _, .cons a r, s => .cons a (Reps.append r s)
theorem Reps.one {v : V} {d : D} (h : Rep K g v d) : Reps K g [v] [d] := .cons h .nil
theorem Reps.take : ∀ (n : Nat) {vs : List V} {ds : List D}, Reps K g vs ds → Reps K g (vs.take n) (ds.take n)
  | 0, _, _, _ => by simp; exact .nil
  | n + 1, _, _, .nil => .nil
  | n + 1, _, _, .cons a r => .cons a (Reps.take n r)
theorem Reps.drop : ∀ (n : Nat) {vs : List V} {ds : List D}, Reps K g vs ds → Reps K g (vs.drop n) (ds.drop n)
  | 0, _, _, r => by simpa using r
  | n + 1, _, _, .nil => .nil
  | n + 1, _, _, .cons a r => Reps.drop n r
theorem Reps.set : ∀ {vs : List V} {ds : List D} (i : Nat) {v : V} {d : D}, Reps K g vs ds → Rep K g v d → Reps K g (vs.set i v) (ds.set i d)
  | _, _, _, _, _, .nil, _ => .nil
  | _, _, 0, _, _, .cons a r, h => .cons h r
  | _, _, i + 1, _, _, .cons a r, h => .cons a (Reps.set i r h)
theorem Reps.ints : ∀ (ns : List Int), Reps K g (ns.map V.int) (ns.map D.int)
  | [] => .nil
  | n :: r => .cons (.int n) (Reps.ints r)
end
structure DrawSt where
  large : List Int
  cells : List Int
  rest : Int
  turn : Int
  mix : Int
inductive MO where
  | ins (C : Addr) (fs : List (Str × D)) | lst (ds : List D) | tab (P : Addr) (q : Str)
inductive W where
  | fz (d : D) | own (d : D) | lent (d : D) | lk (d : D) | lkl (d : D)
structure State where
  env : List (Option W)
  sto : List MO
  dr : Option DrawSt
structure Ex where
  cls : Addr
  fs : List (Str × D)
inductive Rs (α : Type) where
  | ok (a : α) (s : State) | err (x : Ex) (s : State) | bad
abbrev M (α : Type) := State → Rs α
def M.pure {α : Type} (a : α) : M α := fun s => .ok a s
def M.bind {α β : Type} (m : M α) (k : α → M β) : M β := fun s => match m s with
  | .ok a s' => k a s'
  | .err x s' => .err x s'
  | .bad => .bad
instance : Monad M where
  pure := M.pure
  bind := M.bind
def M.bad {α : Type} : M α := fun _ => .bad
abbrev Slots := List (Option V)
inductive T where
  | fz (d : D) | ow (d : D)
def IsDr (g : Gh) (a : Addr) : Prop := ∃ x l, g.dr = some (x, l) ∧ (a = x ∨ a = l)
def lockable : HO → Bool
  | .dK _ => true
  | .dT _ => true
  | _ => false
def RdO (H : Hp) (a : Addr) (o : HO) : Prop := H a = some o ∨ (lockable o = true ∧ ∃ ob, H a = some (.frz ob o))
theorem RdO.live {H : Hp} {a : Addr} {o : HO} (h : RdO H a o) : H a ≠ none := by
  rcases h with h | ⟨_, ob, h⟩ <;> rw [h] <;> simp
theorem RdO.keep {H H' : Hp} {a : Addr} {o : HO} (k : ∀ u, H a = some u → H' a = some u) (h : RdO H a o) : RdO H' a o := by
  rcases h with h | ⟨l, ob, h⟩
  · exact .inl (k _ h)
  · exact .inr ⟨l, ob, k _ h⟩
theorem RdO.rd {H : Hp} {a : Addr} {o : HO} (h : RdO H a o) : Rd H a o := by
  rcases h with h | ⟨_, ob, h⟩
  · exact .inl h
  · exact .inr ⟨ob, h⟩
theorem RdO.exact {H : Hp} {a : Addr} {o : HO} (h : RdO H a o) (l : lockable o = false) : H a = some o := by
  rcases h with h | ⟨l', _⟩
  · exact h
  · rw [l] at l'; cases l'
section
variable (K : PySem.W.Frag)
def ObAt (g : Gh) (o : HO) : D → Prop
  | .lst ds => ∃ xs, o = .lst xs ∧ Reps K g xs ds
  | .dk ds => ∃ kvs, o = .dK kvs ∧ kvs.map Prod.fst = ds.map Prod.fst ∧ Reps K g (kvs.map Prod.snd) (ds.map Prod.snd)
  | .dt ds => ∃ kvs, o = .dT kvs ∧ kvs.map Prod.fst = ds.map Prod.fst ∧ Reps K g (kvs.map Prod.snd) (ds.map Prod.snd)
  | .obj C ds => ∃ dx fs, o = .ins C dx fs ∧ fs.map Prod.fst = ds.map Prod.fst ∧ Reps K g (fs.map Prod.snd) (ds.map Prod.snd)
  | _ => False
def MObAt (g : Gh) (a : Addr) (o : HO) : MO → Prop
  | .ins C ds => ∃ dx fs, o = .ins C dx fs ∧ fs.map Prod.fst = ds.map Prod.fst ∧ Reps K g (fs.map Prod.snd) (ds.map Prod.snd)
  | .lst ds => ∃ xs, o = .lst xs ∧ Reps K g xs ds
  | .tab P q => a = P ∧ ∃ ps : Array Value, o = .tbl ps ∧ TriplesOk ps.toList ∧ ∀ (pos : Pos) (cv : Value), codeAmong pos ps.toList = some cv → ∃ c, cv = .ref c ∧ g.G c = some (LamX.CodeO c q)
def drKvs (l c : Addr) (s : DrawSt) : List (Key × V) := [(.inr "large", .ref l), (.inr "cells", .ref c), (.inr "rest", .int s.rest), (.inr "turn", .int s.turn), (.inr "mix", .int s.mix)]
structure DrAt (g : Gh) (H : Hp) (a l : Addr) (s : DrawSt) : Prop where
  dict : ∃ c, H a = some (.dK (drKvs l c s)) ∧ g.G c = some (.lst (s.cells.map V.int))
  list : H l = some (.lst (s.large.map V.int))
  ne : a ≠ l
  ga : g.G a = none
  gl : g.G l = none
def DrOk (g : Gh) (H : Hp) : Option (Addr × Addr) → Option DrawSt → Prop
  | some (a, l), some x => DrAt g H a l x
  | none, none => True
  | _, _ => False
theorem DrOk.map {g g' : Gh} {H H' : Hp} : ∀ {p : Option (Addr × Addr)} {q : Option DrawSt}, (∀ a l x, p = some (a, l) → DrAt g H a l x → DrAt g' H' a l x) → DrOk g H p q → DrOk g' H' p q
  | some (a, l), some x, h, d => h a l x rfl d
  | none, none, _, _ => trivial
  | some _, none, _, d => d.elim
  | none, some _, _, d => d.elim
def Free1 (g : Gh) (a : Addr) : Prop := g.G a = none ∧ a ∉ g.η ∧ ¬ IsDr g a
def WAt (g : Gh) (H : Hp) (v : V) : W → Prop
  | .fz d => Rep K g v d
  | .own d => ∃ a o, v = .ref a ∧ Free1 g a ∧ H a = some o ∧ ObAt K g o d
  | .lent d => ∃ a o, v = .ref a ∧ Free1 g a ∧ H a = some o ∧ ObAt K g o d
  | .lk d => ∃ a o, v = .ref a ∧ Free1 g a ∧ RdO H a o ∧ ObAt K g o d
  | .lkl d => ∃ a o, v = .ref a ∧ Free1 g a ∧ RdO H a o ∧ ObAt K g o d
end
def W.held : W → Bool
  | .fz _ => false
  | _ => true
def W.mut : W → Bool
  | .own _ => true
  | .lent _ => true
  | _ => false
structure SD (K : PySem.W.Frag) (g : Gh) (H : Hp) (σ : Slots) (s : State) : Prop where
  gh : ∀ a o, g.G a = some o → RdO H a o
  len : s.env.length = σ.length
  slot : ∀ (i : Nat) (w : W), s.env[i]? = some (some w) → ∃ v, σ[i]? = some (some v) ∧ WAt K g H v w
  inj : ∀ (i j : Nat) (w u : W) (a : Addr), s.env[i]? = some (some w) → s.env[j]? = some (some u) → w.held = true → u.held = true → σ[i]? = some (some (V.ref a)) → σ[j]? = some (some (V.ref a)) → i = j
  stl : s.sto.length = g.η.length
  sto : ∀ (i : Nat) (m : MO) (a : Addr), s.sto[i]? = some m → g.η[i]? = some a → ∃ o, H a = some o ∧ MObAt K g a o m
  nd : g.η.Nodup
  ng : ∀ a ∈ g.η, g.G a = none ∧ ¬ IsDr g a
  dr : DrOk g H g.dr s.dr
def Hd (σ : Slots) (s : State) (a : Addr) : Prop := ∃ (i : Nat) (w : W), s.env[i]? = some (some w) ∧ w.held = true ∧ σ[i]? = some (some (V.ref a))
def OwnA (σ : Slots) (s : State) (a : Addr) : Prop := ∃ (i : Nat) (d : D), (s.env[i]? = some (some (.own d)) ∨ s.env[i]? = some (some (.lk d))) ∧ σ[i]? = some (some (V.ref a))
def Mu (g : Gh) (σ : Slots) (s : State) (a : Addr) : Prop :=
  (∃ (i : Nat) (w : W), s.env[i]? = some (some w) ∧ w.mut = true ∧ σ[i]? = some (some (V.ref a))) ∨ a ∈ g.η ∨ IsDr g a
def IsTup (H : Hp) (a : Addr) : Prop := ∃ o, H a = some o ∧ ((∃ xs, o = HO.tup xs) ∨ ∃ fs, o = HO.xd fs)
structure Ev (g : Gh) (H : Hp) (σ : Slots) (s : State) (g' : Gh) (H' : Hp) (σ' : Slots) (s' : State) : Prop where
  le : Le g g'
  keep : ∀ a o, H a = some o → ¬ Mu g σ s a → H' a = some o
  live : ∀ a, H a ≠ none → H' a ≠ none
  frz : ∀ a, H a ≠ none → g'.G a ≠ none → g.G a ≠ none ∨ Mu g σ s a ∨ IsTup H a
  eta : ∀ a, H a ≠ none → a ∈ g'.η → a ∈ g.η
  mu : ∀ a, Mu g' σ' s' a → Mu g σ s a ∨ H a = none
  hd : ∀ a, Hd σ' s' a → Hd σ s a ∨ H a = none
  ow : ∀ a, OwnA σ' s' a → OwnA σ s a ∨ H a = none
  fix : ∀ (i : Nat) (d : D), s.env[i]? = some (some (.lent d)) → σ'[i]? = σ[i]? ∧ ∃ d', s'.env[i]? = some (some (.lent d')) ∨ s'.env[i]? = some (some (.lkl d'))
  lk : ∀ (i : Nat) (d : D), s.env[i]? = some (some (.lk d)) → σ'[i]? = σ[i]? ∧ s'.env[i]? = some (some (.lk d))
  lkl : ∀ (i : Nat) (d : D), s.env[i]? = some (some (.lkl d)) → σ'[i]? = σ[i]? ∧ s'.env[i]? = some (some (.lkl d))
section
variable {g g' g1 g2 g3 : Gh} {H H' H1 H2 H3 : Hp} {σ σ' σ1 σ2 σ3 : Slots} {s s' s1 s2 s3 : State}
theorem Ev.refl : Ev g H σ s g H σ s := ⟨.refl g, fun _ _ h _ => h, fun _ h => h, fun _ _ h => .inl h, fun _ _ h => h, fun _ h => .inl h, fun _ h => .inl h, fun _ h => .inl h, fun _ d h => ⟨rfl, d, .inl h⟩, fun _ _ h => ⟨rfl, h⟩, fun _ _ h => ⟨rfl, h⟩⟩
theorem Ev.trans (a : Ev g1 H1 σ1 s1 g2 H2 σ2 s2) (b : Ev g2 H2 σ2 s2 g3 H3 σ3 s3) : Ev g1 H1 σ1 s1 g3 H3 σ3 s3 where
  le := a.le.trans b.le
  keep := fun x o h n => b.keep x o (a.keep x o h n) fun z => (a.mu x z).elim n fun q => by rw [h] at q; cases q
  live := fun x h => b.live x (a.live x h)
  frz := fun x h q => by
    rcases b.frz x (a.live x h) q with z | z | ⟨o', z, k⟩
    · exact a.frz x h z
    · rcases a.mu x z with y | y
      · exact .inr (.inl y)
      · exact absurd y h
    · by_cases m : Mu g1 σ1 s1 x
      · exact .inr (.inl m)
      · cases y : H1 x with
        | none => exact absurd y h
        | some o =>
          have y2 := a.keep x o y m
          rw [z] at y2; cases y2
          exact .inr (.inr ⟨_, y, k⟩)
  eta := fun x h q => a.eta x h (b.eta x (a.live x h) q)
  mu := fun x q => by
    rcases b.mu x q with z | z
    · exact a.mu x z
    · by_cases y : H1 x = none
      · exact .inr y
      · exact absurd z (a.live x y)
  hd := fun x q => by
    rcases b.hd x q with z | z
    · exact a.hd x z
    · by_cases y : H1 x = none
      · exact .inr y
      · exact absurd z (a.live x y)
  ow := fun x q => by
    rcases b.ow x q with z | z
    · exact a.ow x z
    · by_cases y : H1 x = none
      · exact .inr y
      · exact absurd z (a.live x y)
  fix := fun i d h => by
    obtain ⟨e1, d1, h1⟩ := a.fix i d h
    rcases h1 with h1 | h1
    · obtain ⟨e2, d2, h2⟩ := b.fix i d1 h1
      exact ⟨e2.trans e1, d2, h2⟩
    · obtain ⟨e2, h2⟩ := b.lkl i d1 h1
      exact ⟨e2.trans e1, d1, .inr h2⟩
  lk := fun i d h => by
    obtain ⟨e1, h1⟩ := a.lk i d h
    obtain ⟨e2, h2⟩ := b.lk i d h1
    exact ⟨e2.trans e1, h2⟩
  lkl := fun i d h => by
    obtain ⟨e1, h1⟩ := a.lkl i d h
    obtain ⟨e2, h2⟩ := b.lkl i d h1
    exact ⟨e2.trans e1, h2⟩
theorem Mu.hd {a : Addr} (h : Mu g σ s a) : Hd σ s a ∨ a ∈ g.η ∨ IsDr g a := by
  rcases h with ⟨i, w, e, m, x⟩ | h
  · refine .inl ⟨i, w, e, ?_, x⟩
    cases w <;> first | rfl | cases m
  · exact .inr h
variable {K : PySem.W.Frag}
theorem ObAt.mono {o : HO} (h : Le g g') : ∀ {d : D}, ObAt K g o d → ObAt K g' o d
  | .lst _, ⟨xs, e, r⟩ => ⟨xs, e, r.mono h⟩
  | .dk _, ⟨xs, e, k, r⟩ => ⟨xs, e, k, r.mono h⟩
  | .dt _, ⟨xs, e, k, r⟩ => ⟨xs, e, k, r.mono h⟩
  | .obj _ _, ⟨dx, xs, e, k, r⟩ => ⟨dx, xs, e, k, r.mono h⟩
  | .non, z => z.elim
  | .bl _, z => z.elim
  | .int _, z => z.elim
  | .str _, z => z.elim
  | .tup _, z => z.elim
  | .frl _, z => z.elim
  | .ptr _, z => z.elim
  | .draw, z => z.elim
  | .exc _ _, z => z.elim
theorem MObAt.mono {a : Addr} {o : HO} (h : Le g g') : ∀ {m : MO}, MObAt K g a o m → MObAt K g' a o m
  | .ins _ _, ⟨dx, xs, e, k, r⟩ => ⟨dx, xs, e, k, r.mono h⟩
  | .lst _, ⟨xs, e, r⟩ => ⟨xs, e, r.mono h⟩
  | .tab _ _, ⟨z, ps, e, t, r⟩ => ⟨z, ps, e, t, fun pos cv hc => let ⟨c, e1, e2⟩ := r pos cv hc; ⟨c, e1, h.G _ _ e2⟩⟩
theorem IsDr.eq {a : Addr} (h : g'.dr = g.dr) (x : IsDr g' a) : IsDr g a := by
  obtain ⟨p, q, e, z⟩ := x
  exact ⟨p, q, h ▸ e, z⟩
def TAt (K : PySem.W.Frag) (g : Gh) (H : Hp) (v : V) : T → Prop
  | .fz d => Rep K g v d
  | .ow d => ∃ a o, v = .ref a ∧ Free1 g a ∧ H a = some o ∧ ObAt K g o d
theorem ObAt.noTup {o : HO} {d : D} (h : ObAt K g o d) (e : (∃ xs, o = HO.tup xs) ∨ ∃ fs, o = HO.xd fs) : False := by
  rcases e with ⟨xs, rfl⟩ | ⟨xs, rfl⟩
  all_goals
    cases d with
    | lst _ => obtain ⟨_, z, _⟩ := h; cases z
    | dk _ => obtain ⟨_, z, _⟩ := h; cases z
    | dt _ => obtain ⟨_, z, _⟩ := h; cases z
    | obj _ _ => obtain ⟨_, _, z, _⟩ := h; cases z
    | _ => exact h
theorem WAt.noTup {v : V} {w : W} (h : WAt K g H v w) (hw : w.held = true) {b : Addr} (e : v = .ref b) : ¬ IsTup H b := fun ⟨o', q, k⟩ => by
  cases w with
  | fz d => cases hw
  | own d => obtain ⟨a, o, z, _, q1, ob⟩ := h; rw [z] at e; cases e; rw [q] at q1; cases q1; exact ob.noTup k
  | lent d => obtain ⟨a, o, z, _, q1, ob⟩ := h; rw [z] at e; cases e; rw [q] at q1; cases q1; exact ob.noTup k
  | lk d =>
    obtain ⟨a, o, z, _, q1, ob⟩ := h; rw [z] at e; cases e
    rcases q1 with q1 | ⟨_, _, q1⟩
    · rw [q] at q1; cases q1; exact ob.noTup k
    · rw [q] at q1; cases q1; rcases k with ⟨_, z⟩ | ⟨_, z⟩ <;> cases z
  | lkl d =>
    obtain ⟨a, o, z, _, q1, ob⟩ := h; rw [z] at e; cases e
    rcases q1 with q1 | ⟨_, _, q1⟩
    · rw [q] at q1; cases q1; exact ob.noTup k
    · rw [q] at q1; cases q1; rcases k with ⟨_, z⟩ | ⟨_, z⟩ <;> cases z
structure RT (K : PySem.W.Frag) (H0 : Hp) (g : Gh) (H : Hp) (σ : Slots) (s : State) (v : V) (t : T) : Prop where
  at_ : TAt K g H v t
  new : ∀ d a, t = .ow d → v = .ref a → H0 a = none ∧ ¬ Hd σ s a
theorem Free1.ev {a : Addr} (e : Ev g H σ s g' H' σ' s') (l : H a ≠ none) (nt : ¬ IsTup H a) (nh : ¬ Hd σ s a) (f : Free1 g a) : Free1 g' a ∧ ¬ Hd σ' s' a := by
  have nm : ¬ Mu g σ s a := fun m => by
    rcases m.hd with z | z | z
    · exact nh z
    · exact f.2.1 z
    · exact f.2.2 z
  refine ⟨⟨?_, fun z => f.2.1 (e.eta a l z), fun z => f.2.2 (z.eq e.le.dr)⟩, fun z => (e.hd a z).elim nh l⟩
  cases q : g'.G a with
  | none => rfl
  | some o => exact ((e.frz a l (by rw [q]; simp)).elim (fun z => z f.1) fun z => z.elim nm nt).elim
theorem RT.ev {H0 : Hp} {v : V} {t : T} (e : Ev g H σ s g' H' σ' s') (r : RT K H0 g H σ s v t) : RT K H0 g' H' σ' s' v t := by
  cases t with
  | fz d => exact ⟨Rep.mono e.le r.at_, fun _ _ z => nomatch z⟩
  | ow d =>
    obtain ⟨a, o, ev, f, ho, ob⟩ := r.at_
    obtain ⟨n1, n2⟩ := r.new d a rfl ev
    have l : H a ≠ none := by rw [ho]; simp
    obtain ⟨f', n'⟩ := f.ev e l (fun ⟨o', z, k⟩ => by rw [ho] at z; cases z; exact ob.noTup k) n2
    have nm : ¬ Mu g σ s a := fun m => by
      rcases m.hd with z | z | z
      · exact n2 z
      · exact f.2.1 z
      · exact f.2.2 z
    refine ⟨⟨a, o, ev, f', e.keep a o ho nm, ob.mono e.le⟩, fun d' a' _ ea => ?_⟩
    rw [ev] at ea
    cases ea
    exact ⟨n1, n'⟩
theorem RT.past {H0 : Hp} {v : V} {t : T} (l : ∀ a, H0 a ≠ none → H1 a ≠ none) (r : RT K H1 g H σ s v t) : RT K H0 g H σ s v t :=
  ⟨r.at_, fun d a e1 e2 => ⟨by
    cases q : H0 a with
    | none => rfl
    | some o => exact absurd (r.new d a e1 e2).1 (l a (by rw [q]; simp)), (r.new d a e1 e2).2⟩⟩
end
end DL
set_option Elab.async false
set_option linter.all false
set_option maxRecDepth 100000
set_option maxHeartbeats 1000000
namespace DL
open PySem PySem.Spec PyProof.Rows L2
section
variable {K : PySem.W.Frag} {g g' : Gh} {H H' : Hp} {σ σ' : Slots} {s s' : State} {a p : Addr} {o : HO}
theorem SD.here (sd : SD K g H σ s) (h : g.G a = some o) (l : lockable o = false) : H a = some o := by
  rcases sd.gh a o h with z | ⟨z, _⟩
  · exact z
  · rw [l] at z; cases z
theorem SD.gNone (sd : SD K g H σ s) (h : H p = none) : g.G p = none := by
  cases q : g.G p with
  | none => rfl
  | some o =>
    rcases sd.gh p o q with z | ⟨_, ob, z⟩ <;> rw [h] at z <;> cases z
theorem SD.tup (sd : SD K g H σ s) {xs : List V} (h : SqT K g.G a xs) : SqT K H a xs := by
  rcases h with (h | ⟨o, h⟩) | h
  · exact .inl (.inl (sd.here h rfl))
  · exact .inl (.inr ⟨o, sd.here h rfl⟩)
  · exact .inr h
theorem SD.seq (sd : SD K g H σ s) {xs : List V} (h : SqL K g.G a xs) : SqL K H a xs := by
  rcases h with (h | ⟨o, h⟩) | h
  · exact .inl (.inl (sd.here h rfl))
  · exact .inl (.inr ⟨o, sd.here h rfl⟩)
  · exact .inr h
theorem SD.rd (sd : SD K g H σ s) (h : g.G a = some o) : Rd H a o := by
  rcases sd.gh a o h with z | ⟨_, ob, z⟩
  · exact .inl z
  · exact .inr ⟨ob, z⟩
theorem SD.etaLive (sd : SD K g H σ s) (h : a ∈ g.η) : H a ≠ none := by
  obtain ⟨i, hi, e⟩ := List.getElem_of_mem h
  have e' : g.η[i]? = some a := by rw [List.getElem?_eq_getElem hi, e]
  have hs : i < s.sto.length := by rw [sd.stl]; exact hi
  obtain ⟨o, q, _⟩ := sd.sto i s.sto[i] a (List.getElem?_eq_getElem hs) e'
  rw [q]; simp
theorem SD.drLive (sd : SD K g H σ s) (h : IsDr g a) : H a ≠ none := by
  obtain ⟨x, l, e, z⟩ := h
  have q := sd.dr
  rw [e] at q
  cases r : s.dr with
  | none => rw [r] at q; exact False.elim q
  | some d =>
    rw [r] at q
    have q : DrAt g H x l d := q
    rcases z with rfl | rfl
    · obtain ⟨c, q, _⟩ := q.dict; rw [q]; simp
    · rw [q.list]; simp
theorem SD.hdLive (sd : SD K g H σ s) (h : Hd σ s a) : H a ≠ none := by
  obtain ⟨i, w, e, hw, es⟩ := h
  obtain ⟨v, ev, wa⟩ := sd.slot i w e
  rw [es] at ev
  cases ev
  cases w with
  | fz d => cases hw
  | own d => obtain ⟨b, o, eb, _, q, _⟩ := wa; cases eb; rw [q]; simp
  | lent d => obtain ⟨b, o, eb, _, q, _⟩ := wa; cases eb; rw [q]; simp
  | lk d => obtain ⟨b, o, eb, _, q, _⟩ := wa; cases eb; exact q.live
  | lkl d => obtain ⟨b, o, eb, _, q, _⟩ := wa; cases eb; exact q.live
theorem SD.free1 (sd : SD K g H σ s) (h : H p = none) : Free1 g p := ⟨sd.gNone h, fun z => sd.etaLive z h, fun z => sd.drLive z h⟩
theorem SD.noHd (sd : SD K g H σ s) (h : H p = none) : ¬ Hd σ s p := fun z => sd.hdLive z h
theorem WAt.keep {v : V} {w : W} (le : Le g g') (k : ∀ b u, v = .ref b → w.held = true → H b = some u → H' b = some u) (f : ∀ b, v = .ref b → w.held = true → Free1 g b → Free1 g' b) (h : WAt K g H v w) : WAt K g' H' v w := by
  cases w with
  | fz d => exact Rep.mono le h
  | own d => obtain ⟨b, u, e, f1, q, ob⟩ := h; exact ⟨b, u, e, f b e rfl f1, k b u e rfl q, ObAt.mono le ob⟩
  | lent d => obtain ⟨b, u, e, f1, q, ob⟩ := h; exact ⟨b, u, e, f b e rfl f1, k b u e rfl q, ObAt.mono le ob⟩
  | lk d => obtain ⟨b, u, e, f1, q, ob⟩ := h; exact ⟨b, u, e, f b e rfl f1, q.keep fun u h => k b u e rfl h, ObAt.mono le ob⟩
  | lkl d => obtain ⟨b, u, e, f1, q, ob⟩ := h; exact ⟨b, u, e, f b e rfl f1, q.keep fun u h => k b u e rfl h, ObAt.mono le ob⟩
theorem SD.alloc (sd : SD K g H σ s) (h : H p = none) : SD K g (upd H p o) σ s where
  gh := fun b u e => by
    have ne : b ≠ p := fun z => by subst z; rw [sd.gNone h] at e; cases e
    exact (sd.gh b u e).keep fun w q => by rw [upd_ne ne]; exact q
  len := sd.len
  slot := fun i w e => by
    obtain ⟨v, ev, wa⟩ := sd.slot i w e
    refine ⟨v, ev, wa.keep (.refl g) (fun b u eb hw q => ?_) fun _ _ _ x => x⟩
    rw [upd_ne (ne_of_none q h)]; exact q
  inj := sd.inj
  stl := sd.stl
  sto := fun i m b e1 e2 => by
    obtain ⟨u, q, m1⟩ := sd.sto i m b e1 e2
    exact ⟨u, by rw [upd_ne (ne_of_none q h)]; exact q, m1⟩
  nd := sd.nd
  ng := sd.ng
  dr := sd.dr.map fun x l d _ q => by
    obtain ⟨c, q1, q2⟩ := q.dict
    exact ⟨⟨c, by rw [upd_ne (ne_of_none q1 h)]; exact q1, q2⟩, by rw [upd_ne (ne_of_none q.list h)]; exact q.list, q.ne, q.ga, q.gl⟩
theorem SD.allocEv (sd : SD K g H σ s) (h : H p = none) : Ev g H σ s g (upd H p o) σ s where
  le := .refl g
  keep := fun b u e _ => by rw [upd_ne (ne_of_none e h)]; exact e
  live := fun b e => by
    by_cases z : b = p
    · subst z; rw [upd_same]; simp
    · rw [upd_ne z]; exact e
  frz := fun _ _ z => .inl z
  eta := fun _ _ z => z
  mu := fun _ z => .inl z
  hd := fun _ z => .inl z
  ow := fun _ z => .inl z
  fix := fun _ d z => ⟨rfl, d, .inl z⟩
  lk := fun _ _ z => ⟨rfl, z⟩
  lkl := fun _ _ z => ⟨rfl, z⟩
def Gh.frz (g : Gh) (a : Addr) (o : HO) : Gh := { g with G := upd g.G a o }
theorem Gh.frz_le (h : g.G a = none) : Le g (g.frz a o) := ⟨fun b u e => by show upd g.G a o b = _; rw [upd_ne (ne_of_none e h)]; exact e, fun _ _ e => e, rfl⟩
theorem Free1.frz {b : Addr} (f : Free1 g b) (ne : b ≠ a) : Free1 (g.frz a o) b := ⟨by show upd g.G a o b = _; rw [upd_ne ne]; exact f.1, f.2.1, f.2.2⟩
theorem DrOk.frz {s : State} (f : Free1 g a) (d : DrOk g H g.dr s.dr) : DrOk (g.frz a o) H (g.frz a o).dr s.dr := d.map fun x l d e q => by
  obtain ⟨c, q1, q2⟩ := q.dict
  have n1 : x ≠ a := fun z => f.2.2 ⟨x, l, e, .inl z.symm⟩
  have n2 : l ≠ a := fun z => f.2.2 ⟨x, l, e, .inr z.symm⟩
  exact ⟨⟨c, q1, (Gh.frz_le f.1).G _ _ q2⟩, q.list, q.ne, by show upd g.G a o x = _; rw [upd_ne n1]; exact q.ga, by show upd g.G a o l = _; rw [upd_ne n2]; exact q.gl⟩
theorem SD.freeze (sd : SD K g H σ s) (f : Free1 g a) (nh : ¬ Hd σ s a) (h : H a = some o) : SD K (g.frz a o) H σ s where
  gh := fun b u e => by
    by_cases z : b = a
    · subst z
      have e' : upd g.G b o b = some u := e
      rw [upd_same] at e'; cases e'
      exact .inl h
    · have e' : upd g.G a o b = some u := e
      rw [upd_ne z] at e'
      exact sd.gh b u e'
  len := sd.len
  slot := fun i w e => by
    obtain ⟨v, ev, wa⟩ := sd.slot i w e
    refine ⟨v, ev, wa.keep (Gh.frz_le f.1) (fun _ _ _ _ q => q) fun b eb hw x => x.frz fun z => nh ⟨i, w, e, hw, ?_⟩⟩
    rw [ev, eb, z]
  inj := sd.inj
  stl := sd.stl
  sto := fun i m b e1 e2 => by
    obtain ⟨u, q, m1⟩ := sd.sto i m b e1 e2
    exact ⟨u, q, m1.mono (Gh.frz_le f.1)⟩
  nd := sd.nd
  ng := fun b hb => by
    have ne : b ≠ a := fun z => f.2.1 (z ▸ hb)
    exact ⟨by show upd g.G a o b = _; rw [upd_ne ne]; exact (sd.ng b hb).1, (sd.ng b hb).2⟩
  dr := DrOk.frz f sd.dr
theorem Ev.freeze {g0 : Gh} {H0 : Hp} {σ0 : Slots} {s0 : State} (e : Ev g0 H0 σ0 s0 g H σ s) (f : Free1 g a) (h0 : H0 a = none) : Ev g0 H0 σ0 s0 (g.frz a o) H σ s where
  le := e.le.trans (Gh.frz_le f.1)
  keep := e.keep
  live := e.live
  frz := fun b l q => by
    by_cases z : b = a
    · subst z; exact absurd h0 l
    · have q' : upd g.G a o b ≠ none := q
      rw [upd_ne z] at q'
      exact e.frz b l q'
  eta := e.eta
  mu := e.mu
  hd := e.hd
  ow := e.ow
  fix := e.fix
  lk := e.lk
  lkl := e.lkl
theorem ObAt.rep {d : D} (h : ObAt K g o d) (fr : Le g g') (e : g'.G a = some o) : Rep K g' (.ref a) d := by
  cases d with
  | lst ds => obtain ⟨xs, rfl, r⟩ := h; exact .lst e (r.mono fr)
  | dk ds => obtain ⟨xs, rfl, k, r⟩ := h; exact .dk e k (r.mono fr)
  | dt ds => obtain ⟨xs, rfl, k, r⟩ := h; exact .dt e k (r.mono fr)
  | obj C ds => obtain ⟨dx, xs, rfl, k, r⟩ := h; exact .obj e k (r.mono fr)
  | _ => exact h.elim
theorem Gh.frz_at : (g.frz a o).G a = some o := upd_same
def putE (s : State) (i : Nat) (w : W) : State := { s with env := s.env.set i (some w) }
def canSet (s : State) (i : Nat) : Bool := match s.env[i]? with
  | some none => true
  | some (some (.fz _)) => true
  | some (some (.own _)) => true
  | _ => false
theorem getE_set {i j : Nat} {l : List (Option W)} {w : W} {u : W} (h : (l.set i (some w))[j]? = some (some u)) : (j = i ∧ u = w) ∨ (j ≠ i ∧ l[j]? = some (some u)) := by
  by_cases z : i = j
  · subst z
    by_cases hl : i < l.length
    · rw [List.getElem?_set_self hl] at h
      cases h
      exact .inl ⟨rfl, rfl⟩
    · rw [List.getElem?_eq_none (by simpa using hl)] at h; cases h
  · rw [List.getElem?_set_ne z] at h
    exact .inr ⟨fun q => z q.symm, h⟩
theorem SD.set (sd : SD K g H σ s) {i : Nat} (c : canSet s i = true) {v : V} {w : W} (wa : WAt K g H v w) (nh : ∀ b, w.held = true → v = .ref b → ¬ Hd σ s b) : SD K g H (σ.set i (some v)) (putE s i w) where
  gh := sd.gh
  len := by show (s.env.set i _).length = _; rw [List.length_set, List.length_set]; exact sd.len
  slot := fun j u e => by
    have hl : i < s.env.length := by
      unfold canSet at c
      cases q : s.env[i]? with
      | none => rw [q] at c; cases c
      | some _ => exact (List.getElem?_eq_some_iff.mp q).1
    rcases getE_set e with ⟨rfl, rfl⟩ | ⟨ne, e⟩
    · exact ⟨v, List.getElem?_set_self (by rw [← sd.len]; exact hl), wa⟩
    · obtain ⟨v', ev, wa'⟩ := sd.slot j u e
      exact ⟨v', by rw [List.getElem?_set_ne (Ne.symm ne)]; exact ev, wa'⟩
  inj := fun j k u1 u2 b e1 e2 h1 h2 x1 x2 => by
    have hl : i < s.env.length := by
      unfold canSet at c
      cases q : s.env[i]? with
      | none => rw [q] at c; cases c
      | some _ => exact (List.getElem?_eq_some_iff.mp q).1
    have hs : (σ.set i (some v))[i]? = some (some v) := List.getElem?_set_self (by rw [← sd.len]; exact hl)
    rcases getE_set e1 with ⟨z1, y1⟩ | ⟨n1, e1'⟩
    · rcases getE_set e2 with ⟨z2, _⟩ | ⟨n2, e2'⟩
      · rw [z1, z2]
      · rw [z1, hs] at x1; cases x1
        rw [List.getElem?_set_ne (Ne.symm n2)] at x2
        exact absurd ⟨k, u2, e2', h2, x2⟩ (nh b (y1 ▸ h1) rfl)
    · rcases getE_set e2 with ⟨z2, y2⟩ | ⟨n2, e2'⟩
      · rw [z2, hs] at x2; cases x2
        rw [List.getElem?_set_ne (Ne.symm n1)] at x1
        exact absurd ⟨j, u1, e1', h1, x1⟩ (nh b (y2 ▸ h2) rfl)
      · rw [List.getElem?_set_ne (Ne.symm n1)] at x1
        rw [List.getElem?_set_ne (Ne.symm n2)] at x2
        exact sd.inj j k u1 u2 b e1' e2' h1 h2 x1 x2
  stl := sd.stl
  sto := sd.sto
  nd := sd.nd
  ng := sd.ng
  dr := sd.dr
theorem Ev.set {g0 : Gh} {H0 : Hp} {σ0 : Slots} {s0 : State} (e : Ev g0 H0 σ0 s0 g H σ s) (sd : SD K g H σ s) {i : Nat} (c : canSet s i = true) {v : V} {w : W} (wn : ∀ b, w.held = true → v = .ref b → H0 b = none) : Ev g0 H0 σ0 s0 g H (σ.set i (some v)) (putE s i w) where
  le := e.le
  keep := e.keep
  live := e.live
  frz := e.frz
  eta := e.eta
  mu := fun b m => by
    rcases m with ⟨j, u, e1, m1, x⟩ | m
    · rcases getE_set e1 with ⟨rfl, rfl⟩ | ⟨n1, e1⟩
      · have hl : j < s.env.length := by
          have := (List.getElem?_eq_some_iff.mp (show (s.env.set j _)[j]? = _ from e1)).1
          simpa using this
        rw [List.getElem?_set_self (by rw [← sd.len]; exact hl)] at x
        cases x
        exact .inr (wn b (by cases u <;> first | rfl | cases m1) rfl)
      · rw [List.getElem?_set_ne (Ne.symm n1)] at x
        exact e.mu b (.inl ⟨j, u, e1, m1, x⟩)
    · exact e.mu b (.inr m)
  hd := fun b m => by
    obtain ⟨j, u, e1, m1, x⟩ := m
    rcases getE_set e1 with ⟨rfl, rfl⟩ | ⟨n1, e1⟩
    · have hl : j < s.env.length := by
        have := (List.getElem?_eq_some_iff.mp (show (s.env.set j _)[j]? = _ from e1)).1
        simpa using this
      rw [List.getElem?_set_self (by rw [← sd.len]; exact hl)] at x
      cases x
      exact .inr (wn b m1 rfl)
    · rw [List.getElem?_set_ne (Ne.symm n1)] at x
      exact e.hd b ⟨j, u, e1, m1, x⟩
  ow := fun b m => by
    obtain ⟨j, d, e1, x⟩ := m
    have key : ∀ u : W, (s.env.set i (some w))[j]? = some (some u) → u.held = true → (∀ (h : s.env[j]? = some (some u)), σ[j]? = some (some (V.ref b)) → OwnA σ s b) → OwnA σ0 s0 b ∨ H0 b = none := fun u e1 hu k => by
      rcases getE_set e1 with ⟨z, z2⟩ | ⟨n1, e1⟩
      · subst z
        have hl : j < s.env.length := by
          have := (List.getElem?_eq_some_iff.mp (show (s.env.set j _)[j]? = _ from e1)).1
          simpa using this
        rw [List.getElem?_set_self (by rw [← sd.len]; exact hl)] at x
        cases x
        exact .inr (wn b (z2 ▸ hu) rfl)
      · rw [List.getElem?_set_ne (Ne.symm n1)] at x
        exact e.ow b (k e1 x)
    rcases e1 with e1 | e1
    · exact key _ e1 rfl fun h hx => ⟨j, d, .inl h, hx⟩
    · exact key _ e1 rfl fun h hx => ⟨j, d, .inr h, hx⟩
  fix := fun j d h => by
    obtain ⟨e1, d1, h1⟩ := e.fix j d h
    have ne : j ≠ i := fun z => by subst z; unfold canSet at c; rcases h1 with h1 | h1 <;> rw [h1] at c <;> cases c
    refine ⟨by rw [List.getElem?_set_ne (Ne.symm ne)]; exact e1, d1, ?_⟩
    show (s.env.set i _)[j]? = _ ∨ (s.env.set i _)[j]? = _
    rw [List.getElem?_set_ne (Ne.symm ne)]
    exact h1
  lk := fun j d h => by
    obtain ⟨e1, h1⟩ := e.lk j d h
    have ne : j ≠ i := fun z => by subst z; unfold canSet at c; rw [h1] at c; cases c
    exact ⟨by rw [List.getElem?_set_ne (Ne.symm ne)]; exact e1, by show (s.env.set i _)[j]? = _; rw [List.getElem?_set_ne (Ne.symm ne)]; exact h1⟩
  lkl := fun j d h => by
    obtain ⟨e1, h1⟩ := e.lkl j d h
    have ne : j ≠ i := fun z => by subst z; unfold canSet at c; rw [h1] at c; cases c
    exact ⟨by rw [List.getElem?_set_ne (Ne.symm ne)]; exact e1, by show (s.env.set i _)[j]? = _; rw [List.getElem?_set_ne (Ne.symm ne)]; exact h1⟩
theorem SD.freezeSlot (sd : SD K g H σ s) {i : Nat} {d : D} (e : s.env[i]? = some (some (.own d))) : ∃ a o, σ[i]? = some (some (V.ref a)) ∧ H a = some o ∧ SD K (g.frz a o) H σ (putE s i (.fz d)) ∧ Ev g H σ s (g.frz a o) H σ (putE s i (.fz d)) ∧ Rep K (g.frz a o) (.ref a) d := by
  obtain ⟨v, ev, a, o, rfl, f, q, ob⟩ := sd.slot i _ e
  have rp : Rep K (g.frz a o) (.ref a) d := ob.rep (Gh.frz_le f.1) Gh.frz_at
  have nh : ¬ Hd σ (putE s i (.fz d)) a := fun ⟨j, u, e1, h1, x⟩ => by
    rcases getE_set e1 with ⟨_, rfl⟩ | ⟨n1, e1⟩
    · cases h1
    · exact n1 (sd.inj j i u _ a e1 e h1 rfl x ev)
  -- first the slot without its holding, then the freezing
  refine ⟨a, o, ev, q, ?_, ?_, rp⟩
  · refine ⟨fun b u eb => ?_, by show (s.env.set i _).length = _; rw [List.length_set]; exact sd.len, fun j u e1 => ?_, fun j k u1 u2 b e1 e2 h1 h2 x1 x2 => ?_, sd.stl, fun j m b e1 e2 => ?_, sd.nd, fun b hb => ?_, ?_⟩
    · by_cases z : b = a
      · subst z
        have e' : upd g.G b o b = some u := eb
        rw [upd_same] at e'; cases e'
        exact .inl q
      · have e' : upd g.G a o b = some u := eb
        rw [upd_ne z] at e'
        exact sd.gh b u e'
    · rcases getE_set e1 with ⟨rfl, rfl⟩ | ⟨n1, e1⟩
      · exact ⟨_, ev, rp⟩
      · obtain ⟨v', ev', wa'⟩ := sd.slot j u e1
        refine ⟨v', ev', wa'.keep (Gh.frz_le f.1) (fun _ _ _ _ q => q) fun b eb hw x => x.frz fun z => n1 (sd.inj j i u _ a e1 e hw rfl ?_ ev)⟩
        rw [ev', eb, z]
    · rcases getE_set e1 with ⟨_, rfl⟩ | ⟨n1, e1⟩
      · cases h1
      · rcases getE_set e2 with ⟨_, rfl⟩ | ⟨n2, e2⟩
        · cases h2
        · exact sd.inj j k u1 u2 b e1 e2 h1 h2 x1 x2
    · obtain ⟨u, q1, m1⟩ := sd.sto j m b e1 e2
      exact ⟨u, q1, m1.mono (Gh.frz_le f.1)⟩
    · have ne : b ≠ a := fun z => f.2.1 (z ▸ hb)
      exact ⟨by show upd g.G a o b = _; rw [upd_ne ne]; exact (sd.ng b hb).1, (sd.ng b hb).2⟩
    · exact DrOk.frz f sd.dr
  · have low : ∀ {w u : W} {j : Nat}, (s.env.set i (some (.fz d)))[j]? = some (some u) → u.held = true → s.env[j]? = some (some u) := fun {w u j} e1 hu => by
      rcases getE_set e1 with ⟨_, rfl⟩ | ⟨_, e1⟩
      · cases hu
      · exact e1
    refine ⟨Gh.frz_le f.1, fun _ _ h _ => h, fun _ h => h, fun b l q' => ?_, fun _ _ z => z, fun b m => ?_, fun b m => ?_, fun b m => ?_, fun j d' h => ?_, fun j d' h => ?_, fun j d' h => ?_⟩
    · by_cases z : b = a
      · subst z; exact .inr (.inl (.inl ⟨i, _, e, rfl, ev⟩))
      · have q2 : upd g.G a o b ≠ none := q'
        rw [upd_ne z] at q2
        exact .inl q2
    · rcases m with ⟨j, u, e1, m1, x⟩ | m
      · exact .inl (.inl ⟨j, u, low (w := u) e1 (by cases u <;> first | rfl | cases m1), m1, x⟩)
      · exact .inl (.inr m)
    · obtain ⟨j, u, e1, m1, x⟩ := m
      exact .inl ⟨j, u, low (w := u) e1 m1, m1, x⟩
    · obtain ⟨j, d', e1, x⟩ := m
      rcases e1 with e1 | e1
      · exact .inl ⟨j, d', .inl (low (w := .own d') e1 rfl), x⟩
      · exact .inl ⟨j, d', .inr (low (w := .own d') e1 rfl), x⟩
    · have ne : j ≠ i := fun z => by subst z; rw [e] at h; cases h
      exact ⟨rfl, d', .inl (by show (s.env.set i _)[j]? = _; rw [List.getElem?_set_ne (Ne.symm ne)]; exact h)⟩
    · have ne : j ≠ i := fun z => by subst z; rw [e] at h; cases h
      exact ⟨rfl, by show (s.env.set i _)[j]? = _; rw [List.getElem?_set_ne (Ne.symm ne)]; exact h⟩
    · have ne : j ≠ i := fun z => by subst z; rw [e] at h; cases h
      exact ⟨rfl, by show (s.env.set i _)[j]? = _; rw [List.getElem?_set_ne (Ne.symm ne)]; exact h⟩
end
end DL
set_option Elab.async false
set_option linter.all false
set_option maxRecDepth 100000
set_option maxHeartbeats 1000000
namespace DL
open PySem PySem.Spec PyProof.Rows L2
def ErrAt (K : PySem.W.Frag) (g : Gh) (H : Hp) (cls : Value) (d : Option Addr) (x : Ex) : Prop :=
  cls = .ref x.cls ∧ ((x.fs = [] ∧ d = none) ∨ ∃ dd fs, d = some dd ∧ H dd = some (.xd fs) ∧ fs.map Prod.fst = x.fs.map Prod.fst ∧ Reps K g (fs.map Prod.snd) (x.fs.map Prod.snd))
section
variable {α β γ δ : Type}
def Post (K : PySem.W.Frag) (Wx : WX) (σ : Slots) (R : Gh → Hp → State → β → α → Prop) (Q : β → Hp → Prop) (g0 : Gh) (H0 : Hp) (s0 : State) : Rs α → Prop
  | .ok a s' => ∀ b g' H', SD K g' H' σ s' → Ev g0 H0 σ s0 g' H' σ s' → R g' H' s' b a → Q b H'
  | .err x s' => ∀ cls d g' H', SD K g' H' σ s' → Ev g0 H0 σ s0 g' H' σ s' → ErrAt K g' H' cls d x → Wx cls d σ H'
  | .bad => False
abbrev Rel (α β : Type) := Slots → Hp → Gh → Hp → State → β → α → Prop
def tM (K : PySem.W.Frag) (Wx : WX) (R : Rel α β) (f : M α) : Slots → Hp → (β → Hp → Prop) → Prop :=
  fun σ H Q => ∃ g s, SD K g H σ s ∧ Post K Wx σ (R σ H) Q g H s (f s)
structure Cur (K : PySem.W.Frag) (Wx : WX) (σ : Slots) (R : Gh → Hp → State → β → α → Prop) (Q : β → Hp → Prop) (g0 : Gh) (H0 : Hp) (s0 : State) (m : Rs α) (g1 : Gh) (H1 : Hp) (s1 : State) : Prop where
  ev : Ev g0 H0 σ s0 g1 H1 σ s1
  sd : SD K g1 H1 σ s1
  post : Post K Wx σ R Q g0 H0 s0 m
variable {K : PySem.W.Frag} {Wx : WX} {σ : Slots} {R : Gh → Hp → State → β → α → Prop} {Q : β → Hp → Prop} {g0 g1 g g' : Gh} {H0 H1 H H' : Hp} {s0 s1 s s' : State}
theorem tM.start {R : Rel α β} {f : M α} (h : tM K Wx R f σ H Q) : ∃ g s, Cur K Wx σ (R σ H) Q g H s (f s) g H s := by
  obtain ⟨g, s, sd, p⟩ := h
  exact ⟨g, s, .refl, sd, p⟩
theorem Cur.bind {R1 : Rel γ δ} {f : M γ} {k : γ → M α} (c : Cur K Wx σ R Q g0 H0 s0 ((f >>= k) s1) g1 H1 s1) :
    tM K Wx R1 f σ H1 (fun b H2 => ∃ a g2 s2, Cur K Wx σ R Q g0 H0 s0 (k a s2) g2 H2 s2 ∧ R1 σ H1 g2 H2 s2 b a ∧ Ev g1 H1 σ s1 g2 H2 σ s2) := by
  refine ⟨g1, s1, c.sd, ?_⟩
  have p := c.post
  have e : (f >>= k) s1 = (match f s1 with | .ok a s' => k a s' | .err x s' => .err x s' | .bad => .bad) := rfl
  rw [e] at p
  cases q : f s1 with
  | ok a s2 =>
    rw [q] at p
    intro b g2 H2 sd ev r
    exact ⟨a, g2, s2, ⟨c.ev.trans ev, sd, p⟩, r, ev⟩
  | err x s2 =>
    rw [q] at p
    intro cls d g2 H2 sd ev er
    exact p cls d g2 H2 sd (c.ev.trans ev) er
  | bad =>
    rw [q] at p
    exact p
theorem Cur.last {R1 : Rel α β} {f : M α} (c : Cur K Wx σ R Q g0 H0 s0 (f s1) g1 H1 s1) (h : ∀ b a g2 H2 s2, Ev g0 H0 σ s0 g1 H1 σ s1 → R1 σ H1 g2 H2 s2 b a → R g2 H2 s2 b a) : tM K Wx R1 f σ H1 Q := by
  refine ⟨g1, s1, c.sd, ?_⟩
  have p := c.post
  cases q : f s1 with
  | ok a s2 =>
    rw [q] at p
    exact fun b g2 H2 sd ev r => p b g2 H2 sd (c.ev.trans ev) (h b a g2 H2 s2 c.ev r)
  | err x s2 =>
    rw [q] at p
    exact fun cls d g2 H2 sd ev er => p cls d g2 H2 sd (c.ev.trans ev) er
  | bad => rw [q] at p; exact p
theorem Cur.done {a : α} {b : β} {m : Rs α} (c : Cur K Wx σ R Q g0 H0 s0 m g1 H1 s1) (e : m = .ok a s1) (r : R g1 H1 s1 b a) : Q b H1 := by
  have p := c.post
  rw [e] at p
  exact p b g1 H1 c.sd c.ev r
theorem Cur.done' {a : α} {b : β} {m : Rs α} {g2 : Gh} {H2 : Hp} {s2 : State} (c : Cur K Wx σ R Q g0 H0 s0 m g1 H1 s1) (e : m = .ok a s2) (sd : SD K g2 H2 σ s2) (ev : Ev g1 H1 σ s1 g2 H2 σ s2) (r : R g2 H2 s2 b a) : Q b H2 := by
  have p := c.post
  rw [e] at p
  exact p b g2 H2 sd (c.ev.trans ev) r
theorem Cur.notBad {m : Rs α} (c : Cur K Wx σ R Q g0 H0 s0 m g1 H1 s1) (e : m = .bad) : False := by
  have p := c.post
  rw [e] at p
  exact p
theorem tM.mono {R : Rel α β} {f : M α} {Q Q' : β → Hp → Prop} (h : tM K Wx R f σ H Q) (m : ∀ b H', Q b H' → Q' b H') : tM K Wx R f σ H Q' := by
  obtain ⟨g, s, sd, p⟩ := h
  refine ⟨g, s, sd, ?_⟩
  cases q : f s with
  | ok a s2 => rw [q] at p; exact fun b g2 H2 sd ev r => m _ _ (p b g2 H2 sd ev r)
  | err x s2 => rw [q] at p; exact p
  | bad => rw [q] at p; exact p
end
inductive VR where
  | slot (i : Nat) | t (t : T)
def RVR (K : PySem.W.Frag) : Rel VR V := fun σ H0 g H s v r => match r with
  | .slot i => σ[i]? = some (some v)
  | .t t => RT K H0 g H σ s v t
def RTt (K : PySem.W.Frag) : Rel T V := fun σ H0 g H s v t => RT K H0 g H σ s v t
abbrev tE (K : PySem.W.Frag) (Wx : WX) (f : M T) : TE := tM K Wx (RTt K) f
abbrev tV (K : PySem.W.Frag) (Wx : WX) (f : M VR) : TE := tM K Wx (RVR K) f
def DE (X : Cx) (Wx : WX) (e : Expr) (f : M T) : Prop := PE X e (tE X.K Wx f)
def DV (X : Cx) (Wx : WX) (e : Expr) (f : M VR) : Prop := PE X e (tV X.K Wx f)
def RB : Rel Bool Bool := fun _ _ _ _ _ b c => b = c
def DT (X : Cx) (Wx : WX) (e : Expr) (f : M Bool) : Prop := PT X e (tM X.K Wx RB f)
def DTW (X : Cx) (Wx : WX) (e : Expr) (f : M Bool) : Prop := PW X e (tM X.K Wx RB f)
def W.data : W → D
  | .fz d => d | .own d => d | .lent d => d | .lk d => d | .lkl d => d
def T.data : T → D
  | .fz d => d | .ow d => d
def readV : VR → M D
  | .slot i => fun s => match s.env[i]? with
    | some (some w) => .ok w.data s
    | _ => .bad
  | .t t => fun s => .ok t.data s
def VAt (K : PySem.W.Frag) (g : Gh) (H : Hp) (v : V) (d : D) : Prop := Rep K g v d ∨ ∃ a o, v = .ref a ∧ RdO H a o ∧ ObAt K g o d
section
variable {K : PySem.W.Frag} {Wx : WX} {σ : Slots} {g g' : Gh} {H0 H H' : Hp} {s s' : State} {v : V} {w : W}
theorem WAt.view (h : WAt K g H v w) : VAt K g H v w.data := by
  cases w with
  | fz d => exact .inl h
  | own d => obtain ⟨a, o, e, _, q, ob⟩ := h; exact .inr ⟨a, o, e, .inl q, ob⟩
  | lent d => obtain ⟨a, o, e, _, q, ob⟩ := h; exact .inr ⟨a, o, e, .inl q, ob⟩
  | lk d => obtain ⟨a, o, e, _, q, ob⟩ := h; exact .inr ⟨a, o, e, q, ob⟩
  | lkl d => obtain ⟨a, o, e, _, q, ob⟩ := h; exact .inr ⟨a, o, e, q, ob⟩
theorem TAt.view {t : T} (h : TAt K g H v t) : VAt K g H v t.data := by
  cases t with
  | fz d => exact .inl h
  | ow d => obtain ⟨a, o, e, _, q, ob⟩ := h; exact .inr ⟨a, o, e, .inl q, ob⟩
theorem RVR.read {r : VR} {d : D} (sd : SD K g H σ s) (h : RVR K σ H0 g H s v r) (e : readV r s = .ok d s') : s' = s ∧ VAt K g H v d := by
  cases r with
  | slot i =>
    unfold readV at e
    cases e2 : s.env[i]? with
    | none => simp only [e2] at e; cases e
    | some w =>
      cases w with
      | none => simp only [e2] at e; cases e
      | some w =>
        simp only [e2] at e
        cases e
        obtain ⟨v', ev, wa⟩ := sd.slot i w e2
        have h : σ[i]? = some (some v) := h
        rw [h] at ev; cases ev
        exact ⟨rfl, wa.view⟩
  | t t =>
    unfold readV at e
    cases e
    exact ⟨rfl, TAt.view h.at_⟩
theorem RVR.ev {r : VR} (e : Ev g H σ s g' H' σ s') (h : RVR K σ H0 g H s v r) : RVR K σ H0 g' H' s' v r := by
  cases r with
  | slot i => exact h
  | t t => exact RT.ev e h
theorem RVR.past {r : VR} {H1 : Hp} (l : ∀ a, H0 a ≠ none → H1 a ≠ none) (h : RVR K σ H1 g H s v r) : RVR K σ H0 g H s v r := by
  cases r with
  | slot i => exact h
  | t t => exact RT.past l h
theorem VAt.sc {d : D} (h : VAt K g H v d) (n : ∀ o, ¬ ObAt K g o d) : Rep K g v d := by
  rcases h with h | ⟨a, o, _, _, ob⟩
  · exact h
  · exact (n o ob).elim
theorem VAt.le {d : D} (h : Le g g') (x : VAt K g H v d) : VAt K g' H v d := by
  rcases x with x | ⟨a, o, e, q, ob⟩
  · exact .inl (x.mono h)
  · exact .inr ⟨a, o, e, q, ob.mono h⟩
theorem VAt.int {i : Int} (h : VAt K g H v (.int i)) : v = .int i := by cases h.sc (fun _ z => z); rfl
theorem VAt.bl {i : Bool} (h : VAt K g H v (.bl i)) : v = .bl i := by cases h.sc (fun _ z => z); rfl
theorem VAt.str {i : Str} (h : VAt K g H v (.str i)) : v = .str i := by cases h.sc (fun _ z => z); rfl
theorem VAt.non (h : VAt K g H v .non) : v = .non := by cases h.sc (fun _ z => z); rfl
theorem VAt.tup {ds : List D} (sd : SD K g H σ s) (h : VAt K g H v (.tup ds)) : ∃ a xs, v = .ref a ∧ SqT K H a xs ∧ Reps K g xs ds := by
  cases h.sc (fun _ z => z) with
  | tup q r => exact ⟨_, _, rfl, .of (sd.here q rfl), r⟩
  | tup0 q => exact ⟨_, _, rfl, sd.tup q, .nil⟩
theorem VAt.tupH {d : D} {ds : List D} (sd : SD K g H σ s) (h : VAt K g H v (.tup (d :: ds))) : ∃ a xs, v = .ref a ∧ H a = some (.tup xs) ∧ Reps K g xs (d :: ds) := by
  cases h.sc (fun _ z => z) with
  | tup q r => exact ⟨_, _, rfl, sd.here q rfl, r⟩
theorem VAt.lst {ds : List D} (sd : SD K g H σ s) (h : VAt K g H v (.lst ds)) : ∃ a xs, v = .ref a ∧ H a = some (.lst xs) ∧ Reps K g xs ds := by
  rcases h with h | ⟨a, o, e, q, ob⟩
  · cases h with
    | lst q r => exact ⟨_, _, rfl, sd.here q rfl, r⟩
  · obtain ⟨xs, rfl, r⟩ := ob
    exact ⟨a, xs, e, q.exact rfl, r⟩
theorem VAt.dk {ds : List (Key × D)} (sd : SD K g H σ s) (h : VAt K g H v (.dk ds)) : ∃ a kvs, v = .ref a ∧ RdO H a (.dK kvs) ∧ kvs.map Prod.fst = ds.map Prod.fst ∧ Reps K g (kvs.map Prod.snd) (ds.map Prod.snd) := by
  rcases h with h | ⟨a, o, e, q, ob⟩
  · cases h with
    | dk q k r => exact ⟨_, _, rfl, sd.gh _ _ q, k, r⟩
  · obtain ⟨xs, rfl, k, r⟩ := ob
    exact ⟨a, xs, e, q, k, r⟩
theorem VAt.dt {ds : List (List Key × D)} (sd : SD K g H σ s) (h : VAt K g H v (.dt ds)) : ∃ a kvs, v = .ref a ∧ RdO H a (.dT kvs) ∧ kvs.map Prod.fst = ds.map Prod.fst ∧ Reps K g (kvs.map Prod.snd) (ds.map Prod.snd) := by
  rcases h with h | ⟨a, o, e, q, ob⟩
  · cases h with
    | dt q k r => exact ⟨_, _, rfl, sd.gh _ _ q, k, r⟩
  · obtain ⟨xs, rfl, k, r⟩ := ob
    exact ⟨a, xs, e, q, k, r⟩
theorem VAt.obj {C : Addr} {ds : List (Str × D)} (sd : SD K g H σ s) (h : VAt K g H v (.obj C ds)) : ∃ a dx fs, v = .ref a ∧ H a = some (.ins C dx fs) ∧ fs.map Prod.fst = ds.map Prod.fst ∧ Reps K g (fs.map Prod.snd) (ds.map Prod.snd) := by
  rcases h with h | ⟨a, o, e, q, ob⟩
  · cases h with
    | obj q k r => exact ⟨_, _, _, rfl, sd.here q rfl, k, r⟩
  · obtain ⟨dx, xs, rfl, k, r⟩ := ob
    exact ⟨a, dx, xs, e, q.exact rfl, k, r⟩
end
end DL
set_option Elab.async false
set_option linter.all false
set_option maxRecDepth 100000
set_option maxHeartbeats 1000000
namespace DL
open PySem PySem.Spec PyProof.Rows L2
section
variable {K : PySem.W.Frag} {Wx : WX} {σ : Slots} {g g1 : Gh} {H H0 H1 : Hp} {s s0 s1 : State} {Q : V → Hp → Prop} {R : Gh → Hp → State → V → T → Prop}
def Fin (K : PySem.W.Frag) (g : Gh) (H : Hp) (σ : Slots) (s : State) (t : T) (Q : V → Hp → Prop) : Prop :=
  ∀ v g' H', SD K g' H' σ s → Ev g H σ s g' H' σ s → RT K H g' H' σ s v t → Q v H'
theorem Fin.fz {v : V} {d : D} (sd : SD K g H σ s) (r : Rep K g v d) (f : Fin K g H σ s (.fz d) Q) : Q v H := f v g H sd .refl ⟨r, fun _ _ z => nomatch z⟩
theorem Fin.ow {p : Addr} {o : HO} {d : D} (sd : SD K g H σ s) (hp : H p = none) (ob : ObAt K g o d) (f : Fin K g H σ s (.ow d) Q) : Q (.ref p) (upd H p o) := by
  refine f _ g _ (sd.alloc hp) (sd.allocEv hp) ⟨⟨p, o, rfl, sd.free1 hp, upd_same, ob⟩, fun d' a e1 e2 => ?_⟩
  cases e2
  exact ⟨hp, sd.noHd hp⟩
theorem ObAt.lst {xs : List V} {ds : List D} (r : Reps K g xs ds) : ObAt K g (.lst xs) (.lst ds) := ⟨xs, rfl, r⟩
theorem ObAt.dk {xs : List (Key × V)} {ds : List (Key × D)} (e : xs.map Prod.fst = ds.map Prod.fst) (r : Reps K g (xs.map Prod.snd) (ds.map Prod.snd)) : ObAt K g (.dK xs) (.dk ds) := ⟨xs, rfl, e, r⟩
theorem ObAt.dt {xs : List (List Key × V)} {ds : List (List Key × D)} (e : xs.map Prod.fst = ds.map Prod.fst) (r : Reps K g (xs.map Prod.snd) (ds.map Prod.snd)) : ObAt K g (.dT xs) (.dt ds) := ⟨xs, rfl, e, r⟩
theorem Fin.tup {p : Addr} {xs : List V} {ds : List D} (sd : SD K g H σ s) (hp : H p = none) (r : Reps K g xs ds) (f : Fin K g H σ s (.fz (.tup ds)) Q) : Q (.ref p) (upd H p (.tup xs)) := by
  have f1 := sd.free1 hp
  have sd1 := (sd.alloc (o := .tup xs) hp).freeze f1 (sd.noHd hp) upd_same
  refine f _ (g.frz p (.tup xs)) _ sd1 ((sd.allocEv hp).freeze f1 hp) ⟨?_, fun _ _ z => nomatch z⟩
  exact .tup Gh.frz_at (r.mono (Gh.frz_le f1.1))
theorem Cur.fin {t : T} {m : Rs T} (c : Cur K Wx σ (fun g' H' s' v t => RT K H0 g' H' σ s' v t) Q g H0 s0 m g1 H1 s1) (e : m = .ok t s1) : Fin K g1 H1 σ s1 t Q := fun v g2 H2 sd ev r =>
  c.done' e sd ev (r.past c.ev.live)
end
def OpD (X : Cx) (f : Value → Value → Sem Value) (h : D → D → Option T) : Prop :=
  ∃ r, OpR X f r ∧ ∀ (g : Gh) (H : Hp) (σ : Slots) (s : State) (x y : V) (d e : D) (t : T) (Q : V → Hp → Prop), SD X.K g H σ s → VAt X.K g H x d → VAt X.K g H y e → h d e = some t → Fin X.K g H σ s t Q → r x y H Q
def opt (o : Option T) : M T := fun s => match o with
  | some t => .ok t s
  | none => .bad
def dOp2 (h : D → D → Option T) (fa fb : M VR) : M T := fa >>= fun x => fb >>= fun y => readV x >>= fun d => readV y >>= fun e => opt (h d e)
section
variable {α β γ : Type}
theorem bind_eq {f : M α} {k : α → M β} {s : State} : (f >>= k) s = (match f s with | .ok a s' => k a s' | .err x s' => .err x s' | .bad => .bad) := rfl
theorem readV_res (r : VR) (s : State) : (∃ d, readV r s = .ok d s) ∨ readV r s = .bad := by
  cases r with
  | slot i =>
    cases e : s.env[i]? with
    | none => exact .inr (by simp only [readV, e])
    | some w =>
      cases w with
      | none => exact .inr (by simp only [readV, e])
      | some w => exact .inl ⟨w.data, by simp only [readV, e]⟩
  | t t => exact .inl ⟨_, rfl⟩
variable {K : PySem.W.Frag} {Wx : WX} {σ : Slots} {R : Gh → Hp → State → β → α → Prop} {Q : β → Hp → Prop} {g0 g1 g g' : Gh} {H0 H1 H H' : Hp} {s0 s1 s s' : State}
theorem Cur.read {x : VR} {v : V} {k : D → M α} {Hq : Hp} (c : Cur K Wx σ R Q g0 H0 s0 ((readV x >>= k) s1) g1 H1 s1) (h : RVR K σ Hq g1 H1 s1 v x) :
    ∃ d, Cur K Wx σ R Q g0 H0 s0 (k d s1) g1 H1 s1 ∧ VAt K g1 H1 v d := by
  rw [bind_eq] at c
  rcases readV_res x s1 with ⟨d, e⟩ | e
  · rw [e] at c
    exact ⟨d, c, (h.read c.sd e).2⟩
  · rw [e] at c
    exact (c.notBad rfl).elim
end
section
variable {X : Cx} {Wx : WX} {a b c : Expr} {fa fb fc : M VR} {pos : Pos}
theorem op2_run {f : Value → Value → Sem Value} {h : D → D → Option T} {r : R2} (hr : ∀ (g : Gh) (H : Hp) (σ : Slots) (s : State) (x y : V) (d e : D) (t : T) (Q : V → Hp → Prop), SD X.K g H σ s → VAt X.K g H x d → VAt X.K g H y e → h d e = some t → Fin X.K g H σ s t Q → r x y H Q)
    {σ : Slots} {H : Hp} {Q : V → Hp → Prop} (q : tE X.K Wx (dOp2 h fa fb) σ H Q) : tOp r (tV X.K Wx fa) (tV X.K Wx fb) σ H Q := by
  obtain ⟨g, s, c⟩ := q.start
  refine c.bind.mono fun x H1 ⟨x', g1, s1, c1, r1, e1⟩ => ?_
  refine c1.bind.mono fun y H2 ⟨y', g2, s2, c2, r2, e2⟩ => ?_
  obtain ⟨d, c3, v1⟩ := c2.read (r1.ev e2)
  obtain ⟨e, c4, v2⟩ := c3.read r2
  cases q : h d e with
  | none => exact (c4.notBad (by rw [q]; rfl)).elim
  | some t => exact hr g2 H2 σ s2 x y d e t Q c2.sd v1 v2 q (c4.fin (by rw [q]; rfl))
theorem de_op {op : Operator} {h : D → D → Option T} (ho : OpD X (binaryOp op) h) (ha : DV X Wx a fa) (hb : DV X Wx b fb) : DE X Wx (.BinOp a op b pos) (dOp2 h fa fb) := by
  obtain ⟨r, hr, k⟩ := ho
  exact ⟨fun pins s σ H Q I q => (pe_op hr ha hb).run pins s σ H Q I (op2_run (f := binaryOp op) k q)⟩
theorem de_cmp {op : CmpOp} {h : D → D → Option T} (ho : OpD X (compareOp op) h) (ha : DV X Wx a fa) (hb : DV X Wx b fb) (hm : behindInMarks op b = false) : DE X Wx (.Compare a [op] [b] pos) (dOp2 h fa fb) := by
  obtain ⟨r, hr, k⟩ := ho
  exact ⟨fun pins s σ H Q I q => (pe_cmpR hr ha hb hm).run pins s σ H Q I (op2_run (f := compareOp op) k q)⟩
def dB (f : M T) : M Bool := f >>= fun t s => match t with
  | .fz (.bl b) => .ok b s
  | _ => .bad
theorem dB_run {f : M T} {σ : Slots} {H : Hp} {Q : Bool → Hp → Prop} (q : tM X.K Wx RB (dB f) σ H Q) : tE X.K Wx f σ H fun x H' => ∃ k, x = .bl k ∧ Q k H' := by
  obtain ⟨g, s, c⟩ := q.start
  refine c.bind.mono fun x H1 ⟨t, g1, s1, c1, r1, e1⟩ => ?_
  cases t with
  | ow d => exact (c1.notBad rfl).elim
  | fz d =>
    cases d with
    | bl k =>
      have r := RT.at_ r1
      cases r
      exact ⟨k, rfl, c1.done rfl rfl⟩
    | _ => exact (c1.notBad rfl).elim
theorem dt_val {e : Expr} {f : M T} (h : DE X Wx e f) (he : ∀ whole, isTrue e X.env whole = (do let v ← whole; standAt e.pos; holding [v] (truthy v)) := by intro _; rfl) : DT X Wx e (dB f) :=
  ⟨fun pins s σ H Q I q => (pt_val h he).run pins s σ H Q I (dB_run q)⟩
theorem dt_cmp {op : CmpOp} {h : D → D → Option T} (ho : OpD X (compareOp op) h) (ha : DV X Wx a fa) (hb : DV X Wx b fb) (hm : behindInMarks op b = false) : DT X Wx (.Compare a [op] [b] pos) (dB (dOp2 h fa fb)) := by
  obtain ⟨r, hr, k⟩ := ho
  exact ⟨fun pins s σ H Q I q => (pt_cmpR hr ha hb hm).run pins s σ H Q I (op2_run (f := compareOp op) k (dB_run q))⟩
def dChain (h h' : D → D → Option T) (fa fb fc : M VR) : M T := fa >>= fun x => fb >>= fun y => readV x >>= fun d => readV y >>= fun e => opt (h d e) >>= fun t s => match t with
  | .fz (.bl true) => (fc >>= fun z => readV y >>= fun e2 => readV z >>= fun u => opt (h' e2 u)) s
  | .fz (.bl false) => .ok (.fz (.bl false)) s
  | _ => .bad
theorem chain_run {f f' : Value → Value → Sem Value} {h h' : D → D → Option T} {r r' : R2} (hr : ∀ (g : Gh) (H : Hp) (σ : Slots) (s : State) (x y : V) (d e : D) (t : T) (Q : V → Hp → Prop), SD X.K g H σ s → VAt X.K g H x d → VAt X.K g H y e → h d e = some t → Fin X.K g H σ s t Q → r x y H Q)
    (hr' : ∀ (g : Gh) (H : Hp) (σ : Slots) (s : State) (x y : V) (d e : D) (t : T) (Q : V → Hp → Prop), SD X.K g H σ s → VAt X.K g H x d → VAt X.K g H y e → h' d e = some t → Fin X.K g H σ s t Q → r' x y H Q)
    {σ : Slots} {H : Hp} {Q : V → Hp → Prop} (q : tE X.K Wx (dChain h h' fa fb fc) σ H Q) : tChain r r' (tV X.K Wx fa) (tV X.K Wx fb) (tV X.K Wx fc) σ H Q := by
  obtain ⟨g, s, c⟩ := q.start
  refine c.bind.mono fun x H1 ⟨x', g1, s1, c1, r1, e1⟩ => ?_
  refine c1.bind.mono fun y H2 ⟨y', g2, s2, c2, r2, e2⟩ => ?_
  obtain ⟨d, c3, v1⟩ := c2.read (r1.ev e2)
  obtain ⟨e, c4, v2⟩ := c3.read r2
  cases q : h d e with
  | none => exact (c4.notBad (by rw [bind_eq, q]; rfl)).elim
  | some t =>
    refine hr g2 H2 σ s2 x y d e t _ c2.sd v1 v2 q fun v g3 H3 sd3 ev3 r3 => ?_
    rw [bind_eq, q] at c4
    cases t with
    | ow d => exact (c4.notBad rfl).elim
    | fz d0 =>
      cases d0 with
      | bl k =>
        have r := RT.at_ r3
        cases r
        refine ⟨k, rfl, ?_⟩
        cases k with
        | false =>
          rw [if_neg Bool.false_ne_true]
          exact c4.done' rfl sd3 ev3 ⟨.bl false, fun _ _ z => nomatch z⟩
        | true =>
          rw [if_pos rfl]
          have c5 : Cur X.K Wx σ _ Q g H s ((fc >>= fun z => readV y' >>= fun e2 => readV z >>= fun u => opt (h' e2 u)) s2) g3 H3 s2 := ⟨c4.ev.trans ev3, sd3, c4.post⟩
          refine c5.bind.mono fun z H4 ⟨z', g4, s4, c6, r6, e6⟩ => ?_
          obtain ⟨e', c7, v7⟩ := c6.read (r2.ev (ev3.trans e6))
          obtain ⟨u', c8, v8⟩ := c7.read r6
          cases q8 : h' e' u' with
          | none => exact (c8.notBad (by rw [q8]; rfl)).elim
          | some t => exact hr' g4 H4 σ s4 y z e' u' t Q c6.sd v7 v8 q8 (c8.fin (by rw [q8]; rfl))
      | _ => exact (c4.notBad rfl).elim
theorem de_chain {op op' : CmpOp} {h h' : D → D → Option T} (ho : OpD X (compareOp op) h) (ho' : OpD X (compareOp op') h') (ha : DV X Wx a fa) (hb : DV X Wx b fb) (hc : DV X Wx c fc)
    (hm : lastMarks [op, op'] [b, c] = false := by with_unfolding_all rfl) : DE X Wx (.Compare a [op, op'] [b, c] pos) (dChain h h' fa fb fc) := by
  obtain ⟨r, hr, k⟩ := ho
  obtain ⟨r', hr', k'⟩ := ho'
  exact ⟨fun pins s σ H Q I q => (pe_chain hr hr' ha hb hc hm).run pins s σ H Q I (chain_run (f := compareOp op) (f' := compareOp op') k k' q)⟩
def dVar (i : Nat) : M T := fun s => match s.env[i]? with
  | some (some (.fz d)) => .ok (.fz d) s
  | some (some (.own d)) => .ok (.fz d) (putE s i (.fz d))
  | _ => .bad
theorem dVar_run {i : Nat} {σ : Slots} {H : Hp} {Q : V → Hp → Prop} (q : tE X.K Wx (dVar i) σ H Q) : tVar i σ H Q := by
  obtain ⟨g, s, sd, p⟩ := q
  unfold dVar at p
  cases e : s.env[i]? with
  | none => simp only [e] at p; exact False.elim p
  | some w =>
    cases w with
    | none => simp only [e] at p; exact False.elim p
    | some w =>
      obtain ⟨v, ev, wa⟩ := sd.slot i w e
      cases w with
      | fz d =>
        simp only [e] at p
        exact ⟨v, ev, p v g H sd .refl ⟨wa, fun _ _ z => nomatch z⟩⟩
      | own d =>
        simp only [e] at p
        obtain ⟨a, o, ea, q, sd1, ev1, rp⟩ := sd.freezeSlot e
        exact ⟨.ref a, ea, p _ _ _ sd1 ev1 ⟨rp, fun _ _ z => nomatch z⟩⟩
      | lent d => simp only [e] at p; exact False.elim p
      | lk d => simp only [e] at p; exact False.elim p
      | lkl d => simp only [e] at p; exact False.elim p
theorem de_v (i : Nat) {x : Str} {pos : Pos} (hN : X.N[i]? = some x := by rfl) (hv : Vis X.env.scope x := by first | exact Or.inl rfl | exact Or.inr (Or.inl rfl) | exact Or.inr (Or.inr rfl)) (hd : (x == ("__debug__" : Str)) = false := by decide)
    (hcd : (x == ("__classdict__" : Str)) = false := by decide) : DE X Wx (.Name x pos) (dVar i) := ⟨fun pins s σ H Q I q => (pe_var hN hv hd hcd).run pins s σ H Q I (dVar_run q)⟩
def dSlot (i : Nat) : M VR := fun s => match s.env[i]? with
  | some (some _) => .ok (.slot i) s
  | _ => .bad
theorem dSlot_run {i : Nat} {σ : Slots} {H : Hp} {Q : V → Hp → Prop} (q : tV X.K Wx (dSlot i) σ H Q) : tVar i σ H Q := by
  obtain ⟨g, s, sd, p⟩ := q
  unfold dSlot at p
  cases e : s.env[i]? with
  | none => simp only [e] at p; exact False.elim p
  | some w =>
    cases w with
    | none => simp only [e] at p; exact False.elim p
    | some w =>
      obtain ⟨v, ev, wa⟩ := sd.slot i w e
      simp only [e] at p
      exact ⟨v, ev, p v g H sd .refl ev⟩
theorem dv_v (i : Nat) {x : Str} {pos : Pos} (hN : X.N[i]? = some x := by rfl) (hv : Vis X.env.scope x := by first | exact Or.inl rfl | exact Or.inr (Or.inl rfl) | exact Or.inr (Or.inr rfl)) (hd : (x == ("__debug__" : Str)) = false := by decide)
    (hcd : (x == ("__classdict__" : Str)) = false := by decide) : DV X Wx (.Name x pos) (dSlot i) := ⟨fun pins s σ H Q I q => (pe_var hN hv hd hcd).run pins s σ H Q I (dSlot_run q)⟩
def dV (f : M T) : M VR := f >>= fun t => pure (.t t)
theorem dv_e {e : Expr} {f : M T} (h : DE X Wx e f) : DV X Wx e (dV f) := ⟨fun pins s σ H Q I q => PE.run h pins s σ H Q I (by
  obtain ⟨g, s, c⟩ := q.start
  exact c.bind.mono fun x H1 ⟨t, g1, s1, c1, r1, e1⟩ => c1.done (a := .t t) rfl (show RVR X.K σ H g1 H1 s1 x (.t t) from r1))⟩
def dC (d : D) : M T := fun s => .ok (.fz d) s
theorem dC_run {v : V} {d : D} {σ : Slots} {H : Hp} {Q : V → Hp → Prop} (h : ∀ g, Rep X.K g v d) (q : tE X.K Wx (dC d) σ H Q) : Q v H := by
  obtain ⟨g, s, sd, p⟩ := q
  exact p v g H sd .refl ⟨h g, fun _ _ z => nomatch z⟩
theorem de_int {i j pos} : DE X Wx (.Constant (.int i) j pos) (dC (.int i)) := ⟨fun pins s σ H Q I q => pe_int.run pins s σ H Q I (dC_run (fun _ => .int i) q)⟩
theorem de_bl {i j pos} : DE X Wx (.Constant (.bool i) j pos) (dC (.bl i)) := ⟨fun pins s σ H Q I q => pe_bl.run pins s σ H Q I (dC_run (fun _ => .bl i) q)⟩
theorem de_non {j pos} : DE X Wx (.Constant .none j pos) (dC .non) := ⟨fun pins s σ H Q I q => pe_non.run pins s σ H Q I (dC_run (fun _ => .non) q)⟩
theorem de_str {i j pos} : DE X Wx (.Constant (.str i) j pos) (dC (.str i)) := ⟨fun pins s σ H Q I q => pe_str.run pins s σ H Q I (dC_run (fun _ => .str i) q)⟩
theorem de_gint {x : Str} {i : Int} {t : Tok} {pos : Pos} (hg : Gl X x) (hm : X.mg x = some (.int i t)) (hd : (x == ("__debug__" : Str)) = false := by decide) : DE X Wx (.Name x pos) (dC (.int i)) :=
  ⟨fun pins s σ H Q I q => (pe_glob (v := .int i) hg hm ⟨t, rfl⟩ hd).run pins s σ H Q I (dC_run (fun _ => .int i) q)⟩
def dAnd (f k : M Bool) : M Bool := f >>= fun b => if b = true then k else pure false
def dOr (f k : M Bool) : M Bool := f >>= fun b => if b = true then pure true else k
def dNot (f : M Bool) : M Bool := f >>= fun b => pure (!b)
variable {f k : M Bool} {ft fe : M T} {rest : List Expr}
theorem dtw_and1 (h : DT X Wx a f) : DTW X Wx (.BoolOp .And [a] pos) f := pw_and1 h
theorem dtw_or1 (h : DT X Wx a f) : DTW X Wx (.BoolOp .Or [a] pos) f := pw_or1 h
theorem dtw_and (ha : DT X Wx a f) (hb : DTW X Wx (.BoolOp .And (b :: rest) pos) k) : DTW X Wx (.BoolOp .And (a :: b :: rest) pos) (dAnd f k) :=
  ⟨fun whole pins s σ H Q I q => (pw_and ha hb).run whole pins s σ H Q I (by
    obtain ⟨g, s, c⟩ := q.start
    refine c.bind.mono fun x H1 ⟨t, g1, s1, c1, r1, e1⟩ => ?_
    cases (show x = t from r1)
    cases x with
    | true => rw [if_pos rfl] at c1 ⊢; exact c1.last fun b a g2 H2 s2 _ r => r
    | false => rw [if_neg Bool.false_ne_true] at c1 ⊢; exact c1.done rfl rfl)⟩
theorem dtw_or (ha : DT X Wx a f) (hb : DTW X Wx (.BoolOp .Or (b :: rest) pos) k) : DTW X Wx (.BoolOp .Or (a :: b :: rest) pos) (dOr f k) :=
  ⟨fun whole pins s σ H Q I q => (pw_or ha hb).run whole pins s σ H Q I (by
    obtain ⟨g, s, c⟩ := q.start
    refine c.bind.mono fun x H1 ⟨t, g1, s1, c1, r1, e1⟩ => ?_
    cases (show x = t from r1)
    cases x with
    | true => rw [if_pos rfl] at c1 ⊢; exact c1.done rfl rfl
    | false => rw [if_neg Bool.false_ne_true] at c1 ⊢; exact c1.last fun b a g2 H2 s2 _ r => r)⟩
theorem DTW.dt {e : Expr} (h : DTW X Wx e f) : DT X Wx e f := PW.pt h
theorem dt_not (ha : DT X Wx a f) : DT X Wx (.UnaryOp .Not a pos) (dNot f) :=
  ⟨fun pins s σ H Q I q => (pt_not ha).run pins s σ H Q I (by
    obtain ⟨g, s, c⟩ := q.start
    refine c.bind.mono fun x H1 ⟨t, g1, s1, c1, r1, e1⟩ => ?_
    cases (show x = t from r1)
    exact c1.done rfl rfl)⟩
def dAndV (f k : M T) : M T := f >>= fun t s => match t with
  | .fz (.bl true) => k s
  | .fz (.bl false) => .ok (.fz (.bl false)) s
  | _ => .bad
def dOrV (f k : M T) : M T := f >>= fun t s => match t with
  | .fz (.bl true) => .ok (.fz (.bl true)) s
  | .fz (.bl false) => k s
  | _ => .bad
def dNotV (f : M T) : M T := f >>= fun t s => match t with
  | .fz (.bl b) => .ok (.fz (.bl (!b))) s
  | _ => .bad
theorem de_one {op} (h : DE X Wx a ft) : DE X Wx (.BoolOp op [a] pos) ft := pe_one h
theorem de_and (ha : DE X Wx a ft) (hb : DE X Wx (.BoolOp .And (b :: rest) pos) fe) : DE X Wx (.BoolOp .And (a :: b :: rest) pos) (dAndV ft fe) :=
  ⟨fun pins s σ H Q I q => (pe_and ha hb).run pins s σ H Q I (by
    obtain ⟨g, s, c⟩ := q.start
    refine c.bind.mono fun x H1 ⟨t, g1, s1, c1, r1, e1⟩ => ?_
    cases t with
    | ow d => exact (c1.notBad rfl).elim
    | fz d =>
      cases d with
      | bl k =>
        have r := RT.at_ r1
        cases r
        refine ⟨k, rfl, ?_⟩
        cases k with
        | true => rw [if_pos rfl]; exact c1.last fun b a g2 H2 s2 ev r => RT.past ev.live r
        | false => rw [if_neg Bool.false_ne_true]; exact c1.done rfl ⟨.bl false, fun _ _ z => nomatch z⟩
      | _ => exact (c1.notBad rfl).elim)⟩
theorem de_or (ha : DE X Wx a ft) (hb : DE X Wx (.BoolOp .Or (b :: rest) pos) fe) : DE X Wx (.BoolOp .Or (a :: b :: rest) pos) (dOrV ft fe) :=
  ⟨fun pins s σ H Q I q => (pe_or ha hb).run pins s σ H Q I (by
    obtain ⟨g, s, c⟩ := q.start
    refine c.bind.mono fun x H1 ⟨t, g1, s1, c1, r1, e1⟩ => ?_
    cases t with
    | ow d => exact (c1.notBad rfl).elim
    | fz d =>
      cases d with
      | bl k =>
        have r := RT.at_ r1
        cases r
        refine ⟨k, rfl, ?_⟩
        cases k with
        | false => rw [if_neg Bool.false_ne_true]; exact c1.last fun b a g2 H2 s2 ev r => RT.past ev.live r
        | true => rw [if_pos rfl]; exact c1.done rfl ⟨.bl true, fun _ _ z => nomatch z⟩
      | _ => exact (c1.notBad rfl).elim)⟩
theorem de_not (ha : DE X Wx a ft) : DE X Wx (.UnaryOp .Not a pos) (dNotV ft) :=
  ⟨fun pins s σ H Q I q => (pe_not ha).run pins s σ H Q I (by
    obtain ⟨g, s, c⟩ := q.start
    refine c.bind.mono fun x H1 ⟨t, g1, s1, c1, r1, e1⟩ => ?_
    cases t with
    | ow d => exact (c1.notBad rfl).elim
    | fz d =>
      cases d with
      | bl k =>
        have r := RT.at_ r1
        cases r
        exact ⟨k, rfl, c1.done rfl ⟨.bl _, fun _ _ z => nomatch z⟩⟩
      | _ => exact (c1.notBad rfl).elim)⟩
def dIf {α : Type} (c : M Bool) (t e : M α) : M α := c >>= fun b => if b = true then t else e
theorem de_if (hc : DT X Wx c f) (ha : DE X Wx a ft) (hb : DE X Wx b fe) : DE X Wx (.IfExp c a b pos) (dIf f ft fe) :=
  ⟨fun pins s σ H Q I q => (pe_ifExp hc ha hb).run pins s σ H Q I (by
    obtain ⟨g, s, c⟩ := q.start
    refine c.bind.mono fun x H1 ⟨t, g1, s1, c1, r1, e1⟩ => ?_
    cases (show x = t from r1)
    cases x with
    | true => rw [if_pos rfl] at c1 ⊢; exact c1.last fun b a g2 H2 s2 ev r => RT.past ev.live r
    | false => rw [if_neg Bool.false_ne_true] at c1 ⊢; exact c1.last fun b a g2 H2 s2 ev r => RT.past ev.live r)⟩
def UnD (X : Cx) (f : Value → Sem Value) (h : D → Option T) : Prop :=
  ∃ r, UnR X f r ∧ ∀ (g : Gh) (H : Hp) (σ : Slots) (s : State) (x : V) (d : D) (t : T) (Q : V → Hp → Prop), SD X.K g H σ s → VAt X.K g H x d → h d = some t → Fin X.K g H σ s t Q → r x H Q
def dOp1 (h : D → Option T) (fa : M VR) : M T := fa >>= fun x => readV x >>= fun d => opt (h d)
theorem de_un {op : UnaryOp} {h : D → Option T} (ho : UnD X (unaryOp op) h) (ha : DV X Wx a fa) : DE X Wx (.UnaryOp op a pos) (dOp1 h fa) := by
  obtain ⟨r, hr, k⟩ := ho
  refine ⟨fun pins s σ H Q I q => (pe_un hr ha).run pins s σ H Q I ?_⟩
  obtain ⟨g, s, c⟩ := q.start
  refine c.bind.mono fun x H1 ⟨x', g1, s1, c1, r1, e1⟩ => ?_
  obtain ⟨d, c3, v1⟩ := c1.read r1
  cases q : h d with
  | none => exact (c3.notBad (by rw [q]; rfl)).elim
  | some t => exact k g1 H1 σ s1 x d t Q c1.sd v1 q (c3.fin (by rw [q]; rfl))
end
def Apart (v : V) (r : VR) (vs : List V) (rs : List VR) : Prop := ∀ a d, r = .t (.ow d) → v = .ref a → ∀ p ∈ vs.zip rs, ∀ d', p.2 = .t (.ow d') → p.1 ≠ .ref a
inductive RVRs (K : PySem.W.Frag) (σ : Slots) (H0 : Hp) (g : Gh) (H : Hp) (s : State) : List V → List VR → Prop where
  | nil : RVRs K σ H0 g H s [] []
  | cons {v : V} {r : VR} {vs : List V} {rs : List VR} : RVR K σ H0 g H s v r → RVRs K σ H0 g H s vs rs → Apart v r vs rs → RVRs K σ H0 g H s (v :: vs) (r :: rs)
def RVL (K : PySem.W.Frag) : Rel (List VR) (List V) := fun σ H0 g H s vs rs => RVRs K σ H0 g H s vs rs
section
variable {K : PySem.W.Frag} {Wx : WX} {σ : Slots} {g g' : Gh} {H0 H H' : Hp} {s s' : State} {v : V}
theorem RVRs.ev (e : Ev g H σ s g' H' σ s') : ∀ {vs : List V} {rs : List VR}, RVRs K σ H0 g H s vs rs → RVRs K σ H0 g' H' s' vs rs
  | _, _, .nil => .nil
  | _, _, .cons a r p => .cons (RVR.ev e a) (RVRs.ev e r) p
theorem RVRs.past {H1 : Hp} (l : ∀ a, H0 a ≠ none → H1 a ≠ none) : ∀ {vs : List V} {rs : List VR}, RVRs K σ H1 g H s vs rs → RVRs K σ H0 g H s vs rs
  | _, _, .nil => .nil
  | _, _, .cons a r p => .cons (RVR.past l a) (RVRs.past l r) p
theorem RVRs.mem : ∀ {vs : List V} {rs : List VR}, RVRs K σ H0 g H s vs rs → ∀ p ∈ vs.zip rs, RVR K σ H0 g H s p.1 p.2
  | _, _, .nil, _, h => by simp at h
  | _, _, .cons a r _, p, h => by
    rw [List.zip_cons_cons] at h
    rcases List.mem_cons.mp h with rfl | h
    · exact a
    · exact RVRs.mem r p h
theorem RVRs.length : ∀ {vs : List V} {rs : List VR}, RVRs K σ H0 g H s vs rs → vs.length = rs.length
  | _, _, .nil => rfl
  | _, _, .cons _ r _ => by rw [List.length_cons, List.length_cons, RVRs.length r]
end
abbrev tL (K : PySem.W.Frag) (Wx : WX) (f : M (List VR)) : TA := tM K Wx (RVL K) f
def DA (X : Cx) (Wx : WX) (es : List Expr) (f : M (List VR)) : Prop := PA X es (tL X.K Wx f)
def dNil : M (List VR) := fun s => .ok [] s
def dCons (f : M VR) (k : M (List VR)) : M (List VR) := f >>= fun x => k >>= fun xs => pure (x :: xs)
section
variable {X : Cx} {Wx : WX} {e : Expr} {es : List Expr} {f : M VR} {k : M (List VR)} {pos : Pos}
theorem da_nil : DA X Wx [] dNil := ⟨fun pos pins s σ H Q I q => pa_nil.run pos pins s σ H Q I (by
  obtain ⟨g, s, sd, p⟩ := q
  exact p [] g H sd .refl .nil)⟩
theorem da_cons (ha : DV X Wx e f) (hr : DA X Wx es k) (hs : starEach (e :: es) X.env = (false, eval e X.env) :: starEach es X.env := by rfl) : DA X Wx (e :: es) (dCons f k) :=
  ⟨fun pos pins s σ H Q I q => (pa_cons ha hr hs).run pos pins s σ H Q I (by
    obtain ⟨g, s, c⟩ := q.start
    refine c.bind.mono fun x H1 ⟨x', g1, s1, c1, r1, e1⟩ => ?_
    refine c1.bind.mono fun xs H2 ⟨xs', g2, s2, c2, r2, e2⟩ => ?_
    refine c2.done (a := x' :: xs') rfl (.cons (r1.ev e2) (RVRs.past e1.live r2) fun a d er ev p hp d' e' ep => ?_)
    subst er
    obtain ⟨b, o, eb, _, ho, _⟩ := RT.at_ r1
    rw [ev] at eb
    cases eb
    have r := RVRs.mem r2 p hp
    rw [e', ep] at r
    have z := (RT.new r d' a rfl rfl).1
    rw [ho] at z
    cases z)⟩
def frz : VR → M D
  | .slot i => fun s => match s.env[i]? with
    | some (some (.fz d)) => .ok d s
    | some (some (.own d)) => .ok d (putE s i (.fz d))
    | _ => .bad
  | .t t => fun s => .ok t.data s
def frzs : List VR → M (List D)
  | [] => pure []
  | r :: rs => frz r >>= fun d => frzs rs >>= fun ds => pure (d :: ds)
variable {K : PySem.W.Frag} {σ σ0 : Slots} {g g' g0 : Gh} {H0 H H' Hq : Hp} {s s' s0 : State} {v : V}
theorem frz_run {r : VR} {d : D} (e : frz r s = .ok d s') (e0 : Ev g0 H0 σ0 s0 g H σ s) (sd : SD K g H σ s) (h : RVR K σ H0 g H s v r) :
    ∃ g', SD K g' H σ s' ∧ Ev g0 H0 σ0 s0 g' H σ s' ∧ Rep K g' v d ∧ (∀ v' r', RVR K σ H0 g H s v' r' → (∀ a d d2, r' = .t (.ow d) → v' = .ref a → r = .t (.ow d2) → v ≠ .ref a) → RVR K σ H0 g' H s' v' r') ∧ Le g g' := by
  cases r with
  | slot i =>
    unfold frz at e
    cases e2 : s.env[i]? with
    | none => simp only [e2] at e; cases e
    | some w =>
      cases w with
      | none => simp only [e2] at e; cases e
      | some w =>
        cases w with
        | fz d' =>
          simp only [e2] at e
          cases e
          obtain ⟨v', ev, wa⟩ := sd.slot i _ e2
          have h : σ[i]? = some (some v) := h
          rw [h] at ev; cases ev
          exact ⟨g, sd, e0, wa, fun _ _ z _ => z, .refl g⟩
        | own d' =>
          simp only [e2] at e
          cases e
          obtain ⟨a, o, ea, q, sd1, ev1, rp⟩ := sd.freezeSlot e2
          have h : σ[i]? = some (some v) := h
          rw [h] at ea; cases ea
          exact ⟨_, sd1, e0.trans ev1, rp, fun v' r' z _ => z.ev ev1, ev1.le⟩
        | lent d' => simp only [e2] at e; cases e
        | lk d' => simp only [e2] at e; cases e
        | lkl d' => simp only [e2] at e; cases e
  | t t =>
    unfold frz at e
    cases e
    cases t with
    | fz d' => exact ⟨g, sd, e0, RT.at_ h, fun _ _ z _ => z, .refl g⟩
    | ow d' =>
      obtain ⟨a, o, rfl, f, ho, ob⟩ := RT.at_ h
      obtain ⟨n1, n2⟩ := RT.new h d' a rfl rfl
      refine ⟨g.frz a o, sd.freeze f n2 ho, e0.freeze f n1, ob.rep (Gh.frz_le f.1) Gh.frz_at, fun v' r' z ne => ?_, Gh.frz_le f.1⟩
      cases r' with
      | slot i => exact z
      | t t =>
        cases t with
        | fz d => exact ⟨Rep.mono (Gh.frz_le f.1) z.at_, fun _ _ z => nomatch z⟩
        | ow d =>
          obtain ⟨b, u, rfl, fb, hb, ob2⟩ := z.at_
          refine ⟨⟨b, u, rfl, fb.frz fun q => ne b d d' rfl rfl rfl (by rw [q]), hb, ob2.mono (Gh.frz_le f.1)⟩, z.new⟩
theorem frzs_run : ∀ {rs : List VR} {vs : List V} {ds : List D} {s s' : State} {g : Gh}, frzs rs s = .ok ds s' → Ev g0 H0 σ0 s0 g H σ s → SD K g H σ s → RVRs K σ H0 g H s vs rs →
    ∃ g', SD K g' H σ s' ∧ Ev g0 H0 σ0 s0 g' H σ s' ∧ Reps K g' vs ds ∧ Le g g'
  | [], _, _, _, _, g, e, e0, sd, h => by
    cases h
    cases e
    exact ⟨g, sd, e0, .nil, .refl g⟩
  | r :: rs, _, ds, s, s', g, e, e0, sd, h => by
    cases h with
    | @cons v _ vs _ h1 h2 ap =>
      unfold frzs at e
      rw [bind_eq] at e
      cases q : frz r s with
      | bad => rw [q] at e; cases e
      | err x s1 => rw [q] at e; cases e
      | ok d s1 =>
        rw [q] at e
        have e : (frzs rs >>= fun ds => pure (d :: ds)) s1 = .ok ds s' := e
        rw [bind_eq] at e
        obtain ⟨g1, sd1, e1, rp, tr, le1⟩ := frz_run q e0 sd h1
        have h3 : ∀ {us : List V} {ts : List VR}, RVRs K σ H0 g H s us ts → (∀ p ∈ us.zip ts, p ∈ vs.zip rs) → RVRs K σ H0 g1 H s1 us ts := by
          intro us ts hh
          induction hh with
          | nil => exact fun _ => .nil
          | cons a b c ih =>
            intro hm
            exact .cons (tr _ _ a fun b' d' d2 e1 e2 e3 => fun e4 => ap b' d2 e3 e4 _ (hm _ List.mem_cons_self) d' e1 e2) (ih fun p hp => hm p (List.mem_cons_of_mem _ hp)) c
        cases q2 : frzs rs s1 with
        | bad => rw [q2] at e; cases e
        | err x s2 => rw [q2] at e; cases e
        | ok ds2 s2 =>
          rw [q2] at e
          cases e
          obtain ⟨g2, sd2, e2, rp2, le2⟩ := frzs_run q2 e1 sd1 (h3 h2 fun _ h => h)
          exact ⟨g2, sd2, e2, .cons (rp.mono le2) rp2, le1.trans le2⟩
end
end DL
set_option Elab.async false
set_option linter.all false
set_option maxRecDepth 100000
set_option maxHeartbeats 1000000
namespace DL
open PySem PySem.Spec PyProof.Rows L2
section
variable {X : Cx} {K : PySem.W.Frag} {g : Gh} {H : Hp} {σ : Slots} {s : State}
def addD : D → D → Option T
  | .int i, .int j => some (.fz (.int (i + j)))
  | .str x, .str y => if x.length + y.length ≤ sizeLine then some (.fz (.str (x ++ y))) else none
  | .lst xs, .lst ys => if xs.length + ys.length ≤ sizeLine then some (.ow (.lst (xs ++ ys))) else none
  | .tup xs, .tup ys => if xs.length + ys.length ≤ sizeLine then some (.fz (.tup (xs ++ ys))) else none
  | _, _ => none
theorem o_add : OpD X (binaryOp .Add) addD := by
  refine ⟨_, op_add.or (op_add_str.or (op_cat.or op_catA)), fun g H σ s x y d e t Q sd hx hy hh f => ?_⟩
  unfold addD at hh
  split at hh
  · cases hh; cases hx.int; cases hy.int
    exact .inl ⟨_, _, rfl, rfl, f.fz sd (.int _)⟩
  · rename_i z u
    by_cases hz : z.length + u.length ≤ sizeLine
    · rw [if_pos hz] at hh; cases hh; cases hx.str; cases hy.str
      exact .inr (.inl ⟨_, _, rfl, rfl, hz, f.fz sd (.str _)⟩)
    · rw [if_neg hz] at hh; cases hh
  · rename_i ds es
    by_cases hz : ds.length + es.length ≤ sizeLine
    · rw [if_pos hz] at hh; cases hh
      obtain ⟨a, xs, rfl, ha, ra⟩ := hx.lst sd
      obtain ⟨b, ys, rfl, hb, rb⟩ := hy.lst sd
      refine .inr (.inr (.inl ⟨a, b, xs, ys, rfl, rfl, ha, hb, by rw [ra.length, rb.length]; exact hz, fun p hp => f.ow sd hp (.lst (ra.append rb))⟩))
    · rw [if_neg hz] at hh; cases hh
  · rename_i ds es
    by_cases hz : ds.length + es.length ≤ sizeLine
    · rw [if_pos hz] at hh; cases hh
      obtain ⟨a, xs, rfl, ha, ra⟩ := hx.tup sd
      obtain ⟨b, ys, rfl, hb, rb⟩ := hy.tup sd
      refine .inr (.inr (.inr ⟨a, b, xs, ys, rfl, rfl, ha, hb, by rw [ra.length, rb.length]; exact hz, fun e => ?_, fun n e => ?_, fun _ _ p hp => f.tup sd hp (ra.append rb)⟩))
      · subst e
        cases ra
        exact f.fz sd (hy.sc fun _ z => z)
      · subst e
        cases rb
        rw [List.append_nil] at f
        exact f.fz sd (hx.sc fun _ z => z)
    · rw [if_neg hz] at hh; cases hh
  · cases hh
def subD : D → D → Option T
  | .int i, .int j => some (.fz (.int (i - j)))
  | _, _ => none
theorem o_sub : OpD X (binaryOp .Sub) subD := by
  refine ⟨_, op_sub, fun g H σ s x y d e t Q sd hx hy hh f => ?_⟩
  unfold subD at hh
  split at hh
  · cases hh; cases hx.int; cases hy.int
    exact ⟨_, _, rfl, rfl, f.fz sd (.int _)⟩
  · cases hh
def bnd64 (i : Int) : Bool := decide (-(2 ^ 64) < i) && decide (i < 2 ^ 64)
theorem bnd64_of {i : Int} (h : bnd64 i = true) : -(2 ^ 64) < i ∧ i < 2 ^ 64 := by
  unfold bnd64 at h
  rw [Bool.and_eq_true, decide_eq_true_eq, decide_eq_true_eq] at h
  exact h
theorem Reps.flatRep {K : PySem.W.Frag} {g : Gh} {xs : List V} {ds : List D} (r : Reps K g xs ds) : ∀ n : Nat, Reps K g (List.replicate n xs).flatten (List.replicate n ds).flatten
  | 0 => .nil
  | n + 1 => by
    rw [List.replicate_succ, List.replicate_succ, List.flatten_cons, List.flatten_cons]
    exact r.append (Reps.flatRep r n)
def mulD : D → D → Option T
  | .int i, .int j => if bnd64 i || bnd64 j then some (.fz (.int (i * j))) else none
  | .lst xs, .int k => if bnd64 (k * 2) && decide (xs.length * k.toNat ≤ sizeLine) then some (.ow (.lst (List.replicate k.toNat xs).flatten)) else none
  | _, _ => none
theorem o_mul : OpD X (binaryOp .Mult) mulD := by
  refine ⟨_, op_mul.or op_rep, fun g H σ s x y d e t Q sd hx hy hh f => ?_⟩
  unfold mulD at hh
  split at hh
  · rename_i i j
    cases hb : (bnd64 i || bnd64 j) with
    | false => rw [hb] at hh; cases hh
    | true =>
      rw [hb] at hh; cases hh; cases hx.int; cases hy.int
      refine .inl ⟨_, _, rfl, rfl, ?_, f.fz sd (.int _)⟩
      rcases (Bool.or_eq_true _ _).mp hb with h | h
      · exact .inl (bnd64_of h)
      · exact .inr (bnd64_of h)
  · rename_i ds k
    cases hb : (bnd64 (k * 2) && decide (ds.length * k.toNat ≤ sizeLine)) with
    | false => rw [hb] at hh; cases hh
    | true =>
      rw [hb] at hh; cases hh
      obtain ⟨h1, h2⟩ := (Bool.and_eq_true _ _).mp hb
      have h1 := bnd64_of h1
      obtain ⟨a, xs, rfl, ha, ra⟩ := hx.lst sd
      cases hy.int
      refine .inr ⟨a, k, xs, rfl, rfl, ha, by omega, by omega, by rw [ra.length]; exact of_decide_eq_true h2, fun p hp => f.ow sd hp (.lst (ra.flatRep _))⟩
  · cases hh
def fdivD : D → D → Option T
  | .int i, .int j => if 0 < j ∧ j < 1073741824 then some (.fz (.int (i / j))) else none
  | _, _ => none
theorem o_fdiv : OpD X (binaryOp .FloorDiv) fdivD := by
  refine ⟨_, op_fdiv, fun g H σ s x y d e t Q sd hx hy hh f => ?_⟩
  unfold fdivD at hh
  split at hh
  · rename_i i j
    by_cases hb : 0 < j ∧ j < 1073741824
    · rw [if_pos hb] at hh; cases hh; cases hx.int; cases hy.int
      exact ⟨_, _, rfl, rfl, hb, f.fz sd (.int _)⟩
    · rw [if_neg hb] at hh; cases hh
  · cases hh
def modD : D → D → Option T
  | .int i, .int j => if 0 < j then some (.fz (.int (i % j))) else none
  | _, _ => none
theorem o_mod : OpD X (binaryOp .Mod) modD := by
  refine ⟨_, op_mod, fun g H σ s x y d e t Q sd hx hy hh f => ?_⟩
  unfold modD at hh
  split at hh
  · rename_i i j
    by_cases hb : 0 < j
    · rw [if_pos hb] at hh; cases hh; cases hx.int; cases hy.int
      exact ⟨_, _, rfl, rfl, hb, f.fz sd (.int _)⟩
    · rw [if_neg hb] at hh; cases hh
  · cases hh
def powD : D → D → Option T
  | .int i, .int j => if 0 ≤ j ∧ j ≤ 1000000 ∧ i.natAbs < 2 ^ 64 then some (.fz (.int (i ^ j.toNat))) else none
  | _, _ => none
theorem o_pow : OpD X (binaryOp .Pow) powD := by
  refine ⟨_, op_pow, fun g H σ s x y d e t Q sd hx hy hh f => ?_⟩
  unfold powD at hh
  split at hh
  · rename_i i j
    by_cases hb : 0 ≤ j ∧ j ≤ 1000000 ∧ i.natAbs < 2 ^ 64
    · rw [if_pos hb] at hh; cases hh; cases hx.int; cases hy.int
      exact ⟨_, _, rfl, rfl, hb, f.fz sd (.int _)⟩
    · rw [if_neg hb] at hh; cases hh
  · cases hh
def negD : D → Option T
  | .int i => some (.fz (.int (-i)))
  | _ => none
theorem o_neg : UnD X (unaryOp .USub) negD := by
  refine ⟨_, un_neg, fun g H σ s x d t Q sd hx hh f => ?_⟩
  unfold negD at hh
  split at hh
  · cases hh; cases hx.int
    exact ⟨_, rfl, f.fz sd (.int _)⟩
  · cases hh
def cmpD (p : Int → Int → Bool) : D → D → Option T
  | .int i, .int j => some (.fz (.bl (p i j)))
  | _, _ => none
theorem o_cmp {f : Value → Value → Sem Value} {p : Int → Int → Bool} (h : OpR X f (rI0 fun i j => .bl (p i j))) : OpD X f (cmpD p) := by
  refine ⟨_, h, fun g H σ s x y d e t Q sd hx hy hh f => ?_⟩
  unfold cmpD at hh
  split at hh
  · cases hh; cases hx.int; cases hy.int
    exact ⟨_, _, rfl, rfl, f.fz sd (.bl _)⟩
  · cases hh
def ltD : D → D → Option T := cmpD fun i j => decide (i < j)
def leD : D → D → Option T := cmpD fun i j => decide (i ≤ j)
def gtD : D → D → Option T := cmpD fun i j => decide (j < i)
def geD : D → D → Option T := cmpD fun i j => decide (j ≤ i)
theorem o_lt : OpD X (compareOp .Lt) ltD := o_cmp op_lt
theorem o_le : OpD X (compareOp .LtE) leD := o_cmp op_le
theorem o_gt : OpD X (compareOp .Gt) gtD := o_cmp op_gt
theorem o_ge : OpD X (compareOp .GtE) geD := o_cmp op_ge
def isNonD : D → Bool
  | .non => true
  | _ => false
theorem VAt.nonIff {x : V} {d : D} (h : VAt K g H x d) : decide (x = .non) = isNonD d := by
  rcases h with h | ⟨a, o, rfl, _, ob⟩
  · cases h <;> rfl
  · cases d <;> first | rfl | exact ob.elim
def isD : D → D → Option T
  | d, .non => some (.fz (.bl (isNonD d)))
  | _, _ => none
def isNotD : D → D → Option T
  | d, .non => some (.fz (.bl (!isNonD d)))
  | _, _ => none
theorem o_is : OpD X (compareOp .Is) isD := by
  refine ⟨_, op_isN, fun g H σ s x y d e t Q sd hx hy hh f => ?_⟩
  unfold isD at hh
  split at hh
  · cases hh
    exact ⟨hy.non, by rw [hx.nonIff]; exact f.fz sd (.bl _)⟩
  · cases hh
theorem o_isNot : OpD X (compareOp .IsNot) isNotD := by
  refine ⟨_, op_notN, fun g H σ s x y d e t Q sd hx hy hh f => ?_⟩
  unfold isNotD at hh
  split at hh
  · cases hh
    exact ⟨hy.non, by rw [hx.nonIff]; exact f.fz sd (.bl _)⟩
  · cases hh
mutual
def toPy : D → Option PyData
  | .non => some .none
  | .bl b => some (.bool b)
  | .int i => some (.int i)
  | .str x => some (.str x)
  | .tup ds => (toPys ds).map .tuple
  | .lst ds => (toPys ds).map .list
  | _ => none
def toPys : List D → Option (List PyData)
  | [] => some []
  | d :: ds => match toPy d, toPys ds with
    | some p, some ps => some (p :: ps)
    | _, _ => none
end
theorem toPys_cons {d : D} {ds : List D} {ps : List PyData} (h : toPys (d :: ds) = some ps) : ∃ p qs, toPy d = some p ∧ toPys ds = some qs ∧ ps = p :: qs := by
  unfold toPys at h
  cases e1 : toPy d with
  | none => rw [e1] at h; cases h
  | some p =>
    cases e2 : toPys ds with
    | none => rw [e1, e2] at h; cases h
    | some qs => rw [e1, e2] at h; cases h; exact ⟨p, qs, rfl, rfl, rfl⟩
mutual
theorem Rep.dp (sd : SD K g H σ s) : ∀ {v : V} {d : D} {p : PyData}, Rep K g v d → toPy d = some p → Dp K H v p
  | _, _, _, .non, h => by unfold toPy at h; cases h; exact .non
  | _, _, _, .bl b, h => by unfold toPy at h; cases h; exact .bl b
  | _, _, _, .int i, h => by unfold toPy at h; cases h; exact .int i
  | _, _, _, .str x, h => by unfold toPy at h; cases h; exact .str x
  | _, _, _, .tup (ds := ds) q r, h => by
    unfold toPy at h
    cases e : toPys ds with
    | none => rw [e] at h; cases h
    | some ps => rw [e] at h; cases h; exact .tup (.of (sd.here q rfl)) (Reps.dp sd r e)
  | _, _, _, .tup0 q, h => by
    unfold toPy toPys at h
    cases h
    exact .tup (sd.tup q) .nil
  | _, _, _, .lst (ds := ds) q r, h => by
    unfold toPy at h
    cases e : toPys ds with
    | none => rw [e] at h; cases h
    | some ps => rw [e] at h; cases h; exact .lst (.of (sd.here q rfl)) (Reps.dp sd r e)
  | _, _, _, .frl _, h => by unfold toPy at h; cases h
  | _, _, _, .dk _ _ _, h => by unfold toPy at h; cases h
  | _, _, _, .dt _ _ _, h => by unfold toPy at h; cases h
  | _, _, _, .obj _ _ _, h => by unfold toPy at h; cases h
  | _, _, _, .ptr _, h => by unfold toPy at h; cases h
  | _, _, _, .draw _, h => by unfold toPy at h; cases h
theorem Reps.dp (sd : SD K g H σ s) : ∀ {v : List V} {d : List D} {p : List PyData}, Reps K g v d → toPys d = some p → DpAll K H v p
  | _, _, _, .nil, h => by unfold toPys at h; cases h; exact .nil
  | _, _, _, .cons a r, h => by
    obtain ⟨p, qs, e1, e2, rfl⟩ := toPys_cons h
    exact .cons (Rep.dp sd a e1) (Reps.dp sd r e2)
end
theorem VAt.dp (sd : SD K g H σ s) {v : V} {d : D} {p : PyData} (h : VAt K g H v d) (e : toPy d = some p) : Dp K H v p := by
  rcases h with h | ⟨a, o, rfl, q, ob⟩
  · exact h.dp sd e
  · cases d with
    | lst ds =>
      obtain ⟨xs, rfl, r⟩ := ob
      unfold toPy at e
      cases e2 : toPys ds with
      | none => rw [e2] at e; cases e
      | some ps => rw [e2] at e; cases e; exact .lst (.of (q.exact rfl)) (r.dp sd e2)
    | dk ds => unfold toPy at e; cases e
    | dt ds => unfold toPy at e; cases e
    | obj C ds => unfold toPy at e; cases e
    | _ => exact ob.elim
def eqD (d e : D) : Option Bool := match toPy d, toPy e with
  | some p, some q => if SeqAt.shaped p && SeqAt.shaped q then some (PyData.eqv p q) else none
  | _, _ => none
def eqT (d e : D) : Option T := (eqD d e).map fun b => .fz (.bl b)
def neT (d e : D) : Option T := (eqD d e).map fun b => .fz (.bl (!b))
theorem eqD_some {d e : D} {b : Bool} (h : eqD d e = some b) : ∃ p q, toPy d = some p ∧ toPy e = some q ∧ SeqAt.shaped p = true ∧ SeqAt.shaped q = true ∧ b = PyData.eqv p q := by
  unfold eqD at h
  cases e1 : toPy d with
  | none => rw [e1] at h; cases h
  | some p =>
    cases e2 : toPy e with
    | none => rw [e1, e2] at h; cases h
    | some q =>
      rw [e1, e2] at h
      cases hs : (SeqAt.shaped p && SeqAt.shaped q) with
      | false => simp only [hs] at h; cases h
      | true =>
        simp only [hs] at h; cases h
        obtain ⟨s1, s2⟩ := (Bool.and_eq_true _ _).mp hs
        exact ⟨p, q, rfl, rfl, s1, s2, rfl⟩
theorem o_eq (hu : X.A.units + 64 < cLine) : OpD X (compareOp .Eq) eqT := by
  refine ⟨_, op_eqD hu, fun g H σ s x y d e t Q sd hx hy hh f => ?_⟩
  unfold eqT at hh
  cases q : eqD d e with
  | none => rw [q] at hh; cases hh
  | some b =>
    rw [q] at hh; cases hh
    obtain ⟨p1, p2, e1, e2, s1, s2, rfl⟩ := eqD_some q
    exact ⟨p1, p2, hx.dp sd e1, hy.dp sd e2, s1, s2, f.fz sd (.bl _)⟩
theorem o_ne (hu : X.A.units + 64 < cLine) : OpD X (compareOp .NotEq) neT := by
  refine ⟨_, op_neD hu, fun g H σ s x y d e t Q sd hx hy hh f => ?_⟩
  unfold neT at hh
  cases q : eqD d e with
  | none => rw [q] at hh; cases hh
  | some b =>
    rw [q] at hh; cases hh
    obtain ⟨p1, p2, e1, e2, s1, s2, rfl⟩ := eqD_some q
    exact ⟨p1, p2, hx.dp sd e1, hy.dp sd e2, s1, s2, f.fz sd (.bl _)⟩
theorem ixN_at {α β : Type} {xs : List α} {ds : List β} {i : Int} {d : β} (hl : xs.length = ds.length) (h : atI ds i = some d) : ∃ j, ixN xs.length i = some j ∧ ds[j]? = some d := by
  unfold atI at h
  rw [hl]
  cases e : ixN ds.length i with
  | none => rw [e] at h; cases h
  | some j => rw [e] at h; exact ⟨j, rfl, h⟩
theorem Reps.atI {xs : List V} {ds : List D} {i : Int} {d : D} (r : Reps K g xs ds) (h : L2.atI ds i = some d) : ∃ v, L2.atI xs i = some v ∧ Rep K g v d := by
  obtain ⟨j, e, q⟩ := ixN_at r.length h
  obtain ⟨v, hv, rp⟩ := r.get q
  exact ⟨v, by unfold L2.atI; rw [e]; exact hv, rp⟩
def valD {κ : Type} [DecidableEq κ] (kvs : List (κ × D)) (k : κ) : Option D := (kvs.find? fun kv => decide (kv.1 = k)).map (·.2)
theorem valD_rep {κ : Type} [DecidableEq κ] : ∀ {kvs : List (κ × V)} {ds : List (κ × D)} {k : κ}, kvs.map Prod.fst = ds.map Prod.fst → Reps K g (kvs.map Prod.snd) (ds.map Prod.snd) →
    (∀ d, valD ds k = some d → ∃ v, valV kvs k = some v ∧ Rep K g v d) ∧ (valD ds k = none → valV kvs k = none)
  | [], [], _, _, _ => ⟨fun _ z => (by cases z), fun _ => rfl⟩
  | [], _ :: _, _, h, _ => by cases h
  | _ :: _, [], _, h, _ => by cases h
  | (a, v) :: kvs, (b, d) :: ds, k, h, r => by
    have e : a = b := (List.cons.inj h).1
    have h' : kvs.map Prod.fst = ds.map Prod.fst := (List.cons.inj h).2
    subst e
    cases r with
    | cons r1 r2 =>
      have ih := valD_rep (k := k) h' r2
      by_cases z : a = k
      · have e1 : valD ((a, d) :: ds) k = some d := by unfold valD; rw [List.find?_cons_of_pos (by simpa using z)]; rfl
        have e2 : valV ((a, v) :: kvs) k = some v := by unfold valV; rw [List.find?_cons_of_pos (by simpa using z)]; rfl
        exact ⟨fun d' q => by rw [e1] at q; cases q; exact ⟨v, e2, r1⟩, fun q => by rw [e1] at q; cases q⟩
      · have e1 : valD ((a, d) :: ds) k = valD ds k := by unfold valD; rw [List.find?_cons_of_neg (by simpa using z)]
        have e2 : valV ((a, v) :: kvs) k = valV kvs k := by unfold valV; rw [List.find?_cons_of_neg (by simpa using z)]
        rw [e1, e2]
        exact ih
def keyD : D → Option Key
  | .int i => some (.inl i)
  | .str x => some (.inr x)
  | _ => none
def keysD : List D → Option (List Key)
  | [] => some []
  | d :: ds => match keyD d, keysD ds with
    | some k, some ks => some (k :: ks)
    | _, _ => none
theorem keyD_rep {v : V} {d : D} {k : Key} (h : VAt K g H v d) (e : keyD d = some k) : v = kV k := by
  unfold keyD at e
  split at e
  · cases e; exact h.int
  · cases e; exact h.str
  · cases e
theorem keysD_rep : ∀ {xs : List V} {ds : List D} {ks : List Key}, Reps K g xs ds → keysD ds = some ks → xs = ks.map kV
  | _, _, _, .nil, e => by unfold keysD at e; cases e; rfl
  | _, _, _, .cons (d := d) (ds := ds) a r, e => by
    unfold keysD at e
    cases e1 : keyD d with
    | none => rw [e1] at e; cases e
    | some k =>
      cases e2 : keysD ds with
      | none => rw [e1, e2] at e; cases e
      | some ks =>
        rw [e1, e2] at e; cases e
        rw [keysD_rep r e2, keyD_rep (H := fun _ => none) (.inl a) e1]
        rfl
def lookD : D → D → Option (Option D)
  | .dk kvs, d => (keyD d).map fun k => valD kvs k
  | .dt kvs, .tup (k :: ks) => (keysD (k :: ks)).map fun k => valD kvs k
  | _, _ => none
end
end DL
set_option Elab.async false
set_option linter.all false
set_option maxRecDepth 100000
set_option maxHeartbeats 1000000
namespace DL
open PySem PySem.Spec PyProof.Rows L2
section
variable {X : Cx} {Wx : WX} {a b e : Expr} {es : List Expr} {fa fb : M VR} {fl : M (List VR)} {pos : Pos}
theorem lookD_get {K : PySem.W.Frag} {g : Gh} {H : Hp} {σ : Slots} {s : State} {x y : V} {d e : D} {o : Option D} (sd : SD K g H σ s) (hx : VAt K g H x d) (hy : VAt K g H y e) (h : lookD d e = some o) :
    ∃ a r, x = .ref a ∧ DGet H a y r ∧ (∀ z, o = some z → ∃ v, r = some v ∧ Rep K g v z) ∧ (o = none → r = none) ∧ IsD H a := by
  unfold lookD at h
  split at h
  · rename_i kvs
    cases q : keyD e with
    | none => rw [q] at h; cases h
    | some k =>
      rw [q] at h
      cases h
      obtain ⟨a, vs, rfl, ha, hk, r⟩ := hx.dk sd
      have ey := keyD_rep hy q
      obtain ⟨v1, v2⟩ := valD_rep (k := k) hk r
      refine ⟨a, _, rfl, .inl ⟨vs, k, ha.rd, ey, rfl⟩, fun z hz => v1 z hz, v2, .inl ⟨vs, ha.rd⟩⟩
  · rename_i kvs k0 ks
    cases q : keysD (k0 :: ks) with
    | none => rw [q] at h; cases h
    | some k =>
      rw [q] at h
      cases h
      obtain ⟨a, vs, rfl, ha, hk, r⟩ := hx.dt sd
      obtain ⟨b, xs, rfl, hb, rb⟩ := hy.tupH sd
      rw [keysD_rep rb q] at hb
      obtain ⟨v1, v2⟩ := valD_rep (k := k) hk r
      exact ⟨a, _, rfl, .inr ⟨vs, k, b, ha.rd, rfl, hb, rfl⟩, fun z hz => v1 z hz, v2, .inr ⟨vs, ha.rd⟩⟩
  · cases h
def rIxDD : R2 := fun x y H Q => ∃ a v, x = .ref a ∧ DGet H a y (some v) ∧ Q v H
theorem ix_dict (hu : X.A.units + 1 < cLine) : IxR X rIxDD := by
  intro value slice pins s σ H x y v u Q I rx ry h hs
  obtain ⟨a, w, rfl, g, q⟩ := h
  obtain rfl : v = Value.ref a := rx
  exact tail_any (dict_typeIs I g) PySem.F.slot_dict_getitem.lookup (d_getItem hu I g ry fun w' s3 I3 rw' => ⟨w, H, I3, rw', q⟩) hs
def ixD : D → D → Option T
  | .lst ds, .int i => (atI ds i).map .fz
  | .tup ds, .int i => (atI ds i).map .fz
  | .str z, .int i => if z.length ≤ sizeLine then (atI z.cps.toList i).map fun c => .fz (.str ⟨#[c]⟩) else none
  | d, e => match lookD d e with
    | some (some v) => some (.fz v)
    | _ => none
def IxD (X : Cx) (h : D → D → Option T) : Prop :=
  ∃ r, IxR X r ∧ ∀ (g : Gh) (H : Hp) (σ : Slots) (s : State) (x y : V) (d e : D) (t : T) (Q : V → Hp → Prop), SD X.K g H σ s → VAt X.K g H x d → VAt X.K g H y e → h d e = some t → Fin X.K g H σ s t Q → r x y H Q
theorem o_ix (hu : X.A.units + 1 < cLine) : IxD X ixD := by
  refine ⟨_, ix_seq.or (ix_dict hu), fun g H σ s x y d e t Q sd hx hy hh f => ?_⟩
  unfold ixD at hh
  split at hh
  · rename_i ds i
    cases q : L2.atI ds i with
    | none => rw [q] at hh; cases hh
    | some z =>
      rw [q] at hh; cases hh
      obtain ⟨a, xs, rfl, ha, ra⟩ := hx.lst sd
      cases hy.int
      obtain ⟨v, hv, rv⟩ := ra.atI q
      exact .inl (.inl ⟨a, xs, i, v, rfl, rfl, .of ha, hv, f.fz sd rv⟩)
  · rename_i ds i
    cases q : L2.atI ds i with
    | none => rw [q] at hh; cases hh
    | some z =>
      rw [q] at hh; cases hh
      obtain ⟨a, xs, rfl, ha, ra⟩ := hx.tup sd
      cases hy.int
      obtain ⟨v, hv, rv⟩ := ra.atI q
      exact .inl (.inr (.inl ⟨a, xs, i, v, rfl, rfl, ha, hv, f.fz sd rv⟩))
  · rename_i z i
    by_cases hz : z.length ≤ sizeLine
    · rw [if_pos hz] at hh
      cases q : L2.atI z.cps.toList i with
      | none => rw [q] at hh; cases hh
      | some c =>
        rw [q] at hh; cases hh
        cases hx.str; cases hy.int
        exact .inl (.inr (.inr ⟨z, i, c, rfl, rfl, hz, q, f.fz sd (.str _)⟩))
    · rw [if_neg hz] at hh; cases hh
  · cases q : lookD d e with
    | none => rw [q] at hh; cases hh
    | some o =>
      cases o with
      | none => rw [q] at hh; cases hh
      | some z =>
        rw [q] at hh; cases hh
        obtain ⟨a, r, rfl, dg, h1, _, _⟩ := lookD_get sd hx hy q
        obtain ⟨v, rfl, rv⟩ := h1 z rfl
        exact .inr ⟨a, v, rfl, dg, f.fz sd rv⟩
theorem de_ix {h : D → D → Option T} (ho : IxD X h) (ha : DV X Wx a fa) (hb : DV X Wx b fb) (hs : PlainIx b) : DE X Wx (.Subscript a b pos) (dOp2 h fa fb) := by
  obtain ⟨r, hr, k⟩ := ho
  exact ⟨fun pins s σ H Q I q => (pe_ix hr ha hb hs).run pins s σ H Q I (op2_run (f := fun a b => getItem a b) k q)⟩
def flatD : D → Bool
  | .non => true | .bl _ => true | .int _ => true | .str _ => true
  | _ => false
def eqF : D → D → Bool
  | .non, .non => true
  | .bl a, .bl b => a == b
  | .int a, .int b => a == b
  | .str a, .str b => a == b
  | .bl a, .int b => decide ((if a then 1 else 0) = b)
  | .int a, .bl b => decide (a = (if b then 1 else 0))
  | _, _ => false
def inL (x : D) (ds : List D) : Option Bool := if flatD x && ds.all flatD then some (ds.any fun y => eqF y x) else none
def inD : D → D → Option Bool
  | x, .lst ds => inL x ds
  | x, .tup ds => inL x ds
  | .str x, .str z => some (!(Builtin.Str.occurrences z x 0 z.length 1).isEmpty)
  | k, d => (lookD d k).map Option.isSome
def inT (x d : D) : Option T := (inD x d).map fun b => .fz (.bl b)
def notInT (x d : D) : Option T := (inD x d).map fun b => .fz (.bl (!b))
end
section
variable {K : PySem.W.Frag} {g : Gh} {H : Hp} {σ : Slots} {s : State}
theorem flat_v {v : V} {d : D} (r : VAt K g H v d) (f : flatD d = true) : flatV v = true := by
  cases d with
  | non => cases r.non; rfl
  | bl b => cases r.bl; rfl
  | int b => cases r.int; rfl
  | str b => cases r.str; rfl
  | _ => cases f
theorem eqF_v {v w : V} {d e : D} (r : VAt K g H v d) (q : VAt K g H w e) (f : flatD d = true) (f' : flatD e = true) : eqV v w = eqF d e := by
  cases d with
  | non =>
    cases r.non
    cases e with
    | non => cases q.non; rfl
    | bl b => cases q.bl; rfl
    | int b => cases q.int; rfl
    | str b => cases q.str; rfl
    | _ => cases f'
  | bl b =>
    cases r.bl
    cases e with
    | non => cases q.non; rfl
    | bl b => cases q.bl; rfl
    | int b => cases q.int; rfl
    | str b => cases q.str; rfl
    | _ => cases f'
  | int b =>
    cases r.int
    cases e with
    | non => cases q.non; rfl
    | bl b => cases q.bl; rfl
    | int b => cases q.int; rfl
    | str b => cases q.str; rfl
    | _ => cases f'
  | str b =>
    cases r.str
    cases e with
    | non => cases q.non; rfl
    | bl b => cases q.bl; rfl
    | int b => cases q.int; rfl
    | str b => cases q.str; rfl
    | _ => cases f'
  | _ => cases f
theorem inL_v {x : V} {d : D} {b : Bool} (hx : VAt K g H x d) : ∀ {xs : List V} {ds : List D}, Reps K g xs ds → (flatD d && ds.all flatD) = true → flatV x = true ∧ xs.all flatV = true ∧ inV x xs = ds.any fun y => eqF y d
  | _, _, .nil, f => ⟨flat_v hx (by simpa using f), rfl, rfl⟩
  | _, _, .cons (d := e) (ds := ds) a r, f => by
    rw [List.all_cons, Bool.and_eq_true, Bool.and_eq_true] at f
    obtain ⟨f1, f2, f3⟩ := f
    obtain ⟨h1, h2, h3⟩ := inL_v (b := b) hx r (by rw [Bool.and_eq_true]; exact ⟨f1, f3⟩)
    refine ⟨h1, by rw [List.all_cons, Bool.and_eq_true]; exact ⟨flat_v (H := H) (.inl a) f2, h2⟩, ?_⟩
    unfold inV at h3 ⊢
    rw [List.any_cons, List.any_cons, h3, eqF_v (.inl a) hx f2 f1]
end
section
variable {X : Cx} {Wx : WX} {a b e : Expr} {es : List Expr} {fa fb : M VR} {fl : M (List VR)} {pos : Pos}
def rInDD (neg : Bool) : R2 := fun y x H Q => ∃ a o, x = .ref a ∧ DGet H a y o ∧ Q (.bl (if neg then !o.isSome else o.isSome)) H
theorem op_notInDD (hu : X.A.units + 1 < cLine) : OpR X (compareOp .NotIn) (rInDD true) := by
  intro pins s σ H x y v u Q I rx ry h
  obtain ⟨a, o, rfl, g, q⟩ := h
  obtain rfl : u = Value.ref a := ry
  exact d_notIn hu I g rx fun s3 I3 => ⟨.bl (!o.isSome), H, I3, rfl, q⟩
theorem in_core {neg : Bool} {g : Gh} {H : Hp} {σ : Slots} {s : State} {x y : V} {d e : D} {k : Bool} {Q : V → Hp → Prop} (sd : SD X.K g H σ s) (hx : VAt X.K g H x d) (hy : VAt X.K g H y e) (hh : inD d e = some k)
    (f : Q (.bl (if neg then !k else k)) H) : rIn X.K neg x y H Q ∨ (∃ i j, x = .str i ∧ y = .str j ∧ Q (.bl (if neg then !(!(Builtin.Str.occurrences j i 0 j.length 1).isEmpty) else (!(Builtin.Str.occurrences j i 0 j.length 1).isEmpty))) H) ∨ rInDD neg x y H Q := by
  unfold inD at hh
  split at hh
  · rename_i ds
    unfold inL at hh
    cases q : (flatD d && ds.all flatD) with
    | false => rw [q] at hh; cases hh
    | true =>
      rw [q] at hh; cases hh
      obtain ⟨a, xs, rfl, ha, ra⟩ := hy.lst sd
      obtain ⟨h1, h2, h3⟩ := inL_v (b := true) hx ra q
      exact .inl ⟨a, xs, rfl, .inl (.of ha), h1, h2, by rw [h3]; exact f⟩
  · rename_i ds
    unfold inL at hh
    cases q : (flatD d && ds.all flatD) with
    | false => rw [q] at hh; cases hh
    | true =>
      rw [q] at hh; cases hh
      obtain ⟨a, xs, rfl, ha, ra⟩ := hy.tup sd
      obtain ⟨h1, h2, h3⟩ := inL_v (b := true) hx ra q
      exact .inl ⟨a, xs, rfl, .inr ha, h1, h2, by rw [h3]; exact f⟩
  · cases hh; cases hx.str; cases hy.str
    exact .inr (.inl ⟨_, _, rfl, rfl, f⟩)
  · cases q : lookD e d with
    | none => rw [q] at hh; cases hh
    | some o =>
      rw [q] at hh; cases hh
      obtain ⟨a, r, rfl, dg, h1, h2, _⟩ := lookD_get sd hy hx q
      have er : r.isSome = o.isSome := by
        cases o with
        | none => rw [h2 rfl]; rfl
        | some z => obtain ⟨v, hv, _⟩ := h1 z rfl; rw [hv]; rfl
      exact .inr (.inr ⟨a, r, rfl, dg, by rw [er]; exact f⟩)
theorem o_notIn (hu : X.A.units + 1 < cLine) : OpD X (compareOp .NotIn) notInT := by
  refine ⟨_, op_notIn_seq.or (op_notin_str.or (op_notInDD hu)), fun g H σ s x y d e t Q sd hx hy hh f => ?_⟩
  unfold notInT at hh
  cases q : inD d e with
  | none => rw [q] at hh; cases hh
  | some k => rw [q] at hh; cases hh; exact in_core (neg := true) sd hx hy q (f.fz sd (.bl _))
def dTup (fl : M (List VR)) : M T := fl >>= fun rs => frzs rs >>= fun ds => opt (if ds.length ≤ sizeLine then some (.fz (.tup ds)) else none)
def dLst (fl : M (List VR)) : M T := fl >>= fun rs => frzs rs >>= fun ds => opt (if ds.length ≤ sizeLine then some (.ow (.lst ds)) else none)
section
variable {α β : Type} {K : PySem.W.Frag} {σ : Slots} {R : Gh → Hp → State → β → α → Prop} {Q : β → Hp → Prop} {g0 g1 : Gh} {H0 H1 Hq : Hp} {s0 s1 : State}
theorem frz_res (r : VR) (s : State) : (∃ d s', frz r s = .ok d s') ∨ frz r s = .bad := by
  cases r with
  | slot i =>
    cases e : s.env[i]? with
    | none => exact .inr (by simp only [frz, e])
    | some w =>
      cases w with
      | none => exact .inr (by simp only [frz, e])
      | some w =>
        cases w with
        | fz d => exact .inl ⟨d, s, by simp only [frz, e]⟩
        | own d => exact .inl ⟨d, _, by simp only [frz, e]; rfl⟩
        | lent d => exact .inr (by simp only [frz, e])
        | lk d => exact .inr (by simp only [frz, e])
        | lkl d => exact .inr (by simp only [frz, e])
  | t t => exact .inl ⟨_, _, rfl⟩
theorem frzs_res : ∀ (rs : List VR) (s : State), (∃ d s', frzs rs s = .ok d s') ∨ frzs rs s = .bad
  | [], s => .inl ⟨[], s, rfl⟩
  | r :: rs, s => by
    unfold frzs
    rw [bind_eq]
    rcases frz_res r s with ⟨d, s1, e⟩ | e
    · rw [e]
      show (∃ d' s', (frzs rs >>= fun ds => pure (d :: ds)) s1 = .ok d' s') ∨ (frzs rs >>= fun ds => pure (d :: ds)) s1 = .bad
      rw [bind_eq]
      rcases frzs_res rs s1 with ⟨ds, s2, e2⟩ | e2
      · rw [e2]; exact .inl ⟨_, _, rfl⟩
      · rw [e2]; exact .inr rfl
    · rw [e]; exact .inr rfl
theorem Cur.frzs {rs : List VR} {vs : List V} {k : List D → M α} (c : Cur K Wx σ R Q g0 H0 s0 ((frzs rs >>= k) s1) g1 H1 s1) (h : RVRs K σ H0 g1 H1 s1 vs rs) :
    ∃ ds g2 s2, Cur K Wx σ R Q g0 H0 s0 (k ds s2) g2 H1 s2 ∧ Reps K g2 vs ds ∧ Le g1 g2 := by
  rw [bind_eq] at c
  rcases frzs_res rs s1 with ⟨d, s2, e⟩ | e
  · rw [e] at c
    obtain ⟨g2, sd2, ev2, rp, le⟩ := frzs_run e c.ev c.sd h
    exact ⟨d, g2, s2, ⟨ev2, sd2, c.post⟩, rp, le⟩
  · rw [e] at c
    exact (c.notBad rfl).elim
theorem Cur.frz {r : VR} {v : V} {k : D → M α} (c : Cur K Wx σ R Q g0 H0 s0 ((frz r >>= k) s1) g1 H1 s1) (h : RVR K σ H0 g1 H1 s1 v r) :
    ∃ d g2 s2, Cur K Wx σ R Q g0 H0 s0 (k d s2) g2 H1 s2 ∧ Rep K g2 v d ∧ Le g1 g2 := by
  rw [bind_eq] at c
  rcases frz_res r s1 with ⟨d, s2, e⟩ | e
  · rw [e] at c
    obtain ⟨g2, sd2, ev2, rp, _, le⟩ := frz_run e c.ev c.sd h
    exact ⟨d, g2, s2, ⟨ev2, sd2, c.post⟩, rp, le⟩
  · rw [e] at c
    exact (c.notBad rfl).elim
end
theorem de_tup {x1} (h : DA X Wx es fl) : DE X Wx (.Tuple es x1 pos) (dTup fl) := ⟨fun pins s σ H Q I q => (pe_tup h).run pins s σ H Q I (by
  obtain ⟨g, s, c⟩ := q.start
  refine c.bind.mono fun xs H1 ⟨rs, g1, s1, c1, r1, e1⟩ => ?_
  obtain ⟨ds, g2, s2, c2, r2, _⟩ := c1.frzs r1
  by_cases hz : ds.length ≤ sizeLine
  · refine ⟨by rw [r2.length]; exact hz, fun p hp => (c2.fin (by rw [if_pos hz]; rfl)).tup c2.sd hp r2⟩
  · exact (c2.notBad (by rw [if_neg hz]; rfl)).elim)⟩
theorem de_lst (h : DA X Wx es fl) : DE X Wx (.List es pos) (dLst fl) := ⟨fun pins s σ H Q I q => (pe_lst h).run pins s σ H Q I (by
  obtain ⟨g, s, c⟩ := q.start
  refine c.bind.mono fun xs H1 ⟨rs, g1, s1, c1, r1, e1⟩ => ?_
  obtain ⟨ds, g2, s2, c2, r2, _⟩ := c1.frzs r1
  by_cases hz : ds.length ≤ sizeLine
  · refine ⟨by rw [r2.length]; exact hz, fun p hp => (c2.fin (by rw [if_pos hz]; rfl)).ow c2.sd hp (.lst r2)⟩
  · exact (c2.notBad (by rw [if_neg hz]; rfl)).elim)⟩
def dNewK : M T := fun s => .ok (.ow (.dk [])) s
theorem de_newK : DE X Wx (.Dict [] [] pos) dNewK := ⟨fun pins s σ H Q I q => pe_dnewK.run pins s σ H Q I (by
  obtain ⟨g, s, c⟩ := q.start
  exact fun p hp => (c.fin rfl).ow c.sd hp (.dk rfl .nil))⟩
end
end DL
set_option Elab.async false
set_option linter.all false
set_option maxRecDepth 100000
set_option maxHeartbeats 1000000
namespace DL
open PySem PySem.Spec PyProof.Rows L2
inductive VAts (K : PySem.W.Frag) (g : Gh) (H : Hp) : List V → List D → Prop where
  | nil : VAts K g H [] []
  | cons {v : V} {d : D} {vs : List V} {ds : List D} : VAt K g H v d → VAts K g H vs ds → VAts K g H (v :: vs) (d :: ds)
def readVs : List VR → M (List D)
  | [] => pure []
  | r :: rs => readV r >>= fun d => readVs rs >>= fun ds => pure (d :: ds)
theorem readVs_res : ∀ (rs : List VR) (s : State), (∃ d, readVs rs s = .ok d s) ∨ readVs rs s = .bad
  | [], s => .inl ⟨[], rfl⟩
  | r :: rs, s => by
    unfold readVs
    rw [bind_eq]
    rcases readV_res r s with ⟨d, e⟩ | e
    · rw [e]
      show (∃ d', (readVs rs >>= fun ds => pure (d :: ds)) s = .ok d' s) ∨ (readVs rs >>= fun ds => pure (d :: ds)) s = .bad
      rw [bind_eq]
      rcases readVs_res rs s with ⟨ds, e2⟩ | e2
      · rw [e2]; exact .inl ⟨_, rfl⟩
      · rw [e2]; exact .inr rfl
    · rw [e]; exact .inr rfl
theorem RVRs.reads {K : PySem.W.Frag} {σ : Slots} {g : Gh} {H H0 : Hp} {s s' : State} (sd : SD K g H σ s) : ∀ {vs : List V} {rs : List VR} {ds : List D}, RVRs K σ H0 g H s vs rs → readVs rs s = .ok ds s' → VAts K g H vs ds
  | _, _, _, .nil, e => by cases e; exact .nil
  | _, _, ds, .cons (r := r) (rs := rs) a b _, e => by
    unfold readVs at e
    rw [bind_eq] at e
    rcases readV_res r s with ⟨d, e1⟩ | e1
    · rw [e1] at e
      have e : (readVs rs >>= fun ds => pure (d :: ds)) s = .ok ds s' := e
      rw [bind_eq] at e
      rcases readVs_res rs s with ⟨ds2, e2⟩ | e2
      · rw [e2] at e; cases e; exact .cons (a.read sd e1).2 (RVRs.reads sd b e2)
      · rw [e2] at e; cases e
    · rw [e1] at e; cases e
section
variable {α β : Type} {K : PySem.W.Frag} {Wx : WX} {σ : Slots} {R : Gh → Hp → State → β → α → Prop} {Q : β → Hp → Prop} {g0 g1 : Gh} {H0 H1 Hq : Hp} {s0 s1 : State}
theorem Cur.reads {rs : List VR} {vs : List V} {k : List D → M α} (c : Cur K Wx σ R Q g0 H0 s0 ((readVs rs >>= k) s1) g1 H1 s1) (h : RVRs K σ Hq g1 H1 s1 vs rs) :
    ∃ ds, Cur K Wx σ R Q g0 H0 s0 (k ds s1) g1 H1 s1 ∧ VAts K g1 H1 vs ds := by
  rw [bind_eq] at c
  rcases readVs_res rs s1 with ⟨d, e⟩ | e
  · rw [e] at c
    exact ⟨d, c, h.reads c.sd e⟩
  · rw [e] at c
    exact (c.notBad rfl).elim
end
theorem VAts.one {K : PySem.W.Frag} {g : Gh} {H : Hp} {xs : List V} {d : D} (h : VAts K g H xs [d]) : ∃ x, xs = [x] ∧ VAt K g H x d := by
  cases h with
  | cons a b => cases b; exact ⟨_, rfl, a⟩
theorem VAts.two {K : PySem.W.Frag} {g : Gh} {H : Hp} {xs : List V} {d e : D} (h : VAts K g H xs [d, e]) : ∃ x y, xs = [x, y] ∧ VAt K g H x d ∧ VAt K g H y e := by
  cases h with
  | cons a b =>
    obtain ⟨y, rfl, hy⟩ := b.one
    exact ⟨_, y, rfl, a, hy⟩
theorem VAts.three {K : PySem.W.Frag} {g : Gh} {H : Hp} {xs : List V} {d e f : D} (h : VAts K g H xs [d, e, f]) : ∃ x y z, xs = [x, y, z] ∧ VAt K g H x d ∧ VAt K g H y e ∧ VAt K g H z f := by
  cases h with
  | cons a b =>
    obtain ⟨y, z, rfl, hy, hz⟩ := b.two
    exact ⟨_, y, z, rfl, a, hy, hz⟩
def CallD (X : Cx) (f : Value) (h : List D → Option T) : Prop :=
  ∃ r, CallR X f r ∧ ∀ (g : Gh) (H : Hp) (σ : Slots) (s : State) (xs : List V) (ds : List D) (t : T) (Q : V → Hp → Prop), SD X.K g H σ s → VAts X.K g H xs ds → h ds = some t → Fin X.K g H σ s t Q → r xs H Q
def dCallB (h : List D → Option T) (fl : M (List VR)) : M T := fl >>= fun rs => readVs rs >>= fun ds => opt (h ds)
section
variable {X : Cx} {Wx : WX} {x : Str} {p pos : Pos} {e a : Expr} {es : List Expr} {fl : M (List VR)} {h : List D → Option T} {id T : String} {fa : M VR}
theorem callB_run {f : Value} {r : List V → Hp → VK → Prop} (k : ∀ (g : Gh) (H : Hp) (σ : Slots) (s : State) (xs : List V) (ds : List D) (t : DL.T) (Q : V → Hp → Prop), SD X.K g H σ s → VAts X.K g H xs ds → h ds = some t → Fin X.K g H σ s t Q → r xs H Q)
    {σ : Slots} {H : Hp} {Q : V → Hp → Prop} (q : tE X.K Wx (dCallB h fl) σ H Q) : tCB r (tL X.K Wx fl) σ H Q := by
  obtain ⟨g, s, c⟩ := q.start
  refine c.bind.mono fun xs H1 ⟨rs, g1, s1, c1, r1, e1⟩ => ?_
  obtain ⟨ds, c2, v2⟩ := c1.reads r1
  cases q : h ds with
  | none => exact (c2.notBad (by rw [q]; rfl)).elim
  | some t => exact k g1 H1 σ s1 xs ds t Q c1.sd v2 q (c2.fin (by rw [q]; rfl))
theorem de_callB (hc : CallD X (.builtin id) h) (hg : Gl X x) (hm : X.mg x = none) (hv : bootBuiltins x = some (.builtin id)) (ha : DA X Wx (e :: es) fl) (hn : x ≠ "__name__" := by decide) (hdb : (x == ("__debug__" : Str)) = false := by decide)
    (he : starEach (e :: es) X.env = (false, eval e X.env) :: starEach es X.env := by rfl) (hpl : (backTo pos (starEach es X.env)).any (·.1) = false := by rfl) : DE X Wx (.Call (.Name x p) (e :: es) [] pos) (dCallB h fl) := by
  obtain ⟨r, hr, k⟩ := hc
  exact ⟨fun pins s σ H Q I q => (pe_callB hr hg hm hv ha hn hdb he hpl).run pins s σ H Q I (callB_run (f := .builtin id) k q)⟩
theorem de_callTy (hc : CallD X (.type T) h) (hg : Gl X x) (hm : X.mg x = none) (hv : bootBuiltins x = some (.type T)) (ha : DA X Wx (e :: es) fl) (hn : x ≠ "__name__" := by decide) (hdb : (x == ("__debug__" : Str)) = false := by decide)
    (he : starEach (e :: es) X.env = (false, eval e X.env) :: starEach es X.env := by rfl) (hpl : (backTo pos (starEach es X.env)).any (·.1) = false := by rfl) : DE X Wx (.Call (.Name x p) (e :: es) [] pos) (dCallB h fl) := by
  obtain ⟨r, hr, k⟩ := hc
  exact ⟨fun pins s σ H Q I q => (pe_callTy hr hg hm hv ha hn hdb he hpl).run pins s σ H Q I (callB_run (f := .type T) k q)⟩
def lenD : List D → Option DL.T
  | [.lst ds] => some (.fz (.int ds.length))
  | [.tup ds] => some (.fz (.int ds.length))
  | [.frl ns] => some (.fz (.int ns.length))
  | [.dk ds] => some (.fz (.int ds.length))
  | [.dt ds] => some (.fz (.int ds.length))
  | [.str z] => if z.length ≤ sizeLine then some (.fz (.int z.length)) else none
  | _ => none
theorem CallR.or {f : Value} {r r' : List V → Hp → VK → Prop} (h : CallR X f r) (h' : CallR X f r') : CallR X f (fun xs H Q => r xs H Q ∨ r' xs H Q) := by
  intro pins s σ H xs us Q I rv q
  rcases q with q | q
  · exact h pins s σ H xs us Q I rv q
  · exact h' pins s σ H xs us Q I rv q
theorem call_lenDK : CallR X (.builtin "len") (fun xs H Q => ∃ a kvs, xs = [V.ref a] ∧ Rd H a (.dK kvs) ∧ Q (.int kvs.length) H) := by
  intro pins s σ H xs us Q I r h
  obtain ⟨a, kvs, rfl, ha, q⟩ := h
  obtain ⟨u, rfl, ru⟩ := vals1 r
  cases ru
  exact d_len I ha fun t s' I' => ⟨.int kvs.length, H, I', ⟨t, rfl⟩, q⟩
theorem call_lenDT : CallR X (.builtin "len") (fun xs H Q => ∃ p kvs, xs = [V.ref p] ∧ Rd H p (.dT kvs) ∧ Q (.int ((kvs.length : Nat) : Int)) H) := by
  rintro pins s σ H xs us Q I r ⟨p, kvs, rfl, hp, q⟩
  obtain ⟨u, rfl, rx⟩ := vals1 r
  cases rx
  obtain ⟨z, hd, ys, rel, dd⟩ := dt_rd I.hok hp
  have e : kvs.length = ys.length := rel.length
  have z2 : (ys.length : Int) < 2 ^ 63 := by rw [sizeLine_eq] at z; omega
  exact call_len_dictH hd dd z2 (by rw [← e]; exact ⟨.int _, H, I.tok _, ⟨_, rfl⟩, q⟩)
theorem c_len : CallD X (.builtin "len") lenD := by
  refine ⟨_, CallR.or call_len (CallR.or call_lenDK call_lenDT), fun g H σ s xs ds t Q sd hxs hh f => ?_⟩
  unfold lenD at hh
  split at hh
  · cases hh
    obtain ⟨x, rfl, hx⟩ := hxs.one
    obtain ⟨a, vs, rfl, ha, ra⟩ := hx.lst sd
    exact .inl ⟨_, _, rfl, .inl ⟨vs, .of ha, rfl⟩, by rw [ra.length]; exact f.fz sd (.int _)⟩
  · cases hh
    obtain ⟨x, rfl, hx⟩ := hxs.one
    obtain ⟨a, vs, rfl, ha, ra⟩ := hx.tup sd
    exact .inl ⟨_, _, rfl, .inr ⟨vs, ha, rfl⟩, by rw [ra.length]; exact f.fz sd (.int _)⟩
  · cases hh
    obtain ⟨x, rfl, hx⟩ := hxs.one
    cases hx.sc (fun _ z => z) with
    | frl q => exact .inl ⟨_, _, rfl, .inl ⟨_, sd.seq q, rfl⟩, by rw [List.length_map]; exact f.fz sd (.int _)⟩
  · cases hh
    obtain ⟨x, rfl, hx⟩ := hxs.one
    obtain ⟨a, vs, rfl, ha, hk, ra⟩ := hx.dk sd
    have e := congrArg List.length hk
    rw [List.length_map, List.length_map] at e
    exact .inr (.inl ⟨a, vs, rfl, ha.rd, by rw [e]; exact f.fz sd (.int _)⟩)
  · cases hh
    obtain ⟨x, rfl, hx⟩ := hxs.one
    obtain ⟨a, vs, rfl, ha, hk, ra⟩ := hx.dt sd
    have e := congrArg List.length hk
    rw [List.length_map, List.length_map] at e
    exact .inr (.inr ⟨a, vs, rfl, ha.rd, by rw [e]; exact f.fz sd (.int _)⟩)
  · rename_i z
    by_cases hz : z.length ≤ sizeLine
    · rw [if_pos hz] at hh; cases hh
      obtain ⟨x, rfl, hx⟩ := hxs.one
      cases hx.str
      exact .inl ⟨_, _, rfl, ⟨hz, rfl⟩, f.fz sd (.int _)⟩
    · rw [if_neg hz] at hh; cases hh
  · cases hh
def absD : List D → Option DL.T
  | [.int i] => some (.fz (.int (if i < 0 then -i else i)))
  | _ => none
theorem c_abs : CallD X (.builtin "abs") absD := by
  refine ⟨_, call_abs, fun g H σ s xs ds t Q sd hxs hh f => ?_⟩
  unfold absD at hh
  split at hh
  · cases hh
    obtain ⟨x, rfl, hx⟩ := hxs.one
    cases hx.int
    exact ⟨_, rfl, f.fz sd (.int _)⟩
  · cases hh
theorem call_max3 (hc : X.calm = true) : CallR X (.builtin "max") (fun xs H Q => ∃ i j k, xs = [.int i, .int j, .int k] ∧ Q (.int (max i (max j k))) H) := by
  intro pins s σ H xs us Q I r h
  obtain ⟨i, j, k, rfl, q⟩ := h
  cases r with
  | cons r1 r2 =>
    obtain ⟨u, w', rfl, ⟨t, rfl⟩, ⟨t', rfl⟩⟩ := vals2 r2
    obtain ⟨t0, rfl⟩ := r1
    refine max_three_ints (I.ok.hd hc) fun h' tk hk => ⟨_, H, I.kept hk, ?_, q⟩
    by_cases hba : j > i <;> by_cases hc1 : k > j <;> by_cases hc2 : k > i <;> simp only [hba, hc1, hc2, if_true, if_false] <;> refine ⟨_, congrArg (fun z => Value.int z _) ?_⟩ <;> omega
theorem call_min3 (hc : X.calm = true) : CallR X (.builtin "min") (fun xs H Q => ∃ i j k, xs = [.int i, .int j, .int k] ∧ Q (.int (min i (min j k))) H) := by
  intro pins s σ H xs us Q I r h
  obtain ⟨i, j, k, rfl, q⟩ := h
  cases r with
  | cons r1 r2 =>
    obtain ⟨u, w', rfl, ⟨t, rfl⟩, ⟨t', rfl⟩⟩ := vals2 r2
    obtain ⟨t0, rfl⟩ := r1
    refine min_three_ints (I.ok.hd hc) fun h' tk hk => ⟨_, H, I.kept hk, ?_, q⟩
    by_cases hba : j < i <;> by_cases hc1 : k < j <;> by_cases hc2 : k < i <;> simp only [hba, hc1, hc2, if_true, if_false] <;> refine ⟨_, congrArg (fun z => Value.int z _) ?_⟩ <;> omega
def intsD : List D → Option (List Int)
  | [] => some []
  | .int i :: ds => (intsD ds).map (i :: ·)
  | _ => none
theorem intsD_rep {K : PySem.W.Frag} {g : Gh} : ∀ {xs : List V} {ds : List D} {ns : List Int}, Reps K g xs ds → intsD ds = some ns → xs = ns.map V.int
  | _, _, _, .nil, e => by cases e; rfl
  | _, _, ns, .cons (d := d) (ds := ds) a r, e => by
    cases d with
    | int i =>
      have e : (intsD ds).map (i :: ·) = some ns := e
      cases q : intsD ds with
      | none => rw [q] at e; cases e
      | some ms =>
        rw [q] at e; cases e
        rw [intsD_rep r q]
        cases a
        rfl
    | _ => cases e
def minL : List Int → Int
  | [] => 0
  | [i] => i
  | i :: is => min i (minL is)
def maxL : List Int → Int
  | [] => 0
  | [i] => i
  | i :: is => max i (maxL is)
theorem minL_le : ∀ {l : List Int} {i : Int}, i ∈ l → minL l ≤ i
  | [a], i, h => by rw [List.mem_singleton.mp h]; exact Int.le_refl _
  | a :: b :: l, i, h => by
    have ih := minL_le (l := b :: l) (i := i)
    show min a (minL (b :: l)) ≤ i
    rcases List.mem_cons.mp h with rfl | h
    · exact Int.min_le_left _ _
    · exact Int.le_trans (Int.min_le_right _ _) (ih h)
theorem minL_mem : ∀ {l : List Int}, l ≠ [] → minL l ∈ l
  | [a], _ => by simp [minL]
  | a :: b :: l, _ => by
    have ih := minL_mem (l := b :: l) (by simp)
    show min a (minL (b :: l)) ∈ a :: b :: l
    by_cases z : a ≤ minL (b :: l)
    · rw [Int.min_eq_left z]; exact List.mem_cons_self
    · rw [Int.min_eq_right (by omega)]; exact List.mem_cons_of_mem _ ih
theorem le_maxL : ∀ {l : List Int} {i : Int}, i ∈ l → i ≤ maxL l
  | [a], i, h => by rw [List.mem_singleton.mp h]; exact Int.le_refl _
  | a :: b :: l, i, h => by
    have ih := le_maxL (l := b :: l) (i := i)
    show i ≤ max a (maxL (b :: l))
    rcases List.mem_cons.mp h with rfl | h
    · exact Int.le_max_left _ _
    · exact Int.le_trans (ih h) (Int.le_max_right _ _)
theorem maxL_mem : ∀ {l : List Int}, l ≠ [] → maxL l ∈ l
  | [a], _ => by simp [maxL]
  | a :: b :: l, _ => by
    have ih := maxL_mem (l := b :: l) (by simp)
    show max a (maxL (b :: l)) ∈ a :: b :: l
    by_cases z : maxL (b :: l) ≤ a
    · rw [Int.max_eq_left z]; exact List.mem_cons_self
    · rw [Int.max_eq_right (by omega)]; exact List.mem_cons_of_mem _ ih
def maxD : List D → Option DL.T
  | [.int i, .int j] => some (.fz (.int (max i j)))
  | [.int i, .int j, .int k] => some (.fz (.int (max i (max j k))))
  | [.lst ds] => match intsD ds with
    | some (n :: ns) => some (.fz (.int (maxL (n :: ns))))
    | _ => none
  | _ => none
def minD : List D → Option DL.T
  | [.int i, .int j] => some (.fz (.int (min i j)))
  | [.int i, .int j, .int k] => some (.fz (.int (min i (min j k))))
  | [.lst ds] => match intsD ds with
    | some (n :: ns) => some (.fz (.int (minL (n :: ns))))
    | _ => none
  | _ => none
theorem c_max (hc : X.calm = true) : CallD X (.builtin "max") maxD := by
  refine ⟨_, CallR.or (call_max2 hc) (CallR.or (call_max3 hc) (cr_max hc)), fun g H σ s xs ds t Q sd hxs hh f => ?_⟩
  unfold maxD at hh
  split at hh
  · rename_i i j
    cases hh
    obtain ⟨x, y, rfl, hx, hy⟩ := hxs.two
    cases hx.int; cases hy.int
    refine .inl ⟨_, _, rfl, ?_⟩
    rw [show (if j > i then j else i) = max i j by split <;> omega]
    exact f.fz sd (.int _)
  · cases hh
    obtain ⟨x, y, z, rfl, hx, hy, hz⟩ := hxs.three
    cases hx.int; cases hy.int; cases hz.int
    exact .inr (.inl ⟨_, _, _, rfl, f.fz sd (.int _)⟩)
  · rename_i ds
    split at hh
    · rename_i n ns e
      cases hh
      obtain ⟨x, rfl, hx⟩ := hxs.one
      obtain ⟨a, vs, rfl, ha, ra⟩ := hx.lst sd
      rw [intsD_rep ra e] at ha
      refine .inr (.inr ⟨a, n :: ns, rfl, .of ha, by simp, fun m h1 h2 => ?_⟩)
      have e2 : m = maxL (n :: ns) := Int.le_antisymm (le_maxL h1) (h2 _ (maxL_mem (by simp)))
      rw [e2]
      exact f.fz sd (.int _)
    · cases hh
  · cases hh
theorem c_min (hc : X.calm = true) : CallD X (.builtin "min") minD := by
  refine ⟨_, CallR.or (call_min2 hc) (CallR.or (call_min3 hc) (cr_min hc)), fun g H σ s xs ds t Q sd hxs hh f => ?_⟩
  unfold minD at hh
  split at hh
  · rename_i i j
    cases hh
    obtain ⟨x, y, rfl, hx, hy⟩ := hxs.two
    cases hx.int; cases hy.int
    refine .inl ⟨_, _, rfl, ?_⟩
    rw [show (if j < i then j else i) = min i j by split <;> omega]
    exact f.fz sd (.int _)
  · cases hh
    obtain ⟨x, y, z, rfl, hx, hy, hz⟩ := hxs.three
    cases hx.int; cases hy.int; cases hz.int
    exact .inr (.inl ⟨_, _, _, rfl, f.fz sd (.int _)⟩)
  · rename_i ds
    split at hh
    · rename_i n ns e
      cases hh
      obtain ⟨x, rfl, hx⟩ := hxs.one
      obtain ⟨a, vs, rfl, ha, ra⟩ := hx.lst sd
      rw [intsD_rep ra e] at ha
      refine .inr (.inr ⟨a, n :: ns, rfl, .of ha, by simp, fun m h1 h2 => ?_⟩)
      have e2 : m = minL (n :: ns) := Int.le_antisymm (h2 _ (minL_mem (by simp))) (minL_le h1)
      rw [e2]
      exact f.fz sd (.int _)
    · cases hh
  · cases hh
def intD : List D → Option DL.T
  | [.int i] => some (.fz (.int i))
  | [.bl b] => some (.fz (.int (if b then 1 else 0)))
  | _ => none
theorem c_int : CallD X (.type "int") intD := by
  refine ⟨_, call_int1, fun g H σ s xs ds t Q sd hxs hh f => ?_⟩
  unfold intD at hh
  split at hh
  · cases hh
    obtain ⟨x, rfl, hx⟩ := hxs.one
    cases hx.int
    exact .inl ⟨_, rfl, f.fz sd (.int _)⟩
  · cases hh
    obtain ⟨x, rfl, hx⟩ := hxs.one
    cases hx.bl
    exact .inr ⟨_, rfl, f.fz sd (.int _)⟩
  · cases hh
def listD : List D → Option DL.T
  | [.lst ds] => some (.ow (.lst ds))
  | [.tup ds] => some (.ow (.lst ds))
  | [.frl ns] => some (.ow (.lst (ns.map D.int)))
  | _ => none
theorem c_list : CallD X (.type "list") listD := by
  refine ⟨_, call_list_of, fun g H σ s xs ds t Q sd hxs hh f => ?_⟩
  unfold listD at hh
  split at hh
  · cases hh
    obtain ⟨x, rfl, hx⟩ := hxs.one
    obtain ⟨a, vs, rfl, ha, ra⟩ := hx.lst sd
    exact ⟨a, vs, rfl, .inl (.of ha), fun l hl => f.ow sd hl (.lst ra)⟩
  · cases hh
    obtain ⟨x, rfl, hx⟩ := hxs.one
    obtain ⟨a, vs, rfl, ha, ra⟩ := hx.tup sd
    exact ⟨a, vs, rfl, .inr ha, fun l hl => f.ow sd hl (.lst ra)⟩
  · cases hh
    obtain ⟨x, rfl, hx⟩ := hxs.one
    cases hx.sc (fun _ z => z) with
    | frl q => exact ⟨_, _, rfl, .inl (sd.seq q), fun l hl => f.ow sd hl (.lst (Reps.ints _))⟩
  · cases hh
def tupleD : List D → Option DL.T
  | [.lst ds] => some (.fz (.tup ds))
  | [.tup ds] => some (.fz (.tup ds))
  | _ => none
theorem c_tuple : CallD X (.type "tuple") tupleD := by
  refine ⟨_, call_tuple_of, fun g H σ s xs ds t Q sd hxs hh f => ?_⟩
  unfold tupleD at hh
  split at hh
  · cases hh
    obtain ⟨x, rfl, hx⟩ := hxs.one
    obtain ⟨a, vs, rfl, ha, ra⟩ := hx.lst sd
    exact ⟨a, vs, rfl, .inl ⟨.of ha, fun l hl => f.tup sd hl ra⟩⟩
  · cases hh
    obtain ⟨x, rfl, hx⟩ := hxs.one
    have hr := hx.sc (fun _ z => z)
    obtain ⟨a, vs, rfl, ha, ra⟩ := hx.tup sd
    exact ⟨a, vs, rfl, .inr ⟨ha, f.fz sd hr⟩⟩
  · cases hh
def boolsD : List D → Option (List Bool)
  | [] => some []
  | .bl i :: ds => (boolsD ds).map (i :: ·)
  | _ => none
theorem boolsD_rep {K : PySem.W.Frag} {g : Gh} : ∀ {xs : List V} {ds : List D} {ns : List Bool}, Reps K g xs ds → boolsD ds = some ns → xs = ns.map V.bl
  | _, _, _, .nil, e => by cases e; rfl
  | _, _, ns, .cons (d := d) (ds := ds) a r, e => by
    cases d with
    | bl i =>
      have e : (boolsD ds).map (i :: ·) = some ns := e
      cases q : boolsD ds with
      | none => rw [q] at e; cases e
      | some ms =>
        rw [q] at e; cases e
        rw [boolsD_rep r q]
        cases a
        rfl
    | _ => cases e
def allD : List D → Option DL.T
  | [.lst ds] => (boolsD ds).map fun ns => .fz (.bl (ns.all fun b => b))
  | _ => none
theorem c_all (hc : X.calm = true) : CallD X (.builtin "all") allD := by
  refine ⟨_, cr_all hc, fun g H σ s xs ds t Q sd hxs hh f => ?_⟩
  unfold allD at hh
  split at hh
  · rename_i ds
    cases e : boolsD ds with
    | none => rw [e] at hh; cases hh
    | some ns =>
      rw [e] at hh; cases hh
      obtain ⟨x, rfl, hx⟩ := hxs.one
      obtain ⟨a, vs, rfl, ha, ra⟩ := hx.lst sd
      rw [boolsD_rep ra e] at ha
      exact ⟨a, ns, rfl, .of ha, f.fz sd (.bl _)⟩
  · cases hh
end
end DL
set_option Elab.async false
set_option linter.all false
set_option maxRecDepth 100000
set_option maxHeartbeats 1000000
namespace DL
open PySem PySem.Spec PyProof.Rows L2
inductive Ty where
  | non | bool | int | str | tuple | list | dict
  deriving DecidableEq
def Ty.name : Ty → String
  | .non => "NoneType" | .bool => "bool" | .int => "int" | .str => "str" | .tuple => "tuple" | .list => "list" | .dict => "dict"
def Ty.sub : Ty → Ty → Bool
  | .bool, .int => true
  | a, b => decide (a = b)
theorem Ty.kit (a b : Ty) : kitB a.name b.name = some (a.sub b) := by cases a <;> cases b <;> decide +kernel
def tyD : D → Option Ty
  | .non => some .non | .bl _ => some .bool | .int _ => some .int | .str _ => some .str | .tup _ => some .tuple | .lst _ => some .list | .frl _ => some .list | .dk _ => some .dict
  | _ => none
section
variable {K : PySem.W.Frag} {g : Gh} {H : Hp} {σ : Slots} {s : State}
theorem VAt.ty (sd : SD K g H σ s) {v : V} {d : D} {t : Ty} (h : VAt K g H v d) (e : tyD d = some t) : TyX K H v (.type t.name) := by
  cases d with
  | non => cases e; cases h.non; exact .base .non
  | bl b => cases e; cases h.bl; exact .base (.bl b)
  | int i => cases e; cases h.int; exact .base (.int i)
  | str z => cases e; cases h.str; exact .base (.str z)
  | tup ds =>
    cases e
    obtain ⟨a, xs, rfl, (q | ⟨o, q⟩) | ⟨o, its, n, hk, hc, _⟩, _⟩ := h.tup sd
    · exact .base (.tup q)
    · exact .fTuple q
    · exact .kTuple hk hc
  | lst ds =>
    cases e
    obtain ⟨a, xs, rfl, q, _⟩ := h.lst sd
    exact .base (.lst q)
  | frl ns =>
    cases e
    cases h.sc (fun _ z => z) with
    | frl q =>
      rcases sd.seq q with (q | ⟨o, q⟩) | ⟨o, its, n, hk, hc, _⟩
      · exact .base (.lst q)
      · exact .base (.frz q)
      · exact .kList hk hc
  | dk ds =>
    cases e
    obtain ⟨a, xs, rfl, q | ⟨_, o, q⟩, _⟩ := h.dk sd
    · exact .base (.dK q)
    · exact .fDict q
  | _ => cases e
end
def isiD (ts : List Ty) (d : D) : Option T := (tyD d).map fun t => .fz (.bl (ts.any fun u => t.sub u))
def dIsi (ts : List Ty) (fa : M VR) : M T := fa >>= fun x => readV x >>= fun d => opt (isiD ts d)
section
variable {X : Cx} {Wx : WX} {e : Expr} {fa : M VR} {p p1 p2 p3 p4 pos : Pos} {x1 : Str}
theorem kitAny_ty {K : PySem.W.Frag} (t : Ty) : ∀ ts : List Ty, PySem.W.kitAny K (.type t.name) (ts.map fun u => Value.type u.name) = some (ts.any fun u => t.sub u)
  | [] => rfl
  | u :: us => kitAny_cons (kit_ty (Ty.kit t u)) (fun h => by rw [kitAny_ty t us, List.any_cons, h, Bool.false_or]) (fun h => by rw [List.any_cons, h, Bool.true_or])
theorem de_isi (u : Ty) (hu : x1 = Str.ofString u.name) (ha : DV X Wx e fa) (hg : Gl X "isinstance") (hm : X.mg "isinstance" = none) (hg1 : Gl X x1) (hm1 : X.mg x1 = none) (hv1 : bootBuiltins x1 = some (.type u.name)) (hn1 : x1 ≠ "__name__" := by decide) (hd1 : (x1 == ("__debug__" : Str)) = false := by decide)
    (hs1 : starEach [e, .Name x1 p1] X.env = (false, eval e X.env) :: starEach [.Name x1 p1] X.env := by rfl) (hs2 : starEach [.Name x1 p1] X.env = (false, eval (.Name x1 p1) X.env) :: starEach [] X.env := by rfl)
    (hpl : (backTo pos (starEach [.Name x1 p1] X.env)).any (·.1) = false := by rfl) :
    DE X Wx (.Call (.Name "isinstance" p) [e, .Name x1 p1] [] pos) (dIsi [u] fa) := by
  refine ⟨fun pins s σ H Q I q => (pe_callB call_isi hg hm (by decide +kernel) (pa_cons ha (pa_cons (pe_bltn (v := .ty u.name) hg1 hm1 hv1 rfl hn1 hd1) pa_nil hs2) hs1) (by decide) (by decide) hs1 hpl).run pins s σ H Q I ?_⟩
  obtain ⟨g, s, c⟩ := q.start
  show tV X.K Wx fa σ H _
  refine c.bind.mono fun x H1 ⟨x', g1, s1, c1, r1, e1⟩ => ?_
  obtain ⟨d, c3, v1⟩ := c1.read r1
  show ∃ (x_1 c : V) (t u_1 : Value) (b : Bool), _
  cases q : tyD d with
  | none => exact (c3.notBad (by show opt (isiD [u] d) s1 = _; unfold isiD; rw [q]; rfl)).elim
  | some t =>
    refine ⟨x, .ty u.name, .type t.name, .type u.name, t.sub u, rfl, .ty _, v1.ty c1.sd q, kit_ty (Ty.kit t u), ?_⟩
    have z : opt (isiD [u] d) s1 = .ok (.fz (.bl (t.sub u))) s1 := by
      unfold isiD
      rw [q]
      show Rs.ok (T.fz (.bl ([u].any fun u => t.sub u))) s1 = _
      simp
    exact (c3.fin z).fz c1.sd (.bl _)
theorem de_isi2 (u1 u2 : Ty) {y1 y2 : Str} {kx} (hu1 : y1 = Str.ofString u1.name) (hu2 : y2 = Str.ofString u2.name) (ha : DV X Wx e fa) (hg : Gl X "isinstance") (hm : X.mg "isinstance" = none) (hg1 : Gl X y1) (hm1 : X.mg y1 = none) (hv1 : bootBuiltins y1 = some (.type u1.name)) (hg2 : Gl X y2) (hm2 : X.mg y2 = none) (hv2 : bootBuiltins y2 = some (.type u2.name))
    (hn1 : y1 ≠ "__name__" := by decide) (hd1 : (y1 == ("__debug__" : Str)) = false := by decide) (hn2 : y2 ≠ "__name__" := by decide) (hd2 : (y2 == ("__debug__" : Str)) = false := by decide)
    (hs1 : starEach [e, .Tuple [.Name y1 p1, .Name y2 p2] kx p3] X.env = (false, eval e X.env) :: starEach [.Tuple [.Name y1 p1, .Name y2 p2] kx p3] X.env := by rfl) (hs2 : starEach [.Tuple [.Name y1 p1, .Name y2 p2] kx p3] X.env = (false, eval (.Tuple [.Name y1 p1, .Name y2 p2] kx p3) X.env) :: starEach [] X.env := by rfl)
    (hs3 : starEach [.Name y1 p1, .Name y2 p2] X.env = (false, eval (.Name y1 p1) X.env) :: starEach [.Name y2 p2] X.env := by rfl) (hs4 : starEach [.Name y2 p2] X.env = (false, eval (.Name y2 p2) X.env) :: starEach [] X.env := by rfl)
    (hpl : (backTo pos (starEach [.Tuple [.Name y1 p1, .Name y2 p2] kx p3] X.env)).any (·.1) = false := by rfl) :
    DE X Wx (.Call (.Name "isinstance" p) [e, .Tuple [.Name y1 p1, .Name y2 p2] kx p3] [] pos) (dIsi [u1, u2] fa) := by
  refine ⟨fun pins s σ H Q I q => (pe_callB call_isiT hg hm (by decide +kernel) (pa_cons ha (pa_cons (pe_tup (pa_cons (pe_bltn (v := .ty u1.name) hg1 hm1 hv1 rfl hn1 hd1) (pa_cons (pe_bltn (v := .ty u2.name) hg2 hm2 hv2 rfl hn2 hd2) pa_nil hs4) hs3)) pa_nil hs2) hs1) (by decide) (by decide) hs1 hpl).run pins s σ H Q I ?_⟩
  obtain ⟨g, s, c⟩ := q.start
  show tV X.K Wx fa σ H _
  refine c.bind.mono fun x H1 ⟨x', g1, s1, c1, r1, e1⟩ => ?_
  refine ⟨by rw [sizeLine_eq]; show 2 ≤ 16777216; decide, fun tp hp => ?_⟩
  have sd2 := c1.sd.alloc (o := .tup [.ty u1.name, .ty u2.name]) hp
  have ev2 := c1.sd.allocEv (o := .tup [.ty u1.name, .ty u2.name]) hp
  have c2 : Cur X.K Wx σ _ Q g H s _ g1 (upd H1 tp (.tup [.ty u1.name, .ty u2.name])) s1 := ⟨c1.ev.trans ev2, sd2, c1.post⟩
  obtain ⟨d, c3, v1⟩ := c2.read (r1.ev ev2)
  cases q : tyD d with
  | none => exact (c3.notBad (by show opt (isiD [u1, u2] d) s1 = _; unfold isiD; rw [q]; rfl)).elim
  | some t =>
    refine ⟨x, tp, [.ty u1.name, .ty u2.name], .type t.name, [.type u1.name, .type u2.name], [u1, u2].any fun u => t.sub u, rfl, upd_same, .cons (.ty _) (.cons (.ty _) .nil), v1.ty sd2 q, kitAny_ty t [u1, u2], ?_⟩
    have z : opt (isiD [u1, u2] d) s1 = .ok (.fz (.bl ([u1, u2].any fun u => t.sub u))) s1 := by
      unfold isiD
      rw [q]
      rfl
    exact (c3.fin z).fz sd2 (.bl _)
def cutD (xs : List D) (lo hi : Option Int) : List D := (xs.drop (HT.sIx xs.length 0 lo)).take (HT.sIx xs.length xs.length hi - HT.sIx xs.length 0 lo)
def sliceD (lo hi : Option Int) : D → Option T
  | .lst ds => some (.ow (.lst (cutD ds lo hi)))
  | .tup ds => some (.fz (.tup (cutD ds lo hi)))
  | .str z => if z.length ≤ sizeLine then some (.fz (.str (cutS z lo hi))) else none
  | _ => none
def RO : Rel (Option Int) (Option Int) := fun _ _ _ _ _ b c => b = c
def DO (X : Cx) (Wx : WX) (e : Option Expr) (f : M (Option Int)) : Prop := PO X e (tM X.K Wx RO f)
def dNoPart : M (Option Int) := fun s => .ok none s
def dPart (f : M T) : M (Option Int) := f >>= fun t s => match t with
  | .fz (.int i) => .ok (some i) s
  | _ => .bad
theorem do_none : DO X Wx none dNoPart := ⟨fun pins s σ H Q I q => po_none.run pins s σ H Q I (by
  obtain ⟨g, s, c⟩ := q.start
  exact c.done rfl rfl)⟩
theorem do_some {f : M T} (h : DE X Wx e f) : DO X Wx (some e) (dPart f) := ⟨fun pins s σ H Q I q => (po_some h).run pins s σ H Q I (by
  obtain ⟨g, s, c⟩ := q.start
  refine c.bind.mono fun x H1 ⟨t, g1, s1, c1, r1, e1⟩ => ?_
  cases t with
  | ow d => exact (c1.notBad rfl).elim
  | fz d =>
    cases d with
    | int i =>
      have r := RT.at_ r1
      cases r
      exact ⟨i, rfl, c1.done rfl rfl⟩
    | _ => exact (c1.notBad rfl).elim)⟩
def dSlice (fa : M VR) (fl fh : M (Option Int)) : M T := fa >>= fun x => fl >>= fun l => fh >>= fun u => readV x >>= fun d => opt (sliceD l u d)
theorem Reps.cut {K : PySem.W.Frag} {g : Gh} {xs : List V} {ds : List D} (r : Reps K g xs ds) (lo hi : Option Int) : Reps K g (cutV xs lo hi) (cutD ds lo hi) := by
  unfold cutV cutD
  rw [r.length]
  exact (r.drop _).take _
theorem de_slice {lo hi : Option Expr} {fl fh : M (Option Int)} (ha : DV X Wx e fa) (hl : DO X Wx lo fl) (hh : DO X Wx hi fh) : DE X Wx (.Subscript e (.Slice lo hi none p2) pos) (dSlice fa fl fh) := by
  refine ⟨fun pins s σ H Q I q => (pe_slice (sl_list.or (sl_tupA.or sl_str)) ha hl hh).run pins s σ H Q I ?_⟩
  obtain ⟨g, s, c⟩ := q.start
  refine c.bind.mono fun x H1 ⟨x', g1, s1, c1, r1, e1⟩ => ?_
  refine c1.bind.mono fun l H2 ⟨l', g2, s2, c2, r2, e2⟩ => ?_
  refine c2.bind.mono fun u H3 ⟨u', g3, s3, c3, r3, e3⟩ => ?_
  cases (show l = l' from r2)
  cases (show u = u' from r3)
  obtain ⟨d, c4, v4⟩ := c3.read (r1.ev (e2.trans e3))
  have sd := c3.sd
  cases q : sliceD l u d with
  | none => exact (c4.notBad (by rw [q]; rfl)).elim
  | some t =>
    have f := c4.fin (by rw [q]; rfl)
    unfold sliceD at q
    split at q
    · cases q
      obtain ⟨a, xs, rfl, ha, ra⟩ := v4.lst sd
      exact .inl ⟨a, xs, rfl, .of ha, fun p hp => f.ow sd hp (.lst (ra.cut l u))⟩
    · rename_i ds
      cases q
      have rr := v4.sc (fun _ z => z)
      obtain ⟨a, xs, rfl, ha, ra⟩ := v4.tup sd
      refine .inr (.inl ⟨a, xs, rfl, ha, fun hw => ?_, fun _ p hp => f.tup sd hp (ra.cut l u)⟩)
      obtain ⟨w1, w2⟩ := hw
      have e : cutD ds l u = ds := by
        unfold cutD
        rw [← ra.length, w1, w2, List.drop_zero, Nat.sub_zero, ra.length, List.take_length]
      rw [e] at f
      exact f.fz sd rr
    · rename_i z
      by_cases hz : z.length ≤ sizeLine
      · rw [if_pos hz] at q
        cases q
        cases v4.str
        exact .inr (.inr ⟨z, rfl, hz, f.fz sd (.str _)⟩)
      · rw [if_neg hz] at q; cases q
    · cases q
def isDict : D → Bool
  | .dk _ => true
  | .dt _ => true
  | _ => false
theorem VAt.isD {K : PySem.W.Frag} {g : Gh} {H : Hp} {σ : Slots} {s : State} {v : V} {d : D} (sd : SD K g H σ s) (h : VAt K g H v d) (e : isDict d = true) : ∃ a, v = .ref a ∧ IsD H a := by
  cases d with
  | dk ds => obtain ⟨a, kvs, rfl, q, _⟩ := h.dk sd; exact ⟨a, rfl, .inl ⟨kvs, q.rd⟩⟩
  | dt ds => obtain ⟨a, kvs, rfl, q, _⟩ := h.dt sd; exact ⟨a, rfl, .inr ⟨kvs, q.rd⟩⟩
  | _ => cases e
def chk (b : Bool) : M Unit := fun s => if b then .ok () s else .bad
variable {α β : Type} {K : PySem.W.Frag} {σ : Slots} {R : Gh → Hp → State → β → α → Prop} {Q : β → Hp → Prop} {g0 g1 : Gh} {H0 H1 : Hp} {s0 s1 : State}
theorem Cur.chk {b : Bool} {k : Unit → M α} (c : Cur K Wx σ R Q g0 H0 s0 ((chk b >>= k) s1) g1 H1 s1) : b = true ∧ Cur K Wx σ R Q g0 H0 s0 (k () s1) g1 H1 s1 := by
  rw [bind_eq] at c
  cases b with
  | true => exact ⟨rfl, c⟩
  | false => exact (c.notBad rfl).elim
end
end DL
set_option Elab.async false
set_option linter.all false
set_option maxRecDepth 100000
set_option maxHeartbeats 1000000
namespace DL
open PySem PySem.Spec PyProof.Rows L2
section
variable {K : PySem.W.Frag} {g g' : Gh} {H H' : Hp} {σ σ' : Slots} {s s' : State} {a : Addr} {o o' : HO} {i : Nat} {d d' : D} {w : W}
def W.re : W → D → W
  | .fz _, d => .fz d | .own _, d => .own d | .lent _, d => .lent d | .lk _, d => .lk d | .lkl _, d => .lkl d
theorem SD.write (sd : SD K g H σ s) (e : s.env[i]? = some (some w)) (m : w.mut = true) (ea : σ[i]? = some (some (V.ref a))) (ob : ObAt K g o' d') :
    SD K g (upd H a o') σ (putE s i (w.re d')) ∧ Ev g H σ s g (upd H a o') σ (putE s i (w.re d')) := by
  have hw : w.held = true := by cases w <;> first | rfl | cases m
  have hwr : ∀ {x : D}, (w.re x).held = true := fun {x} => by cases w <;> first | rfl | cases m
  have hmr : ∀ {x : D}, (w.re x).mut = true := fun {x} => by cases w <;> first | rfl | cases m
  obtain ⟨v, ev, wa⟩ := sd.slot i w e
  rw [ea] at ev; cases ev
  have hfree : Free1 g a ∧ H a ≠ none := by
    cases w with
    | own d => obtain ⟨b, u, eb, f, q, _⟩ := wa; cases eb; exact ⟨f, by rw [q]; simp⟩
    | lent d => obtain ⟨b, u, eb, f, q, _⟩ := wa; cases eb; exact ⟨f, by rw [q]; simp⟩
    | _ => cases m
  obtain ⟨f, live⟩ := hfree
  have il : i < s.env.length := (List.getElem?_eq_some_iff.mp e).1
  have other : ∀ {j : Nat} {u : W} {b : Addr}, j ≠ i → s.env[j]? = some (some u) → u.held = true → σ[j]? = some (some (V.ref b)) → b ≠ a := fun {j u b} nj e1 h1 x z => by
    subst z; exact nj (sd.inj j i u w b e1 e h1 hw x ea)
  refine ⟨⟨fun b u eb => ?_, by show (s.env.set i _).length = _; rw [List.length_set]; exact sd.len, fun j u e1 => ?_, fun j k u1 u2 b e1 e2 h1 h2 x1 x2 => ?_, sd.stl, fun j mo b e1 e2 => ?_, sd.nd, sd.ng, ?_⟩, ⟨.refl g, fun b u eb nm => ?_, fun b l => ?_, fun b _ z => .inl z, fun _ _ z => z, fun b mm => ?_, fun b mm => ?_, fun b mm => ?_, fun j x h => ?_, fun j x h => ?_, fun j x h => ?_⟩⟩
  · have ne : b ≠ a := fun z => by subst z; rw [f.1] at eb; cases eb
    exact (sd.gh b u eb).keep fun _ q => by rw [upd_ne ne]; exact q
  · rcases getE_set e1 with ⟨rfl, rfl⟩ | ⟨n1, e1⟩
    · refine ⟨_, ea, ?_⟩
      cases w with
      | own d => exact ⟨a, o', rfl, f, upd_same, ob⟩
      | lent d => exact ⟨a, o', rfl, f, upd_same, ob⟩
      | _ => cases m
    · obtain ⟨v', ev', wa'⟩ := sd.slot j u e1
      exact ⟨v', ev', wa'.keep (.refl g) (fun b u' eb hu q => by rw [upd_ne (other n1 e1 hu (by rw [ev', eb]))]; exact q) fun _ _ _ z => z⟩
  · rcases getE_set e1 with ⟨z1, y1⟩ | ⟨n1, e1'⟩
    · rcases getE_set e2 with ⟨z2, _⟩ | ⟨n2, e2'⟩
      · rw [z1, z2]
      · rw [z1, ea] at x1; cases x1
        exact absurd rfl (other n2 e2' h2 x2)
    · rcases getE_set e2 with ⟨z2, y2⟩ | ⟨n2, e2'⟩
      · rw [z2, ea] at x2; cases x2
        exact absurd rfl (other n1 e1' h1 x1)
      · exact sd.inj j k u1 u2 b e1' e2' h1 h2 x1 x2
  · obtain ⟨u, q, mm⟩ := sd.sto j mo b e1 e2
    have ne : b ≠ a := fun z => f.2.1 (z ▸ List.mem_of_getElem? e2)
    exact ⟨u, by rw [upd_ne ne]; exact q, mm⟩
  · have dd : DrOk g H g.dr s.dr := sd.dr
    refine (show DrOk g (upd H a o') g.dr s.dr from dd.map fun x l y eq q => ?_)
    obtain ⟨c, q1, q2⟩ := q.dict
    have n1 : x ≠ a := fun z => f.2.2 ⟨x, l, eq, .inl z.symm⟩
    have n2 : l ≠ a := fun z => f.2.2 ⟨x, l, eq, .inr z.symm⟩
    exact ⟨⟨c, by rw [upd_ne n1]; exact q1, q2⟩, by rw [upd_ne n2]; exact q.list, q.ne, q.ga, q.gl⟩
  · have ne : b ≠ a := fun z => nm (.inl ⟨i, w, e, m, by rw [z]; exact ea⟩)
    rw [upd_ne ne]; exact eb
  · by_cases z : b = a
    · subst z; rw [upd_same]; simp
    · rw [upd_ne z]; exact l
  · rcases mm with ⟨j, u, e1, m1, x⟩ | mm
    · rcases getE_set e1 with ⟨rfl, _⟩ | ⟨_, e1⟩
      · exact .inl (.inl ⟨j, w, e, m, x⟩)
      · exact .inl (.inl ⟨j, u, e1, m1, x⟩)
    · exact .inl (.inr mm)
  · obtain ⟨j, u, e1, m1, x⟩ := mm
    rcases getE_set e1 with ⟨rfl, _⟩ | ⟨_, e1⟩
    · exact .inl ⟨j, w, e, hw, x⟩
    · exact .inl ⟨j, u, e1, m1, x⟩
  · obtain ⟨j, x, e1, q⟩ := mm
    rcases e1 with e1 | e1
    · rcases getE_set e1 with ⟨rfl, z⟩ | ⟨_, e1⟩
      · cases w with
        | own d => exact .inl ⟨j, d, .inl e, q⟩
        | lent d => cases z
        | _ => cases m
      · exact .inl ⟨j, x, .inl e1, q⟩
    · rcases getE_set e1 with ⟨rfl, z⟩ | ⟨_, e1⟩
      · cases w with
        | own d => cases z
        | lent d => cases z
        | _ => cases m
      · exact .inl ⟨j, x, .inr e1, q⟩
  · by_cases z : j = i
    · subst z
      rw [e] at h; cases h
      exact ⟨rfl, d', .inl (List.getElem?_set_self il)⟩
    · exact ⟨rfl, x, .inl (by show (s.env.set i _)[j]? = _; rw [List.getElem?_set_ne (Ne.symm z)]; exact h)⟩
  · have z : j ≠ i := fun z => by subst z; rw [e] at h; cases h; cases m
    exact ⟨rfl, by show (s.env.set i _)[j]? = _; rw [List.getElem?_set_ne (Ne.symm z)]; exact h⟩
  · have z : j ≠ i := fun z => by subst z; rw [e] at h; cases h; cases m
    exact ⟨rfl, by show (s.env.set i _)[j]? = _; rw [List.getElem?_set_ne (Ne.symm z)]; exact h⟩
end
inductive Flow where
  | nx | bk | ct | rt (t : T)
structure RR (K : PySem.W.Frag) (H0 : Hp) (σ0 : Slots) (s0 : State) (g : Gh) (H : Hp) (σ : Slots) (s : State) (v : V) (t : T) : Prop where
  at_ : TAt K g H v t
  new : ∀ d a, t = .ow d → v = .ref a → (H0 a = none ∨ OwnA σ0 s0 a) ∧ ¬ Hd σ s a
def PostS (K : PySem.W.Frag) (Wx : WX) (D : Ends) (g0 : Gh) (H0 : Hp) (σ0 : Slots) (s0 : State) : Rs Flow → Prop
  | .ok .nx s' => ∀ σ' g' H', SD K g' H' σ' s' → Ev g0 H0 σ0 s0 g' H' σ' s' → D.nx σ' H'
  | .ok .bk s' => ∀ σ' g' H', SD K g' H' σ' s' → Ev g0 H0 σ0 s0 g' H' σ' s' → D.bk σ' H'
  | .ok .ct s' => ∀ σ' g' H', SD K g' H' σ' s' → Ev g0 H0 σ0 s0 g' H' σ' s' → D.ct σ' H'
  | .ok (.rt t) s' => ∀ v σ' g' H', SD K g' H' σ' s' → Ev g0 H0 σ0 s0 g' H' σ' s' → RR K H0 σ0 s0 g' H' σ' s' v t → D.rt v H'
  | .err x s' => ∀ cls d σ' g' H', SD K g' H' σ' s' → Ev g0 H0 σ0 s0 g' H' σ' s' → ErrAt K g' H' cls d x → Wx cls d σ' H'
  | .bad => False
def tS (K : PySem.W.Frag) (Wx : WX) (f : M Flow) : TS := fun D σ H => ∃ g s, SD K g H σ s ∧ PostS K Wx D g H σ s (f s)
def DS (X : Cx) (Wx : WX) (st : Stmt) (f : M Flow) : Prop := PS X st (tS X.K Wx f)
def DSs (X : Cx) (Wx : WX) (st : List Stmt) (f : M Flow) : Prop := PSs X st (tS X.K Wx f)
section
variable {K : PySem.W.Frag} {Wx : WX} {D : Ends} {g0 g1 g2 : Gh} {H0 H1 H2 : Hp} {σ0 σ1 σ2 : Slots} {s0 s1 s2 : State} {r : Rs Flow}
theorem RR.past {g : Gh} {H : Hp} {σ : Slots} {s : State} {v : V} {t : T} (e : Ev g0 H0 σ0 s0 g1 H1 σ1 s1) (h : RR K H1 σ1 s1 g H σ s v t) : RR K H0 σ0 s0 g H σ s v t :=
  ⟨h.at_, fun d a e1 e2 => ⟨by
    rcases (h.new d a e1 e2).1 with z | z
    · cases q : H0 a with
      | none => exact .inl rfl
      | some o => exact absurd z (e.live a (by rw [q]; simp))
    · exact (e.ow a z).symm, (h.new d a e1 e2).2⟩⟩
theorem RT.rr {g : Gh} {H : Hp} {σ : Slots} {s : State} {v : V} {t : T} (h : RT K H0 g H σ s v t) : RR K H0 σ0 s0 g H σ s v t := ⟨h.at_, fun d a e1 e2 => ⟨.inl (h.new d a e1 e2).1, (h.new d a e1 e2).2⟩⟩
theorem PostS.shift (e : Ev g0 H0 σ0 s0 g1 H1 σ1 s1) (p : PostS K Wx D g0 H0 σ0 s0 r) : PostS K Wx D g1 H1 σ1 s1 r := by
  cases r with
  | ok fl s' =>
    cases fl with
    | nx => exact fun σ' g' H' sd ev => p σ' g' H' sd (e.trans ev)
    | bk => exact fun σ' g' H' sd ev => p σ' g' H' sd (e.trans ev)
    | ct => exact fun σ' g' H' sd ev => p σ' g' H' sd (e.trans ev)
    | rt t => exact fun v σ' g' H' sd ev rr => p v σ' g' H' sd (e.trans ev) (rr.past e)
  | err x s' => exact fun cls d σ' g' H' sd ev er => p cls d σ' g' H' sd (e.trans ev) er
  | bad => exact p
structure CurS (K : PySem.W.Frag) (Wx : WX) (D : Ends) (g0 : Gh) (H0 : Hp) (σ0 : Slots) (s0 : State) (m : Rs Flow) (g1 : Gh) (H1 : Hp) (σ1 : Slots) (s1 : State) : Prop where
  ev : Ev g0 H0 σ0 s0 g1 H1 σ1 s1
  sd : SD K g1 H1 σ1 s1
  post : PostS K Wx D g0 H0 σ0 s0 m
theorem tS.start {f : M Flow} {σ : Slots} {H : Hp} (h : tS K Wx f D σ H) : ∃ g s, CurS K Wx D g H σ s (f s) g H σ s := by
  obtain ⟨g, s, sd, p⟩ := h
  exact ⟨g, s, .refl, sd, p⟩
theorem CurS.bind {γ δ : Type} {R1 : Rel γ δ} {f : M γ} {k : γ → M Flow} (c : CurS K Wx D g0 H0 σ0 s0 ((f >>= k) s1) g1 H1 σ1 s1) :
    tM K Wx R1 f σ1 H1 (fun b H2 => ∃ a g2 s2, CurS K Wx D g0 H0 σ0 s0 (k a s2) g2 H2 σ1 s2 ∧ R1 σ1 H1 g2 H2 s2 b a ∧ Ev g1 H1 σ1 s1 g2 H2 σ1 s2) := by
  refine ⟨g1, s1, c.sd, ?_⟩
  have p := c.post
  rw [bind_eq] at p
  cases q : f s1 with
  | ok a s2 =>
    rw [q] at p
    exact fun b g2 H2 sd ev r => ⟨a, g2, s2, ⟨c.ev.trans ev, sd, p⟩, r, ev⟩
  | err x s2 =>
    rw [q] at p
    exact fun cls d g2 H2 sd ev er => p cls d σ1 g2 H2 sd (c.ev.trans ev) er
  | bad => rw [q] at p; exact p
theorem CurS.notBad {m : Rs Flow} (c : CurS K Wx D g0 H0 σ0 s0 m g1 H1 σ1 s1) (e : m = .bad) : False := by
  have p := c.post
  rw [e] at p
  exact p
theorem CurS.next {m : Rs Flow} (c : CurS K Wx D g0 H0 σ0 s0 m g1 H1 σ1 s1) (e : m = .ok .nx s2) (sd : SD K g2 H2 σ2 s2) (ev : Ev g1 H1 σ1 s1 g2 H2 σ2 s2) : D.nx σ2 H2 := by
  have p := c.post
  rw [e] at p
  exact p σ2 g2 H2 sd (c.ev.trans ev)
theorem CurS.go {f : M Flow} (c : CurS K Wx D g0 H0 σ0 s0 (f s1) g1 H1 σ1 s1) : tS K Wx f D σ1 H1 := ⟨g1, s1, c.sd, c.post.shift c.ev⟩
end
def dSeq (f k : M Flow) : M Flow := fun s => match f s with
  | .ok .nx s1 => k s1
  | r => r
def dNx : M Flow := fun s => .ok .nx s
section
variable {X : Cx} {Wx : WX} {st : Stmt} {rest a b : List Stmt} {f k : M Flow} {e : Expr} {ft : M T} {fc : M Bool} {pos : Pos}
theorem dss_nil : DSs X Wx [] dNx := ⟨fun pins s σ H D I h => pss_nil.run pins s σ H D I (by
  obtain ⟨g, s, c⟩ := h.start
  exact c.next rfl c.sd .refl)⟩
theorem dss_cons (h1 : DS X Wx st f) (h2 : DSs X Wx rest k) : DSs X Wx (st :: rest) (dSeq f k) := ⟨fun pins s σ H D I h => (pss_cons h1 h2).run pins s σ H D I (by
  obtain ⟨g, s, sd, p⟩ := h
  refine ⟨g, s, sd, ?_⟩
  unfold dSeq at p
  cases q : f s with
  | ok fl s1 =>
    rw [q] at p
    cases fl with
    | nx => exact fun σ1 g1 H1 sd1 ev1 => ⟨g1, s1, sd1, PostS.shift ev1 p⟩
    | bk => exact p
    | ct => exact p
    | rt t => exact p
  | err x s1 => rw [q] at p; exact p
  | bad => rw [q] at p; exact p)⟩
theorem dss_one (h1 : DS X Wx st f) : DSs X Wx [st] f := pss_one h1
def dExpr (f : M T) : M Flow := f >>= fun _ => dNx
theorem ds_expr (he : DE X Wx e ft) (hs : swapsWith e none pos.line X.env = pure false := by rfl) : DS X Wx (.Expr e pos) (dExpr ft) := ⟨fun pins s σ H D I h => (ps_expr he hs).run pins s σ H D I (by
  obtain ⟨g, s, c⟩ := h.start
  exact c.bind.mono fun x H1 ⟨t, g1, s1, c1, r1, e1⟩ => c1.next rfl c1.sd .refl)⟩
def dRet (f : M T) : M Flow := f >>= fun t s => .ok (.rt t) s
theorem ds_ret (he : DE X Wx e ft) : DS X Wx (.Return (some e) pos) (dRet ft) := ⟨fun pins s σ H D I h => (ps_ret he).run pins s σ H D I (by
  obtain ⟨g, s, c⟩ := h.start
  refine c.bind.mono fun x H1 ⟨t, g1, s1, c1, r1, e1⟩ => ?_
  exact c1.post x σ g1 H1 c1.sd c1.ev r1.rr)⟩
def dRetV (i : Nat) : M Flow := fun s => match s.env[i]? with
  | some (some (.fz d)) => .ok (.rt (.fz d)) s
  | some (some (.own d)) => .ok (.rt (.ow d)) { s with env := s.env.set i none }
  | _ => .bad
theorem SD.drop {K : PySem.W.Frag} {g : Gh} {H : Hp} {σ : Slots} {s : State} {i : Nat} (sd : SD K g H σ s) (c : canSet s i = true) :
    SD K g H σ { s with env := s.env.set i none } ∧ Ev g H σ s g H σ { s with env := s.env.set i none } ∧ ∀ b, Hd σ { s with env := s.env.set i none } b → ∃ j, j ≠ i ∧ ∃ w, s.env[j]? = some (some w) ∧ w.held = true ∧ σ[j]? = some (some (V.ref b)) := by
  have low : ∀ {j : Nat} {u : W}, (s.env.set i none)[j]? = some (some u) → j ≠ i ∧ s.env[j]? = some (some u) := fun {j u} h => by
    by_cases z : i = j
    · subst z
      by_cases hl : i < s.env.length
      · rw [List.getElem?_set_self hl] at h; cases h
      · rw [List.getElem?_eq_none (by simpa using hl)] at h; cases h
    · rw [List.getElem?_set_ne z] at h
      exact ⟨fun q => z q.symm, h⟩
  have ne : ∀ {j : Nat} {w : W}, s.env[j]? = some (some w) → (w = .lent w.data ∨ w = .lk w.data ∨ w = .lkl w.data) → (s.env.set i none)[j]? = some (some w) := fun {j w} h z => by
    have n : i ≠ j := fun q => by
      subst q
      unfold canSet at c
      rcases z with z | z | z <;> rw [h, z] at c <;> cases c
    rw [List.getElem?_set_ne n]; exact h
  refine ⟨⟨sd.gh, by show (s.env.set i none).length = _; rw [List.length_set]; exact sd.len, fun j u e => sd.slot j u (low e).2, fun j k u1 u2 b e1 e2 => sd.inj j k u1 u2 b (low e1).2 (low e2).2, sd.stl, sd.sto, sd.nd, sd.ng, sd.dr⟩,
    ⟨.refl g, fun _ _ h _ => h, fun _ h => h, fun _ _ z => .inl z, fun _ _ z => z, fun b m => ?_, fun b m => ?_, fun b m => ?_, fun j d h => ⟨rfl, d, .inl (ne h (.inl rfl))⟩, fun j d h => ⟨rfl, ne h (.inr (.inl rfl))⟩, fun j d h => ⟨rfl, ne h (.inr (.inr rfl))⟩⟩, fun b m => ?_⟩
  · rcases m with ⟨j, u, e1, m1, x⟩ | m
    · exact .inl (.inl ⟨j, u, (low e1).2, m1, x⟩)
    · exact .inl (.inr m)
  · obtain ⟨j, u, e1, m1, x⟩ := m
    exact .inl ⟨j, u, (low e1).2, m1, x⟩
  · obtain ⟨j, d, e1, x⟩ := m
    rcases e1 with e1 | e1
    · exact .inl ⟨j, d, .inl (low e1).2, x⟩
    · exact .inl ⟨j, d, .inr (low e1).2, x⟩
  · obtain ⟨j, u, e1, m1, x⟩ := m
    exact ⟨j, (low e1).1, u, (low e1).2, m1, x⟩
theorem ds_retV (i : Nat) {x : Str} {p : Pos} (hN : X.N[i]? = some x := by rfl) (hv : Vis X.env.scope x := by first | exact Or.inl rfl | exact Or.inr (Or.inl rfl) | exact Or.inr (Or.inr rfl)) (hd : (x == ("__debug__" : Str)) = false := by decide)
    (hcd : (x == ("__classdict__" : Str)) = false := by decide) : DS X Wx (.Return (some (.Name x p)) pos) (dRetV i) := ⟨fun pins s σ H D I h => (ps_ret (pe_var hN hv hd hcd)).run pins s σ H D I (by
  obtain ⟨g, s, sd, p⟩ := h
  unfold dRetV at p
  cases e : s.env[i]? with
  | none => simp only [e] at p; exact False.elim p
  | some w =>
    cases w with
    | none => simp only [e] at p; exact False.elim p
    | some w =>
      obtain ⟨v, ev, wa⟩ := sd.slot i w e
      cases w with
      | fz d =>
        simp only [e] at p
        exact ⟨v, ev, p v σ g H sd .refl ⟨wa, fun _ _ z => nomatch z⟩⟩
      | own d =>
        simp only [e] at p
        obtain ⟨sd1, ev1, nh⟩ := sd.drop (i := i) (by unfold canSet; rw [e])
        refine ⟨v, ev, p v σ g H sd1 ev1 ⟨wa, fun d' a e1 e2 => ⟨.inr ⟨i, d, .inl e, by rw [ev, e2]⟩, fun hh => ?_⟩⟩⟩
        obtain ⟨j, nj, u, e3, h3, x3⟩ := nh a hh
        exact nj (sd.inj j i u _ a e3 e h3 rfl x3 (by rw [ev, e2]))
      | lent d => simp only [e] at p; exact False.elim p
      | lk d => simp only [e] at p; exact False.elim p
      | lkl d => simp only [e] at p; exact False.elim p)⟩
theorem ds_if {c : Expr} (hc : DT X Wx c fc) (ha : DSs X Wx a f) (hb : DSs X Wx b k) : DS X Wx (.If c a b pos) (dIf fc f k) := ⟨fun pins s σ H D I h => (ps_if hc ha hb).run pins s σ H D I (by
  obtain ⟨g, s, c⟩ := h.start
  refine c.bind.mono fun x H1 ⟨t, g1, s1, c1, r1, e1⟩ => ?_
  cases (show x = t from r1)
  cases x with
  | true => rw [if_pos rfl] at c1 ⊢; exact c1.go
  | false => rw [if_neg Bool.false_ne_true] at c1 ⊢; exact c1.go)⟩
def T.w : T → W
  | .fz d => .fz d
  | .ow d => .own d
def setT (i : Nat) (t : T) : M Unit := fun s => if canSet s i = true then .ok () (putE s i t.w) else .bad
theorem setT_run {K : PySem.W.Frag} {g0 g : Gh} {H0 H : Hp} {σ0 σ : Slots} {s0 s s' : State} {i : Nat} {t : T} {v : V} (h : setT i t s = .ok () s') (e0 : Ev g0 H0 σ0 s0 g H σ s) (sd : SD K g H σ s) (r : RT K H0 g H σ s v t) :
    SD K g H (σ.set i (some v)) s' ∧ Ev g0 H0 σ0 s0 g H (σ.set i (some v)) s' := by
  unfold setT at h
  by_cases c : canSet s i = true
  · rw [if_pos c] at h
    cases h
    have hh : ∀ b, t.w.held = true → v = .ref b → ∃ d, t = .ow d := fun b h1 h2 => by
      cases t with
      | fz d => cases h1
      | ow d => exact ⟨d, rfl⟩
    refine ⟨sd.set c ?_ fun b h1 h2 => ?_, e0.set sd c fun b h1 h2 => ?_⟩
    · cases t with
      | fz d => exact r.at_
      | ow d => exact r.at_
    · obtain ⟨d, ed⟩ := hh b h1 h2
      exact (r.new d b ed h2).2
    · obtain ⟨d, ed⟩ := hh b h1 h2
      exact (r.new d b ed h2).1
  · rw [if_neg c] at h; cases h
theorem setT_res (i : Nat) (t : T) (s : State) : (∃ s', setT i t s = .ok () s') ∨ setT i t s = .bad := by
  unfold setT
  by_cases c : canSet s i = true
  · rw [if_pos c]; exact .inl ⟨_, rfl⟩
  · rw [if_neg c]; exact .inr rfl
def dAsg (i : Nat) (f : M T) : M Flow := f >>= fun t => setT i t >>= fun _ => dNx
theorem asg_run {K : PySem.W.Frag} {D : Ends} {i : Nat} {f : M T} {σ : Slots} {H : Hp} (h : tS K Wx (dAsg i f) D σ H) : tAsg (tE K Wx f) (gName i) D σ H := by
  obtain ⟨g, s, c⟩ := h.start
  refine c.bind.mono fun x H1 ⟨t, g1, s1, c1, r1, e1⟩ => ?_
  have p := c1.post
  rw [bind_eq] at p
  rcases setT_res i t s1 with ⟨s2, e2⟩ | e2
  · rw [e2] at p
    obtain ⟨sd2, ev2⟩ := setT_run e2 c1.ev c1.sd r1
    exact p _ _ _ sd2 ev2
  · rw [e2] at p; exact p.elim
theorem ds_set {i : Nat} {x : Str} {pos' : Pos} (hN : X.N.Nodup) (hi : X.N[i]? = some x) (hx : Loc X.env.scope x) (he : DE X Wx e ft) (hs : swapsWith e (some (.Name x pos')) pos.line X.env = pure false := by rfl) (hf : X.fn x = true ∨ X.env.scope.names.lookup x = some .local := by first | exact .inl rfl | exact .inr rfl | assumption) :
    DS X Wx (.Assign [.Name x pos'] e pos) (dAsg i ft) := ⟨fun pins s σ H D I h => (ps_set hN hi hx he hs hf).run pins s σ H D I (asg_run h)⟩
inductive Pt where
  | name (i : Nat) | tup (ps : List Pt)
def setO (i : Nat) (t : T) (s : State) : Option State := if canSet s i = true then some (putE s i t.w) else none
mutual
def bindP : Pt → D → State → Option State
  | .name i, d, s => setO i (.fz d) s
  | .tup ps, d, s => match d with
    | .tup ds => if ps.length = ds.length then bindPs ps ds s else none
    | _ => none
def bindPs : List Pt → List D → State → Option State
  | [], _, s => some s
  | p :: ps, ds, s => match ds with
    | [] => none
    | d :: ds => match bindP p d s with
      | some s1 => bindPs ps ds s1
      | none => none
end
mutual
def Pt.vs : Pt → List Nat
  | .name i => [i]
  | .tup ps => Pt.vss ps
def Pt.vss : List Pt → List Nat
  | [] => []
  | p :: ps => p.vs ++ Pt.vss ps
end
def Upto (L : List Nat) (σ σ' : Slots) : Prop := σ'.length = σ.length ∧ ∀ i, i ∉ L → σ'[i]? = σ[i]?
theorem Upto.refl {L : List Nat} {σ : Slots} : Upto L σ σ := ⟨rfl, fun _ _ => rfl⟩
theorem Upto.trans {L L' : List Nat} {σ σ' σ2 : Slots} (a : Upto L σ σ') (b : Upto L' σ' σ2) : Upto (L ++ L') σ σ2 := ⟨b.1.trans a.1, fun i h => (b.2 i fun z => h (List.mem_append_right _ z)).trans (a.2 i fun z => h (List.mem_append_left _ z))⟩
def dBind (p : Pt) (d : D) : M Flow := fun s => match bindP p d s with
  | some s' => .ok .nx s'
  | none => .bad
def tP (K : PySem.W.Frag) (p : Pt) : TG := fun v σ H Q => ∃ g s d, SD K g H σ s ∧ Rep K g v d ∧ ∃ s', bindP p d s = some s' ∧ ∀ σ', Upto p.vs σ σ' → SD K g H σ' s' → Ev g H σ s g H σ' s' → Q σ' H
def tPs (K : PySem.W.Frag) (ps : List Pt) : TGs := fun vs σ H Q => ∃ g s ds, SD K g H σ s ∧ Reps K g vs ds ∧ ps.length = ds.length ∧ ∃ s', bindPs ps ds s = some s' ∧ ∀ σ', Upto (Pt.vss ps) σ σ' → SD K g H σ' s' → Ev g H σ s g H σ' s' → Q σ' H
def DG (X : Cx) (tg : Expr) (p : Pt) : Prop := PG X tg (tP X.K p)
def DGs (X : Cx) (tgs : List Expr) (ps : List Pt) : Prop := PGs X tgs (tPs X.K ps)
theorem dg_name {i : Nat} {x : Str} (hN : X.N.Nodup) (hi : X.N[i]? = some x) (hx : Loc X.env.scope x) (hf : X.fn x = true ∨ X.env.scope.names.lookup x = some .local := by first | exact .inl rfl | exact .inr rfl | assumption) : DG X (.Name x pos) (.name i) :=
  ⟨fun pins s σ H v u Q I r h => (pg_name hN hi hx hf).run pins s σ H v u Q I r (by
    obtain ⟨g, s, d, sd, rp, s', e, q⟩ := h
    unfold bindP setO at e
    by_cases c : canSet s i = true
    · rw [if_pos c] at e
      obtain ⟨sd2, ev2⟩ := setT_run (i := i) (t := .fz d) (s' := s') (by unfold setT; rw [if_pos c]; cases e; rfl) .refl sd ⟨rp, fun _ _ z => nomatch z⟩
      exact q _ ⟨List.length_set .., fun j hj => List.getElem?_set_ne fun z => hj (by rw [← z]; exact List.mem_singleton.mpr rfl)⟩ sd2 ev2
    · rw [if_neg c] at e; cases e)⟩
theorem bindPs_cons {p : Pt} {ps : List Pt} {d : D} {ds : List D} {s s' : State} (h : bindPs (p :: ps) (d :: ds) s = some s') : ∃ s1, bindP p d s = some s1 ∧ bindPs ps ds s1 = some s' := by
  unfold bindPs at h
  cases e : bindP p d s with
  | some s1 => simp only [e] at h; exact ⟨s1, rfl, h⟩
  | none => simp only [e] at h; cases h
theorem dgs_nil : DGs X [] [] := ⟨fun pins s σ H vs us Q I r h => pgs_nil.run pins s σ H vs us Q I r (by
  obtain ⟨g, s, ds, sd, rp, hl, s', e, q⟩ := h
  cases ds with
  | nil =>
    cases rp
    unfold bindPs at e
    cases e
    exact ⟨rfl, q σ .refl sd .refl⟩
  | cons d ds => cases hl)⟩
theorem dgs_cons {tg : Expr} {tgs : List Expr} {p : Pt} {ps : List Pt} (h1 : DG X tg p) (h2 : DGs X tgs ps) (hs : (assignEach (tg :: tgs) X.env).map (·.2) = assign tg X.env :: (assignEach tgs X.env).map (·.2) := by rfl) : DGs X (tg :: tgs) (p :: ps) :=
  ⟨fun pins s σ H vs us Q I r h => (pgs_cons h1 h2 hs).run pins s σ H vs us Q I r (by
    obtain ⟨g, s, ds, sd, rp, hl, s', e, q⟩ := h
    cases rp with
    | nil => cases hl
    | @cons v vs d ds a b =>
      obtain ⟨s1, e1, e2⟩ := bindPs_cons e
      exact ⟨v, vs, rfl, g, s, d, sd, a, s1, e1, fun σ1 u1 sd1 ev1 => ⟨g, s1, ds, sd1, b, Nat.succ.inj hl, s', e2, fun σ' u2 sd' ev' => q σ' (u1.trans u2) sd' (ev1.trans ev')⟩⟩)⟩
theorem dg_tup {tgs : List Expr} {k : Nat} {ps : List Pt} (hc : X.calm = true) (h : DGs X tgs ps) (hn : (assignEach tgs X.env).length = ps.length := by rfl) (hst : (assignEach tgs X.env).findIdx? (·.1) = none := by rfl) : DG X (.Tuple tgs k pos) (.tup ps) :=
  ⟨fun pins s σ H v u Q I r q => (pg_tup hc h hn hst).run pins s σ H v u Q I r (by
    obtain ⟨g, s, d, sd, rp, s', e, q⟩ := q
    unfold bindP at e
    cases d with
    | tup ds =>
      obtain ⟨a, xs, rfl, ht, rs⟩ := VAt.tup sd (.inl rp)
      by_cases hl : ps.length = ds.length
      · simp only [if_pos hl] at e
        exact ⟨a, xs, rfl, ht, by rw [rs.length, hl], g, s, ds, sd, rs, hl, s', e, q⟩
      · simp only [if_neg hl] at e; cases e
    | _ => cases e)⟩
def dUn (p : Pt) (f : M VR) : M Flow := f >>= fun r => frz r >>= fun d => dBind p d
theorem ds_un {tg : Expr} {p : Pt} {fv : M VR} (hg : DG X tg p) (he : DV X Wx e fv) (hs : swapsWithSole [tg] e pos.line X.env = pure false := by rfl) (hw : swappedStores [tg] e X.env = pure none := by rfl)
    (h1 : (assignEach [tg] X.env).map (·.2) = [assign tg X.env] := by rfl) : DS X Wx (.Assign [tg] e pos) (dUn p fv) := ⟨fun pins s σ H D I h => (ps_asg he hg hs hw h1).run pins s σ H D I (by
  obtain ⟨g, s, c⟩ := h.start
  refine c.bind.mono fun x H1 ⟨r, g1, s1, c1, r1, e1⟩ => ?_
  have p0 := c1.post
  rw [bind_eq] at p0
  rcases frz_res r s1 with ⟨d, s2, e2⟩ | e2
  · rw [e2] at p0
    obtain ⟨g2, sd2, ev2, rp, _, _⟩ := frz_run e2 c1.ev c1.sd r1
    have p0 : PostS X.K Wx D g H σ s (dBind p d s2) := p0
    unfold dBind at p0
    cases e3 : bindP p d s2 with
    | some s3 =>
      rw [e3] at p0
      exact ⟨g2, s2, d, sd2, rp, s3, e3, fun σ' _ sd' ev' => p0 σ' g2 H1 sd' (ev2.trans ev')⟩
    | none => rw [e3] at p0; exact p0.elim
  · rw [e2] at p0; exact p0.elim)⟩
end
end DL
set_option Elab.async false
set_option linter.all false
set_option maxRecDepth 100000
set_option maxHeartbeats 1000000
namespace DL
open PySem PySem.Spec PyProof.Rows L2
section
variable {X : Cx} {Wx : WX} {e : Expr} {pos : Pos}
def dPar (i j : Nat) (fl : M (List VR)) : M Flow := fl >>= fun rs s => match rs with
  | [.t t1, .t t2] => (setT i t1 >>= fun _ => setT j t2 >>= fun _ => dNx) s
  | _ => .bad
section
variable {K : PySem.W.Frag} {g0 g : Gh} {H0 H : Hp} {σ0 σ : Slots} {s0 s s' : State} {i : Nat} {t t' : T} {v v' : V}
theorem RT.setOther (h : setT i t s = .ok () s') (sd : SD K g H σ s) (r : RT K H0 g H σ s v' t') (ap : ∀ a d, t' = .ow d → v' = .ref a → ∀ d', t = .ow d' → v ≠ .ref a) : RT K H0 g H (σ.set i (some v)) s' v' t' := by
  unfold setT at h
  by_cases c : canSet s i = true
  · rw [if_pos c] at h
    cases h
    refine ⟨r.at_, fun d a e1 e2 => ⟨(r.new d a e1 e2).1, fun hh => ?_⟩⟩
    obtain ⟨j, u, e3, h3, x3⟩ := hh
    have il : i < σ.length := by
      rw [← sd.len]
      unfold canSet at c
      cases q : s.env[i]? with
      | none => rw [q] at c; cases c
      | some _ => exact (List.getElem?_eq_some_iff.mp q).1
    rcases getE_set e3 with ⟨z, z2⟩ | ⟨nj, e3⟩
    · subst z
      rw [List.getElem?_set_self il] at x3
      cases t with
      | fz d => rw [z2] at h3; cases h3
      | ow d' => exact ap a d e1 e2 d' rfl (Option.some.inj (Option.some.inj x3))
    · rw [List.getElem?_set_ne (Ne.symm nj)] at x3
      exact (r.new d a e1 e2).2 ⟨j, u, e3, h3, x3⟩
  · rw [if_neg c] at h; cases h
end
theorem bind_setT {i : Nat} {t : T} {k : Unit → M Flow} {s : State} : (setT i t >>= k) s = .bad ∨ ∃ s', setT i t s = .ok () s' ∧ (setT i t >>= k) s = k () s' := by
  rw [bind_eq]
  rcases setT_res i t s with ⟨s', e⟩ | e
  · exact .inr ⟨s', e, by rw [e]⟩
  · exact .inl (by rw [e])
def heldD (i : Nat) : State → Option (W × D) := fun s => match s.env[i]? with
  | some (some (.own d)) => some (.own d, d)
  | some (some (.lent d)) => some (.lent d, d)
  | _ => none
def updD (i : Nat) (h : D → Option D) : M Unit := fun s => match heldD i s with
  | some (w, d) => match h d with
    | some d' => .ok () (putE s i (w.re d'))
    | none => .bad
  | none => .bad
def isLst : D → Bool
  | .lst _ => true
  | _ => false
def chkD (i : Nat) (p : D → Bool) : M Unit := fun s => match heldD i s with
  | some (_, d) => if p d then .ok () s else .bad
  | none => .bad
theorem heldD_some {i : Nat} {s : State} {w : W} {d : D} (h : heldD i s = some (w, d)) : s.env[i]? = some (some w) ∧ w.mut = true ∧ w.data = d := by
  unfold heldD at h
  cases e : s.env[i]? with
  | none => rw [e] at h; cases h
  | some u =>
    cases u with
    | none => rw [e] at h; cases h
    | some u =>
      cases u with
      | own d' => rw [e] at h; cases h; exact ⟨rfl, rfl, rfl⟩
      | lent d' => rw [e] at h; cases h; exact ⟨rfl, rfl, rfl⟩
      | fz d' => rw [e] at h; cases h
      | lk d' => rw [e] at h; cases h
      | lkl d' => rw [e] at h; cases h
section
variable {K : PySem.W.Frag} {g : Gh} {H : Hp} {σ : Slots} {s : State} {i : Nat} {w : W} {d : D}
theorem heldD_at (sd : SD K g H σ s) (h : heldD i s = some (w, d)) : ∃ a o, σ[i]? = some (some (V.ref a)) ∧ H a = some o ∧ ObAt K g o d := by
  obtain ⟨e, m, ed⟩ := heldD_some h
  obtain ⟨v, ev, wa⟩ := sd.slot i w e
  cases w with
  | own d' => obtain ⟨a, o, rfl, _, q, ob⟩ := wa; cases ed; exact ⟨a, o, ev, q, ob⟩
  | lent d' => obtain ⟨a, o, rfl, _, q, ob⟩ := wa; cases ed; exact ⟨a, o, ev, q, ob⟩
  | _ => cases m
theorem chkD_res (i : Nat) (p : D → Bool) (s : State) : (∃ w d, heldD i s = some (w, d) ∧ p d = true ∧ chkD i p s = .ok () s) ∨ chkD i p s = .bad := by
  unfold chkD
  cases e : heldD i s with
  | none => exact .inr rfl
  | some z =>
    obtain ⟨w, d⟩ := z
    cases q : p d with
    | false => exact .inr (by simp only [q]; rfl)
    | true => exact .inl ⟨w, d, rfl, q, by simp only [q]; rfl⟩
theorem updD_res (i : Nat) (h : D → Option D) (s : State) : (∃ w d d', heldD i s = some (w, d) ∧ h d = some d' ∧ updD i h s = .ok () (putE s i (w.re d'))) ∨ updD i h s = .bad := by
  unfold updD
  cases e : heldD i s with
  | none => exact .inr rfl
  | some z =>
    obtain ⟨w, d⟩ := z
    cases q : h d with
    | none => exact .inr (by simp only [q])
    | some d' => exact .inl ⟨w, d, d', rfl, q, by simp only [q]⟩
end
def pushD (d : D) : D → Option D
  | .lst ds => if ds.length < sizeLine then some (.lst (ds ++ [d])) else none
  | _ => none
def dAppend (i : Nat) (f : M VR) : M T := chkD i isLst >>= fun _ => f >>= fun r => frz r >>= fun d => updD i (pushD d) >>= fun _ => dC .non
section
variable {α β : Type} {K : PySem.W.Frag} {Wx : WX} {σ : Slots} {R : Gh → Hp → State → β → α → Prop} {Q : β → Hp → Prop} {g0 g1 : Gh} {H0 H1 Hq : Hp} {s0 s1 : State}
theorem Cur.chkD {i : Nat} {p : D → Bool} {k : Unit → M α} (c : Cur K Wx σ R Q g0 H0 s0 ((chkD i p >>= k) s1) g1 H1 s1) :
    ∃ w d, heldD i s1 = some (w, d) ∧ p d = true ∧ Cur K Wx σ R Q g0 H0 s0 (k () s1) g1 H1 s1 := by
  rw [bind_eq] at c
  rcases chkD_res i p s1 with ⟨w, d, h1, h2, h3⟩ | h
  · rw [h3] at c; exact ⟨w, d, h1, h2, c⟩
  · rw [h] at c; exact (c.notBad rfl).elim
theorem Cur.updD {i : Nat} {h : D → Option D} {k : Unit → M α} (c : Cur K Wx σ R Q g0 H0 s0 ((updD i h >>= k) s1) g1 H1 s1) :
    ∃ w d d' a o, heldD i s1 = some (w, d) ∧ h d = some d' ∧ σ[i]? = some (some (V.ref a)) ∧ H1 a = some o ∧ ObAt K g1 o d ∧
      ∀ o', ObAt K g1 o' d' → Cur K Wx σ R Q g0 H0 s0 (k () (putE s1 i (w.re d'))) g1 (upd H1 a o') (putE s1 i (w.re d')) := by
  rw [bind_eq] at c
  rcases updD_res i h s1 with ⟨w, d, d', h1, h2, h3⟩ | h
  · rw [h3] at c
    obtain ⟨a, o, ea, eo, ob⟩ := heldD_at c.sd h1
    obtain ⟨e1, m, _⟩ := heldD_some h1
    refine ⟨w, d, d', a, o, h1, h2, ea, eo, ob, fun o' ob' => ?_⟩
    obtain ⟨sd2, ev2⟩ := c.sd.write e1 m ea ob'
    exact ⟨c.ev.trans ev2, sd2, c.post⟩
  · rw [h] at c; exact (c.notBad rfl).elim
end
theorem lstMut_run {i : Nat} {f : M VR} {h : D → D → Option D} {r : V → List V → Hp → VK → Prop}
    (hl : ∀ d x d', h d x = some d' → ∃ ds, x = .lst ds) (hr : ∀ (g : Gh) (H : Hp) (σ : Slots) (s : State) (a : Addr) (xs : List V) (ds : List D) (y : V) (d d' : D) (Q : V → Hp → Prop), SD X.K g H σ s → H a = some (.lst xs) → Reps X.K g xs ds → Rep X.K g y d → h d (.lst ds) = some d' → (∀ o', ObAt X.K g o' d' → Q .non (upd H a o')) → r (.ref a) [y] H Q)
    {σ : Slots} {H : Hp} {Q : V → Hp → Prop} (q : tE X.K Wx (chkD i isLst >>= fun _ => f >>= fun r => frz r >>= fun d => updD i (h d) >>= fun _ => dC .non) σ H Q) :
    tBM X.K "list" r (tVar i) (tCons (tV X.K Wx f) tNil) σ H Q := by
  obtain ⟨g, s, c⟩ := q.start
  obtain ⟨w, d, h1, h2, c1⟩ := c.chkD
  obtain ⟨a, o, ea, eo, ob⟩ := heldD_at c.sd h1
  refine ⟨.ref a, ea, ?_, ?_⟩
  · cases d with
    | lst ds => obtain ⟨xs, rfl, _⟩ := ob; exact .inl ⟨rfl, xs, .of eo⟩
    | _ => cases h2
  · refine c1.bind.mono fun y H1 ⟨r1, g1, s1, c2, r2, e2⟩ => ?_
    obtain ⟨d1, g2, s2, c3, r3, le3⟩ := c2.frz r2
    obtain ⟨w', d', d'', a', o', h3, h4, ea', eo', ob', k⟩ := c3.updD
    rw [ea] at ea'; cases ea'
    obtain ⟨ds, rfl⟩ := hl _ _ _ h4
    obtain ⟨xs, rfl, rx⟩ := ob'
    refine hr g2 H1 σ s2 a xs ds y d1 d'' Q c3.sd eo' rx r3 h4 fun o' ob' => ?_
    exact (k o' ob').done rfl ⟨.non, fun _ _ z => nomatch z⟩
theorem de_append {i : Nat} {x : Str} {f : M VR} {p apos cpos : Pos} (hN : X.N[i]? = some x) (hv : Vis X.env.scope x) (he : DV X Wx e f) (hd : (x == ("__debug__" : Str)) = false := by decide) (hcd : (x == ("__classdict__" : Str)) = false := by decide)
    (h1 : attributeBase (.Name x p) "append" X.env (eval (.Name x p) X.env) = eval (.Name x p) X.env := by rfl)
    (h2 : ((backTo cpos (starEach (e :: []) X.env)).all (fun x => !x.1) && (backToKw cpos (keywordEach [] X.env)).all (fun x => x.1.isSome) && decide ((e :: []).length + ([] : List Keyword).length + (if ([] : List Keyword).isEmpty then 0 else 1) < 30)) = true := by rfl)
    (h3 : (apos.endLine == cpos.line) = true := by rfl) (h4 : starEach (e :: []) X.env = (false, eval e X.env) :: starEach [] X.env := by rfl) (h5 : (backTo cpos (starEach [] X.env)).any (·.1) = false := by rfl) :
    DE X Wx (.Call (.Attribute (.Name x p) "append" apos) [e] [] cpos) (dAppend i f) :=
  ⟨fun pins s σ H Q I q => (pe_bm PySem.F.plainAttrs_list PySem.F.slot_list_append PySem.F.type_list_append mt_append (pe_var hN hv hd hcd) (pa_cons he pa_nil h4) h1 h2 h3 h4 h5).run pins s σ H Q I (by
    refine lstMut_run (h := pushD) (fun d x d' h => ?_) (fun g H σ s a xs ds y d d' Q sd ha rx ry hh k => ?_) q
    · cases x with
      | lst ds => exact ⟨ds, rfl⟩
      | _ => cases h
    · unfold pushD at hh
      by_cases hz : ds.length < sizeLine
      · simp only [if_pos hz] at hh; cases hh
        exact ⟨a, xs, y, rfl, rfl, ha, by rw [rx.length]; exact hz, k _ (.lst (rx.append (.one ry)))⟩
      · simp only [if_neg hz] at hh; cases hh)⟩
def putKD {κ : Type} [DecidableEq κ] (kvs : List (κ × D)) (k : κ) (v : D) : List (κ × D) :=
  if kvs.any (fun kv => decide (kv.1 = k)) = true then kvs.map (fun kv => if kv.1 = k then (kv.1, v) else kv) else kvs ++ [(k, v)]
theorem putKD_rep {K : PySem.W.Frag} {g : Gh} {κ : Type} [DecidableEq κ] {kvs : List (κ × V)} {ds : List (κ × D)} {k : κ} {v : V} {d : D} (e : kvs.map Prod.fst = ds.map Prod.fst) (r : Reps K g (kvs.map Prod.snd) (ds.map Prod.snd)) (rv : Rep K g v d) :
    (putK kvs k v).map Prod.fst = (putKD ds k d).map Prod.fst ∧ Reps K g ((putK kvs k v).map Prod.snd) ((putKD ds k d).map Prod.snd) := by
  have ha : ∀ {kvs : List (κ × V)} {ds : List (κ × D)}, kvs.map Prod.fst = ds.map Prod.fst → kvs.any (fun kv => decide (kv.1 = k)) = ds.any (fun kv => decide (kv.1 = k)) := by
    intro kvs
    induction kvs with
    | nil => intro ds h; cases ds with
      | nil => rfl
      | cons _ _ => cases h
    | cons p ps ih => intro ds h; cases ds with
      | nil => cases h
      | cons q qs =>
        rw [List.any_cons, List.any_cons, ih (List.cons.inj h).2, show p.1 = q.1 from (List.cons.inj h).1]
  have hm : ∀ {kvs : List (κ × V)} {ds : List (κ × D)}, kvs.map Prod.fst = ds.map Prod.fst → Reps K g (kvs.map Prod.snd) (ds.map Prod.snd) →
      (kvs.map (fun kv => if kv.1 = k then (kv.1, v) else kv)).map Prod.fst = (ds.map (fun kv => if kv.1 = k then (kv.1, d) else kv)).map Prod.fst ∧
      Reps K g ((kvs.map (fun kv => if kv.1 = k then (kv.1, v) else kv)).map Prod.snd) ((ds.map (fun kv => if kv.1 = k then (kv.1, d) else kv)).map Prod.snd) := by
    intro kvs
    induction kvs with
    | nil => intro ds h _; cases ds with
      | nil => exact ⟨rfl, .nil⟩
      | cons _ _ => cases h
    | cons p ps ih => intro ds h r; cases ds with
      | nil => cases h
      | cons q qs =>
        cases r with
        | cons r1 r2 =>
          obtain ⟨i1, i2⟩ := ih (List.cons.inj h).2 r2
          have e1 : p.1 = q.1 := (List.cons.inj h).1
          by_cases z : p.1 = k
          · have z2 : q.1 = k := e1 ▸ z
            simp only [List.map_cons, z, z2, if_true]
            exact ⟨by rw [i1], .cons rv i2⟩
          · have z2 : ¬ q.1 = k := fun h => z (e1.trans h)
            simp only [List.map_cons, z, z2, if_false]
            exact ⟨by rw [i1, e1], .cons r1 i2⟩
  unfold putK putKD
  rw [ha e]
  split
  · exact hm e r
  · rw [List.map_append, List.map_append, List.map_append, List.map_append]
    exact ⟨by rw [e]; rfl, r.append (.one rv)⟩
def putD (k d : D) : D → Option D
  | .lst ds => match k with
    | .int i => (ixN ds.length i).map fun j => .lst (ds.set j d)
    | _ => none
  | .dk kvs => match keyD k with
    | some q => if kvs.length < sizeLine then some (.dk (putKD kvs q d)) else none
    | none => none
  | .dt kvs => match k with
    | .tup (x :: xs) => match keysD (x :: xs) with
      | some q => if kvs.length < sizeLine then some (.dt (putKD kvs q d)) else none
      | none => none
    | _ => none
  | _ => none
def rSetDD : TSet := fun o i v H Q => ∃ a H', o = .ref a ∧ DPut H a i v H' ∧ Q H'
theorem set_dict (hu : X.A.units + 1 < cLine) : PSet X rSetDD := by
  rintro pins s σ H o i v ov iv u Q I ro ri rv ⟨a, H', rfl, dp, q⟩
  cases ro
  exact d_setItem hu I dp ri rv fun s4 I4 => ⟨H', I4, q⟩
theorem PSet.or {t t' : TSet} (h : PSet X t) (h' : PSet X t') : PSet X (fun o i v H Q => t o i v H Q ∨ t' o i v H Q) := by
  rintro pins s σ H o i v ov iv u Q I ro ri rv (q | q)
  · exact h pins s σ H o i v ov iv u Q I ro ri rv q
  · exact h' pins s σ H o i v ov iv u Q I ro ri rv q
def dSub (i : Nat) (fv fk : M VR) : M Flow := fv >>= fun v => chkD i (fun _ => true) >>= fun _ => fk >>= fun k => readV k >>= fun kd => frz v >>= fun d => updD i (putD kd d) >>= fun _ => dNx
section
variable {K : PySem.W.Frag} {Wx : WX} {D : Ends} {g0 g1 g2 : Gh} {H0 H1 H2 : Hp} {σ0 σ1 σ2 : Slots} {s0 s1 s2 : State}
theorem CurS.read {x : VR} {v : V} {k : DL.D → M Flow} {Hq : Hp} (c : CurS K Wx D g0 H0 σ0 s0 ((readV x >>= k) s1) g1 H1 σ1 s1) (h : RVR K σ1 Hq g1 H1 s1 v x) :
    ∃ d, CurS K Wx D g0 H0 σ0 s0 (k d s1) g1 H1 σ1 s1 ∧ VAt K g1 H1 v d := by
  rw [bind_eq] at c
  rcases readV_res x s1 with ⟨d, e⟩ | e
  · rw [e] at c; exact ⟨d, c, (h.read c.sd e).2⟩
  · rw [e] at c; exact (c.notBad rfl).elim
theorem CurS.frz {r : VR} {v : V} {k : DL.D → M Flow} (c : CurS K Wx D g0 H0 σ0 s0 ((frz r >>= k) s1) g1 H1 σ1 s1) (h : RVR K σ1 H0 g1 H1 s1 v r) :
    ∃ d g2 s2, CurS K Wx D g0 H0 σ0 s0 (k d s2) g2 H1 σ1 s2 ∧ Rep K g2 v d ∧ Le g1 g2 := by
  rw [bind_eq] at c
  rcases frz_res r s1 with ⟨d, s2, e⟩ | e
  · rw [e] at c
    obtain ⟨g2, sd2, ev2, rp, _, le⟩ := frz_run e c.ev c.sd h
    exact ⟨d, g2, s2, ⟨ev2, sd2, c.post⟩, rp, le⟩
  · rw [e] at c; exact (c.notBad rfl).elim
theorem CurS.chkD {i : Nat} {p : DL.D → Bool} {k : Unit → M Flow} (c : CurS K Wx D g0 H0 σ0 s0 ((chkD i p >>= k) s1) g1 H1 σ1 s1) :
    ∃ w d, heldD i s1 = some (w, d) ∧ p d = true ∧ CurS K Wx D g0 H0 σ0 s0 (k () s1) g1 H1 σ1 s1 := by
  rw [bind_eq] at c
  rcases chkD_res i p s1 with ⟨w, d, h1, h2, h3⟩ | h
  · rw [h3] at c; exact ⟨w, d, h1, h2, c⟩
  · rw [h] at c; exact (c.notBad rfl).elim
theorem CurS.updD {i : Nat} {h : DL.D → Option DL.D} {k : Unit → M Flow} (c : CurS K Wx D g0 H0 σ0 s0 ((updD i h >>= k) s1) g1 H1 σ1 s1) :
    ∃ w d d' a o, heldD i s1 = some (w, d) ∧ h d = some d' ∧ σ1[i]? = some (some (V.ref a)) ∧ H1 a = some o ∧ ObAt K g1 o d ∧
      ∀ o', ObAt K g1 o' d' → CurS K Wx D g0 H0 σ0 s0 (k () (putE s1 i (w.re d'))) g1 (upd H1 a o') σ1 (putE s1 i (w.re d')) := by
  rw [bind_eq] at c
  rcases updD_res i h s1 with ⟨w, d, d', h1, h2, h3⟩ | h
  · rw [h3] at c
    obtain ⟨a, o, ea, eo, ob⟩ := heldD_at c.sd h1
    obtain ⟨e1, m, _⟩ := heldD_some h1
    refine ⟨w, d, d', a, o, h1, h2, ea, eo, ob, fun o' ob' => ?_⟩
    obtain ⟨sd2, ev2⟩ := c.sd.write e1 m ea ob'
    exact ⟨c.ev.trans ev2, sd2, c.post⟩
  · rw [h] at c; exact (c.notBad rfl).elim
end
theorem ds_sub {i : Nat} {x : Str} {p tpos : Pos} {k e : Expr} {fv fk : M VR} (hu : X.A.units + 1 < cLine) (hN : X.N[i]? = some x) (hv : Vis X.env.scope x) (he : DV X Wx e fv) (hk : DV X Wx k fk) (hd : (x == ("__debug__" : Str)) = false := by decide) (hcd : (x == ("__classdict__" : Str)) = false := by decide)
    (ha : ∀ v, assign (.Subscript (.Name x p) k tpos) X.env v = (do
      let ov ← holding [v] (eval (.Name x p) X.env)
      let iv ← holding [v, ov] (eval k X.env)
      standAt tpos
      holding [v, ov, iv] (setItem ov iv v)
      release [v, ov, iv] []) := by intro _; rfl)
    (hs : swapsWithSole [.Subscript (.Name x p) k tpos] e pos.line X.env = pure false := by rfl) (hw : swappedStores [.Subscript (.Name x p) k tpos] e X.env = pure none := by rfl)
    (h1 : (assignEach [.Subscript (.Name x p) k tpos] X.env).map (·.2) = [assign (.Subscript (.Name x p) k tpos) X.env] := by rfl) :
    DS X Wx (.Assign [.Subscript (.Name x p) k tpos] e pos) (dSub i fv fk) := ⟨fun pins s σ H D I h => (ps_asg he (pg_sub (pe_var hN hv hd hcd) hk (PSet.or set_list (set_dict hu)) ha) hs hw h1).run pins s σ H D I (by
  obtain ⟨g, s, c⟩ := h.start
  refine c.bind.mono fun v H1 ⟨v', g1, s1, c1, r1, e1⟩ => ?_
  obtain ⟨w, d, h1, _, c2⟩ := c1.chkD
  obtain ⟨a, o, ea, eo, ob⟩ := heldD_at c1.sd h1
  refine ⟨.ref a, ea, c2.bind.mono fun kv H2 ⟨k', g2, s2, c3, r3, e3⟩ => ?_⟩
  obtain ⟨kd, c4, v4⟩ := c3.read r3
  obtain ⟨dv, g3, s3, c5, r5, le5⟩ := c4.frz (r1.ev e3)
  obtain ⟨w', d', d'', a', o', h3, h4, ea', eo', ob', k⟩ := c5.updD
  rw [ea] at ea'; cases ea'
  have v5 := v4.le le5
  unfold putD at h4
  cases d' with
  | lst ds =>
    cases kd with
    | int j =>
      cases q : ixN ds.length j with
      | none => simp only [q] at h4; cases h4
      | some n =>
        simp only [q] at h4; cases h4
        obtain ⟨xs, rfl, rx⟩ := ob'
        cases v5.int
        exact .inl ⟨a, xs, j, n, rfl, rfl, eo', by rw [rx.length]; exact q, (k _ (.lst (rx.set n r5))).next rfl (k _ (.lst (rx.set n r5))).sd .refl⟩
    | _ => cases h4
  | dk kvs =>
    cases q : keyD kd with
    | none => simp only [q] at h4; cases h4
    | some qk =>
      by_cases hz : kvs.length < sizeLine
      · simp only [q, if_pos hz] at h4; cases h4
        obtain ⟨vs, rfl, ek, rx⟩ := ob'
        obtain ⟨p1, p2⟩ := putKD_rep (k := qk) ek rx r5
        have ey := keyD_rep v5 q
        have el := congrArg List.length ek
        rw [List.length_map, List.length_map] at el
        exact .inr ⟨a, _, rfl, .inl ⟨vs, qk, eo', ey, by rw [el]; exact hz, rfl⟩, (k _ (.dk p1 p2)).next rfl (k _ (.dk p1 p2)).sd .refl⟩
      · simp only [q, if_neg hz] at h4; cases h4
  | dt kvs =>
    cases kd with
    | tup ks =>
      cases ks with
      | nil => cases h4
      | cons k0 ks =>
        cases q : keysD (k0 :: ks) with
        | none => simp only [q] at h4; cases h4
        | some qk =>
          by_cases hz : kvs.length < sizeLine
          · simp only [q, if_pos hz] at h4; cases h4
            obtain ⟨vs, rfl, ek, rx⟩ := ob'
            obtain ⟨p1, p2⟩ := putKD_rep (k := qk) ek rx r5
            obtain ⟨b, xs, rfl, hb, rb⟩ := v5.tupH c5.sd
            rw [keysD_rep rb q] at hb
            have el := congrArg List.length ek
            rw [List.length_map, List.length_map] at el
            exact .inr ⟨a, _, rfl, .inr ⟨vs, qk, b, eo', rfl, hb, by rw [el]; exact hz, rfl⟩, (k _ (.dt p1 p2)).next rfl (k _ (.dt p1 p2)).sd .refl⟩
          · simp only [q, if_neg hz] at h4; cases h4
    | _ => cases h4
  | _ => cases h4)⟩
end
end DL
set_option Elab.async false
set_option linter.all false
set_option maxRecDepth 100000
set_option maxHeartbeats 1000000
namespace DL
open PySem PySem.Spec PyProof.Rows L2
def lockS (i : Nat) : State → State := fun s => match s.env[i]? with
  | some (some (.own d)) => putE s i (.lk d)
  | some (some (.lent d)) => putE s i (.lkl d)
  | _ => s
def unlockW (i : Nat) (w : Option (Option W)) (s : State) : State := match w with
  | some (some (.own _)) => (match s.env[i]? with
    | some (some (.lk d)) => putE s i (.own d)
    | _ => s)
  | some (some (.lent _)) => (match s.env[i]? with
    | some (some (.lkl d)) => putE s i (.lent d)
    | _ => s)
  | _ => s
section
variable {K : PySem.W.Frag} {g g' g0 g1 : Gh} {H H' H0 H1 : Hp} {σ σ' σ0 σ1 : Slots} {s s' s0 s1 : State} {a : Addr} {o : HO} {i : Nat} {d : D} {w u : W}
theorem SD.kind (sd : SD K g H σ s) (e : s.env[i]? = some (some w)) (hw : w.held = true) (hu : u.held = true) (wa : ∀ v, σ[i]? = some (some v) → WAt K g H v u) : SD K g H σ (putE s i u) where
  gh := sd.gh
  len := by show (s.env.set i _).length = _; rw [List.length_set]; exact sd.len
  slot := fun j x ej => by
    rcases getE_set ej with ⟨rfl, rfl⟩ | ⟨_, ej⟩
    · obtain ⟨v, ev, _⟩ := sd.slot j w e
      exact ⟨v, ev, wa v ev⟩
    · exact sd.slot j x ej
  inj := fun j k x y b e1 e2 h1 h2 x1 x2 => by
    have low : ∀ {l : Nat} {z : W}, (putE s i u).env[l]? = some (some z) → z.held = true → ∃ z', s.env[l]? = some (some z') ∧ z'.held = true := fun {l z} h hz => by
      rcases getE_set h with ⟨rfl, _⟩ | ⟨_, h⟩
      · exact ⟨w, e, hw⟩
      · exact ⟨z, h, hz⟩
    obtain ⟨x', e1', h1'⟩ := low e1 h1
    obtain ⟨y', e2', h2'⟩ := low e2 h2
    exact sd.inj j k x' y' b e1' e2' h1' h2' x1 x2
  stl := sd.stl
  sto := sd.sto
  nd := sd.nd
  ng := sd.ng
  dr := sd.dr
theorem SD.lock (sd : SD K g H σ s) : SD K g H σ (lockS i s) := by
  unfold lockS
  cases e : s.env[i]? with
  | none => exact sd
  | some x =>
    cases x with
    | none => exact sd
    | some w =>
      cases w with
      | own d =>
        refine sd.kind e rfl rfl fun v ev => ?_
        obtain ⟨v', ev', a, o, rfl, f, q, ob⟩ := sd.slot i _ e
        rw [ev] at ev'; cases ev'
        exact ⟨a, o, rfl, f, .inl q, ob⟩
      | lent d =>
        refine sd.kind e rfl rfl fun v ev => ?_
        obtain ⟨v', ev', a, o, rfl, f, q, ob⟩ := sd.slot i _ e
        rw [ev] at ev'; cases ev'
        exact ⟨a, o, rfl, f, .inl q, ob⟩
      | fz d => exact sd
      | lk d => exact sd
      | lkl d => exact sd
theorem putE_at (h : i < s.env.length) : (putE s i w).env[i]? = some (some w) := List.getElem?_set_self h
theorem putE_ne {j : Nat} (h : j ≠ i) : (putE s i w).env[j]? = s.env[j]? := List.getElem?_set_ne (Ne.symm h)
theorem Ev.kinds {k1 k2 : D → W} (hk : (k1 = W.own ∧ k2 = W.lk) ∨ (k1 = W.lent ∧ k2 = W.lkl)) (e : s.env[i]? = some (some (k1 d))) (e1 : Ev g H σ (putE s i (k2 d)) g1 H1 σ1 s1) :
    s1.env[i]? = some (some (k2 d)) ∧ σ1[i]? = σ[i]? ∧ Ev g H σ s g1 H1 σ1 (putE s1 i (k1 d)) := by
  have hl : i < s.env.length := (List.getElem?_eq_some_iff.mp e).1
  have at2 : (putE s i (k2 d)).env[i]? = some (some (k2 d)) := putE_at hl
  have fin : σ1[i]? = σ[i]? ∧ s1.env[i]? = some (some (k2 d)) := by
    rcases hk with ⟨rfl, rfl⟩ | ⟨rfl, rfl⟩
    · exact e1.lk i d at2
    · exact e1.lkl i d at2
  obtain ⟨es, eL⟩ := fin
  have hl1 : i < s1.env.length := (List.getElem?_eq_some_iff.mp eL).1
  have kmut : (k2 d).mut = false ∧ (k1 d).mut = true ∧ (k1 d).held = true ∧ (k2 d).held = true := by
    rcases hk with ⟨rfl, rfl⟩ | ⟨rfl, rfl⟩ <;> exact ⟨rfl, rfl, rfl, rfl⟩
  obtain ⟨m2, m1, h1, h2⟩ := kmut
  have muL : ∀ b, Mu g σ (putE s i (k2 d)) b → Mu g σ s b := fun b m => by
    rcases m with ⟨j, u, ej, mj, x⟩ | m
    · rcases getE_set ej with ⟨_, rfl⟩ | ⟨_, ej⟩
      · rw [m2] at mj; cases mj
      · exact .inl ⟨j, u, ej, mj, x⟩
    · exact .inr m
  have hdL : ∀ b, Hd σ (putE s i (k2 d)) b → Hd σ s b := fun b ⟨j, u, ej, mj, x⟩ => by
    rcases getE_set ej with ⟨rfl, _⟩ | ⟨_, ej⟩
    · exact ⟨j, _, e, h1, x⟩
    · exact ⟨j, u, ej, mj, x⟩
  have owL : ∀ b, OwnA σ (putE s i (k2 d)) b → OwnA σ s b := fun b ⟨j, x, ej, q⟩ => by
    by_cases z : j = i
    · subst z
      rcases hk with ⟨rfl, rfl⟩ | ⟨rfl, rfl⟩
      · exact ⟨j, d, .inl e, q⟩
      · rw [at2] at ej
        rcases ej with ej | ej <;> cases ej
    · rw [putE_ne z] at ej
      exact ⟨j, x, ej, q⟩
  refine ⟨eL, es, e1.le, fun b u hb nm => e1.keep b u hb fun m => nm (muL b m), e1.live, fun b l q => (e1.frz b l q).imp id (Or.imp (muL b) id), e1.eta, fun b m => ?_, fun b m => ?_, fun b m => ?_, fun j x h => ?_, fun j x h => ?_, fun j x h => ?_⟩
  · rcases m with ⟨j, u, ej, mj, x⟩ | m
    · rcases getE_set ej with ⟨rfl, rfl⟩ | ⟨_, ej⟩
      · exact .inl (.inl ⟨j, _, e, m1, by rw [← es]; exact x⟩)
      · exact (e1.mu b (.inl ⟨j, u, ej, mj, x⟩)).imp (muL b) id
    · exact (e1.mu b (.inr m)).imp (muL b) id
  · obtain ⟨j, u, ej, mj, x⟩ := m
    rcases getE_set ej with ⟨rfl, rfl⟩ | ⟨_, ej⟩
    · exact (e1.hd b ⟨j, _, eL, h2, x⟩).imp (hdL b) id
    · exact (e1.hd b ⟨j, u, ej, mj, x⟩).imp (hdL b) id
  · obtain ⟨j, x, ej, q⟩ := m
    by_cases z : j = i
    · subst z
      rcases hk with ⟨rfl, rfl⟩ | ⟨rfl, rfl⟩
      · exact (e1.ow b ⟨j, d, .inr eL, q⟩).imp (owL b) id
      · rw [putE_at hl1] at ej
        rcases ej with ej | ej <;> cases ej
    · rw [putE_ne z] at ej
      exact (e1.ow b ⟨j, x, ej, q⟩).imp (owL b) id
  · by_cases z : j = i
    · subst z
      rw [e] at h
      rcases hk with ⟨rfl, rfl⟩ | ⟨rfl, rfl⟩
      · cases h
      · exact ⟨es, d, .inl (putE_at hl1)⟩
    · obtain ⟨q1, d', q2⟩ := e1.fix j x (by rw [putE_ne z]; exact h)
      exact ⟨q1, d', by rw [putE_ne z]; exact q2⟩
  · have z : j ≠ i := fun z => by
      subst z
      rw [e] at h
      rcases hk with ⟨rfl, rfl⟩ | ⟨rfl, rfl⟩ <;> cases h
    obtain ⟨q1, q2⟩ := e1.lk j x (by rw [putE_ne z]; exact h)
    exact ⟨q1, by rw [putE_ne z]; exact q2⟩
  · have z : j ≠ i := fun z => by
      subst z
      rw [e] at h
      rcases hk with ⟨rfl, rfl⟩ | ⟨rfl, rfl⟩ <;> cases h
    obtain ⟨q1, q2⟩ := e1.lkl j x (by rw [putE_ne z]; exact h)
    exact ⟨q1, by rw [putE_ne z]; exact q2⟩
def noDict : D → Bool
  | .dk _ => false
  | .dt _ => false
  | _ => true
theorem ObAt.noLock (h : ObAt K g o d) (n : noDict d = true) : lockable o = false := by
  cases d with
  | lst ds => obtain ⟨_, rfl, _⟩ := h; rfl
  | obj C ds => obtain ⟨_, _, rfl, _⟩ := h; rfl
  | dk _ => cases n
  | dt _ => cases n
  | _ => exact h.elim
theorem SD.unlock (e0 : Ev g0 H0 σ0 s0 g H σ s) (sd : SD K g H σ s) (nd : ∀ w : W, s.env[i]? = some (some w) → noDict w.data = true) (e1 : Ev g H σ (lockS i s) g1 H1 σ1 s1) (sd1 : SD K g1 H1 σ1 s1) :
    SD K g1 H1 σ1 (unlockW i s.env[i]? s1) ∧ Ev g0 H0 σ0 s0 g1 H1 σ1 (unlockW i s.env[i]? s1) ∧ (∀ b, Hd σ1 (unlockW i s.env[i]? s1) b → Hd σ1 s1 b) ∧ ∀ b, OwnA σ (lockS i s) b → OwnA σ s b := by
  have plain : lockS i s = s → unlockW i s.env[i]? s1 = s1 → SD K g1 H1 σ1 (unlockW i s.env[i]? s1) ∧ Ev g0 H0 σ0 s0 g1 H1 σ1 (unlockW i s.env[i]? s1) ∧ (∀ b, Hd σ1 (unlockW i s.env[i]? s1) b → Hd σ1 s1 b) ∧ ∀ b, OwnA σ (lockS i s) b → OwnA σ s b := fun h1 h2 => by
    rw [h2]
    rw [h1] at e1 ⊢
    exact ⟨sd1, e0.trans e1, fun _ h => h, fun _ h => h⟩
  cases e : s.env[i]? with
  | none => rw [← e]; exact plain (by unfold lockS; rw [e]) (by rw [e]; rfl)
  | some x =>
    cases x with
    | none => rw [← e]; exact plain (by unfold lockS; rw [e]) (by rw [e]; rfl)
    | some w =>
      cases w with
      | fz d => rw [← e]; exact plain (by unfold lockS; rw [e]) (by rw [e]; rfl)
      | lk d => rw [← e]; exact plain (by unfold lockS; rw [e]) (by rw [e]; rfl)
      | lkl d => rw [← e]; exact plain (by unfold lockS; rw [e]) (by rw [e]; rfl)
      | own d =>
        have eL : lockS i s = putE s i (.lk d) := by unfold lockS; rw [e]
        rw [eL] at e1 ⊢
        obtain ⟨q1, q2, ev⟩ := Ev.kinds (k1 := W.own) (k2 := W.lk) (.inl ⟨rfl, rfl⟩) e e1
        have eU : unlockW i (some (some (.own d))) s1 = putE s1 i (.own d) := by unfold unlockW; rw [q1]
        rw [eU]
        refine ⟨sd1.kind q1 rfl rfl fun v hv => ?_, e0.trans ev, fun b ⟨j, u, ej, hj, x⟩ => ?_, fun b ⟨j, x, ej, q⟩ => ?_⟩
        · obtain ⟨v', ev', a, o, rfl, f, q, ob⟩ := sd1.slot i _ q1
          rw [hv] at ev'; cases ev'
          exact ⟨a, o, rfl, f, q.exact (ob.noLock (nd _ e)), ob⟩
        · rcases getE_set ej with ⟨rfl, _⟩ | ⟨_, ej⟩
          · exact ⟨j, _, q1, rfl, x⟩
          · exact ⟨j, u, ej, hj, x⟩
        · rcases ej with ej | ej
          · rcases getE_set ej with ⟨_, z⟩ | ⟨_, ej⟩
            · cases z
            · exact ⟨j, x, .inl ej, q⟩
          · rcases getE_set ej with ⟨rfl, z⟩ | ⟨_, ej⟩
            · exact ⟨j, d, .inl e, q⟩
            · exact ⟨j, x, .inr ej, q⟩
      | lent d =>
        have eL : lockS i s = putE s i (.lkl d) := by unfold lockS; rw [e]
        rw [eL] at e1 ⊢
        obtain ⟨q1, q2, ev⟩ := Ev.kinds (k1 := W.lent) (k2 := W.lkl) (.inr ⟨rfl, rfl⟩) e e1
        have eU : unlockW i (some (some (.lent d))) s1 = putE s1 i (.lent d) := by unfold unlockW; rw [q1]
        rw [eU]
        refine ⟨sd1.kind q1 rfl rfl fun v hv => ?_, e0.trans ev, fun b ⟨j, u, ej, hj, x⟩ => ?_, fun b ⟨j, x, ej, q⟩ => ?_⟩
        · obtain ⟨v', ev', a, o, rfl, f, q, ob⟩ := sd1.slot i _ q1
          rw [hv] at ev'; cases ev'
          exact ⟨a, o, rfl, f, q.exact (ob.noLock (nd _ e)), ob⟩
        · rcases getE_set ej with ⟨rfl, _⟩ | ⟨_, ej⟩
          · exact ⟨j, _, q1, rfl, x⟩
          · exact ⟨j, u, ej, hj, x⟩
        · rcases ej with ej | ej
          · rcases getE_set ej with ⟨_, z⟩ | ⟨_, ej⟩
            · cases z
            · exact ⟨j, x, .inl ej, q⟩
          · rcases getE_set ej with ⟨_, z⟩ | ⟨_, ej⟩
            · cases z
            · exact ⟨j, x, .inr ej, q⟩
end
def mapS (f : State → State) : Rs Flow → Rs Flow
  | .ok fl s => .ok fl (f s)
  | .err x s => .err x (f s)
  | .bad => .bad
section
variable {K : PySem.W.Frag} {Wx : WX} {D : Ends} {g g0 g1 : Gh} {H H0 H1 : Hp} {σ σ0 σ1 : Slots} {s s0 s1 : State} {i : Nat} {r : Rs Flow}
theorem PostS.unlock (e0 : Ev g0 H0 σ0 s0 g H σ s) (sd : SD K g H σ s) (nd : ∀ w : W, s.env[i]? = some (some w) → noDict w.data = true) (p : PostS K Wx D g0 H0 σ0 s0 (mapS (unlockW i s.env[i]?) r)) : PostS K Wx D g H σ (lockS i s) r := by
  cases r with
  | ok fl s' =>
    cases fl with
    | nx => exact fun σ' g' H' sd' ev => let z := SD.unlock e0 sd nd ev sd'; p σ' g' H' z.1 z.2.1
    | bk => exact fun σ' g' H' sd' ev => let z := SD.unlock e0 sd nd ev sd'; p σ' g' H' z.1 z.2.1
    | ct => exact fun σ' g' H' sd' ev => let z := SD.unlock e0 sd nd ev sd'; p σ' g' H' z.1 z.2.1
    | rt t =>
      intro v σ' g' H' sd' ev rr
      obtain ⟨z1, z2, z3, z4⟩ := SD.unlock e0 sd nd ev sd'
      refine p v σ' g' H' z1 z2 ⟨rr.at_, fun d a e1 e2 => ⟨?_, fun hh => (rr.new d a e1 e2).2 (z3 a hh)⟩⟩
      rcases (rr.new d a e1 e2).1 with q | q
      · cases hq : H0 a with
        | none => exact .inl rfl
        | some o => exact absurd q (e0.live a (by rw [hq]; simp))
      · exact (e0.ow a (z4 a q)).symm
  | err x s' => exact fun cls d σ' g' H' sd' ev er => let z := SD.unlock e0 sd nd ev sd'; p cls d σ' g' H' z.1 z.2.1 er
  | bad => exact p
def Src (K : PySem.W.Frag) (g : Gh) (σ : Slots) (s : State) (v : V) (d : DL.D) : Prop :=
  Rep K g v d ∨ ∃ i : Nat, σ[i]? = some (some v) ∧ (s.env[i]? = some (some (.lk d)) ∨ s.env[i]? = some (some (.lkl d)))
theorem Src.rep {v : V} {d : DL.D} (h : Rep K g v d) : Src K g σ s v d := .inl h
theorem Src.ev {v : V} {d : DL.D} (e : Ev g H σ s g1 H1 σ1 s1) (h : Src K g σ s v d) : Src K g1 σ1 s1 v d := by
  rcases h with h | ⟨i, hv, h | h⟩
  · exact .inl (h.mono e.le)
  · obtain ⟨a, b⟩ := e.lk i d h
    exact .inr ⟨i, a.trans hv, .inl b⟩
  · obtain ⟨a, b⟩ := e.lkl i d h
    exact .inr ⟨i, a.trans hv, .inr b⟩
theorem Src.view {v : V} {d : DL.D} (sd : SD K g H σ s) (h : Src K g σ s v d) : VAt K g H v d := by
  rcases h with h | ⟨i, hv, h | h⟩
  · exact .inl h
  · obtain ⟨v', ev, wa⟩ := sd.slot i _ h
    rw [hv] at ev; cases ev
    exact wa.view
  · obtain ⟨v', ev, wa⟩ := sd.slot i _ h
    rw [hv] at ev; cases ev
    exact wa.view
def Iter (K : PySem.W.Frag) (J : It) (g : Gh) (H : Hp) (σ : Slots) (s : State) (ds : List DL.D) : Prop :=
  ∀ (i : Nat) (g2 : Gh) (H2 : Hp) (σ2 : Slots) (s2 : State), SD K g2 H2 σ2 s2 → Ev g H σ s g2 H2 σ2 s2 →
    (ds.length ≤ i → J.stop i H2) ∧ ∀ d, ds[i]? = some d → J.go i H2 ∧ ∀ x H3, J.yld i H2 x H3 → ∃ g3, SD K g3 H3 σ2 s2 ∧ Ev g2 H2 σ2 s2 g3 H3 σ2 s2 ∧ Rep K g3 x d
def dForL (p : Pt) (b : M Flow) : List DL.D → M Flow
  | [] => dNx
  | d :: ds => fun s => match bindP p d s with
    | none => .bad
    | some s1 => match b s1 with
      | .ok .nx s2 => dForL p b ds s2
      | .ok .ct s2 => dForL p b ds s2
      | .ok .bk s2 => .ok .nx s2
      | r => r
theorem forL_run {p : Pt} {b : M Flow} {ds : List DL.D} {J : It} (sd : SD K g H σ s) (it : Iter K J g H σ s ds) (q : PostS K Wx D g H σ s (dForL p b ds s)) :
    ∃ W : Nat → Nat → Slots → Hp → Prop, (∃ m, W 0 m σ H) ∧ ∀ i m σ H, W i m σ H →
      (J.stop i H ∧ D.nx σ H) ∨ (J.go i H ∧ ∃ N : Slots → Hp → Prop, (∀ σ' H', N σ' H' → ∃ m', m' < m ∧ W (i + 1) m' σ' H') ∧ ∀ x H', J.yld i H x H' → tP K p x σ H' fun σ2 H2 => tS K Wx b { D with nx := N, ct := N, bk := D.nx } σ2 H2) := by
  refine ⟨fun i m σ' H' => m = ds.length - i ∧ i ≤ ds.length ∧ ∃ g' s', SD K g' H' σ' s' ∧ Ev g H σ s g' H' σ' s' ∧ PostS K Wx D g H σ s (dForL p b (ds.drop i) s'), ⟨ds.length, by simp, Nat.zero_le _, g, s, sd, .refl, q⟩, ?_⟩
  rintro i m σ1 H1 ⟨rfl, hi, g1, s1, sd1, ev1, p1⟩
  obtain ⟨stop, go⟩ := it i g1 H1 σ1 s1 sd1 ev1
  by_cases hlt : i < ds.length
  · have e : ds[i]? = some ds[i] := List.getElem?_eq_getElem hlt
    obtain ⟨g1', g2'⟩ := go _ e
    refine .inr ⟨g1', fun σ' H' => i + 1 ≤ ds.length ∧ ∃ g' s', SD K g' H' σ' s' ∧ Ev g H σ s g' H' σ' s' ∧ PostS K Wx D g H σ s (dForL p b (ds.drop (i + 1)) s'), fun σ' H' z => ⟨ds.length - (i + 1), by omega, rfl, z.1, z.2⟩, fun x H3 hy => ?_⟩
    obtain ⟨g3, sd3, ev3, rp3⟩ := g2' x H3 hy
    rw [List.drop_eq_getElem_cons hlt] at p1
    unfold dForL at p1
    cases q1 : bindP p ds[i] s1 with
    | none => simp only [q1] at p1; exact p1.elim
    | some s2 =>
      simp only [q1] at p1
      refine ⟨g3, s1, ds[i], sd3, rp3, s2, q1, fun σ4 _ sd4 ev4 => ⟨g3, s2, sd4, ?_⟩⟩
      have evA := ev1.trans (ev3.trans ev4)
      cases q2 : b s2 with
      | bad => simp only [q2] at p1; exact p1
      | err y s5 => simp only [q2] at p1; exact p1.shift evA
      | ok fl s5 =>
        simp only [q2] at p1
        cases fl with
        | nx => exact fun σ' g' H' sd' ev' => ⟨hlt, g', s5, sd', evA.trans ev', p1⟩
        | ct => exact fun σ' g' H' sd' ev' => ⟨hlt, g', s5, sd', evA.trans ev', p1⟩
        | bk => exact fun σ' g' H' sd' ev' => p1 σ' g' H' sd' (evA.trans ev')
        | rt t => exact fun v σ' g' H' sd' ev' rr => p1 v σ' g' H' sd' (evA.trans ev') (rr.past evA)
  · have e : i = ds.length := by omega
    subst e
    rw [List.drop_length] at p1
    exact .inl ⟨stop (Nat.le_refl _), p1 σ1 g1 H1 sd1 ev1⟩
inductive HS where
  | d (d : DL.D) | slot (i : Nat)
def toHS : VR → M HS
  | .t t => frz (.t t) >>= fun d => pure (.d d)
  | .slot i => pure (.slot i)
def toHSs : List VR → M (List HS)
  | [] => pure []
  | r :: rs => toHS r >>= fun h => toHSs rs >>= fun hs => pure (h :: hs)
def dLock : List HS → (List DL.D → M Flow) → M Flow
  | [], k => k []
  | .d d :: rs, k => dLock rs fun ds => k (d :: ds)
  | .slot i :: rs, k => fun s => match s.env[i]? with
    | some (some w) => if noDict w.data = true then mapS (unlockW i s.env[i]?) (dLock rs (fun ds => k (w.data :: ds)) (lockS i s)) else .bad
    | _ => .bad
def dHold (rs : List VR) (k : List DL.D → M Flow) : M Flow := toHSs rs >>= fun hs => dLock hs k
inductive Srcs (K : PySem.W.Frag) (g : Gh) (σ : Slots) (s : State) : List V → List DL.D → Prop where
  | nil : Srcs K g σ s [] []
  | cons {v : V} {d : DL.D} {vs : List V} {ds : List DL.D} : Src K g σ s v d → Srcs K g σ s vs ds → Srcs K g σ s (v :: vs) (d :: ds)
theorem lockS_src {v : V} {w : W} (sd : SD K g H σ s) (e : s.env[i]? = some (some w)) (hv : σ[i]? = some (some v)) : Src K g σ (lockS i s) v w.data := by
  have hl : i < s.env.length := (List.getElem?_eq_some_iff.mp e).1
  cases w with
  | fz d =>
    obtain ⟨v', ev, wa⟩ := sd.slot i _ e
    rw [hv] at ev; cases ev
    exact .inl wa
  | own d => exact .inr ⟨i, hv, .inl (by unfold lockS; rw [e]; exact putE_at hl)⟩
  | lent d => exact .inr ⟨i, hv, .inr (by unfold lockS; rw [e]; exact putE_at hl)⟩
  | lk d => exact .inr ⟨i, hv, .inl (by unfold lockS; rw [e]; exact e)⟩
  | lkl d => exact .inr ⟨i, hv, .inr (by unfold lockS; rw [e]; exact e)⟩
def RH (K : PySem.W.Frag) (g : Gh) (σ : Slots) (v : V) : HS → Prop
  | .d d => Rep K g v d
  | .slot i => σ[i]? = some (some v)
inductive RHs (K : PySem.W.Frag) (g : Gh) (σ : Slots) : List V → List HS → Prop where
  | nil : RHs K g σ [] []
  | cons {v : V} {h : HS} {vs : List V} {hs : List HS} : RH K g σ v h → RHs K g σ vs hs → RHs K g σ (v :: vs) (h :: hs)
theorem RH.le {v : V} {h : HS} (l : Le g g1) (r : RH K g σ v h) : RH K g1 σ v h := by
  cases h with
  | d d => exact Rep.mono l r
  | slot i => exact r
theorem RHs.le (l : Le g g1) : ∀ {vs : List V} {hs : List HS}, RHs K g σ vs hs → RHs K g1 σ vs hs
  | _, _, .nil => .nil
  | _, _, .cons a r => .cons (a.le l) (RHs.le l r)
theorem toHSs_run : ∀ {rs : List VR} {vs : List V} {hs : List HS} {s s' : State} {g : Gh}, toHSs rs s = .ok hs s' → Ev g0 H0 σ0 s0 g H σ s → SD K g H σ s → RVRs K σ H0 g H s vs rs →
    ∃ g', SD K g' H σ s' ∧ Ev g0 H0 σ0 s0 g' H σ s' ∧ RHs K g' σ vs hs ∧ Le g g'
  | [], _, _, _, _, g, e, e0, sd, h => by
    cases h
    cases e
    exact ⟨g, sd, e0, .nil, .refl g⟩
  | .slot i :: rs, _, hs, s, s', g, e, e0, sd, .cons a b c => by
    unfold toHSs at e
    rw [bind_eq] at e
    have e : (toHSs rs >>= fun hs => pure (HS.slot i :: hs)) s = .ok hs s' := e
    rw [bind_eq] at e
    cases q2 : toHSs rs s with
    | bad => rw [q2] at e; cases e
    | err x s2 => rw [q2] at e; cases e
    | ok hs2 s2 =>
      rw [q2] at e
      cases e
      obtain ⟨g2, sd2, e2, rp2, le2⟩ := toHSs_run q2 e0 sd b
      exact ⟨g2, sd2, e2, .cons (show RH K g2 σ _ (.slot i) from a) rp2, le2⟩
  | .t t :: rs, _, hs, s, s', g, e, e0, sd, .cons (v := v) (vs := vs) a b c => by
    unfold toHSs at e
    rw [bind_eq] at e
    have e : (toHSs rs >>= fun hs => pure (HS.d t.data :: hs)) s = .ok hs s' := e
    rw [bind_eq] at e
    obtain ⟨g1, sd1, e1, rp, tr, le1⟩ := frz_run (r := .t t) (d := t.data) (s' := s) rfl e0 sd a
    have h3 : ∀ {us : List V} {ts : List VR}, RVRs K σ H0 g H s us ts → (∀ p ∈ us.zip ts, p ∈ vs.zip rs) → RVRs K σ H0 g1 H s us ts := by
      intro us ts hh
      induction hh with
      | nil => exact fun _ => .nil
      | cons a' b' c' ih =>
        intro hm
        exact .cons (tr _ _ a' fun b' d' d2 e1 e2 e3 => fun e4 => c b' d2 e3 e4 _ (hm _ List.mem_cons_self) d' e1 e2) (ih fun p hp => hm p (List.mem_cons_of_mem _ hp)) c'
    cases q2 : toHSs rs s with
    | bad => rw [q2] at e; cases e
    | err x s2 => rw [q2] at e; cases e
    | ok hs2 s2 =>
      rw [q2] at e
      cases e
      obtain ⟨g2, sd2, e2, rp2, le2⟩ := toHSs_run q2 e1 sd1 (h3 b fun _ h => h)
      exact ⟨g2, sd2, e2, .cons (show RH K g2 σ _ (.d t.data) from rp.mono le2) rp2, le1.trans le2⟩
theorem toHSs_res : ∀ (rs : List VR) (s : State), (∃ d s', toHSs rs s = .ok d s') ∨ toHSs rs s = .bad
  | [], s => .inl ⟨[], s, rfl⟩
  | r :: rs, s => by
    unfold toHSs
    rw [bind_eq]
    have e1 : ∃ h, toHS r s = .ok h s := by
      cases r with
      | t t => exact ⟨.d t.data, rfl⟩
      | slot i => exact ⟨.slot i, rfl⟩
    obtain ⟨h, e1⟩ := e1
    rw [e1]
    show (∃ d' s', (toHSs rs >>= fun ds => pure (h :: ds)) s = .ok d' s') ∨ (toHSs rs >>= fun ds => pure (h :: ds)) s = .bad
    rw [bind_eq]
    rcases toHSs_res rs s with ⟨ds, s2, e2⟩ | e2
    · rw [e2]; exact .inl ⟨_, _, rfl⟩
    · rw [e2]; exact .inr rfl
theorem lock_run : ∀ {hs : List HS} {vs : List V} {k : List DL.D → M Flow} {s : State}, SD K g H σ s → RHs K g σ vs hs → PostS K Wx D g H σ s (dLock hs k s) →
    ∃ s1 ds, SD K g H σ s1 ∧ Srcs K g σ s1 vs ds ∧ PostS K Wx D g H σ s1 (k ds s1) ∧ ∀ v d, Src K g σ s v d → Src K g σ s1 v d
  | [], _, k, s, sd, .nil, p => ⟨s, [], sd, .nil, p, fun _ _ h => h⟩
  | .d d :: rs, _, k, s, sd, .cons (v := v) a b, p => by
    obtain ⟨s1, ds, sd1, sr, p1, k1⟩ := lock_run (k := fun ds => k (d :: ds)) sd b p
    exact ⟨s1, d :: ds, sd1, .cons (k1 _ _ (.inl a)) sr, p1, k1⟩
  | .slot i :: rs, _, k, s, sd, .cons (v := v) a b, p => by
    unfold dLock at p
    cases e : s.env[i]? with
    | none => simp only [e] at p; exact p.elim
    | some w =>
      cases w with
      | none => simp only [e] at p; exact p.elim
      | some w =>
        simp only [e] at p
        by_cases hn : noDict w.data = true
        · rw [if_pos hn] at p
          have p' := PostS.unlock (i := i) .refl sd (fun w' h => by rw [e] at h; cases h; exact hn) (by rw [e]; exact p)
          obtain ⟨s1, ds, sd1, sr, p1, k1⟩ := lock_run (k := fun ds => k (w.data :: ds)) (sd.lock (i := i)) b p'
          refine ⟨s1, w.data :: ds, sd1, .cons (k1 _ _ (lockS_src sd e a)) sr, p1, fun v' d' h => k1 _ _ ?_⟩
          rcases h with h | ⟨j, hv, h⟩
          · exact .inl h
          · refine .inr ⟨j, hv, ?_⟩
            have same : (lockS i s).env[j]? = s.env[j]? := by
              unfold lockS
              rw [e]
              cases w with
              | own d2 =>
                refine putE_ne fun z => ?_
                subst z; rw [e] at h
                rcases h with h | h <;> cases h
              | lent d2 =>
                refine putE_ne fun z => ?_
                subst z; rw [e] at h
                rcases h with h | h <;> cases h
              | fz d2 => rfl
              | lk d2 => rfl
              | lkl d2 => rfl
            rw [same]; exact h
        · rw [if_neg hn] at p; exact p.elim
theorem hold_run {rs : List VR} {vs : List V} {k : List DL.D → M Flow} (c : CurS K Wx D g0 H0 σ0 s0 (dHold rs k s) g H σ s) (h : RVRs K σ H0 g H s vs rs) :
    ∃ g1 s1 ds, SD K g1 H σ s1 ∧ Srcs K g1 σ s1 vs ds ∧ PostS K Wx D g1 H σ s1 (k ds s1) := by
  have p := c.post
  unfold dHold at p
  rw [bind_eq] at p
  rcases toHSs_res rs s with ⟨hs, s1, e⟩ | e
  · rw [e] at p
    obtain ⟨g1, sd1, e1, rh, le⟩ := toHSs_run e c.ev c.sd h
    obtain ⟨s2, ds, sd2, sr, p2, _⟩ := lock_run sd1 rh (PostS.shift e1 p)
    exact ⟨g1, s2, ds, sd2, sr, p2⟩
  · rw [e] at p; exact p.elim
end
end DL
set_option Elab.async false
set_option linter.all false
set_option maxRecDepth 100000
set_option maxHeartbeats 1000000
namespace DL
open PySem PySem.Spec PyProof.Rows L2
def iSeq (K : PySem.W.Frag) (tl : TE) : TI := fun σ H R => tl σ H fun x H1 => ∃ a, x = .ref a ∧ (((∃ xs, SqL K H1 a xs) ∧ R (Itl K a) H1) ∨ ((∃ xs, SqT K H1 a xs) ∧ R (Itt K a) H1))
section
variable {X : Cx} {Wx : WX} {tg e l : Expr} {pos p p1 : Pos}
theorem pi_seq {tl : TE} (hl : PE X l tl) : PI X tg l (iSeq X.K tl) := by
  refine ⟨fun pins s σ H R I h => thn (hl.run pins s σ H _ I h) fun v s1 hh => ?_⟩
  obtain ⟨x, H1, I1, r1, a, e, q⟩ := hh
  subst e; cases r1
  have new : ∀ {o : Obj}, Inv X pins σ H1 { s1 with heap := s1.heap.push o } := I1.kept (t' := s1.toks) fun b o e => Heap.get?_push_of_some _ e
  have fp : ∀ b ∈ [s1.heap.objs.size], FpOk X pins H1 b := fun b hb => by
    cases List.mem_singleton.mp hb
    exact I1.fpOk (Nat.le_refl _) (I1.hok.fresh (Nat.le_refl _))
  rcases q with ⟨⟨xs, hq⟩, q⟩ | ⟨⟨xs, hq⟩, q⟩
  · obtain ⟨its, rv, pl, hz⟩ := I1.list hq
    exact wpAny_pyIter_list pl.isList ⟨_, [s1.heap.objs.size], _, _, H1, rfl, new, turn_list a _, ⟨_, Heap.get?_push_size _ rfl, rfl, rfl⟩, fp, q⟩
  · obtain ⟨its, rv, pl, hz⟩ := I1.tuple hq
    exact wpAny_pyIter_tuple (show s1.heap.IsTuple a its.toArray from pl) ⟨_, [s1.heap.objs.size], _, _, H1, rfl, new, turn_tuple a _, ⟨_, Heap.get?_push_size _ rfl, rfl, rfl⟩, fp, q⟩
def itS : List DL.D → Option (List DL.D)
  | [.lst ds] => some ds
  | [.tup ds] => some ds
  | [.frl ns] => some (ns.map DL.D.int)
  | _ => none
def enumL : Nat → List DL.D → List DL.D
  | _, [] => []
  | n, d :: ds => .tup [.int n, d] :: enumL (n + 1) ds
theorem enumL_length : ∀ (n : Nat) (ds : List DL.D), (enumL n ds).length = ds.length
  | _, [] => rfl
  | n, d :: ds => by show (enumL (n + 1) ds).length + 1 = _; rw [enumL_length (n + 1) ds]; rfl
theorem enumL_get : ∀ (n : Nat) (ds : List DL.D) (i : Nat) (d : DL.D), (enumL n ds)[i]? = some d → ∃ x, ds[i]? = some x ∧ d = .tup [.int (n + i : Nat), x]
  | _, [], i, _, h => by simp [enumL] at h
  | n, x :: ds, 0, d, h => by
    have h : some (DL.D.tup [.int n, x]) = some d := h
    cases h
    exact ⟨x, rfl, by simp⟩
  | n, x :: ds, i + 1, d, h => by
    obtain ⟨y, h1, h2⟩ := enumL_get (n + 1) ds i d h
    exact ⟨y, h1, by rw [h2, show n + 1 + i = n + (i + 1) from by omega]⟩
def zipL : List DL.D → List DL.D → List DL.D
  | x :: xs, y :: ys => .tup [x, y] :: zipL xs ys
  | _, _ => []
theorem zipL_get : ∀ (xs ys : List DL.D) (i : Nat) (d : DL.D), (zipL xs ys)[i]? = some d → ∃ x y, xs[i]? = some x ∧ ys[i]? = some y ∧ d = .tup [x, y]
  | [], _, _, _, h => by simp [zipL] at h
  | _ :: _, [], _, _, h => by simp [zipL] at h
  | x :: xs, y :: ys, 0, d, h => by
    have h : some (DL.D.tup [x, y]) = some d := h
    cases h
    exact ⟨x, y, rfl, rfl, rfl⟩
  | x :: xs, y :: ys, i + 1, d, h => zipL_get xs ys i d h
theorem zipL_len : ∀ (xs ys : List DL.D), (zipL xs ys).length = min xs.length ys.length
  | [], _ => by simp [zipL]
  | _ :: _, [] => by simp [zipL]
  | x :: xs, y :: ys => by show (zipL xs ys).length + 1 = _; rw [zipL_len xs ys]; simp [List.length_cons]
def rangeL : Int → Nat → List DL.D
  | _, 0 => []
  | i, n + 1 => .int i :: rangeL (i + 1) n
theorem rangeL_length : ∀ (i : Int) (n : Nat), (rangeL i n).length = n
  | _, 0 => rfl
  | i, n + 1 => by show (rangeL (i + 1) n).length + 1 = _; rw [rangeL_length]
theorem rangeL_get : ∀ (i : Int) (n j : Nat) (d : DL.D), (rangeL i n)[j]? = some d → d = .int (i + j) ∧ j < n
  | _, 0, j, _, h => by simp [rangeL] at h
  | i, n + 1, 0, d, h => by
    have h : some (DL.D.int i) = some d := h
    cases h
    simp
  | i, n + 1, j + 1, d, h => by
    obtain ⟨h1, h2⟩ := rangeL_get (i + 1) n j d h
    refine ⟨by rw [h1]; congr 1; omega, by omega⟩
def bnd62 (i : Int) : Bool := decide (-(2 ^ 62) ≤ i) && decide (i < 2 ^ 62)
def itR1 : List DL.D → Option (List DL.D)
  | [.int j] => if bnd62 j = true then some (rangeL 0 j.toNat) else none
  | _ => none
theorem bnd62_of {i : Int} (h : bnd62 i = true) : -(2 ^ 62) ≤ i ∧ i < 2 ^ 62 := by
  unfold bnd62 at h
  rw [Bool.and_eq_true, decide_eq_true_eq, decide_eq_true_eq] at h
  exact h
def dItems (h : List DL.D → Option (List DL.D)) (k : List DL.D → M Flow) (ds : List DL.D) : M Flow := match h ds with
  | some items => k items
  | none => .bad
def dFor (h : List DL.D → Option (List DL.D)) (pt : Pt) (b : M Flow) (fl : M (List VR)) : M Flow := fl >>= fun rs => dHold rs (dItems h (dForL pt b))
def dOne (f : M VR) : M (List VR) := f >>= fun x => pure [x]
section
variable {K : PySem.W.Frag} {g : Gh} {H : Hp} {σ : Slots} {s : State} {v w : V} {d : DL.D}
theorem Srcs.one (h : Srcs K g σ s [v] ds) : ∃ d, ds = [d] ∧ Src K g σ s v d := by
  cases h with
  | cons a b => cases b; exact ⟨_, rfl, a⟩
theorem Srcs.two (h : Srcs K g σ s [v, w] ds) : ∃ d e, ds = [d, e] ∧ Src K g σ s v d ∧ Src K g σ s w e := by
  cases h with
  | cons a b =>
    obtain ⟨e, rfl, q⟩ := b.one
    exact ⟨_, e, rfl, a, q⟩
theorem Srcs.one' {vs : List V} {d : DL.D} (h : Srcs K g σ s vs [d]) : ∃ v, vs = [v] ∧ Src K g σ s v d := by
  cases h with
  | cons a b => cases b; exact ⟨_, rfl, a⟩
theorem iter_lst {a : Addr} {ds : List DL.D} (src : Src K g σ s (.ref a) (.lst ds)) : Iter K (Itl K a) g H σ s ds := fun i g2 H2 σ2 s2 sd2 ev2 => by
  obtain ⟨b, xs, e, hx, rx⟩ := ((src.ev ev2).view sd2).lst sd2
  cases e
  refine ⟨fun hi => ⟨xs, .of hx, by rw [rx.length]; exact hi⟩, fun d hd => ?_⟩
  obtain ⟨x, hv, rv⟩ := rx.get hd
  refine ⟨⟨xs, x, .of hx, hv⟩, fun y H3 hy => ?_⟩
  obtain ⟨rfl, q⟩ := hy
  have e := q xs (.of hx)
  rw [hv] at e; cases e
  exact ⟨g2, sd2, .refl, rv⟩
theorem iter_tup {a : Addr} {xs : List V} {ds : List DL.D} (src : Src K g σ s (.ref a) (.tup ds)) : Iter K (Itt K a) g H σ s ds := fun i g2 H2 σ2 s2 sd2 ev2 => by
  obtain ⟨b, xs, e, hx, rx⟩ := ((src.ev ev2).view sd2).tup sd2
  cases e
  refine ⟨fun hi => ⟨xs, hx, by rw [rx.length]; exact hi⟩, fun d hd => ?_⟩
  obtain ⟨x, hv, rv⟩ := rx.get hd
  refine ⟨⟨xs, x, hx, hv⟩, fun y H3 hy => ?_⟩
  obtain ⟨rfl, q⟩ := hy
  have e := q xs hx
  rw [hv] at e; cases e
  exact ⟨g2, sd2, .refl, rv⟩
theorem iter_frl {a : Addr} {ns : List Int} (src : Src K g σ s (.ref a) (.frl ns)) : Iter K (Itl K a) g H σ s (ns.map DL.D.int) := fun i g2 H2 σ2 s2 sd2 ev2 => by
  cases ((src.ev ev2).view sd2).sc (fun _ z => z) with
  | frl q =>
    have hx := sd2.seq q
    refine ⟨fun hi => ⟨_, hx, by rw [List.length_map] at hi ⊢; exact hi⟩, fun d hd => ?_⟩
    obtain ⟨x, hv, rv⟩ := (Reps.ints (K := K) (g := g2) ns).get hd
    refine ⟨⟨_, x, hx, hv⟩, fun y H3 hy => ?_⟩
    obtain ⟨rfl, q⟩ := hy
    have e := q _ hx
    rw [hv] at e; cases e
    exact ⟨g2, sd2, .refl, rv⟩
theorem SD.newTup {T : Addr} {xs : List V} {ds : List DL.D} (sd : SD K g H σ s) (hT : H T = none) (r : Reps K g xs ds) : ∃ g3, SD K g3 (upd H T (.tup xs)) σ s ∧ Ev g H σ s g3 (upd H T (.tup xs)) σ s ∧ Rep K g3 (.ref T) (.tup ds) := by
  have f1 := sd.free1 hT
  have sd1 := (sd.alloc (o := .tup xs) hT).freeze f1 (sd.noHd hT) upd_same
  exact ⟨g.frz T (.tup xs), sd1, (sd.allocEv hT).freeze f1 hT, .tup Gh.frz_at (r.mono (Gh.frz_le f1.1))⟩
theorem iter_enum {a : Addr} {ds : List DL.D} (src : Src K g σ s (.ref a) (.lst ds)) : Iter K (Ite K a) g H σ s (enumL 0 ds) := fun i g2 H2 σ2 s2 sd2 ev2 => by
  obtain ⟨b, xs, e, hx, rx⟩ := ((src.ev ev2).view sd2).lst sd2
  cases e
  refine ⟨fun hi => ⟨xs, .of hx, by rw [rx.length]; rw [enumL_length] at hi; exact hi⟩, fun d hd => ?_⟩
  obtain ⟨y, hy, rfl⟩ := enumL_get 0 ds i d hd
  obtain ⟨x, hv, rv⟩ := rx.get hy
  refine ⟨⟨xs, x, .of hx, hv⟩, fun z H3 hz => ?_⟩
  obtain ⟨T, x', rfl, hT, rfl, q⟩ := hz
  have e := q xs (.of hx)
  rw [hv] at e; cases e
  rw [Nat.zero_add]
  exact sd2.newTup hT (.cons (.int _) (.cons rv .nil))
theorem iter_zip {a b : Addr} {ds es : List DL.D} (src : Src K g σ s (.ref a) (.lst ds)) (src2 : Src K g σ s (.ref b) (.lst es)) : Iter K (Itz K a b) g H σ s (zipL ds es) := fun i g2 H2 σ2 s2 sd2 ev2 => by
  obtain ⟨a', xs, e, hx, rx⟩ := ((src.ev ev2).view sd2).lst sd2
  cases e
  obtain ⟨b', ys, e, hy, ry⟩ := ((src2.ev ev2).view sd2).lst sd2
  cases e
  refine ⟨fun hi => ⟨xs, ys, .of hx, .of hy, by rw [rx.length, ry.length]; rw [zipL_len] at hi; omega⟩, fun d hd => ?_⟩
  obtain ⟨d1, d2, h1, h2, rfl⟩ := zipL_get ds es i d hd
  obtain ⟨x, hv, rv⟩ := rx.get h1
  obtain ⟨y, hw, rw'⟩ := ry.get h2
  refine ⟨⟨xs, ys, x, y, .of hx, .of hy, hv, hw⟩, fun z H3 hz => ?_⟩
  obtain ⟨T, x', y', rfl, hT, rfl, q1, q2⟩ := hz
  have e1 := q1 xs (.of hx)
  have e2 := q2 ys (.of hy)
  rw [hv] at e1; cases e1
  rw [hw] at e2; cases e2
  exact sd2.newTup hT (.cons rv (.cons rw' .nil))
theorem iter_range {lo : Int} {n : Nat} : Iter K (Itr lo n) g H σ s (rangeL lo n) := fun i g2 H2 σ2 s2 sd2 ev2 => by
  refine ⟨fun hi => by rw [rangeL_length] at hi; exact hi, fun d hd => ?_⟩
  obtain ⟨rfl, hi⟩ := rangeL_get lo n i d hd
  refine ⟨hi, fun z H3 hz => ?_⟩
  obtain ⟨rfl, rfl⟩ := hz
  exact ⟨g2, sd2, .refl, .int _⟩
end
section
variable {body : List Stmt} {pt : Pt} {fb : M Flow} {fa : M VR} {fl : M (List VR)}
theorem ds_for (hp : PassesOwn (model X.prog X.w) X.A X.env X.xe) (hc : X.calm = true) (hi : DV X Wx e fa) (hg : DG X tg pt) (hb : DSs X Wx body fb) (hs : ∀ x, foldedSetIterable e X.env x = pure x := by intro _; rfl) :
    DS X Wx (.For tg e body [] pos) (dFor itS pt fb (dOne fa)) := ⟨fun pins s σ H D I h => (ps_for hp hc (pi_seq hi) hg hb hs).run pins s σ H D I (by
  obtain ⟨g, s, c⟩ := h.start
  have c : CurS X.K Wx D g H σ s ((fa >>= fun x => (fun rs => dHold rs (dItems itS (dForL pt fb))) [x]) s) g H σ s := by
    refine ⟨c.ev, c.sd, ?_⟩
    have p := c.post
    unfold dFor dOne at p
    rw [bind_eq] at p ⊢
    rw [bind_eq] at p
    cases q : fa s with
    | ok a s1 => rw [q] at p; exact p
    | err x s1 => rw [q] at p; exact p
    | bad => rw [q] at p; exact p
  refine c.bind.mono fun v H1 ⟨r, g1, s1, c1, r1, e1⟩ => ?_
  obtain ⟨g2, s2, ds, sd2, sr, p2⟩ := hold_run c1 (.cons r1 .nil fun _ _ _ _ _ hp => by simp at hp)
  obtain ⟨d, rfl, src⟩ := sr.one
  unfold dItems at p2
  cases q : itS [d] with
  | none => rw [q] at p2; exact p2.elim
  | some items =>
    rw [q] at p2
    unfold itS at q
    split at q
    · rename_i ds hd
      cases q; cases hd
      obtain ⟨a, xs, rfl, hx, _⟩ := (src.view sd2).lst sd2
      exact ⟨a, rfl, .inl ⟨⟨xs, .of hx⟩, forL_run sd2 (iter_lst src) p2⟩⟩
    · rename_i ds hd
      cases q; cases hd
      obtain ⟨a, xs, rfl, hx, _⟩ := (src.view sd2).tup sd2
      exact ⟨a, rfl, .inr ⟨⟨xs, hx⟩, forL_run sd2 (iter_tup (xs := xs) src) p2⟩⟩
    · rename_i ns hd
      cases q; cases hd
      cases e2 : (src.view sd2).sc (fun _ z => z) with
      | frl q2 => exact ⟨_, rfl, .inl ⟨⟨_, sd2.seq q2⟩, forL_run sd2 (iter_frl src) p2⟩⟩
    · cases q)⟩
theorem ds_forR1 {a : Expr} (hp : PassesOwn (model X.prog X.w) X.A X.env X.xe) (hc : X.calm = true) (hgl : Gl X "range") (hm : X.mg "range" = none) (ha : DA X Wx [a] fl) (hg : DG X tg pt) (hb : DSs X Wx body fb)
    (hst : starEach [a] X.env = [(false, eval a X.env)] := by rfl) (hs : ∀ x, foldedSetIterable (.Call (.Name "range" p) [a] [] p1) X.env x = pure x := by intro _; rfl) :
    DS X Wx (.For tg (.Call (.Name "range" p) [a] [] p1) body [] pos) (dFor itR1 pt fb fl) := ⟨fun pins s σ H D I h => (ps_for hp hc (pi_range1 hgl hm ha hst) hg hb hs).run pins s σ H D I (by
  obtain ⟨g, s, c⟩ := h.start
  refine c.bind.mono fun vs H1 ⟨rs, g1, s1, c1, r1, e1⟩ => ?_
  obtain ⟨g2, s2, ds, sd2, sr, p2⟩ := hold_run c1 r1
  unfold dItems at p2
  cases q : itR1 ds with
  | none => rw [q] at p2; exact p2.elim
  | some items =>
    rw [q] at p2
    unfold itR1 at q
    split at q
    · rename_i j
      split at q
      · rename_i hj
        cases q
        obtain ⟨v, rfl, src⟩ := sr.one'
        cases (src.view sd2).int
        obtain ⟨b1, b2⟩ := bnd62_of hj
        exact ⟨j, rfl, b1, b2, forL_run sd2 iter_range p2⟩
      · cases q
    · cases q)⟩
end
end
end DL
set_option Elab.async false
set_option linter.all false
set_option maxRecDepth 100000
set_option maxHeartbeats 1000000
namespace DL
open PySem PySem.Spec PyProof.Rows L2
structure Room (n : Nat) (A0 : Around) : Prop where
  old : L2.Room n A0
  gd : A0.guards = some []
section
variable {n m : Nat} {A0 : Around}
theorem Room.mono (q : Room m A0) (h : n ≤ m) : Room n A0 := ⟨q.old.mono h, q.gd⟩
theorem Room.deeper (q : Room (n + 1) A0) (env : Env) : Room n (A0.deeper env) := ⟨q.old.deeper env, q.gd⟩
theorem Room.in1 (q : Room (n + 1) A0) : Room n A0.in1 := ⟨q.old.in1, q.gd⟩
theorem make_guards {C : Addr} {us : List Value} {kw : List (Str × Value)} : (A0.under (.builtin "type.__call__" ⟨.ref C :: us, kw⟩)).guards = A0.guards := by
  obtain ⟨h, d, fr, gs, u⟩ := A0
  cases gs <;> simp [Around.under, pushGuards, Code.guards, Code.isGuard, guardIds]
theorem Room.make (q : Room (n + 1) A0) (C : Addr) (us : List Value) (kw : List (Str × Value)) : Room n (A0.under (.builtin "type.__call__" ⟨.ref C :: us, kw⟩)) := ⟨q.old.make C us kw, make_guards.trans q.gd⟩
theorem Room.depth (q : Room n A0) : A0.depth < recursionLimit := q.old.depth
theorem Room.units (q : Room n A0) : A0.units + 64 < cLine := q.old.units
theorem hu_of (q : Room n A0) : A0.units + 1 < cLine := L2.hu_of q.old
end
structure FnOk (prog : Program) (wd : World) (F : PySem.W.Frag) (gl : Str → Option Value) (b0 : Heap) (cx : CXT) (n : Nat) (fa : Addr) (fun_ : FuncData) (par : List Str) (pr : Sp) : Prop where
  len : ∀ xs Hx Qx Ex, pr xs Hx Qx Ex → xs.length = par.length
  run : ∀ (A0 : Around) (out : List Env) (st : Shared) (Hx : Hp) (ar : Args) (us : List Value) (xs : List V) (Qx : VK) (Ex : XK),
    Room n A0 → Env0 prog wd F gl b0 A0 out st Hx → BindsTo st fun_ ar (par.zip us) → Vals xs us → pr xs Hx Qx Ex → codeAny (model prog wd) A0 (.call (.ref fa) ar) (CR cx out prog wd Hx st Qx Ex) st
section
variable {prog : Program} {wd : World} {F : PySem.W.Frag} {gl : Str → Option Value} {b0 : Heap} {cx : CXT} {n m : Nat} {fa : Addr} {fun_ : FuncData} {par N : List Str} {pr : Sp}
theorem FnOk.mono (f : FnOk prog wd F gl b0 cx n fa fun_ par pr) (h : n ≤ m) : FnOk prog wd F gl b0 cx m fa fun_ par pr where
  len := f.len
  run := fun A0 out st Hx ar us xs Qx Ex hr => f.run A0 out st Hx ar us xs Qx Ex ⟨hr.old.mono h, hr.gd⟩
theorem fn_okG {nm qn : Str} {prm : Arguments} {bd : List Stmt} {scp : Scope} {dV kV doc pm cdv ct oc : Value} {an od : Option Addr} {osl : Array (Option Value)}
    (hl : F.lookup fa = some ⟨oc, od, .func (PySem.W.fnOf nm qn prm bd scp dV kV doc pm an cdv ct), osl⟩) (hc : PySem.W.codeIn F cdv qn = true) (sc : FnScope N par scp) (hlen : ∀ xs Hx Qx Ex, pr xs Hx Qx Ex → xs.length = par.length)
    (body : ∀ (A0 : Around) (out : List Env) (st : Shared) (Hx : Hp) (xs : List V) (Qx : VK) (Ex : XK), Room n (A0.deeper (envOfC qn scp st.heap.objs.size fa cdv)) → pr xs Hx Qx Ex →
      ∃ rd, PSs (cxOf cx prog wd F gl b0 N qn scp fa cdv A0 out st Hx Ex) bd rd ∧ rd { nx := fun _ Hy => Qx .non Hy, rt := Qx } (start N xs) Hx) :
    FnOk prog wd F gl b0 cx (n + 1) fa (PySem.W.fnOf nm qn prm bd scp dV kV doc pm an cdv ct) par pr where
  len := hlen
  run := by
    intro A0 out st Hx ar us xs Qx Ex room env binds vals want
    have lens := hlen _ _ _ _ want
    have inF : F.In st.heap := env.mod.kin.keeps fun b o z => (env.bs b o z).1
    have noLim : st.heap.NoLimit := env.mod.nolimit.keeps fun b o z => (env.bs b o z).1
    have kinds : ∀ y ∈ par.zip us, scp.names.lookup y.1 = some .local ∨ (scp.names.lookup y.1 = some .cell ∧ ((cellsFrom (st.heap.objs.size + 1) scp.names []).lookup y.1).isSome = true) := by
      rintro ⟨nn, vv⟩ hy
      cases sc.par nn (List.of_mem_zip hy).1 with
      | inl z => exact Or.inl z
      | inr z => exact Or.inr ⟨z, PySem.W.cellsFrom_some _ _ _ (Or.inl z)⟩
    refine codeAny_call_function room.depth (inF _ _ hl) rfl sc.co sc.gen rfl (PySem.W.codeRec_of inF hc) (binds _ _ _ _ (wpAny_newFunctionEnv_cells sc.kind kinds fun ev hev s1 called => ?_))
    subst hev
    obtain ⟨rd, hrd, hrun⟩ := body A0 out st Hx xs Qx Ex (room.deeper _) want
    refine ⟨noLim.keeps called.toInCall.keep, codeAny_func (wpAny_mono (hrd.run [] s1 (start N xs) Hx _ (inv_start sc room.old.hd env lens vals called) hrun) (fun fl s2 done => ?_) fun _ _ z => z)⟩
    have leave : ∀ {σ2 : L2.St} {H2 : Hp} {v2 : V} {u2 : Value}, Inv (cxOf cx prog wd F gl b0 N qn scp fa cdv A0 out st Hx Ex) [] σ2 H2 s2 → RelV v2 u2 → Qx v2 H2 → CE out prog wd Hx st Qx u2 s2 := by
      intro σ2 H2 v2 u2 J rv q
      exact ⟨v2, H2, J.os, J.bare, J.base, J.hok, rv, q⟩
    match fl, done with
    | .ret u2, ⟨_, _, _, J, rv, q⟩ => exact leave J rv q
    | .next, ⟨_, _, J, q⟩ => exact leave (v2 := V.non) (u2 := Value.none) J rfl q
    | .brk, ⟨_, _, _, q⟩ => exact q.elim
    | .cont, ⟨_, _, _, q⟩ => exact q.elim
end
theorem _root_.L2.Fun.okG {prog : Program} {wd : World} {F : PySem.W.Frag} {gl : Str → Option Value} {b0 : Heap} {nm qn : Str} {sm : Stmt} {fa : Addr} {fun_ : FuncData} {N par : List Str} {n : Nat} {pr : Sp} (f : Fun F nm qn sm fa fun_) (sc : FnScope N par (defScope sm)) (hlen : ∀ xs Hx Qx Ex, pr xs Hx Qx Ex → xs.length = par.length)
    (body : ∀ (cdv : Value) (A0 : Around) (out : List Env) (st : Shared) (Hx : Hp) (xs : List V) (Qx : VK) (Ex : XK), Room n (A0.deeper (envOfC qn (defScope sm) st.heap.objs.size fa cdv)) → pr xs Hx Qx Ex →
      ∃ rd, PSs (cxOf (L2.CX prog wd) prog wd F gl b0 N qn (defScope sm) fa cdv A0 out st Hx Ex) (defBody sm) rd ∧ rd { nx := fun _ Hy => Qx .non Hy, rt := Qx } (start N xs) Hx) : FnOk prog wd F gl b0 (L2.CX prog wd) (n + 1) fa fun_ par pr := by
  obtain ⟨_, _, _, _, _, _, cdv, _, _, rfl, hl, hc⟩ := f.ex
  exact fn_okG hl hc sc hlen (body cdv)
section
variable {X : Cx} {cx : CXT} {n : Nat} {fa : Addr} {fun_ : FuncData} {par : List Str} {pr : Sp} {dxs : List V} {dus : List Value} {Ex : L2.St → XK} {nm : Str} {p pos : Pos} {e : Expr} {es : List Expr} {t : TA}
theorem run_fnSD {pins : List (Addr × Obj)} {σ : L2.St} {H : Hp} {st : Shared} {Q : VK} {us : List Value} {xs : List V} (f : FnOk X.prog X.w X.K X.mg X.base cx n fa fun_ par pr) (room : Room n X.A) (hb : Binds X.K fun_ par dus) (hd : Vals dxs dus) (hx : PassesAt cx X σ (Ex σ))
    (I : Inv X pins σ H st) (rv : Vals xs us) (want : pr (xs ++ dxs) H Q (Ex σ)) : wpAny (model X.prog X.w) X.A (call (.ref fa) us) (EP X pins σ Q) X.xe st := by
  have all := rv.append hd
  have hl : (us ++ dus).length = par.length := all.length.symm.trans (f.len _ _ _ _ want)
  refine wpAny_call (codeAny_mono (f.run X.A X.stack st H ⟨us, []⟩ _ _ Q (Ex σ) room I.env0 (hb st us I.kIn hl) all want) fun res s2 out => ?_)
  match res, out with
  | .error er, out => exact hx pins H st er s2 I out
  | .ok (.ret u2), out => exact I.after out
  | .ok .next, out => exact out.elim
  | .ok .brk, out => exact out.elim
  | .ok .cont, out => exact out.elim
theorem pe_callSD (f : FnOk X.prog X.w X.K X.mg X.base cx n fa fun_ par pr) (room : Room n X.A) (hg : Gl X nm) (hm : X.mg nm = some (.ref fa)) (hk : PySem.W.keepIn X.K (.ref fa) = true) (hb : Binds X.K fun_ par dus) (hd : Vals dxs dus) (hx : ∀ σ, PassesAt cx X σ (Ex σ))
    (ha : PA X (e :: es) t) (hdb : (nm == ("__debug__" : Str)) = false := by decide) (he : starEach (e :: es) X.env = (false, eval e X.env) :: starEach es X.env := by rfl) (hpl : (backTo pos (starEach es X.env)).any (·.1) = false := by rfl) :
    PE X (.Call (.Name nm p) (e :: es) [] pos) (tCallSD pr dxs Ex t) where
  run := fun pins st σ H Q I want => wpAny_Call_Name_kw (ld_glob I hg hm (PySem.W.callWith_K (h₀ := X.base) I.ok.mod.kin hk (thn (ha.run pos pins st σ H _ I want) fun us s1 ⟨xs, H1, I1, rv, q⟩ => ⟨I1.kIn, run_fnSD f room hb hd (hx σ) I1 rv q⟩) he hpl) hdb)
theorem pe_prop {C pa : Addr} {ta : TE} {E1 : XK} (he : PE X e ta) (c : Cls X.K C) (hp : PropOf X.K C nm pa fa) (f : FnOk X.prog X.w X.K X.mg X.base cx n fa fun_ par pr) (room : Room (n + 1) X.A) (hb : Binds X.K fun_ par dus) (hd : Vals dxs dus) (hx : Passes cx X.nox E1)
    (hab : attributeBase e nm X.env (eval e X.env) = eval e X.env) : PE X (.Attribute e nm pos) (tProp C pr dxs E1 ta) where
  run := fun pins st σ H Q I want => attr_of hab (thn (he.run pins st σ H _ I want) fun u s1 ⟨x, H1, I1, rx, a, dx, fs, ex, ea, q⟩ => by
    subst ex
    obtain rfl : u = Value.ref a := rx
    obtain ⟨mA, O, _⟩ := ins_get I1.hok ea
    obtain ⟨od, J, _⟩ := O.look
    obtain ⟨rest, hrec⟩ := hp.rec_
    have I2 := I1.tok (s1.toks + 1)
    have all : Vals (V.ref a :: dxs) (Value.ref a :: dus) := .cons rfl hd
    have hl : ([Value.ref a] ++ dus).length = par.length := all.length.symm.trans (f.len _ _ _ _ q)
    have isC : (PySem.W.clsIn X.K C).isSome = true := by
      obtain ⟨_, z, _⟩ := PySem.W.any_some c.hd
      rw [z]; rfl
    have ran := f.run X.A.in1 X.stack { s1 with toks := s1.toks + 1 } H1 ⟨[.ref a], []⟩ _ _ Q E1 room.in1 I2.env0.in1 (hb _ [.ref a] I2.kIn hl) all q
    refine PySem.W.get_bind I1.kIn J (PySem.W.plainGet_of (c.get nm)).1 (PySem.W.findObj_data isC hp.at_ hp.get hp.tak) (PySem.W.plainGet_of (c.get nm)).2 (wpAny_call (PySem.W.prop_get (s := { s1 with toks := s1.toks + 1 }) I1.kIn hrec (codeAny_mono ran fun res s2 out => ?_)))
    match res, out with
    | .error er, out => exact (hx pins σ H1 { s1 with toks := s1.toks + 1 } er s2 (I2.wish _) out).elim
    | .ok (.ret u2), out =>
      obtain ⟨v2, H2, I3, r3, q3⟩ := I2.after out
      show wpAny _ _ (handedOut u2) _ _ _
      rw [PySem.W.handedOut_of (handed_of r3)]
      exact wpAny_pure ⟨v2, H2, I3, r3, q3⟩
    | .ok .next, out => exact out.elim
    | .ok .brk, out => exact out.elim
    | .ok .cont, out => exact out.elim)
end
end DL
set_option Elab.async false
set_option linter.all false
set_option maxRecDepth 100000
set_option maxHeartbeats 1000000
namespace DL
open PySem PySem.Spec PyProof.Rows L2
def spF (K : PySem.W.Frag) (ps N : List Str) (b : M Flow) : Sp := fun vs H Q E => vs.length = ps.length ∧ tS K (fun cls d _ H' => E cls d H') b { nx := fun _ H' => Q .non H', rt := Q } (L2.start N vs) H
inductive AM where
  | F | L | R
def holdS (i : Nat) : M HS := fun s => match s.env[i]? with
  | some (some (.fz d)) => .ok (.d d) s
  | some (some _) => .ok (.slot i) s
  | _ => .bad
def toHM : AM → VR → M HS
  | .F, r => frz r >>= fun d => pure (.d d)
  | _, .t t => frz (.t t) >>= fun d => pure (.d d)
  | _, .slot i => holdS i
def toHMs : List AM → List VR → M (List HS)
  | m :: ms, r :: rs => toHM m r >>= fun h => toHMs ms rs >>= fun hs => pure (h :: hs)
  | [], [] => pure []
  | _, _ => M.bad
def entW : AM → W → W
  | _, .fz d => .fz d
  | .L, .own d => .lent d
  | .L, .lent d => .lent d
  | _, w => .lkl w.data
def ent1 : AM → HS → State → Option W
  | _, .d d, _ => some (.fz d)
  | m, .slot i, s => match s.env[i]? with
    | some (some w) => some (entW m w)
    | _ => none
def ents : List AM → List HS → State → Option (List W)
  | m :: ms, h :: hs, s => match ent1 m h s, ents ms hs s with
    | some w, some ws => some (w :: ws)
    | _, _ => none
  | [], [], _ => some []
  | _, _, _ => none
def noSlot (i : Nat) : List HS → Bool
  | [] => true
  | .d _ :: hs => noSlot i hs
  | .slot j :: hs => j != i && noSlot i hs
def oneEach : List HS → Bool
  | [] => true
  | .d _ :: hs => oneEach hs
  | .slot j :: hs => noSlot j hs && oneEach hs
def back1 (h : HS) (w : W) (c : Option W) (e : List (Option W)) : Option (List (Option W)) := match h, w with
  | .slot i, .lent _ => (match c with
    | some (.lent d) => (match e[i]? with
      | some (some (.own _)) => some (e.set i (some (.own d)))
      | some (some (.lent _)) => some (e.set i (some (.lent d)))
      | _ => none)
    | _ => none)
  | _, _ => some e
def backs : List HS → List W → List (Option W) → List (Option W) → Option (List (Option W))
  | h :: hs, w :: ws, c :: ce, e => (match back1 h w c e with
    | some e1 => backs hs ws ce e1
    | none => none)
  | [], [], _, e => some e
  | _, _, _, _ => none
def backS (hs : List HS) (ws : List W) (s sc : State) : Option State := match backs hs ws sc.env s.env with
  | some e => some { env := e, sto := sc.sto, dr := sc.dr }
  | none => none
def callR (hs : List HS) (ws : List W) (s : State) : Rs Flow → Rs T
  | .ok (.rt t) sc => (match backS hs ws s sc with | some s' => .ok t s' | none => .bad)
  | .ok .nx sc => (match backS hs ws s sc with | some s' => .ok (.fz .non) s' | none => .bad)
  | .ok _ _ => .bad
  | .err x sc => (match backS hs ws s sc with | some s' => .err x s' | none => .bad)
  | .bad => .bad
def pass2 (n : Nat) (ms : List AM) (dw : List D) (b : M Flow) (hs : List HS) : M T := fun s => match ents ms hs s with
  | some ws => if oneEach hs = true then callR hs ws s (b { env := (ws ++ dw.map W.fz).map some ++ List.replicate (n - (ws.length + dw.length)) none, sto := s.sto, dr := s.dr }) else .bad
  | none => .bad
def dPass (n : Nat) (ms : List AM) (dw : List D) (b : M Flow) (rs : List VR) : M T := toHMs ms rs >>= pass2 n ms dw b
def dCall (n : Nat) (ms : List AM) (dw : List D) (b : M Flow) (fl : M (List VR)) : M T := fl >>= dPass n ms dw b
section
variable {K : PySem.W.Frag} {g g' g0 : Gh} {H H' H0 : Hp} {σ σ' σ0 : Slots} {s s' s0 : State}
theorem toHM_run {m : AM} {r : VR} {h : HS} {v : V} (e : toHM m r s = .ok h s') (e0 : Ev g0 H0 σ0 s0 g H σ s) (sd : SD K g H σ s) (x : RVR K σ H0 g H s v r) :
    ∃ g', SD K g' H σ s' ∧ Ev g0 H0 σ0 s0 g' H σ s' ∧ RH K g' σ v h ∧ (∀ v' r', RVR K σ H0 g H s v' r' → (∀ a d d2, r' = .t (.ow d) → v' = .ref a → r = .t (.ow d2) → v ≠ .ref a) → RVR K σ H0 g' H s' v' r') ∧ Le g g' := by
  have viaF : (frz r >>= fun d => pure (HS.d d)) s = .ok h s' → ∃ g', SD K g' H σ s' ∧ Ev g0 H0 σ0 s0 g' H σ s' ∧ RH K g' σ v h ∧ (∀ v' r', RVR K σ H0 g H s v' r' → (∀ a d d2, r' = .t (.ow d) → v' = .ref a → r = .t (.ow d2) → v ≠ .ref a) → RVR K σ H0 g' H s' v' r') ∧ Le g g' := fun e => by
    rw [bind_eq] at e
    cases q : frz r s with
    | bad => rw [q] at e; cases e
    | err x s1 => rw [q] at e; cases e
    | ok d s1 =>
      rw [q] at e
      cases e
      exact frz_run q e0 sd x
  have viaS : ∀ i, r = .slot i → holdS i s = .ok h s' → ∃ g', SD K g' H σ s' ∧ Ev g0 H0 σ0 s0 g' H σ s' ∧ RH K g' σ v h ∧ (∀ v' r', RVR K σ H0 g H s v' r' → (∀ a d d2, r' = .t (.ow d) → v' = .ref a → r = .t (.ow d2) → v ≠ .ref a) → RVR K σ H0 g' H s' v' r') ∧ Le g g' := fun i er eS => by
    subst er
    clear viaF e
    have e := eS
    clear eS
    unfold holdS at e
    split at e
    · rename_i d hd
      cases e
      obtain ⟨v', ev, wa⟩ := sd.slot i _ hd
      have x : σ[i]? = some (some v) := x
      rw [x] at ev; cases ev
      exact ⟨g, sd, e0, wa, fun _ _ z _ => z, .refl g⟩
    · cases e
      exact ⟨g, sd, e0, x, fun _ _ z _ => z, .refl g⟩
    · cases e
  cases m with
  | F => exact viaF e
  | L =>
    cases r with
    | slot i => exact viaS i rfl e
    | t t => exact viaF e
  | R =>
    cases r with
    | slot i => exact viaS i rfl e
    | t t => exact viaF e
theorem toHMs_run : ∀ {ms : List AM} {rs : List VR} {vs : List V} {hs : List HS} {s s' : State} {g : Gh}, toHMs ms rs s = .ok hs s' → Ev g0 H0 σ0 s0 g H σ s → SD K g H σ s → RVRs K σ H0 g H s vs rs →
    ∃ g', SD K g' H σ s' ∧ Ev g0 H0 σ0 s0 g' H σ s' ∧ RHs K g' σ vs hs ∧ Le g g'
  | [], [], _, _, _, _, g, e, e0, sd, h => by
    cases h
    cases e
    exact ⟨g, sd, e0, .nil, .refl g⟩
  | [], _ :: _, _, _, _, _, g, e, e0, sd, h => by cases e
  | _ :: _, [], _, _, _, _, g, e, e0, sd, h => by cases e
  | m :: ms, r :: rs, _, hs, s, s', g, e, e0, sd, .cons (v := v) (vs := vs) a b c => by
    unfold toHMs at e
    rw [bind_eq] at e
    cases q1 : toHM m r s with
    | bad => rw [q1] at e; cases e
    | err x s2 => rw [q1] at e; cases e
    | ok h1 s1 =>
      rw [q1] at e
      have e : (toHMs ms rs >>= fun hs => pure (h1 :: hs)) s1 = .ok hs s' := e
      rw [bind_eq] at e
      obtain ⟨g1, sd1, e1, rp, tr, le1⟩ := toHM_run q1 e0 sd a
      have h3 : ∀ {us : List V} {ts : List VR}, RVRs K σ H0 g H s us ts → (∀ p ∈ us.zip ts, p ∈ vs.zip rs) → RVRs K σ H0 g1 H s1 us ts := by
        intro us ts hh
        induction hh with
        | nil => exact fun _ => .nil
        | cons a' b' c' ih =>
          intro hm
          exact .cons (tr _ _ a' fun b' d' d2 e1 e2 e3 => fun e4 => c b' d2 e3 e4 _ (hm _ List.mem_cons_self) d' e1 e2) (ih fun p hp => hm p (List.mem_cons_of_mem _ hp)) c'
      cases q2 : toHMs ms rs s1 with
      | bad => rw [q2] at e; cases e
      | err x s2 => rw [q2] at e; cases e
      | ok hs2 s2 =>
        rw [q2] at e
        cases e
        obtain ⟨g2, sd2, e2, rp2, le2⟩ := toHMs_run q2 e1 sd1 (h3 b fun _ h => h)
        exact ⟨g2, sd2, e2, .cons (rp.le le2) rp2, le1.trans le2⟩
theorem toHMs_len : ∀ {ms : List AM} {rs : List VR} {s s' : State} {hs : List HS}, toHMs ms rs s = .ok hs s' → ms.length = rs.length
  | [], [], _, _, _, _ => rfl
  | [], _ :: _, _, _, _, e => by cases e
  | _ :: _, [], _, _, _, e => by cases e
  | m :: ms, r :: rs, s, s', hs, e => by
    unfold toHMs at e
    rw [bind_eq] at e
    cases q1 : toHM m r s with
    | bad => rw [q1] at e; cases e
    | err x s2 => rw [q1] at e; cases e
    | ok h1 s1 =>
      rw [q1] at e
      have e : (toHMs ms rs >>= fun hs => pure (h1 :: hs)) s1 = .ok hs s' := e
      rw [bind_eq] at e
      cases q2 : toHMs ms rs s1 with
      | bad => rw [q2] at e; cases e
      | err x s2 => rw [q2] at e; cases e
      | ok hs2 s2 => rw [List.length_cons, List.length_cons, toHMs_len q2]
theorem toHM_res (m : AM) (r : VR) (s : State) : (∃ d s', toHM m r s = .ok d s') ∨ toHM m r s = .bad := by
  have viaF : (∃ d s', (frz r >>= fun d => pure (HS.d d)) s = .ok d s') ∨ (frz r >>= fun d => pure (HS.d d)) s = .bad := by
    rw [bind_eq]
    rcases frz_res r s with ⟨d, s', e⟩ | e <;> rw [e]
    · exact .inl ⟨_, _, rfl⟩
    · exact .inr rfl
  have viaS : ∀ i, (∃ d s', holdS i s = .ok d s') ∨ holdS i s = .bad := fun i => by
    unfold holdS
    split
    · exact .inl ⟨_, _, rfl⟩
    · exact .inl ⟨_, _, rfl⟩
    · exact .inr rfl
  cases m with
  | F => exact viaF
  | L =>
    cases r with
    | slot i => exact viaS i
    | t t => exact viaF
  | R =>
    cases r with
    | slot i => exact viaS i
    | t t => exact viaF
theorem toHMs_res : ∀ (ms : List AM) (rs : List VR) (s : State), (∃ d s', toHMs ms rs s = .ok d s') ∨ toHMs ms rs s = .bad
  | [], [], s => .inl ⟨[], s, rfl⟩
  | [], _ :: _, s => .inr rfl
  | _ :: _, [], s => .inr rfl
  | m :: ms, r :: rs, s => by
    unfold toHMs
    rw [bind_eq]
    rcases toHM_res m r s with ⟨h, s1, e⟩ | e
    · rw [e]
      show (∃ d' s', (toHMs ms rs >>= fun ds => pure (h :: ds)) s1 = .ok d' s') ∨ (toHMs ms rs >>= fun ds => pure (h :: ds)) s1 = .bad
      rw [bind_eq]
      rcases toHMs_res ms rs s1 with ⟨ds, s2, e2⟩ | e2
      · rw [e2]; exact .inl ⟨_, _, rfl⟩
      · rw [e2]; exact .inr rfl
    · rw [e]; exact .inr rfl
theorem ents_at : ∀ {ms : List AM} {hs : List HS} {ws : List W} {vs : List V}, ents ms hs s = some ws → RHs K g σ vs hs → ∀ (j : Nat) (w : W), ws[j]? = some w →
    ∃ v, vs[j]? = some v ∧ ((∃ d, w = .fz d ∧ Rep K g v d) ∨ ∃ (i : Nat) (m : AM) (u : W), hs[j]? = some (.slot i) ∧ s.env[i]? = some (some u) ∧ w = entW m u ∧ σ[i]? = some (some v))
  | [], [], _, _, e, _, j, w, hj => by cases e; simp at hj
  | [], _ :: _, _, _, e, _, j, w, hj => by cases e
  | _ :: _, [], _, _, e, _, j, w, hj => by cases e
  | m :: ms, h :: hs, ws, _, e, .cons (v := v) (vs := vs) a b, j, w, hj => by
    unfold ents at e
    cases e1 : ent1 m h s with
    | none => simp only [e1] at e; cases e
    | some w1 =>
      cases e2 : ents ms hs s with
      | none => simp only [e1, e2] at e; cases e
      | some ws2 =>
        simp only [e1, e2] at e
        cases e
        cases j with
        | zero =>
          have hj : some w1 = some w := hj
          cases hj
          refine ⟨v, rfl, ?_⟩
          cases h with
          | d d => unfold ent1 at e1; cases e1; exact .inl ⟨d, rfl, a⟩
          | slot i =>
            have e1 : (match s.env[i]? with | some (some w) => some (entW m w) | _ => none) = some w := by cases m <;> exact e1
            split at e1
            · rename_i u hu
              cases e1
              exact .inr ⟨i, _, u, rfl, hu, rfl, a⟩
            · cases e1
        | succ j => exact ents_at e2 b j w hj
theorem ents_length : ∀ {ms : List AM} {hs : List HS} {ws : List W}, ents ms hs s = some ws → ws.length = hs.length
  | [], [], _, e => by cases e; rfl
  | [], _ :: _, _, e => by cases e
  | _ :: _, [], _, e => by cases e
  | m :: ms, h :: hs, ws, e => by
    unfold ents at e
    cases e1 : ent1 m h s with
    | none => simp only [e1] at e; cases e
    | some w1 =>
      cases e2 : ents ms hs s with
      | none => simp only [e1, e2] at e; cases e
      | some ws2 =>
        simp only [e1, e2] at e
        cases e
        rw [List.length_cons, List.length_cons, ents_length e2]
theorem RHs.length : ∀ {vs : List V} {hs : List HS}, RHs K g σ vs hs → vs.length = hs.length
  | _, _, .nil => rfl
  | _, _, .cons _ b => by rw [List.length_cons, List.length_cons, RHs.length b]
theorem noSlot_get : ∀ {hs : List HS} {i j k : Nat}, noSlot i hs = true → hs[j]? = some (.slot k) → k ≠ i
  | [], _, _, _, _, h => by simp at h
  | .d _ :: hs, i, 0, k, e, h => by cases h
  | .d _ :: hs, i, j + 1, k, e, h => noSlot_get (hs := hs) (show noSlot i hs = true from e) h
  | .slot l :: hs, i, 0, k, e, h => by
    have h : some (HS.slot l) = some (.slot k) := h
    cases h
    have e : (l != i && noSlot i hs) = true := e
    rw [Bool.and_eq_true] at e
    simpa using e.1
  | .slot l :: hs, i, j + 1, k, e, h => by
    have e : (l != i && noSlot i hs) = true := e
    rw [Bool.and_eq_true] at e
    exact noSlot_get e.2 h
theorem oneEach_inj : ∀ {hs : List HS} {j k i : Nat}, oneEach hs = true → hs[j]? = some (.slot i) → hs[k]? = some (.slot i) → j = k
  | [], _, _, _, _, h, _ => by simp at h
  | .d _ :: hs, 0, _, _, e, h, _ => by cases h
  | .d _ :: hs, j + 1, 0, _, e, _, h => by cases h
  | .d _ :: hs, j + 1, k + 1, _, e, h1, h2 => by rw [oneEach_inj (hs := hs) (show oneEach hs = true from e) h1 h2]
  | .slot l :: hs, 0, 0, _, e, _, _ => rfl
  | .slot l :: hs, 0, k + 1, i, e, h1, h2 => by
    have h : some (HS.slot l) = some (.slot i) := h1
    cases h
    have e : (noSlot l hs && oneEach hs) = true := e
    rw [Bool.and_eq_true] at e
    exact absurd rfl (noSlot_get e.1 h2)
  | .slot l :: hs, j + 1, 0, i, e, h1, h2 => by
    have h : some (HS.slot l) = some (.slot i) := h2
    cases h
    have e : (noSlot l hs && oneEach hs) = true := e
    rw [Bool.and_eq_true] at e
    exact absurd rfl (noSlot_get e.1 h1)
  | .slot l :: hs, j + 1, k + 1, i, e, h1, h2 => by
    have e : (noSlot l hs && oneEach hs) = true := e
    rw [Bool.and_eq_true] at e
    rw [oneEach_inj e.2 h1 h2]
def inS (n : Nat) (ws : List W) (dw : List D) (s : State) : State := { env := (ws ++ dw.map W.fz).map some ++ List.replicate (n - (ws.length + dw.length)) none, sto := s.sto, dr := s.dr }
theorem inS_get {n : Nat} {ws : List W} {dw : List D} {j : Nat} {w : W} (h : (inS n ws dw s).env[j]? = some (some w)) : ws[j]? = some w ∨ ∃ d, w = .fz d ∧ ws.length ≤ j ∧ dw[j - ws.length]? = some d := by
  have h : ((ws ++ dw.map W.fz).map some ++ List.replicate (n - (ws.length + dw.length)) none)[j]? = some (some w) := h
  rw [List.getElem?_append] at h
  split at h
  · rw [List.getElem?_map, List.getElem?_append] at h
    split at h
    · cases q : ws[j]? with
      | none => rw [q] at h; cases h
      | some u => rw [q] at h; cases h; exact .inl rfl
    · rename_i hj
      rw [List.getElem?_map] at h
      cases q : dw[j - ws.length]? with
      | none => rw [q] at h; cases h
      | some u => rw [q] at h; cases h; exact .inr ⟨u, rfl, by omega, rfl⟩
  · rw [List.getElem?_replicate] at h
    split at h <;> cases h
theorem start_at {N : List Str} {vs : List V} {j : Nat} {v : V} (h : vs[j]? = some v) : (L2.start N vs)[j]? = some (some v) := by
  unfold L2.start
  have hl := (List.getElem?_eq_some_iff.mp h).1
  rw [List.getElem?_append_left (by rw [List.length_map]; exact hl), List.getElem?_map, h]
  rfl
theorem start_len {N : List Str} {vs : List V} : (L2.start N vs).length = vs.length + (N.length - vs.length) := by
  unfold L2.start
  rw [List.length_append, List.length_map, List.length_replicate]
theorem ents_held {ms : List AM} {hs : List HS} {ws : List W} {vs : List V} (e : ents ms hs s = some ws) (r : RHs K g σ vs hs) {j : Nat} {w : W} (hj : ws[j]? = some w) (hw : w.held = true) :
    ∃ (i : Nat) (m : AM) (u : W) (v : V), vs[j]? = some v ∧ hs[j]? = some (.slot i) ∧ s.env[i]? = some (some u) ∧ w = entW m u ∧ σ[i]? = some (some v) ∧ u.held = true := by
  obtain ⟨v, hv, h⟩ := ents_at e r j w hj
  rcases h with ⟨d, rfl, _⟩ | ⟨i, m, u, h1, h2, rfl, h4⟩
  · cases hw
  · refine ⟨i, m, u, v, hv, h1, h2, rfl, h4, ?_⟩
    cases u <;> first | rfl | (cases m <;> cases hw)
theorem SD.enter {ms : List AM} {hs : List HS} {ws : List W} {vs dvs : List V} {dw : List D} {N : List Str} (sd : SD K g H σ s) (e : ents ms hs s = some ws) (o : oneEach hs = true) (r : RHs K g σ vs hs) (hd : Reps K g dvs dw) :
    SD K g H (L2.start N (vs ++ dvs)) (inS N.length ws dw s) := by
  have hl : ws.length = vs.length := (ents_length e).trans r.length.symm
  have dl := hd.length
  refine ⟨sd.gh, ?_, fun j w hj => ?_, fun j k w u a hj hk hw hu xj xk => ?_, sd.stl, sd.sto, sd.nd, sd.ng, sd.dr⟩
  · rw [start_len]
    show ((ws ++ dw.map W.fz).map some ++ List.replicate (N.length - (ws.length + dw.length)) none).length = _
    simp only [List.length_append, List.length_map, List.length_replicate]
    omega
  · rcases inS_get hj with hj | ⟨d, rfl, h1, h2⟩
    · obtain ⟨v, hv, h⟩ := ents_at e r j w hj
      have hlt := (List.getElem?_eq_some_iff.mp hv).1
      refine ⟨v, start_at (by rw [List.getElem?_append_left hlt]; exact hv), ?_⟩
      rcases h with ⟨d, rfl, rp⟩ | ⟨i, m, u, _, h2, rfl, h4⟩
      · exact rp
      · obtain ⟨v', ev, wa⟩ := sd.slot i u h2
        rw [h4] at ev; cases ev
        cases u with
        | fz d => cases m <;> exact wa
        | own d =>
          obtain ⟨a, ob, ea, f, q, oa⟩ := wa
          cases m
          · exact ⟨a, ob, ea, f, .inl q, oa⟩
          · exact ⟨a, ob, ea, f, q, oa⟩
          · exact ⟨a, ob, ea, f, .inl q, oa⟩
        | lent d =>
          obtain ⟨a, ob, ea, f, q, oa⟩ := wa
          cases m
          · exact ⟨a, ob, ea, f, .inl q, oa⟩
          · exact ⟨a, ob, ea, f, q, oa⟩
          · exact ⟨a, ob, ea, f, .inl q, oa⟩
        | lk d => cases m <;> exact wa
        | lkl d => cases m <;> exact wa
    · obtain ⟨v, hv, rp⟩ := hd.get h2
      refine ⟨v, start_at (by rw [List.getElem?_append_right (by omega), ← hl]; exact hv), rp⟩
  · have low : ∀ {l : Nat} {z : W}, (inS N.length ws dw s).env[l]? = some (some z) → z.held = true → ws[l]? = some z := fun {l z} h hz => by
      rcases inS_get h with h | ⟨d, rfl, _⟩
      · exact h
      · cases hz
    obtain ⟨i1, m1, u1, v1, a1, b1, c1, _, e1, f1⟩ := ents_held e r (low hj hw) hw
    obtain ⟨i2, m2, u2, v2, a2, b2, c2, _, e2, f2⟩ := ents_held e r (low hk hu) hu
    rw [start_at (by rw [List.getElem?_append_left (List.getElem?_eq_some_iff.mp a1).1]; exact a1)] at xj
    rw [start_at (by rw [List.getElem?_append_left (List.getElem?_eq_some_iff.mp a2).1]; exact a2)] at xk
    cases xj; cases xk
    have := sd.inj i1 i2 u1 u2 a c1 c2 f1 f2 e1 e2
    subst this
    exact oneEach_inj o b1 b2
def BkAt (hs : List HS) (ws : List W) (ce e e' : List (Option W)) (i : Nat) : Prop :=
  ((∀ (j : Nat) (d : D), hs[j]? = some (.slot i) → ws[j]? = some (.lent d) → False) ∧ e'[i]? = e[i]?) ∨
  ∃ (j : Nat) (d0 d d1 : D), hs[j]? = some (.slot i) ∧ ws[j]? = some (.lent d0) ∧ ce[j]? = some (some (.lent d)) ∧ ((e[i]? = some (some (.own d1)) ∧ e'[i]? = some (some (.own d))) ∨ (e[i]? = some (some (.lent d1)) ∧ e'[i]? = some (some (.lent d))))
theorem BkAt.skip {h : HS} {w : W} {c : Option W} {hs : List HS} {ws : List W} {ce e e' : List (Option W)} {i : Nat} (n : ∀ d, h = .slot i → w = .lent d → False) (x : BkAt hs ws ce e e' i) : BkAt (h :: hs) (w :: ws) (c :: ce) e e' i := by
  rcases x with ⟨x, q⟩ | ⟨j, d0, d, d1, h1, h2, h3, h4⟩
  · refine .inl ⟨fun j d h1 h2 => ?_, q⟩
    cases j with
    | zero => exact n d (by simpa using h1) (by simpa using h2)
    | succ j => exact x j d h1 h2
  · exact .inr ⟨j + 1, d0, d, d1, h1, h2, h3, h4⟩
theorem BkAt.head {h : HS} {w : W} {c : Option W} {hs : List HS} {ws : List W} {ce e e' : List (Option W)} {i l : Nat} {dw dn d1 : D} {k : D → W} (hk : k = W.own ∨ k = W.lent) (o : noSlot l hs = true) (hh : h = .slot l) (hw : w = .lent dw) (hc : c = some (.lent dn)) (el : e[l]? = some (some (k d1)))
    (x : BkAt hs ws ce (e.set l (some (k dn))) e' i) : BkAt (h :: hs) (w :: ws) (c :: ce) e e' i := by
  subst hh hw hc
  have ll : l < e.length := (List.getElem?_eq_some_iff.mp el).1
  by_cases z : i = l
  · subst z
    rcases x with ⟨_, q⟩ | ⟨j, d0, d, d1, h1, _⟩
    · rw [List.getElem?_set_self ll] at q
      rcases hk with rfl | rfl
      · exact .inr ⟨0, dw, dn, d1, rfl, rfl, rfl, .inl ⟨el, q⟩⟩
      · exact .inr ⟨0, dw, dn, d1, rfl, rfl, rfl, .inr ⟨el, q⟩⟩
    · exact absurd rfl (noSlot_get o h1)
  · refine BkAt.skip (fun d h1 _ => z (by cases h1; rfl)) ?_
    unfold BkAt at x ⊢
    rw [List.getElem?_set_ne (Ne.symm z)] at x
    exact x
theorem back1_at {h : HS} {w : W} {c : Option W} {e e1 : List (Option W)} (q : back1 h w c e = some e1) :
    (∃ (l : Nat) (dw dn d1 : D) (k : D → W), (k = W.own ∨ k = W.lent) ∧ h = .slot l ∧ w = .lent dw ∧ c = some (.lent dn) ∧ e[l]? = some (some (k d1)) ∧ e1 = e.set l (some (k dn))) ∨ (e1 = e ∧ ∀ i d, h = .slot i → w = .lent d → False) := by
  unfold back1 at q
  split at q
  · rename_i i dw
    split at q
    · rename_i dn
      split at q
      · rename_i d1 h1
        cases q
        exact .inl ⟨i, dw, dn, d1, W.own, .inl rfl, rfl, rfl, rfl, h1, rfl⟩
      · rename_i d1 h1
        cases q
        exact .inl ⟨i, dw, dn, d1, W.lent, .inr rfl, rfl, rfl, rfl, h1, rfl⟩
      · cases q
    · cases q
  · rename_i n
    cases q
    exact .inr ⟨rfl, fun i d h1 h2 => n i d h1 h2⟩
theorem oneEach_tail {h : HS} {hs : List HS} (o : oneEach (h :: hs) = true) : oneEach hs = true := by
  cases h with
  | d d => exact o
  | slot l =>
    have o : (noSlot l hs && oneEach hs) = true := o
    rw [Bool.and_eq_true] at o
    exact o.2
theorem backs_at : ∀ {hs : List HS} {ws : List W} {ce e e' : List (Option W)}, backs hs ws ce e = some e' → oneEach hs = true → e'.length = e.length ∧ ∀ i, BkAt hs ws ce e e' i
  | [], [], ce, e, e', h, o => by
    unfold backs at h
    cases h
    exact ⟨rfl, fun i => .inl ⟨fun j d h => by simp at h, rfl⟩⟩
  | h :: hs, w :: ws, c :: ce, e, e', q, o => by
    unfold backs at q
    cases q1 : back1 h w c e with
    | none => simp only [q1] at q; cases q
    | some e1 =>
      simp only [q1] at q
      obtain ⟨l1, x1⟩ := backs_at q (oneEach_tail o)
      rcases back1_at q1 with ⟨l, dw, dn, d1, k, hk, rfl, rfl, rfl, el, rfl⟩ | ⟨rfl, n⟩
      · have o : (noSlot l hs && oneEach hs) = true := o
        rw [Bool.and_eq_true] at o
        exact ⟨by rw [l1, List.length_set], fun i => BkAt.head hk o.1 rfl rfl rfl el (x1 i)⟩
      · exact ⟨l1, fun i => BkAt.skip (n i) (x1 i)⟩
  | [], _ :: _, _, _, _, h, _ => by cases h
  | _ :: _, [], _, _, _, h, _ => by cases h
  | _ :: _, _ :: _, [], _, _, h, _ => by cases h
theorem BkAt.kinds {hs : List HS} {ws : List W} {ce e e' : List (Option W)} {i : Nat} (x : BkAt hs ws ce e e' i) {w : W} (h : e'[i]? = some (some w)) : ∃ u, e[i]? = some (some u) ∧ u.held = w.held ∧ u.mut = w.mut ∧ ((∃ d, w = .own d) ↔ ∃ d, u = .own d) ∧ ((∃ d, w = .lk d) ↔ ∃ d, u = .lk d) := by
  rcases x with ⟨_, q⟩ | ⟨j, d0, d, d1, _, _, _, ⟨e1, e2⟩ | ⟨e1, e2⟩⟩
  · rw [q] at h
    exact ⟨w, h, rfl, rfl, .rfl, .rfl⟩
  · rw [e2] at h; cases h
    exact ⟨_, e1, rfl, rfl, Iff.intro (fun _ => ⟨_, rfl⟩) (fun _ => ⟨_, rfl⟩), Iff.intro (fun z => by obtain ⟨_, z⟩ := z; cases z) (fun z => by obtain ⟨_, z⟩ := z; cases z)⟩
  · rw [e2] at h; cases h
    exact ⟨_, e1, rfl, rfl, Iff.intro (fun z => by obtain ⟨_, z⟩ := z; cases z) (fun z => by obtain ⟨_, z⟩ := z; cases z), Iff.intro (fun z => by obtain ⟨_, z⟩ := z; cases z) (fun z => by obtain ⟨_, z⟩ := z; cases z)⟩
theorem entW_mut {m : AM} {u : W} (h : (entW m u).mut = true) : u.mut = true ∧ ∃ d, entW m u = .lent d := by
  cases u with
  | fz d => cases m <;> cases h
  | own d =>
    cases m with
    | F => cases h
    | R => cases h
    | L => exact ⟨rfl, d, rfl⟩
  | lent d =>
    cases m with
    | F => cases h
    | R => cases h
    | L => exact ⟨rfl, d, rfl⟩
  | lk d => cases m <;> cases h
  | lkl d => cases m <;> cases h
theorem SD.leave {ms : List AM} {hs : List HS} {ws : List W} {vs dvs : List V} {dw : List D} {N : List Str} {sc s2 : State} (sd : SD K g H σ s) (e : ents ms hs s = some ws) (o : oneEach hs = true) (r : RHs K g σ vs hs) (hd : Reps K g dvs dw)
    (sdc : SD K g' H' σ' sc) (ev : Ev g H (L2.start N (vs ++ dvs)) (inS N.length ws dw s) g' H' σ' sc) (b : backS hs ws s sc = some s2) :
    SD K g' H' σ s2 ∧ Ev g H σ s g' H' σ s2 ∧ (∀ a, ¬ OwnA (L2.start N (vs ++ dvs)) (inS N.length ws dw s) a) ∧ ∀ a, Hd σ s2 a → Hd σ s a := by
  have sdin := sd.enter (N := N) e o r hd
  unfold backS at b
  cases q : backs hs ws sc.env s.env with
  | none => rw [q] at b; cases b
  | some e' =>
    rw [q] at b
    cases b
    obtain ⟨el, bk⟩ := backs_at q o
    -- what the callee may change, the caller may
    have low : ∀ {l : Nat} {z : W}, (inS N.length ws dw s).env[l]? = some (some z) → z.held = true → ws[l]? = some z := fun {l z} h hz => by
      rcases inS_get h with h | ⟨d, rfl, _⟩
      · exact h
      · cases hz
    have muIn : ∀ a, Mu g (L2.start N (vs ++ dvs)) (inS N.length ws dw s) a → (∃ (i j : Nat) (d : D) (u : W), hs[j]? = some (.slot i) ∧ ws[j]? = some (.lent d) ∧ s.env[i]? = some (some u) ∧ u.mut = true ∧ σ[i]? = some (some (.ref a))) ∨ a ∈ g.η ∨ IsDr g a := fun a m => by
      rcases m with ⟨j, w, ej, mj, x⟩ | m
      · have hw : w.held = true := by cases w <;> first | rfl | cases mj
        obtain ⟨i, m, u, v, a1, a2, a3, rfl, a5, _⟩ := ents_held e r (low ej hw) hw
        obtain ⟨um, d, ed⟩ := entW_mut mj
        rw [start_at (by rw [List.getElem?_append_left (List.getElem?_eq_some_iff.mp a1).1]; exact a1)] at x
        cases x
        exact .inl ⟨i, j, d, u, a2, by rw [low ej hw, ed], a3, um, a5⟩
      · exact .inr m
    have muUp : ∀ a, Mu g (L2.start N (vs ++ dvs)) (inS N.length ws dw s) a → Mu g σ s a := fun a m => by
      rcases muIn a m with ⟨i, j, d, u, _, _, h1, h2, h3⟩ | m
      · exact .inl ⟨i, u, h1, h2, h3⟩
      · exact .inr m
    have hdUp : ∀ a, Hd σ { env := e', sto := sc.sto, dr := sc.dr } a → Hd σ s a := fun a ⟨i, w, h1, h2, h3⟩ => by
      obtain ⟨u, k1, k2, _⟩ := (bk i).kinds h1
      exact ⟨i, u, k1, k2.trans h2, h3⟩
    have noOwn : ∀ a, ¬ OwnA (L2.start N (vs ++ dvs)) (inS N.length ws dw s) a := fun a ⟨j, d, h, x⟩ => by
      have key : ∀ w : W, (w = .own d ∨ w = .lk d) → (inS N.length ws dw s).env[j]? = some (some w) → False := fun w hw h => by
        have hh : w.held = true := by rcases hw with rfl | rfl <;> rfl
        obtain ⟨i, m, u, v, a1, a2, a3, a4, a5, a6⟩ := ents_held e r (low h hh) hh
        cases u <;> cases m <;> rcases hw with rfl | rfl <;> cases a4
      rcases h with h | h
      · exact key _ (.inl rfl) h
      · exact key _ (.inr rfl) h
    refine ⟨⟨sdc.gh, el.trans sd.len, fun i w hi => ?_, fun i j w u a h1 h2 h3 h4 h5 h6 => ?_, sdc.stl, sdc.sto, sdc.nd, sdc.ng, sdc.dr⟩,
      ⟨ev.le, fun a ob h nm => ev.keep a ob h fun m => nm (muUp a m), ev.live, fun a l z => (ev.frz a l z).imp id (Or.imp (muUp a) id), ev.eta, fun a m => ?_, fun a m => .inl (hdUp a m), fun a m => ?_, fun i d h => ?_, fun i d h => ?_, fun i d h => ?_⟩, noOwn, hdUp⟩
    · rcases bk i with ⟨n, q1⟩ | ⟨j, d0, d, d1, h1, h2, h3, h4⟩
      · -- not lent: as it was
        have hi : e'[i]? = some (some w) := hi
        rw [q1] at hi
        obtain ⟨v, ev', wa⟩ := sd.slot i w hi
        have nm : ∀ b, v = .ref b → w.held = true → Free1 g b → ¬ Mu g (L2.start N (vs ++ dvs)) (inS N.length ws dw s) b := fun b eb hw f m => by
          rcases muIn b m with ⟨i2, j2, d2, u2, k1, k2, k3, k4, k5⟩ | m
          · have hu2 : u2.held = true := by cases u2 <;> first | rfl | cases k4
            have := sd.inj i i2 w u2 b hi k3 hw hu2 (by rw [ev', eb]) k5
            subst this
            exact n j2 d2 k1 k2
          · rcases m with m | m
            · exact f.2.1 m
            · exact f.2.2 m
        have nt : ∀ b, v = .ref b → w.held = true → ¬ IsTup H b := fun b eb hw => wa.noTup hw eb
        have fr : ∀ b, v = .ref b → w.held = true → H b ≠ none → Free1 g b → Free1 g' b := fun b eb hw lv f => by
          refine ⟨?_, fun z => f.2.1 (ev.eta b lv z), fun z => f.2.2 (z.eq ev.le.dr)⟩
          cases q : g'.G b with
          | none => rfl
          | some ob => exact ((ev.frz b lv (by rw [q]; simp)).elim (fun z => z f.1) fun z => z.elim (nm b eb hw f) (nt b eb hw)).elim
        refine ⟨v, ev', ?_⟩
        have free : w.held = true → ∀ b, v = .ref b → Free1 g b := fun hw b eb => by
          cases w with
          | fz d => cases hw
          | own d => obtain ⟨c, _, ec, f, _⟩ := wa; rw [ec] at eb; cases eb; exact f
          | lent d => obtain ⟨c, _, ec, f, _⟩ := wa; rw [ec] at eb; cases eb; exact f
          | lk d => obtain ⟨c, _, ec, f, _⟩ := wa; rw [ec] at eb; cases eb; exact f
          | lkl d => obtain ⟨c, _, ec, f, _⟩ := wa; rw [ec] at eb; cases eb; exact f
        refine wa.keep ev.le (fun b u eb hw h => ev.keep b u h (nm b eb hw (free hw b eb))) fun b eb hw f => fr b eb hw (sd.hdLive ⟨i, w, hi, hw, by rw [ev', eb]⟩) f
      · -- lent: what the callee left
        have hin : (inS N.length ws dw s).env[j]? = some (some (.lent d0)) := by
          have hl := (List.getElem?_eq_some_iff.mp h2).1
          show ((ws ++ dw.map W.fz).map some ++ List.replicate (N.length - (ws.length + dw.length)) none)[j]? = _
          rw [List.getElem?_append_left (by rw [List.length_map, List.length_append]; omega), List.getElem?_map, List.getElem?_append_left hl, h2]
          rfl
        obtain ⟨i', m, u, v, a1, a2, a3, a4, a5, a6⟩ := ents_held e r h2 rfl
        have : i' = i := by rw [h1] at a2; cases a2; rfl
        subst this
        obtain ⟨f1, _⟩ := ev.fix j d0 hin
        obtain ⟨v', ev', wa⟩ := sdc.slot j _ h3
        rw [f1, start_at (by rw [List.getElem?_append_left (List.getElem?_eq_some_iff.mp a1).1]; exact a1)] at ev'
        cases ev'
        refine ⟨v, a5, ?_⟩
        have hi : e'[i']? = some (some w) := hi
        rcases h4 with ⟨_, h4⟩ | ⟨_, h4⟩
        · rw [h4] at hi; cases hi; exact wa
        · rw [h4] at hi; cases hi; exact wa
    · obtain ⟨w', k1, k2, _⟩ := (bk i).kinds h1
      obtain ⟨u', k3, k4, _⟩ := (bk j).kinds h2
      exact sd.inj i j w' u' a k1 k3 (k2.trans h3) (k4.trans h4) h5 h6
    · rcases m with ⟨i, w, h1, h2, h3⟩ | m
      · obtain ⟨u, k1, _, k3, _⟩ := (bk i).kinds h1
        exact .inl (.inl ⟨i, u, k1, k3.trans h2, h3⟩)
      · rcases ev.mu a (.inr m) with z | z
        · exact .inl (muUp a z)
        · exact .inr z
    · obtain ⟨i, d, h1, h3⟩ := m
      rcases h1 with h1 | h1
      · obtain ⟨u, k1, _, _, k4, _⟩ := (bk i).kinds h1
        obtain ⟨d', rfl⟩ := k4.mp ⟨_, rfl⟩
        exact .inl ⟨i, d', .inl k1, h3⟩
      · obtain ⟨u, k1, _, _, _, k5⟩ := (bk i).kinds h1
        obtain ⟨d', rfl⟩ := k5.mp ⟨_, rfl⟩
        exact .inl ⟨i, d', .inr k1, h3⟩
    · refine ⟨rfl, ?_⟩
      rcases bk i with ⟨_, q1⟩ | ⟨j, d0, d2, d1, _, _, _, ⟨e1, e2⟩ | ⟨e1, e2⟩⟩
      · exact ⟨d, .inl (q1.trans h)⟩
      · rw [e1] at h; cases h
      · exact ⟨d2, .inl e2⟩
    · refine ⟨rfl, ?_⟩
      rcases bk i with ⟨_, q1⟩ | ⟨j, d0, d2, d1, _, _, _, ⟨e1, e2⟩ | ⟨e1, e2⟩⟩
      · exact q1.trans h
      · rw [e1] at h; cases h
      · rw [e1] at h; cases h
    · refine ⟨rfl, ?_⟩
      rcases bk i with ⟨_, q1⟩ | ⟨j, d0, d2, d1, _, _, _, ⟨e1, e2⟩ | ⟨e1, e2⟩⟩
      · exact q1.trans h
      · rw [e1] at h; cases h
      · rw [e1] at h; cases h
variable {Wx : WX} {R : Gh → Hp → State → V → T → Prop} {Q : V → Hp → Prop}
theorem pass2_run {ms : List AM} {dw : List D} {b : M Flow} {hs : List HS} {vs dvs : List V} {ps N : List Str} {R : Gh → Hp → State → V → T → Prop} (c : Cur K Wx σ R Q g0 H0 s0 (pass2 N.length ms dw b hs s) g H s) (rh : RHs K g σ vs hs) (hd : ∀ g, Reps K g dvs dw)
    (hn : hs.length + dw.length = ps.length) (hR : ∀ g' H' s' v t, Ev g H σ s g' H' σ s' → RT K H g' H' σ s' v t → R g' H' s' v t) : spF K ps N b (vs ++ dvs) H Q (fun cls d H' => Wx cls d σ H') := by
  refine ⟨by rw [List.length_append, rh.length, (hd g).length]; exact hn, ?_⟩
  have p := c.post
  unfold pass2 at p
  cases q : ents ms hs s with
  | none => simp only [q] at p; exact p.elim
  | some ws =>
    simp only [q] at p
    by_cases ho : oneEach hs = true
    · rw [if_pos ho] at p
      refine ⟨g, inS N.length ws dw s, c.sd.enter q ho rh (hd g), ?_⟩
      have p : Post K Wx σ R Q g0 H0 s0 (callR hs ws s (b (inS N.length ws dw s))) := p
      cases q2 : b (inS N.length ws dw s) with
      | bad => rw [q2] at p; exact p
      | err x sc =>
        rw [q2] at p
        unfold callR at p
        cases q3 : backS hs ws s sc with
        | none => simp only [q3] at p; exact p.elim
        | some s2 =>
          simp only [q3] at p
          intro cls d σ' g' H' sdc ev er
          obtain ⟨k1, k2, _⟩ := c.sd.leave q ho rh (hd g) sdc ev q3
          exact p cls d g' H' k1 (c.ev.trans k2) er
      | ok fl sc =>
        rw [q2] at p
        cases fl with
        | bk => exact p.elim
        | ct => exact p.elim
        | nx =>
          unfold callR at p
          cases q3 : backS hs ws s sc with
          | none => simp only [q3] at p; exact p.elim
          | some s2 =>
            simp only [q3] at p
            intro σ' g' H' sdc ev
            obtain ⟨k1, k2, _⟩ := c.sd.leave q ho rh (hd g) sdc ev q3
            exact p .non g' H' k1 (c.ev.trans k2) (hR _ _ _ _ _ k2 ⟨.non, fun _ _ z => nomatch z⟩)
        | rt t =>
          unfold callR at p
          cases q3 : backS hs ws s sc with
          | none => simp only [q3] at p; exact p.elim
          | some s2 =>
            simp only [q3] at p
            intro v σ' g' H' sdc ev rr
            obtain ⟨k1, k2, k3, k4⟩ := c.sd.leave q ho rh (hd g) sdc ev q3
            refine p v g' H' k1 (c.ev.trans k2) (hR _ _ _ _ _ k2 ⟨rr.at_, fun d a h1 h2 => ?_⟩)
            have hn : H a = none := ((rr.new d a h1 h2).1).elim id fun z => (k3 a z).elim
            exact ⟨hn, fun z => c.sd.hdLive (k4 a z) hn⟩
    · rw [if_neg ho] at p; exact p.elim
theorem pass_run {ms : List AM} {dw : List D} {b : M Flow} {rs : List VR} {vs dvs : List V} {ps N : List Str} (c : Cur K Wx σ (fun g H s v t => RT K H0 g H σ s v t) Q g0 H0 s0 (dPass N.length ms dw b rs s) g H s) (r : RVRs K σ H0 g H s vs rs) (hd : ∀ g, Reps K g dvs dw)
    (hn : ms.length + dw.length = ps.length) : spF K ps N b (vs ++ dvs) H Q (fun cls d H' => Wx cls d σ H') := by
  have p := c.post
  unfold dPass at p
  rw [bind_eq] at p
  rcases toHMs_res ms rs s with ⟨hs, s1, e⟩ | e
  · rw [e] at p
    obtain ⟨g1, sd1, e1, rh, le⟩ := toHMs_run e c.ev c.sd r
    exact pass2_run ⟨e1, sd1, p⟩ rh hd (by rw [← rh.length, r.length, ← toHMs_len e]; exact hn) fun g' H' s' v t ev rt => rt.past e1.live
  · rw [e] at p; exact p.elim
end
section
variable {X : Cx} {Wx : WX} {k : Nat} {f : Addr} {fd : FuncData} {ps N : List Str} {b : M Flow} {dvs : List V} {ds : List Value} {dw : List D} {x : Str} {p pos : Pos} {e : Expr} {es : List Expr} {fl : M (List VR)} {ms : List AM}
theorem de_call (F : FnOk X.prog X.w X.K X.mg X.base (L2.CX X.prog X.w) k f fd ps (spF X.K ps N b)) {n : Nat} (hl : N.length = n) (hr : Room k X.A) (hm : X.mg x = some (.ref f)) (hk : PySem.W.keepIn X.K (.ref f) = true) (hb : Binds X.K fd ps ds) (hd : Vals dvs ds) (hw : ∀ g, Reps X.K g dvs dw) (tk : Takes X Wx)
    (hn : ms.length + dw.length = ps.length) (ha : DA X Wx (e :: es) fl) (hg : Gl X x := by rfl) (hdb : (x == ("__debug__" : Str)) = false := by decide) (he : starEach (e :: es) X.env = (false, eval e X.env) :: starEach es X.env := by rfl) (hpl : (backTo pos (starEach es X.env)).any (·.1) = false := by rfl) :
    DE X Wx (.Call (.Name x p) (e :: es) [] pos) (dCall n ms dw b fl) := by
  subst hl
  exact ⟨fun pins s σ H Q I h => (pe_callSD F hr hg hm hk hb hd (fun σ => passAt tk σ) ha hdb he hpl).run pins s σ H Q I (by
  obtain ⟨g, s, c⟩ := h.start
  refine c.bind.mono fun vs H1 ⟨rs, g1, s1, c1, r1, e1⟩ => ?_
  exact pass_run c1 r1 hw hn)⟩
end
end DL
set_option Elab.async false
set_option linter.all false
set_option maxRecDepth 100000
set_option maxHeartbeats 1000000
namespace DL
open PySem PySem.Spec PyProof.Rows L2
abbrev WF : WX := fun _ _ _ _ => False
structure Bd (X : Cx) (Wx : WX) (k : Nat) : Prop where
  calm : X.calm = true
  room : Room k X.A
  tk : Takes X Wx
  own : PassesOwn (model X.prog X.w) X.A X.env X.xe
  nd : X.N.Nodup
theorem Bd.blk {X : Cx} {Wx : WX} {k : Nat} (b : Bd X Wx k) {s : Shared} {H : Hp} {scope : Scope} {ce : Env} {fp : List Addr} : Bd (X.blk s H scope ce fp) WF k :=
  ⟨b.calm, b.room, fun u s' x => by obtain ⟨_, _, _, _, _, _, _, _, _, _, _, _, _, _, _, _, z⟩ := x; exact z.elim, PassesOwn.never, b.nd⟩
def wipeE (e : List (Option W)) : List Nat → List (Option W)
  | [] => e
  | v :: vs => (wipeE e vs).set v none
def wipeS (vs : List Nat) (s : State) : State := { s with env := wipeE s.env vs }
def fzAt (e : List (Option W)) : List Nat → Bool
  | [] => true
  | v :: vs => (match e[v]? with
    | some none => true
    | some (some (.fz _)) => true
    | _ => false) && fzAt e vs
def restoreE (e0 e : List (Option W)) : List Nat → List (Option W)
  | [] => e
  | v :: vs => (restoreE e0 e vs).set v (match e0[v]? with | some x => x | none => none)
def restoreS (vs : List Nat) (s0 s : State) : State := { s with env := restoreE s0.env s.env vs }
theorem wipeE_length (e : List (Option W)) : ∀ vs, (wipeE e vs).length = e.length
  | [] => rfl
  | v :: vs => by unfold wipeE; rw [List.length_set, wipeE_length e vs]
theorem wipeE_some {e : List (Option W)} {i : Nat} {w : W} : ∀ {vs : List Nat}, (wipeE e vs)[i]? = some (some w) → e[i]? = some (some w) ∧ i ∉ vs
  | [], h => ⟨h, by simp⟩
  | v :: vs, h => by
    unfold wipeE at h
    by_cases z : v = i
    · subst z
      by_cases hl : v < (wipeE e vs).length
      · rw [List.getElem?_set_self hl] at h; cases h
      · rw [List.getElem?_eq_none (by rw [List.length_set]; omega)] at h; cases h
    · rw [List.getElem?_set_ne z] at h
      obtain ⟨h1, h2⟩ := wipeE_some h
      exact ⟨h1, fun m => by rcases List.mem_cons.mp m with m | m <;> first | exact z m.symm | exact h2 m⟩
theorem wipeE_out {e : List (Option W)} {i : Nat} : ∀ {vs : List Nat}, i ∉ vs → (wipeE e vs)[i]? = e[i]?
  | [], _ => rfl
  | v :: vs, h => by
    unfold wipeE
    rw [List.getElem?_set_ne fun z => h (by rw [z]; exact List.mem_cons_self), wipeE_out fun m => h (List.mem_cons_of_mem _ m)]
theorem restoreE_length (e0 e : List (Option W)) : ∀ vs, (restoreE e0 e vs).length = e.length
  | [] => rfl
  | v :: vs => by unfold restoreE; rw [List.length_set, restoreE_length e0 e vs]
theorem restoreE_out {e0 e : List (Option W)} {i : Nat} : ∀ {vs : List Nat}, i ∉ vs → (restoreE e0 e vs)[i]? = e[i]?
  | [], _ => rfl
  | v :: vs, h => by
    unfold restoreE
    rw [List.getElem?_set_ne fun z => h (by rw [z]; exact List.mem_cons_self), restoreE_out fun m => h (List.mem_cons_of_mem _ m)]
theorem restoreE_in {e0 e : List (Option W)} {i : Nat} {w : W} : ∀ {vs : List Nat}, i ∈ vs → (restoreE e0 e vs)[i]? = some (some w) → e0[i]? = some (some w)
  | v :: vs, h, q => by
    unfold restoreE at q
    by_cases z : v = i
    · subst z
      by_cases hl : v < (restoreE e0 e vs).length
      · rw [List.getElem?_set_self hl] at q
        cases q1 : e0[v]? with
        | none => rw [q1] at q; cases q
        | some x => rw [q1] at q; exact q
      · rw [List.getElem?_eq_none (by rw [List.length_set]; omega)] at q; cases q
    · rw [List.getElem?_set_ne z] at q
      rcases List.mem_cons.mp h with h | h
      · exact absurd h.symm z
      · exact restoreE_in h q
theorem fzAt_get {e : List (Option W)} {i : Nat} {w : W} : ∀ {vs : List Nat}, fzAt e vs = true → i ∈ vs → e[i]? = some (some w) → ∃ d, w = .fz d
  | v :: vs, h, m, q => by
    unfold fzAt at h
    rw [Bool.and_eq_true] at h
    rcases List.mem_cons.mp m with m | m
    · subst m
      rw [q] at h
      cases w with
      | fz d => exact ⟨d, rfl⟩
      | _ => cases h.1
    · exact fzAt_get h.2 m q
theorem wipe_at {σ : Slots} {i : Nat} : ∀ {vs : List Nat}, i ∉ vs → (wipe σ vs)[i]? = σ[i]? := fun h => wipe_out h
theorem wipe_upto {σ σ' : Slots} : ∀ {L vs : List Nat}, Upto L σ σ' → (∀ i ∈ L, i ∈ vs) → wipe σ' vs = wipe σ vs := fun {L vs} u h => by
  refine List.ext_getElem? fun i => ?_
  by_cases m : i ∈ vs
  · -- wiped in both
    have key : ∀ τ : Slots, (wipe τ vs)[i]? = if i < τ.length then some none else none := fun τ => by
      by_cases hl : i < τ.length
      · rw [if_pos hl]
        have hl2 : i < (wipe τ vs).length := by rw [wipe_length]; exact hl
        cases q : (wipe τ vs)[i]? with
        | none => rw [List.getElem?_eq_getElem hl2] at q; cases q
        | some x =>
          cases x with
          | none => rfl
          | some v => exact absurd m (wipe_some q).2
      · rw [if_neg hl, List.getElem?_eq_none (by rw [wipe_length]; omega)]
    rw [key, key, u.1]
  · rw [wipe_at m, wipe_at m, u.2 i fun z => m (h i z)]
section
variable {K : PySem.W.Frag} {g g' g0 : Gh} {H H' H0 : Hp} {σ σ' σ0 : Slots} {s s' s0 : State} {vs : List Nat} {Dd : Addr}
theorem SD.wipe (sd : SD K g H σ s) : SD K g H (L2.wipe σ vs) (wipeS vs s) where
  gh := sd.gh
  len := by show (wipeE s.env vs).length = _; rw [wipeE_length, wipe_length]; exact sd.len
  slot := fun i w e => by
    obtain ⟨e1, n⟩ := wipeE_some (show (wipeE s.env vs)[i]? = _ from e)
    obtain ⟨v, ev, wa⟩ := sd.slot i w e1
    exact ⟨v, by rw [wipe_at n]; exact ev, wa⟩
  inj := fun i j w u a e1 e2 h1 h2 x1 x2 => sd.inj i j w u a (wipeE_some (show (wipeE s.env vs)[i]? = _ from e1)).1 (wipeE_some (show (wipeE s.env vs)[j]? = _ from e2)).1 h1 h2 (wipe_some x1).1 (wipe_some x2).1
  stl := sd.stl
  sto := sd.sto
  nd := sd.nd
  ng := sd.ng
  dr := sd.dr
theorem Hd.wipe {a : Addr} (h : Hd (L2.wipe σ vs) (wipeS vs s) a) : Hd σ s a := by
  obtain ⟨i, w, e, hw, x⟩ := h
  exact ⟨i, w, (wipeE_some (show (wipeE s.env vs)[i]? = _ from e)).1, hw, (wipe_some x).1⟩
theorem Mu.wipe {a : Addr} (h : Mu g (L2.wipe σ vs) (wipeS vs s) a) : Mu g σ s a := by
  rcases h with ⟨i, w, e, m, x⟩ | h
  · exact .inl ⟨i, w, (wipeE_some (show (wipeE s.env vs)[i]? = _ from e)).1, m, (wipe_some x).1⟩
  · exact .inr h
theorem OwnA.wipe {a : Addr} (h : OwnA (L2.wipe σ vs) (wipeS vs s) a) : OwnA σ s a := by
  obtain ⟨i, d, e, x⟩ := h
  exact ⟨i, d, e.imp (fun e => (wipeE_some (show (wipeE s.env vs)[i]? = _ from e)).1) (fun e => (wipeE_some (show (wipeE s.env vs)[i]? = _ from e)).1), (wipe_some x).1⟩
theorem Ev.wipe (e : Ev g0 H0 σ0 s0 g H σ s) (n : ∀ i ∈ vs, ∀ w, s0.env[i]? = some (some w) → ∃ d, w = .fz d) : Ev g0 H0 σ0 s0 g H (L2.wipe σ vs) (wipeS vs s) where
  le := e.le
  keep := e.keep
  live := e.live
  frz := e.frz
  eta := e.eta
  mu := fun a m => e.mu a m.wipe
  hd := fun a m => e.hd a m.wipe
  ow := fun a m => e.ow a m.wipe
  fix := fun i d h => by
    have ni : i ∉ vs := fun m => by obtain ⟨d, z⟩ := n i m _ h; cases z
    obtain ⟨h1, d', h2⟩ := e.fix i d h
    refine ⟨by rw [wipe_at ni]; exact h1, d', ?_⟩
    show (wipeE s.env vs)[i]? = _ ∨ (wipeE s.env vs)[i]? = _
    rw [wipeE_out ni]; exact h2
  lk := fun i d h => by
    have ni : i ∉ vs := fun m => by obtain ⟨d, z⟩ := n i m _ h; cases z
    obtain ⟨h1, h2⟩ := e.lk i d h
    refine ⟨by rw [wipe_at ni]; exact h1, ?_⟩
    show (wipeE s.env vs)[i]? = _
    rw [wipeE_out ni]; exact h2
  lkl := fun i d h => by
    have ni : i ∉ vs := fun m => by obtain ⟨d, z⟩ := n i m _ h; cases z
    obtain ⟨h1, h2⟩ := e.lkl i d h
    refine ⟨by rw [wipe_at ni]; exact h1, ?_⟩
    show (wipeE s.env vs)[i]? = _
    rw [wipeE_out ni]; exact h2
theorem SD.restore (sd : SD K g H σ s) (z : fzAt s.env vs = true) (sd' : SD K g' H' (L2.wipe σ vs) s') (e : Ev g H σ s g' H' (L2.wipe σ vs) s') : SD K g' H' σ (restoreS vs s s') ∧ Ev g H σ s g' H' σ (restoreS vs s s') ∧ ∀ a, Hd σ (restoreS vs s s') a → Hd (L2.wipe σ vs) s' a := by
  have low : ∀ {i : Nat} {w : W}, (restoreE s.env s'.env vs)[i]? = some (some w) → w.held = true → s'.env[i]? = some (some w) ∧ i ∉ vs := fun {i w} h hw => by
    by_cases m : i ∈ vs
    · obtain ⟨d, rfl⟩ := fzAt_get z m (restoreE_in m h)
      cases hw
    · rw [restoreE_out m] at h
      exact ⟨h, m⟩
  have hdl : ∀ a, Hd σ (restoreS vs s s') a → Hd (L2.wipe σ vs) s' a := fun a ⟨i, w, h, hw, x⟩ => by
    obtain ⟨h1, n⟩ := low h hw
    exact ⟨i, w, h1, hw, by rw [wipe_at n]; exact x⟩
  have mul : ∀ a, Mu g' σ (restoreS vs s s') a → Mu g' (L2.wipe σ vs) s' a := fun a m => by
    rcases m with ⟨i, w, h, hw, x⟩ | m
    · obtain ⟨h1, n⟩ := low h (by cases w <;> first | rfl | cases hw)
      exact .inl ⟨i, w, h1, hw, by rw [wipe_at n]; exact x⟩
    · exact .inr m
  have owl : ∀ a, OwnA σ (restoreS vs s s') a → OwnA (L2.wipe σ vs) s' a := fun a ⟨i, d, h, x⟩ => by
    rcases h with h | h
    · obtain ⟨h1, n⟩ := low h rfl
      exact ⟨i, d, .inl h1, by rw [wipe_at n]; exact x⟩
    · obtain ⟨h1, n⟩ := low h rfl
      exact ⟨i, d, .inr h1, by rw [wipe_at n]; exact x⟩
  have out : ∀ {i : Nat} {w : W}, s.env[i]? = some (some w) → w.held = true → i ∉ vs := fun {i w} h hw m => by
    obtain ⟨d, rfl⟩ := fzAt_get z m h
    cases hw
  refine ⟨⟨sd'.gh, ?_, fun i w h => ?_, fun i j w u a h1 h2 hw hu x1 x2 => ?_, sd'.stl, sd'.sto, sd'.nd, sd'.ng, sd'.dr⟩,
    ⟨e.le, e.keep, e.live, e.frz, e.eta, fun a m => e.mu a (mul a m), fun a m => e.hd a (hdl a m), fun a m => e.ow a (owl a m), fun i d h => ?_, fun i d h => ?_, fun i d h => ?_⟩, hdl⟩
  · show (restoreE s.env s'.env vs).length = _
    rw [restoreE_length, sd'.len, wipe_length]
  · by_cases m : i ∈ vs
    · have h0 := restoreE_in m h
      obtain ⟨d, rfl⟩ := fzAt_get z m h0
      obtain ⟨v, ev, wa⟩ := sd.slot i _ h0
      exact ⟨v, ev, Rep.mono e.le wa⟩
    · have h : (restoreE s.env s'.env vs)[i]? = some (some w) := h
      rw [restoreE_out m] at h
      obtain ⟨v, ev, wa⟩ := sd'.slot i w h
      rw [wipe_at m] at ev
      exact ⟨v, ev, wa⟩
  · obtain ⟨k1, n1⟩ := low h1 hw
    obtain ⟨k2, n2⟩ := low h2 hu
    exact sd'.inj i j w u a k1 k2 hw hu (by rw [wipe_at n1]; exact x1) (by rw [wipe_at n2]; exact x2)
  · have n := out h rfl
    obtain ⟨_, d', h2⟩ := e.fix i d h
    refine ⟨rfl, d', ?_⟩
    show (restoreE s.env s'.env vs)[i]? = _ ∨ (restoreE s.env s'.env vs)[i]? = _
    rw [restoreE_out n]; exact h2
  · have n := out h rfl
    refine ⟨rfl, ?_⟩
    show (restoreE s.env s'.env vs)[i]? = _
    rw [restoreE_out n]; exact (e.lk i d h).2
  · have n := out h rfl
    refine ⟨rfl, ?_⟩
    show (restoreE s.env s'.env vs)[i]? = _
    rw [restoreE_out n]; exact (e.lkl i d h).2
theorem SD.updFree (sd : SD K g H σ s) {o : HO} (f : Free1 g Dd) (nh : ¬ Hd σ s Dd) : SD K g (upd H Dd o) σ s where
  gh := fun b u e => by
    have ne : b ≠ Dd := fun z => by subst z; rw [f.1] at e; cases e
    exact (sd.gh b u e).keep fun w q => by rw [upd_ne ne]; exact q
  len := sd.len
  slot := fun i w e => by
    obtain ⟨v, ev, wa⟩ := sd.slot i w e
    refine ⟨v, ev, wa.keep (.refl g) (fun b u eb hw q => ?_) fun _ _ _ x => x⟩
    rw [upd_ne fun z => nh ⟨i, w, e, hw, by rw [ev, eb, z]⟩]; exact q
  inj := sd.inj
  stl := sd.stl
  sto := fun i m b e1 e2 => by
    obtain ⟨u, q, m1⟩ := sd.sto i m b e1 e2
    exact ⟨u, by rw [upd_ne fun z => f.2.1 (by rw [← z]; exact List.mem_of_getElem? e2)]; exact q, m1⟩
  nd := sd.nd
  ng := sd.ng
  dr := sd.dr.map fun x l d e q => by
    obtain ⟨c, q1, q2⟩ := q.dict
    exact ⟨⟨c, by rw [upd_ne fun z => f.2.2 ⟨x, l, e, .inl z.symm⟩]; exact q1, q2⟩, by rw [upd_ne fun z => f.2.2 ⟨x, l, e, .inr z.symm⟩]; exact q.list, q.ne, q.ga, q.gl⟩
theorem Ev.updNew (e : Ev g0 H0 σ0 s0 g H σ s) {o : HO} (h : H0 Dd = none) : Ev g0 H0 σ0 s0 g (upd H Dd o) σ s where
  le := e.le
  keep := fun a u q n => by rw [upd_ne fun z => by rw [z, h] at q; cases q]; exact e.keep a u q n
  live := fun a q => by
    by_cases z : a = Dd
    · subst z; exact absurd h q
    · rw [upd_ne z]; exact e.live a q
  frz := e.frz
  eta := e.eta
  mu := e.mu
  hd := e.hd
  ow := e.ow
  fix := e.fix
  lk := e.lk
  lkl := e.lkl
theorem RT.updFree {o : HO} {d : D} (r : RT K H0 g H σ s (.ref Dd) (.ow d)) {d' : D} (ob : ObAt K g o d') : RT K H0 g (upd H Dd o) σ s (.ref Dd) (.ow d') := by
  obtain ⟨a, u, e, f, q, _⟩ := r.at_
  cases e
  exact ⟨⟨Dd, o, rfl, f, upd_same, ob⟩, fun d2 a _ ea => r.new d a rfl ea⟩
theorem RT.wipe {v : V} {t : T} (r : RT K H0 g H σ s v t) : RT K H0 g H (L2.wipe σ vs) (wipeS vs s) v t := ⟨r.at_, fun d a e1 e2 => ⟨(r.new d a e1 e2).1, fun z => (r.new d a e1 e2).2 z.wipe⟩⟩
end
def loopC (pt : Pt) (vs : List Nat) (ft : M Bool) (fe : M VR) : List D → List D → State → Rs (List D)
  | [], acc, s => .ok acc s
  | d :: ds, acc, s => match bindP pt d s with
    | none => .bad
    | some s1 => match ft s1 with
      | .ok true s2 => (match (fe >>= frz) s2 with
        | .ok y s3 => loopC pt vs ft fe ds (acc ++ [y]) (wipeS vs s3)
        | _ => .bad)
      | .ok false s2 => loopC pt vs ft fe ds acc (wipeS vs s2)
      | _ => .bad
def dLoopC (pt : Pt) (vs : List Nat) (ft : M Bool) (fe : M VR) (items : List D) : M T := fun s =>
  if fzAt s.env vs = true ∧ items.length < sizeLine then match loopC pt vs ft fe items [] (wipeS vs s) with
    | .ok acc s' => .ok (.ow (.lst acc)) (restoreS vs s s')
    | _ => .bad
  else .bad
def frzR : VR → M D
  | .slot i => fun s => match s.env[i]? with
    | some (some (.lk d)) => .ok d s
    | some (some (.lkl d)) => .ok d s
    | _ => frz (.slot i) s
  | .t t => frz (.t t)
def frzRs : List VR → M (List D)
  | [] => pure []
  | r :: rs => frzR r >>= fun d => frzRs rs >>= fun ds => pure (d :: ds)
def dComp (h : List D → Option (List D)) (pt : Pt) (vs : List Nat) (ft : M Bool) (fe : M VR) (fl : M (List VR)) : M T := fl >>= fun rs => frzRs rs >>= fun ds => match h ds with
  | some items => dLoopC pt vs ft fe items
  | none => M.bad
section
variable {K : PySem.W.Frag} {Wx : WX} {g g0 : Gh} {H H0 : Hp} {σ : Slots} {s s0 : State} {Q : V → Hp → Prop} {R : Gh → Hp → State → V → T → Prop}
theorem comp_run {pt : Pt} {vs : List Nat} {ft : M Bool} {fe : M VR} {items : List D} {J : It} (c : Cur K Wx σ (fun g H s v t => RT K H0 g H σ s v t) Q g0 H0 s0 (dLoopC pt vs ft fe items s) g H s) (it : Iter K J g H σ s items) (hv : ∀ i ∈ pt.vs, i ∈ vs) :
    ∀ D, H D = none → ∃ W : Nat → Nat → Hp → Prop, (∃ m, W 0 m (upd H D (.lst []))) ∧ ∀ i m H, W i m H →
      (J.stop i H ∧ Q (.ref D) H) ∨ (J.go i H ∧ ∃ Nx : Hp → Prop, (∀ H', Nx H' → ∃ m', m' < m ∧ W (i + 1) m' H') ∧ ∀ x H', J.yld i H x H' → tP K pt x (wipe σ vs) H' fun σ2 H2 => wipe σ2 vs = wipe σ vs ∧ tM K WF RB ft σ2 H2 fun b H3 =>
        if b = true then tV K WF fe σ2 H3 fun y H4 => ∃ acc, H4 D = some (.lst acc) ∧ acc.length < sizeLine ∧ Nx (upd H4 D (.lst (acc ++ [y]))) else Nx H3) := by
  intro D hD
  have p := c.post
  unfold dLoopC at p
  have hz : fzAt s.env vs = true ∧ items.length < sizeLine := by
    by_cases hz : fzAt s.env vs = true ∧ items.length < sizeLine
    · exact hz
    · rw [if_neg hz] at p; exact p.elim
  rw [if_pos hz] at p
  obtain ⟨hz, hlen⟩ := hz
  cases q : loopC pt vs ft fe items [] (wipeS vs s) with
  | bad => rw [q] at p; exact p.elim
  | err x s1 => rw [q] at p; exact p.elim
  | ok accF sF =>
    rw [q] at p
    have n0 : ∀ i ∈ vs, ∀ w, s.env[i]? = some (some w) → ∃ d, w = .fz d := fun i m w h => fzAt_get hz m h
    have f1 := c.sd.free1 hD
    refine ⟨fun i m H' => m = items.length - i ∧ i ≤ items.length ∧ ∃ g' s' accD, SD K g' H' (wipe σ vs) s' ∧ Ev g H σ s g' H' (wipe σ vs) s' ∧ RT K H g' H' (wipe σ vs) s' (.ref D) (.ow (.lst accD)) ∧ accD.length ≤ i ∧ loopC pt vs ft fe (items.drop i) accD s' = .ok accF sF,
      ⟨items.length, by simp, Nat.zero_le _, g, wipeS vs s, [], (c.sd.alloc hD).wipe, (c.sd.allocEv hD).wipe n0, ⟨⟨D, _, rfl, f1, upd_same, ⟨[], rfl, .nil⟩⟩, fun d a _ e => by cases e; exact ⟨hD, fun z => c.sd.noHd hD z.wipe⟩⟩, Nat.le_refl _, q⟩, ?_⟩
    rintro i m H1 ⟨rfl, hi, g1, s1, accD, sd1, ev1, rt1, hl1, lq⟩
    obtain ⟨stop, go⟩ := it i g1 H1 (wipe σ vs) s1 sd1 ev1
    by_cases hlt : i < items.length
    · have e : items[i]? = some items[i] := List.getElem?_eq_getElem hlt
      obtain ⟨go1, go2⟩ := go _ e
      refine .inr ⟨go1, fun H' => i + 1 ≤ items.length ∧ ∃ g' s' accD, SD K g' H' (wipe σ vs) s' ∧ Ev g H σ s g' H' (wipe σ vs) s' ∧ RT K H g' H' (wipe σ vs) s' (.ref D) (.ow (.lst accD)) ∧ accD.length ≤ i + 1 ∧ loopC pt vs ft fe (items.drop (i + 1)) accD s' = .ok accF sF,
        fun H' z => ⟨items.length - (i + 1), by omega, rfl, z.1, z.2⟩, fun x H3 hy => ?_⟩
      obtain ⟨g3, sd3, ev3, rp3⟩ := go2 x H3 hy
      rw [List.drop_eq_getElem_cons hlt] at lq
      unfold loopC at lq
      cases q1 : bindP pt items[i] s1 with
      | none => simp only [q1] at lq; cases lq
      | some s2 =>
        simp only [q1] at lq
        refine ⟨g3, s1, items[i], sd3, rp3, s2, q1, fun σ4 u4 sd4 ev4 => ?_⟩
        have wq : wipe σ4 vs = wipe σ vs := by
          have z := wipe_upto (vs := vs) u4 hv
          rw [z]
          refine List.ext_getElem? fun j => ?_
          rw [wipe_upto (vs := vs) (L := vs) (show Upto vs σ (wipe σ vs) from ⟨wipe_length .., fun i h => wipe_out h⟩) fun _ h => h]
        refine ⟨wq, g3, s2, sd4, ?_⟩
        have rt4 := (rt1.ev ev3).ev ev4
        have evA := ev1.trans (ev3.trans ev4)
        cases q2 : ft s2 with
        | bad => simp only [q2] at lq; cases lq
        | err y s5 => simp only [q2] at lq; cases lq
        | ok b s5 =>
          simp only [q2] at lq
          intro b' g5 H5 sd5 ev5 hb
          have hb : b' = b := hb
          subst hb
          have rt5 := rt4.ev ev5
          have evB := evA.trans ev5
          cases b' with
          | false =>
            rw [if_neg Bool.false_ne_true]
            simp only at lq
            exact ⟨hlt, g5, wipeS vs s5, accD, wq ▸ sd5.wipe, wq ▸ evB.wipe n0, wq ▸ rt5.wipe, Nat.le_succ_of_le hl1, lq⟩
          | true =>
            rw [if_pos rfl]
            simp only at lq
            refine ⟨g5, s5, sd5, ?_⟩
            rw [bind_eq] at lq
            cases q3 : fe s5 with
            | bad => rw [q3] at lq; simp only at lq; cases lq
            | err y s6 => rw [q3] at lq; simp only at lq; cases lq
            | ok r s6 =>
              rw [q3] at lq
              simp only at lq
              intro y g6 H6 sd6 ev6 rv
              have rt6 := rt5.ev ev6
              rcases frz_res r s6 with ⟨d, s7, q4⟩ | q4
              · rw [q4] at lq
                simp only at lq
                have lv5 : ∀ a, H a ≠ none → H5 a ≠ none := evB.live
                obtain ⟨g7, sd7, ev7, rp7, tr7, le7⟩ := frz_run q4 (evB.trans ev6) sd6 (RVR.past (H0 := H) (H1 := H5) lv5 rv)
                obtain ⟨a5, o5, ea5, _, h5, _⟩ := rt5.at_
                cases ea5
                have rt7 : RT K H g7 H6 σ4 s7 (.ref D) (.ow (.lst accD)) := tr7 (.ref D) (.t (.ow (.lst accD))) rt6 fun a d' d2 _ ea er ey => by
                  cases ea
                  subst er
                  have z := (RT.new (show RT K H5 g6 H6 σ4 s6 y (.ow d2) from rv) d2 D rfl ey).1
                  rw [h5] at z; cases z
                obtain ⟨a7, o7, ea7, f7, h7, xs, rfl, rx⟩ := rt7.at_
                cases ea7
                have nh7 := (rt7.new _ D rfl rfl).2
                refine ⟨xs, h7, by rw [rx.length]; omega, hlt, g7, wipeS vs s7, accD ++ [d], wq ▸ (sd7.updFree f7 nh7).wipe, wq ▸ (ev7.updNew hD).wipe n0, wq ▸ (RT.updFree (d' := .lst (accD ++ [d])) rt7 (show ObAt K g7 (.lst (xs ++ [y])) (.lst (accD ++ [d])) from ⟨_, rfl, rx.append (.one rp7)⟩)).wipe, by rw [List.length_append]; simpa using Nat.succ_le_succ hl1, lq⟩
              · rw [q4] at lq; simp only at lq; cases lq
    · have e : i = items.length := by omega
      subst e
      rw [List.drop_length] at lq
      unfold loopC at lq
      cases lq
      refine .inl ⟨stop (Nat.le_refl _), ?_⟩
      obtain ⟨k1, k2, k3⟩ := SD.restore c.sd hz sd1 ev1
      exact p (.ref D) g1 H1 k1 (c.ev.trans k2) (RT.past c.ev.live ⟨rt1.at_, fun d a e1 e2 => ⟨(rt1.new d a e1 e2).1, fun z => (rt1.new d a e1 e2).2 (k3 a z)⟩⟩)
end
def DTs (X : Cx) (Wx : WX) (ifs : List Expr) (f : M Bool) : Prop := PTs X ifs (tM X.K Wx RB f)
def dYes : M Bool := fun s => .ok true s
section
variable {K : PySem.W.Frag} {σ σ0 : Slots} {g g' g0 : Gh} {H0 H : Hp} {s s' s0 : State} {v : V}
theorem frz_keep {r : VR} {d : DL.D} (e : frz r s = .ok d s') {j : Nat} {w : W} (hw : s.env[j]? = some (some w)) (n : ∀ x, w ≠ .own x) : s'.env[j]? = some (some w) := by
  cases r with
  | t t => cases e; exact hw
  | slot i =>
    unfold frz at e
    cases e2 : s.env[i]? with
    | none => simp only [e2] at e; cases e
    | some u =>
      cases u with
      | none => simp only [e2] at e; cases e
      | some u =>
        cases u with
        | fz d' => simp only [e2] at e; cases e; exact hw
        | own d' =>
          simp only [e2] at e; cases e
          have ne : j ≠ i := fun z => by
            subst z; rw [hw] at e2; cases e2; exact n _ rfl
          exact (putE_ne ne).trans hw
        | lent d' => simp only [e2] at e; cases e
        | lk d' => simp only [e2] at e; cases e
        | lkl d' => simp only [e2] at e; cases e
theorem frzR_is (r : VR) (s : State) : frzR r s = frz r s ∨ ∃ i d, r = .slot i ∧ frzR r s = .ok d s ∧ (s.env[i]? = some (some (.lk d)) ∨ s.env[i]? = some (some (.lkl d))) := by
  cases r with
  | t t => exact .inl rfl
  | slot i =>
    cases e : s.env[i]? with
    | none => exact .inl (by simp only [frzR, e])
    | some u =>
      cases u with
      | none => exact .inl (by simp only [frzR, e])
      | some u =>
        cases u with
        | lk d => exact .inr ⟨i, d, rfl, by simp only [frzR, e], .inl e⟩
        | lkl d => exact .inr ⟨i, d, rfl, by simp only [frzR, e], .inr e⟩
        | _ => exact .inl (by simp only [frzR, e])
theorem frzR_res (r : VR) (s : State) : (∃ d s', frzR r s = .ok d s') ∨ frzR r s = .bad := by
  rcases frzR_is r s with e | ⟨_, d, _, e, _⟩
  · rw [e]; exact frz_res r s
  · exact .inl ⟨d, s, e⟩
theorem frzRs_res : ∀ (rs : List VR) (s : State), (∃ d s', frzRs rs s = .ok d s') ∨ frzRs rs s = .bad
  | [], s => .inl ⟨[], s, rfl⟩
  | r :: rs, s => by
    unfold frzRs
    rw [bind_eq]
    rcases frzR_res r s with ⟨d, s1, e⟩ | e
    · rw [e]
      show (∃ d' s', (frzRs rs >>= fun ds => pure (d :: ds)) s1 = .ok d' s') ∨ (frzRs rs >>= fun ds => pure (d :: ds)) s1 = .bad
      rw [bind_eq]
      rcases frzRs_res rs s1 with ⟨ds, s2, e2⟩ | e2
      · rw [e2]; exact .inl ⟨_, _, rfl⟩
      · rw [e2]; exact .inr rfl
    · rw [e]; exact .inr rfl
theorem frzR_keep {r : VR} {d : DL.D} (e : frzR r s = .ok d s') {j : Nat} {w : W} (hw : s.env[j]? = some (some w)) (n : ∀ x, w ≠ .own x) : s'.env[j]? = some (some w) := by
  rcases frzR_is r s with q | ⟨_, d', _, q, _⟩
  · rw [q] at e; exact frz_keep e hw n
  · rw [q] at e; cases e; exact hw
theorem frzRs_keep : ∀ {rs : List VR} {ds : List DL.D} {s s' : State}, frzRs rs s = .ok ds s' → ∀ {j : Nat} {w : W}, s.env[j]? = some (some w) → (∀ x, w ≠ .own x) → s'.env[j]? = some (some w)
  | [], _, _, _, e, _, _, hw, _ => by cases e; exact hw
  | r :: rs, ds, s, s', e, j, w, hw, n => by
    unfold frzRs at e
    rw [bind_eq] at e
    cases q : frzR r s with
    | bad => rw [q] at e; cases e
    | err x s1 => rw [q] at e; cases e
    | ok d s1 =>
      rw [q] at e
      have e : (frzRs rs >>= fun ds => pure (d :: ds)) s1 = .ok ds s' := e
      rw [bind_eq] at e
      cases q2 : frzRs rs s1 with
      | bad => rw [q2] at e; cases e
      | err x s2 => rw [q2] at e; cases e
      | ok ds2 s2 =>
        rw [q2] at e; cases e
        exact frzRs_keep q2 (frzR_keep q hw n) n
theorem Src.held {d : DL.D} (le : Le g g') (k : ∀ (j : Nat) (w : W), s.env[j]? = some (some w) → (∀ x, w ≠ .own x) → s'.env[j]? = some (some w)) (h : Src K g σ s v d) : Src K g' σ s' v d := by
  rcases h with h | ⟨i, hv, h | h⟩
  · exact .inl (h.mono le)
  · exact .inr ⟨i, hv, .inl (k i _ h fun _ z => by cases z)⟩
  · exact .inr ⟨i, hv, .inr (k i _ h fun _ z => by cases z)⟩
theorem frzR_run {r : VR} {d : DL.D} (e : frzR r s = .ok d s') (e0 : Ev g0 H0 σ0 s0 g H σ s) (sd : SD K g H σ s) (h : RVR K σ H0 g H s v r) :
    ∃ g', SD K g' H σ s' ∧ Ev g0 H0 σ0 s0 g' H σ s' ∧ Src K g' σ s' v d ∧ (∀ v' r', RVR K σ H0 g H s v' r' → (∀ a d d2, r' = .t (.ow d) → v' = .ref a → r = .t (.ow d2) → v ≠ .ref a) → RVR K σ H0 g' H s' v' r') ∧ Le g g' := by
  rcases frzR_is r s with q | ⟨i, d', rfl, q, hi⟩
  · rw [q] at e
    obtain ⟨g1, a1, a2, a3, a4, a5⟩ := frz_run e e0 sd h
    exact ⟨g1, a1, a2, .inl a3, a4, a5⟩
  · rw [q] at e; cases e
    exact ⟨g, sd, e0, .inr ⟨i, h, hi⟩, fun _ _ z _ => z, .refl g⟩
theorem frzRs_run : ∀ {rs : List VR} {vs : List V} {ds : List DL.D} {s s' : State} {g : Gh}, frzRs rs s = .ok ds s' → Ev g0 H0 σ0 s0 g H σ s → SD K g H σ s → RVRs K σ H0 g H s vs rs →
    ∃ g', SD K g' H σ s' ∧ Ev g0 H0 σ0 s0 g' H σ s' ∧ Srcs K g' σ s' vs ds ∧ Le g g'
  | [], _, _, _, _, g, e, e0, sd, h => by
    cases h
    cases e
    exact ⟨g, sd, e0, .nil, .refl g⟩
  | r :: rs, _, ds, s, s', g, e, e0, sd, h => by
    cases h with
    | @cons v _ vs _ h1 h2 ap =>
      unfold frzRs at e
      rw [bind_eq] at e
      cases q : frzR r s with
      | bad => rw [q] at e; cases e
      | err x s1 => rw [q] at e; cases e
      | ok d s1 =>
        rw [q] at e
        have e : (frzRs rs >>= fun ds => pure (d :: ds)) s1 = .ok ds s' := e
        rw [bind_eq] at e
        obtain ⟨g1, sd1, e1, rp, tr, le1⟩ := frzR_run q e0 sd h1
        have h3 : ∀ {us : List V} {ts : List VR}, RVRs K σ H0 g H s us ts → (∀ p ∈ us.zip ts, p ∈ vs.zip rs) → RVRs K σ H0 g1 H s1 us ts := by
          intro us ts hh
          induction hh with
          | nil => exact fun _ => .nil
          | cons a b c ih =>
            intro hm
            exact .cons (tr _ _ a fun b' d' d2 e1 e2 e3 => fun e4 => ap b' d2 e3 e4 _ (hm _ List.mem_cons_self) d' e1 e2) (ih fun p hp => hm p (List.mem_cons_of_mem _ hp)) c
        cases q2 : frzRs rs s1 with
        | bad => rw [q2] at e; cases e
        | err x s2 => rw [q2] at e; cases e
        | ok ds2 s2 =>
          rw [q2] at e
          cases e
          obtain ⟨g2, sd2, e2, rp2, le2⟩ := frzRs_run q2 e1 sd1 (h3 h2 fun _ h => h)
          exact ⟨g2, sd2, e2, .cons (rp.held le2 fun j w hw n => frzRs_keep q2 hw n) rp2, le1.trans le2⟩
theorem Cur.frzRs {α β : Type} {Wx : WX} {R : Gh → Hp → State → β → α → Prop} {Q : β → Hp → Prop} {g1 : Gh} {H1 : Hp} {s1 : State} {rs : List VR} {vs : List V} {k : List DL.D → M α} (c : Cur K Wx σ R Q g0 H0 s0 ((DL.frzRs rs >>= k) s1) g1 H1 s1) (h : RVRs K σ H0 g1 H1 s1 vs rs) :
    ∃ ds g2 s2, Cur K Wx σ R Q g0 H0 s0 (k ds s2) g2 H1 s2 ∧ Srcs K g2 σ s2 vs ds ∧ Le g1 g2 := by
  rw [bind_eq] at c
  rcases frzRs_res rs s1 with ⟨d, s2, e⟩ | e
  · rw [e] at c
    obtain ⟨g2, sd2, ev2, rp, le⟩ := frzRs_run e c.ev c.sd h
    exact ⟨d, g2, s2, ⟨ev2, sd2, c.post⟩, rp, le⟩
  · rw [e] at c
    exact (c.notBad rfl).elim
end
section
variable {X : Cx} {Wx : WX} {l : Expr} {pos p p1 : Pos} {fl : M (List VR)} {fa : M VR} {ft : M Bool} {fe : M VR} {pt : Pt} {elt tg iter c : Expr} {ifs : List Expr} {scope : Scope} {own : List (Str × Nat)}
theorem dts_nil : DTs X Wx [] dYes := ⟨fun pins s σ H Q I h => pts_nil.run pins s σ H Q I (by
  obtain ⟨g, s, c⟩ := h.start
  exact c.done rfl rfl)⟩
theorem dts_one (h : DT X Wx c ft) : DTs X Wx [c] ft := pts_one h
structure DBlk (X : Cx) (Wx : WX) (k : Nat) (scope : Scope) (own : List (Str × Nat)) (tg : Expr) (ifs : List Expr) (elt : Expr) (pt : Pt) (ft : M Bool) (fe : M VR) : Prop where
  bd : Bd X Wx k
  ok : BlkOk X.N X.env.scope scope own
  hg : ∀ (s : Shared) (H : Hp) (C : Addr) (cl : List (Str × Addr)) (fp : List Addr), Bd (X.blk s H scope (compEnvC scope cl C X.env) fp) WF k → DG (X.blk s H scope (compEnvC scope cl C X.env) fp) tg pt
  ht : ∀ (s : Shared) (H : Hp) (C : Addr) (cl : List (Str × Addr)) (fp : List Addr), Bd (X.blk s H scope (compEnvC scope cl C X.env) fp) WF k → DTs (X.blk s H scope (compEnvC scope cl C X.env) fp) WF ifs ft
  he : ∀ (s : Shared) (H : Hp) (C : Addr) (cl : List (Str × Addr)) (fp : List Addr), Bd (X.blk s H scope (compEnvC scope cl C X.env) fp) WF k → DV (X.blk s H scope (compEnvC scope cl C X.env) fp) WF elt fe
  hv : ∀ i ∈ pt.vs, i ∈ own.map (·.2)
def wI (K : PySem.W.Frag) (Wx : WX) (h : List DL.D → Option (List DL.D)) (fl : M (List VR)) : TI := fun σ H R => tM K Wx (RVL K) fl σ H fun vs H1 => ∃ g ds s, SD K g H1 σ s ∧ Srcs K g σ s vs ds ∧ ∃ items, h ds = some items ∧ ∀ J, Iter K J g H1 σ s items → R J H1
def DItr (X : Cx) (Wx : WX) (tg iter : Expr) (h : List DL.D → Option (List DL.D)) (fl : M (List VR)) : Prop := PI X tg iter (wI X.K Wx h fl)
theorem tM.one {K : PySem.W.Frag} {Wx : WX} {f : M VR} {σ : Slots} {H : Hp} {Q : List V → Hp → Prop} (q : tM K Wx (RVL K) (dOne f) σ H Q) : tM K Wx (RVR K) f σ H fun v H1 => Q [v] H1 := by
  obtain ⟨g, s, sd, p⟩ := q
  refine ⟨g, s, sd, ?_⟩
  unfold dOne at p
  rw [bind_eq] at p
  cases q : f s with
  | bad => rw [q] at p; exact p
  | err x s1 => rw [q] at p; exact p
  | ok r s1 =>
    rw [q] at p
    exact fun v g' H' sd' ev rv => p [v] g' H' sd' ev (.cons rv .nil fun _ _ _ _ _ hp => by simp at hp)
theorem di_seq {e : Expr} (h : DV X Wx e fa) : DItr X Wx tg e itS (dOne fa) := ⟨fun pins s σ H R I q => (pi_seq h).run pins s σ H R I (by
  refine q.one.mono fun v H1 ⟨g, ds, s, sd, rs, items, hi, k⟩ => ?_
  cases rs with
  | cons a b =>
    rename_i d ds
    cases b
    have src := a
    unfold itS at hi
    split at hi
    · rename_i ds hd
      cases hi; cases hd
      obtain ⟨ad, xs, rfl, hx, _⟩ := (src.view sd).lst sd
      exact ⟨ad, rfl, .inl ⟨⟨xs, .of hx⟩, k _ (iter_lst src)⟩⟩
    · rename_i ds hd
      cases hi; cases hd
      obtain ⟨ad, xs, rfl, hx, _⟩ := (src.view sd).tup sd
      exact ⟨ad, rfl, .inr ⟨⟨xs, hx⟩, k _ (iter_tup (xs := xs) src)⟩⟩
    · rename_i ns hd
      cases hi; cases hd
      cases e2 : (src.view sd).sc (fun _ z => z) with
      | frl q2 => exact ⟨_, rfl, .inl ⟨⟨_, sd.seq q2⟩, k _ (iter_frl src)⟩⟩
    · cases hi)⟩
theorem di_r1 {a : Expr} (hgl : Gl X "range") (hm : X.mg "range" = none) (ha : DA X Wx [a] fl) (hst : starEach [a] X.env = [(false, eval a X.env)] := by rfl) : DItr X Wx tg (.Call (.Name "range" p) [a] [] p1) itR1 fl := ⟨fun pins s σ H R I q => (pi_range1 hgl hm ha hst).run pins s σ H R I (by
  refine tM.mono q fun vs H1 ⟨g, ds, s, sd, rs, items, hi, k⟩ => ?_
  unfold itR1 at hi
  split at hi
  · rename_i j
    split at hi
    · rename_i hj
      cases hi
      cases rs with
      | cons a b =>
        cases b; cases (a.view sd).int
        obtain ⟨b1, b2⟩ := bnd62_of hj
        exact ⟨j, rfl, b1, b2, k _ iter_range⟩
    · cases hi
  · cases hi)⟩
theorem comp_lc {K : PySem.W.Frag} {σ : Slots} {H H0 : Hp} {g0 : Gh} {s0 : State} {g : Gh} {s : State} {Q : V → Hp → Prop} {h : List DL.D → Option (List DL.D)} {vs : List Nat} (hv : ∀ i ∈ pt.vs, i ∈ vs)
    (c : Cur K Wx σ (fun g H s v t => RT K H0 g H σ s v t) Q g0 H0 s0 (dComp h pt vs ft fe fl s) g H s) : tLc (wI K Wx h fl) (tP K pt) (tM K WF RB ft) (tV K WF fe) vs σ H Q := by
  refine c.bind.mono fun xs H1 ⟨rs, g1, s1, c1, r1, e1⟩ => ?_
  obtain ⟨ds, g2, s2, c2, r2, _⟩ := c1.frzRs (RVRs.past c.ev.live r1)
  cases q : h ds with
  | none => exact (c2.notBad (by rw [q]; rfl)).elim
  | some items =>
    refine ⟨g2, ds, s2, c2.sd, r2, items, q, fun J it => ?_⟩
    exact comp_run (by rw [q] at c2; exact c2) it hv
theorem de_lc {h : List DL.D → Option (List DL.D)} {k : Nat} (b : DBlk X Wx k scope own tg ifs elt pt ft fe) (hi : DItr X Wx tg iter h fl) (hs : ∀ x, foldedSetIterable iter X.env x = pure x := by intro _; rfl) :
    DE X Wx (.ListComp elt [⟨tg, iter, ifs, 0⟩] scope pos) (dComp h pt (own.map (·.2)) ft fe fl) := ⟨fun pins s σ H Q I q => (pe_lc (g := tP X.K pt) (tt := tM X.K WF RB ft) (te := tV X.K WF fe) b.bd.calm b.bd.nd hi b.ok (fun s H C cl fp => b.hg s H C cl fp b.bd.blk) (fun s H C cl fp => b.ht s H C cl fp b.bd.blk) (fun s H C cl fp => b.he s H C cl fp b.bd.blk) hs).run pins s σ H Q I (by
  obtain ⟨g, s, c⟩ := q.start
  exact comp_lc b.hv c)⟩
theorem ds_setLc {i : Nat} {y : Str} {py spos : Pos} {h : List DL.D → Option (List DL.D)} {k : Nat} (b : DBlk X Wx k scope own tg ifs elt pt ft fe) (hi : DItr X Wx tg iter h fl) (hy : X.N[i]? = some y) (hyl : X.env.scope.names.lookup y = some .local)
    (hsw : swapsWith (.ListComp elt [⟨tg, iter, ifs, 0⟩] scope pos) (some (.Name y py)) spos.line X.env = pure true) (hs : ∀ x, foldedSetIterable iter X.env x = pure x := by intro _; rfl) :
    DS X Wx (.Assign [.Name y py] (.ListComp elt [⟨tg, iter, ifs, 0⟩] scope pos) spos) (dAsg i (dComp h pt (own.map (·.2)) ft fe fl)) := ⟨fun pins s σ H D I q => (ps_setLc (g := tP X.K pt) (tt := tM X.K WF RB ft) (te := tV X.K WF fe) b.bd.calm b.bd.nd hy hyl hsw hi b.ok (fun s H C cl fp => b.hg s H C cl fp b.bd.blk) (fun s H C cl fp => b.ht s H C cl fp b.bd.blk) (fun s H C cl fp => b.he s H C cl fp b.bd.blk) hs).run pins s σ H D I (by
  obtain ⟨g, s, c⟩ := tM.start (asg_run q)
  exact comp_lc b.hv c)⟩
end
end DL
set_option Elab.async false
set_option linter.all false
set_option maxRecDepth 100000
set_option maxHeartbeats 1000000
namespace DL
open PySem PySem.Spec PyProof.Rows L2
theorem fn_dl {P : Program} {w : World} {K : PySem.W.Frag} {mg : Str → Option Value} {base : Heap} {x qual : Str} {st : Stmt} {f : Addr} {fd : FuncData} {N ps : List Str} {k : Nat} {b : M Flow} (F : Fun K x qual st f fd) (S : FnScope N ps (defScope st))
    (h : ∀ (cdv : Value) (A : Around) (outer : List Env) (s : Shared) (H : Hp) (E : XK) (X : Cx), X = cxOf (L2.CX P w) P w K mg base N qual (defScope st) f cdv A outer s H E → Bd X (fun cls d _ H' => E cls d H') k → DSs X (fun cls d _ H' => E cls d H') (defBody st) b) :
    FnOk P w K mg base (L2.CX P w) (k + 1) f fd ps (spF K ps N b) :=
  F.okG S (fun vs H Q E q => q.1) fun cdv A outer s H vs Q E hr q => ⟨_, h cdv A outer s H E _ rfl ⟨rfl, hr, takes_of rfl rfl rfl rfl, passes_of rfl, S.nd⟩, q.2⟩
def readO (C : Addr) (r : VR) : M (List (Str × DL.D)) := readV r >>= fun d => match d with
  | .obj C' fs => if C' = C then pure fs else M.bad
  | .ptr i => fun s => (match s.sto[i]? with
    | some (.ins C' fs) => if C' = C then .ok fs s else .bad
    | _ => .bad)
  | _ => M.bad
theorem fst_lookup {K : PySem.W.Frag} {g : Gh} {f : Str} : ∀ {fx : List (Str × V)} {fs : List (Str × DL.D)}, fx.map Prod.fst = fs.map Prod.fst → Reps K g (fx.map Prod.snd) (fs.map Prod.snd) →
    (∀ d, fs.lookup f = some d → ∃ v, fx.lookup f = some v ∧ Rep K g v d) ∧ (fs.lookup f = none → fx.lookup f = none)
  | [], [], _, _ => ⟨fun d h => (by cases h), fun _ => rfl⟩
  | [], _ :: _, h, _ => by cases h
  | _ :: _, [], h, _ => by cases h
  | (k, v) :: fx, (k', d0) :: fs, h, r => by
    have h1 : k = k' := (List.cons.inj h).1
    have h2 := (List.cons.inj h).2
    subst h1
    cases r with
    | cons a b =>
      obtain ⟨i1, i2⟩ := fst_lookup (f := f) h2 b
      unfold List.lookup
      cases hb : f == k with
      | true => exact ⟨fun d e => by cases e; exact ⟨v, rfl, a⟩, fun e => by cases e⟩
      | false => exact ⟨i1, i2⟩
section
variable {K : PySem.W.Frag} {Wx : WX} {g g' g0 : Gh} {H H' H0 : Hp} {σ σ0 : Slots} {s s' s0 : State} {v : V} {C : Addr}
theorem readO_run {r : VR} {fs : List (Str × DL.D)} (sd : SD K g H σ s) (h : RVR K σ H0 g H s v r) (e : readO C r s = .ok fs s') :
    s' = s ∧ ∃ a dx fx, v = .ref a ∧ H a = some (.ins C dx fx) ∧ fx.map Prod.fst = fs.map Prod.fst ∧ Reps K g (fx.map Prod.snd) (fs.map Prod.snd) := by
  unfold readO at e
  rw [bind_eq] at e
  rcases readV_res r s with ⟨d, e1⟩ | e1
  · rw [e1] at e
    obtain ⟨_, va⟩ := h.read sd e1
    cases d with
    | obj C' fs' =>
      have e : (if C' = C then (pure fs' : M (List (Str × DL.D))) else M.bad) s = .ok fs s' := e
      by_cases hC : C' = C
      · rw [if_pos hC] at e
        cases e
        subst hC
        obtain ⟨a, dx, fx, h1, h2, h3, h4⟩ := va.obj sd
        exact ⟨rfl, a, dx, fx, h1, h2, h3, h4⟩
      · rw [if_neg hC] at e; cases e
    | ptr i =>
      have e : (match s.sto[i]? with | some (.ins C' fs) => if C' = C then Rs.ok fs s else .bad | _ => .bad) = .ok fs s' := e
      cases va.sc (fun _ z => z) with
      | ptr hη =>
        rename_i a
        cases q : s.sto[i]? with
        | none => rw [q] at e; cases e
        | some m =>
          cases m with
          | ins C' fs' =>
            rw [q] at e
            simp only at e
            by_cases hC : C' = C
            · rw [if_pos hC] at e
              cases e
              subst hC
              obtain ⟨o, ho, dx, fx, rfl, h3, h4⟩ := sd.sto i _ a q hη
              exact ⟨rfl, a, dx, fx, rfl, ho, h3, h4⟩
            · rw [if_neg hC] at e; cases e
          | lst _ => rw [q] at e; cases e
          | tab _ _ => rw [q] at e; cases e
    | _ => cases e
  · rw [e1] at e; cases e
theorem readO_res (r : VR) (s : State) : (∃ fs, readO C r s = .ok fs s) ∨ readO C r s = .bad := by
  unfold readO
  rw [bind_eq]
  rcases readV_res r s with ⟨d, e1⟩ | e1
  · rw [e1]
    cases d with
    | obj C' fs' =>
      show (∃ fs, (if C' = C then (pure fs' : M (List (Str × DL.D))) else M.bad) s = .ok fs s) ∨ (if C' = C then (pure fs' : M (List (Str × DL.D))) else M.bad) s = .bad
      by_cases hC : C' = C
      · rw [if_pos hC]; exact .inl ⟨_, rfl⟩
      · rw [if_neg hC]; exact .inr rfl
    | ptr i =>
      show (∃ fs, (match s.sto[i]? with | some (.ins C' fs) => if C' = C then Rs.ok fs s else .bad | _ => .bad) = .ok fs s) ∨ (match s.sto[i]? with | some (.ins C' fs) => if C' = C then Rs.ok fs s else .bad | _ => .bad) = .bad
      cases q : s.sto[i]? with
      | none => exact .inr rfl
      | some m =>
        cases m with
        | ins C' fs' =>
          simp only
          by_cases hC : C' = C
          · rw [if_pos hC]; exact .inl ⟨_, rfl⟩
          · rw [if_neg hC]; exact .inr rfl
        | lst _ => exact .inr rfl
        | tab _ _ => exact .inr rfl
    | _ => exact .inr rfl
  · rw [e1]; exact .inr rfl
end
def dFld (C : Addr) (f : Str) (fv : M VR) : M T := fv >>= fun r => readO C r >>= fun fs => match fs.lookup f with
  | some d => pure (.fz d)
  | none => M.bad
section
variable {X : Cx} {Wx : WX} {C : Addr} {f : Str} {e o : Expr} {pos pos' : Pos} {fv fo : M VR}
theorem de_fld (c : Cls X.K C) (n : NoAttr X.K C f) (he : DV X Wx e fv) (hb : attributeBase e f X.env (eval e X.env) = eval e X.env := by rfl) : DE X Wx (.Attribute e f pos) (dFld C f fv) := ⟨fun pins s σ H Q I h => (pe_fld he hb).run pins s σ H Q I (by
  obtain ⟨g, s, k⟩ := h.start
  refine k.bind.mono fun x H1 ⟨r, g1, s1, k1, r1, e1⟩ => ?_
  rcases readO_res (C := C) r s1 with ⟨fs, q⟩ | q
  · obtain ⟨_, a, dx, fx, rfl, ea, h3, h4⟩ := readO_run k1.sd r1 q
    cases q2 : fs.lookup f with
    | none => exact (k1.notBad (by rw [bind_eq, q]; simp only [q2]; rfl)).elim
    | some d =>
      obtain ⟨v, hv, rp⟩ := (fst_lookup h3 h4).1 d q2
      exact ⟨a, C, dx, fx, v, rfl, ea, c, n, hv, k1.done (a := .fz d) (by rw [bind_eq, q]; simp only [q2]; rfl) ⟨show TAt X.K g1 H1 v (.fz d) from rp, fun _ _ z => nomatch z⟩⟩
  · exact (k1.notBad (by rw [bind_eq, q])).elim)⟩
def putFD (f : Str) (d : DL.D) : List (Str × DL.D) → List (Str × DL.D)
  | [] => [(f, d)]
  | (g, x) :: r => if g = f then (g, d) :: r else (g, x) :: putFD f d r
theorem putF_reps {K : PySem.W.Frag} {g : Gh} {v : V} {d : DL.D} (rp : Rep K g v d) : ∀ {fx : List (Str × V)} {fs : List (Str × DL.D)}, fx.map Prod.fst = fs.map Prod.fst → Reps K g (fx.map Prod.snd) (fs.map Prod.snd) →
    (putF f v fx).map Prod.fst = (putFD f d fs).map Prod.fst ∧ Reps K g ((putF f v fx).map Prod.snd) ((putFD f d fs).map Prod.snd)
  | [], [], _, _ => ⟨rfl, .one rp⟩
  | [], _ :: _, h, _ => by cases h
  | _ :: _, [], h, _ => by cases h
  | (k, v0) :: fx, (k', d0) :: fs, h, r => by
    have h1 : k = k' := (List.cons.inj h).1
    have h2 := (List.cons.inj h).2
    subst h1
    cases r with
    | cons a b =>
      obtain ⟨i1, i2⟩ := putF_reps rp h2 b
      unfold putF putFD
      by_cases hk : k = f
      · rw [if_pos hk, if_pos hk]
        exact ⟨h, .cons rp b⟩
      · rw [if_neg hk, if_neg hk]
        exact ⟨by rw [List.map_cons, List.map_cons, i1], .cons a i2⟩
def putM (C : Addr) (f : Str) (d : DL.D) (i : Nat) : M Flow := fun s => match s.sto[i]? with
  | some (.ins C' fs) => if C' = C ∧ fs.length < 1000 then .ok .nx { s with sto := s.sto.set i (.ins C (putFD f d fs)) } else .bad
  | _ => .bad
def putO (C : Addr) (f : Str) (r : VR) (d : DL.D) : M Flow := match r with
  | .t (.fz (.ptr i)) => putM C f d i
  | .slot j => fun s => (match s.env[j]? with
    | some (some (.fz (.ptr i))) => putM C f d i s
    | some (some (.own (.obj C' fs))) => if C' = C ∧ fs.length < 1000 then .ok .nx (putE s j (.own (.obj C (putFD f d fs)))) else .bad
    | some (some (.lent (.obj C' fs))) => if C' = C ∧ fs.length < 1000 then .ok .nx (putE s j (.lent (.obj C (putFD f d fs)))) else .bad
    | _ => .bad)
  | _ => M.bad
def dSetF (C : Addr) (f : Str) (fo fv : M VR) : M Flow := fv >>= fun r => frz r >>= fun d => fo >>= fun ro => putO C f ro d
end
section
variable {K : PySem.W.Frag} {g g' : Gh} {H H' : Hp} {σ σ' : Slots} {s s' : State} {a : Addr} {o' : HO} {i : Nat} {m m' : MO}
theorem SD.writeM (sd : SD K g H σ s) (e : s.sto[i]? = some m) (ea : g.η[i]? = some a) (ob : MObAt K g a o' m') :
    SD K g (upd H a o') σ { s with sto := s.sto.set i m' } ∧ Ev g H σ s g (upd H a o') σ { s with sto := s.sto.set i m' } := by
  have mem : a ∈ g.η := List.mem_of_getElem? ea
  obtain ⟨ga, nd⟩ := sd.ng a mem
  obtain ⟨o, ho, _⟩ := sd.sto i m a e ea
  have il : i < s.sto.length := (List.getElem?_eq_some_iff.mp e).1
  refine ⟨⟨fun b u eb => ?_, sd.len, fun j w ej => ?_, sd.inj, by show (s.sto.set i m').length = _; rw [List.length_set]; exact sd.stl, fun j mo b e1 e2 => ?_, sd.nd, sd.ng, ?_⟩,
    ⟨.refl g, fun b u eb nm => ?_, fun b l => ?_, fun b _ z => .inl z, fun _ _ z => z, fun b mm => .inl mm, fun b mm => .inl mm, fun b mm => .inl mm, fun j x h => ⟨rfl, x, .inl h⟩, fun j x h => ⟨rfl, h⟩, fun j x h => ⟨rfl, h⟩⟩⟩
  · have ne : b ≠ a := fun z => by subst z; rw [ga] at eb; cases eb
    exact (sd.gh b u eb).keep fun _ q => by rw [upd_ne ne]; exact q
  · obtain ⟨v, ev, wa⟩ := sd.slot j w ej
    have fr : w.held = true → ∀ b, v = .ref b → Free1 g b := fun hw b eb => by
      cases w with
      | fz d => cases hw
      | own d => obtain ⟨c, _, ec, f, _⟩ := wa; rw [ec] at eb; cases eb; exact f
      | lent d => obtain ⟨c, _, ec, f, _⟩ := wa; rw [ec] at eb; cases eb; exact f
      | lk d => obtain ⟨c, _, ec, f, _⟩ := wa; rw [ec] at eb; cases eb; exact f
      | lkl d => obtain ⟨c, _, ec, f, _⟩ := wa; rw [ec] at eb; cases eb; exact f
    exact ⟨v, ev, wa.keep (.refl g) (fun b u eb hw q => by rw [upd_ne fun z => (fr hw b eb).2.1 (by rw [z]; exact mem)]; exact q) fun _ _ _ z => z⟩
  · have e1 : (s.sto.set i m')[j]? = some mo := e1
    by_cases z : i = j
    · subst z
      rw [List.getElem?_set_self il] at e1
      cases e1
      rw [ea] at e2; cases e2
      exact ⟨o', upd_same, ob⟩
    · rw [List.getElem?_set_ne z] at e1
      obtain ⟨u, q, mm⟩ := sd.sto j mo b e1 e2
      have ne : b ≠ a := fun w => by
        subst w
        obtain ⟨l1, q1⟩ := List.getElem?_eq_some_iff.mp ea
        exact z ((List.getElem?_inj l1 sd.nd).mp (ea.trans e2.symm))
      exact ⟨u, by rw [upd_ne ne]; exact q, mm⟩
  · have dd : DrOk g H g.dr s.dr := sd.dr
    refine (show DrOk g (upd H a o') g.dr s.dr from dd.map fun x l y eq q => ?_)
    obtain ⟨c, q1, q2⟩ := q.dict
    have n1 : x ≠ a := fun z => nd ⟨x, l, eq, .inl z.symm⟩
    have n2 : l ≠ a := fun z => nd ⟨x, l, eq, .inr z.symm⟩
    exact ⟨⟨c, by rw [upd_ne n1]; exact q1, q2⟩, by rw [upd_ne n2]; exact q.list, q.ne, q.ga, q.gl⟩
  · rw [upd_ne fun z => nm (.inr (.inl (by rw [z]; exact mem)))]; exact eb
  · by_cases z : b = a
    · subst z; rw [upd_same]; simp
    · rw [upd_ne z]; exact l
end
section
variable {K : PySem.W.Frag} {g : Gh} {H H0 : Hp} {σ : Slots} {s s' : State} {C : Addr} {f : Str} {v y : V} {d : DL.D} {fl : Flow}
theorem putM_run {i : Nat} (sd : SD K g H σ s) (hr : Rep K g v (.ptr i)) (rp : Rep K g y d) (e : putM C f d i s = .ok fl s') :
    fl = .nx ∧ ∃ a dx fx, v = .ref a ∧ H a = some (.ins C dx fx) ∧ fx.length < 1000 ∧ SD K g (upd H a (.ins C dx (putF f y fx))) σ s' ∧ Ev g H σ s g (upd H a (.ins C dx (putF f y fx))) σ s' := by
  unfold putM at e
  cases hr with
  | ptr hη =>
    rename_i a
    cases q : s.sto[i]? with
    | none => simp only [q] at e; cases e
    | some m =>
      cases m with
      | ins C' fs =>
        simp only [q] at e
        by_cases hC : C' = C ∧ fs.length < 1000
        · rw [if_pos hC] at e
          obtain ⟨rfl, hl⟩ := hC
          cases e
          obtain ⟨o, ho, dx, fx, rfl, h3, h4⟩ := sd.sto i _ a q hη
          have hp := putF_reps (f := f) rp h3 h4
          obtain ⟨sd2, ev2⟩ := sd.writeM (o' := .ins C' dx (putF f y fx)) (m' := .ins C' (putFD f d fs)) q hη ⟨dx, _, rfl, hp.1, hp.2⟩
          have hx : fx.length = fs.length := by have := congrArg List.length h3; rwa [List.length_map, List.length_map] at this
          exact ⟨rfl, a, dx, fx, rfl, ho, by rw [hx]; exact hl, sd2, ev2⟩
        · rw [if_neg hC] at e; cases e
      | lst _ => simp only [q] at e; cases e
      | tab _ _ => simp only [q] at e; cases e
theorem putO_run {r : VR} (sd : SD K g H σ s) (h : RVR K σ H0 g H s v r) (rp : Rep K g y d) (e : putO C f r d s = .ok fl s') :
    fl = .nx ∧ ∃ a dx fx, v = .ref a ∧ H a = some (.ins C dx fx) ∧ fx.length < 1000 ∧ SD K g (upd H a (.ins C dx (putF f y fx))) σ s' ∧ Ev g H σ s g (upd H a (.ins C dx (putF f y fx))) σ s' := by
  unfold putO at e
  split at e
  · exact putM_run sd h.at_ rp e
  · rename_i j
    have h : σ[j]? = some (some v) := h
    split at e
    · rename_i i hi
      obtain ⟨v', ev, wa⟩ := sd.slot j _ hi
      rw [h] at ev; cases ev
      exact putM_run sd wa rp e
    · rename_i C' fs hi
      by_cases hC : C' = C ∧ fs.length < 1000
      · rw [if_pos hC] at e
        obtain ⟨rfl, hl⟩ := hC
        cases e
        obtain ⟨v', ev, a, o, rfl, fr, ho, dx, fx, rfl, h3, h4⟩ := sd.slot j _ hi
        rw [h] at ev; cases ev
        have hp := putF_reps (f := f) rp h3 h4
        obtain ⟨sd2, ev2⟩ := sd.write (o' := .ins C' dx (putF f y fx)) (d' := .obj C' (putFD f d fs)) hi rfl h ⟨dx, _, rfl, hp.1, hp.2⟩
        have hx : fx.length = fs.length := by have := congrArg List.length h3; rwa [List.length_map, List.length_map] at this
        exact ⟨rfl, a, dx, fx, rfl, ho, by rw [hx]; exact hl, sd2, ev2⟩
      · rw [if_neg hC] at e; cases e
    · rename_i C' fs hi
      by_cases hC : C' = C ∧ fs.length < 1000
      · rw [if_pos hC] at e
        obtain ⟨rfl, hl⟩ := hC
        cases e
        obtain ⟨v', ev, a, o, rfl, fr, ho, dx, fx, rfl, h3, h4⟩ := sd.slot j _ hi
        rw [h] at ev; cases ev
        have hp := putF_reps (f := f) rp h3 h4
        obtain ⟨sd2, ev2⟩ := sd.write (o' := .ins C' dx (putF f y fx)) (d' := .obj C' (putFD f d fs)) hi rfl h ⟨dx, _, rfl, hp.1, hp.2⟩
        have hx : fx.length = fs.length := by have := congrArg List.length h3; rwa [List.length_map, List.length_map] at this
        exact ⟨rfl, a, dx, fx, rfl, ho, by rw [hx]; exact hl, sd2, ev2⟩
      · rw [if_neg hC] at e; cases e
    · cases e
  · cases e
end
section
variable {X : Cx} {Wx : WX} {C : Addr} {f : Str} {e o : Expr} {pos pos' : Pos} {fv fo : M VR}
theorem putO_ok (r : VR) (d : DL.D) (s : State) : (∃ s', putO C f r d s = .ok .nx s') ∨ putO C f r d s = .bad := by
  have hM : ∀ i, (∃ s', putM C f d i s = .ok .nx s') ∨ putM C f d i s = .bad := fun i => by
    unfold putM
    cases q : s.sto[i]? with
    | none => exact .inr rfl
    | some m =>
      cases m with
      | ins C' fs =>
        simp only
        by_cases hC : C' = C ∧ fs.length < 1000
        · rw [if_pos hC]; exact .inl ⟨_, rfl⟩
        · rw [if_neg hC]; exact .inr rfl
      | lst _ => exact .inr rfl
      | tab _ _ => exact .inr rfl
  unfold putO
  split
  · exact hM _
  · split
    · exact hM _
    · rename_i C' fs _
      by_cases hC : C' = C ∧ fs.length < 1000
      · rw [if_pos hC]; exact .inl ⟨_, rfl⟩
      · rw [if_neg hC]; exact .inr rfl
    · rename_i C' fs _
      by_cases hC : C' = C ∧ fs.length < 1000
      · rw [if_pos hC]; exact .inl ⟨_, rfl⟩
      · rw [if_neg hC]; exact .inr rfl
    · exact .inr rfl
  · exact .inr rfl
theorem ds_setF (c : Cls X.K C) (n : NoAttr X.K C f) (ho : DV X Wx o fo) (hv : DV X Wx e fv) (hs : swapsWith e (some (.Attribute o f pos')) pos.line X.env = pure false := by rfl) : DS X Wx (.Assign [.Attribute o f pos'] e pos) (dSetF C f fo fv) := ⟨fun pins s σ H D I h => (ps_fld ho hv hs).run pins s σ H D I (by
  obtain ⟨g, s, k⟩ := h.start
  refine k.bind.mono fun y H1 ⟨r, g1, s1, k1, r1, e1⟩ => ?_
  rcases frz_res r s1 with ⟨d, s2, q⟩ | q
  · obtain ⟨g2, sd2, ev2, rp, _, _⟩ := frz_run q k1.ev k1.sd r1
    have k2 : CurS X.K Wx D g H σ s ((fo >>= fun ro => putO C f ro d) s2) g2 H1 σ s2 := ⟨ev2, sd2, by have p := k1.post; rw [bind_eq, q] at p; exact p⟩
    refine k2.bind.mono fun x H2 ⟨ro, g3, s3, k3, r3, e3⟩ => ?_
    rcases putO_ok (C := C) (f := f) ro d s3 with ⟨s4, q4⟩ | q4
    · obtain ⟨_, a, dx, fx, h1, h2, h3, sd4, ev4⟩ := putO_run k3.sd r3 (rp.mono e3.le) q4
      exact ⟨a, C, dx, fx, h1, h2, c, n, h3, k3.next q4 sd4 ev4⟩
    · exact (k3.notBad q4).elim
  · exact (k1.notBad (by rw [bind_eq, q])).elim)⟩
end
end DL
set_option Elab.async false
set_option linter.all false
set_option maxRecDepth 100000
set_option maxHeartbeats 1000000
namespace DL
open PySem PySem.Spec PyProof.Rows L2
def isOw : VR → Bool
  | .t (.ow _) => true
  | _ => false
def recv (C : Addr) (m : Str) (r : VR) : M Unit := readO C r >>= fun fs => if isOw r = false ∧ (fs.lookup m).isNone = true then pure () else M.bad
def dMeth (C : Addr) (m : Str) (n : Nat) (ms : List AM) (dw : List DL.D) (b : M Flow) (fo : M VR) (fl : M (List VR)) : M T := fo >>= fun r => recv C m r >>= fun _ => fl >>= fun rs => dPass n ms dw b (r :: rs)
def dNil' : M (List VR) := pure []
section
variable {K : PySem.W.Frag} {g : Gh} {H H0 : Hp} {σ : Slots} {s : State} {v : V} {C : Addr} {m : Str} {r : VR}
theorem recv_run (sd : SD K g H σ s) (h : RVR K σ H0 g H s v r) : (recv C m r s = .ok () s ∧ isOw r = false ∧ ∃ a dx fx, v = .ref a ∧ H a = some (.ins C dx fx) ∧ fx.lookup m = none) ∨ recv C m r s = .bad := by
  unfold recv
  rw [bind_eq]
  rcases readO_res (C := C) r s with ⟨fs, q⟩ | q
  · obtain ⟨_, a, dx, fx, h1, h2, h3, h4⟩ := readO_run sd h q
    rw [q]
    show ((if isOw r = false ∧ (fs.lookup m).isNone = true then (pure () : M Unit) else M.bad) s = _ ∧ _) ∨ (if isOw r = false ∧ (fs.lookup m).isNone = true then (pure () : M Unit) else M.bad) s = _
    by_cases c : isOw r = false ∧ (fs.lookup m).isNone = true
    · rw [if_pos c]
      exact .inl ⟨rfl, c.1, a, dx, fx, h1, h2, (fst_lookup h3 h4).2 (Option.isNone_iff_eq_none.mp c.2)⟩
    · rw [if_neg c]; exact .inr rfl
  · rw [q]; exact .inr rfl
theorem apart_of {vs : List V} {rs : List VR} (h : isOw r = false) : Apart v r vs rs := fun a d e => by
  rw [e] at h
  cases h
end
section
variable {X : Cx} {Wx : WX} {k : Nat} {C f : Addr} {fd : FuncData} {ps N : List Str} {b : M Flow} {dvs : List V} {ds : List Value} {dw : List DL.D} {x m : Str} {p pos apos : Pos} {o e : Expr} {es : List Expr} {fo : M VR} {fl : M (List VR)} {ms : List AM}
theorem de_meth {pl : Sem Bool} (c : Cls X.K C) (hm : Meth X.K C m f) (F : FnOk X.prog X.w X.K X.mg X.base (L2.CX X.prog X.w) k f fd ps (spF X.K ps N b)) {n : Nat} (hl : N.length = n) (hr : Room k X.A) (hb : Binds X.K fd ps ds) (hd : Vals dvs ds) (hw : ∀ g, Reps X.K g dvs dw) (tk : Takes X Wx)
    (hn : ms.length + dw.length = ps.length) (ho : DV X Wx o fo) (ha : DA X Wx (e :: es) fl)
    (hst : starEach (e :: es) X.env = (false, eval e X.env) :: starEach es X.env := by rfl) (hpl : (backTo pos (starEach es X.env)).any (·.1) = false := by rfl)
    (ht : eval (.Call (.Attribute o m apos) (e :: es) [] pos) X.env = (do
      let ov ← eval o X.env
      standAt apos.atName
      let (f, first) ← holding [ov] (getMethod ov m pl)
      callWith pos f first (backTo pos (starEach (e :: es) X.env)) (backToKw pos (keywordEach [] X.env))) := by rfl) :
    DE X Wx (.Call (.Attribute o m apos) (e :: es) [] pos) (dMeth C m n ms dw b fo fl) := by
  subst hl
  exact ⟨fun pins s σ H Q I h => by
  obtain ⟨g, st, c0⟩ := h.start
  refine PySem.W.methodCall_KW (pl := pl) (thn (ho.run pins s σ H _ I (c0.bind (R1 := RVR X.K))) fun u s1 ⟨z, H1, I1, rz, r, g1, st1, c1, r1, e1⟩ => ?_) ht
  rcases recv_run (C := C) (m := m) c1.sd r1 with ⟨q, now, a, dx, fx, rfl, h2, h3⟩ | q
  · obtain rfl : u = Value.ref a := rz
    have c2 : Cur X.K Wx σ (RTt X.K σ H) Q g H st ((fl >>= fun rs => dPass N.length ms dw b (r :: rs)) st1) g1 H1 st1 := ⟨c1.ev, c1.sd, by have p := c1.post; rw [bind_eq, q] at p; exact p⟩
    refine getmeth_ok I1 h2 c hm h3 (PySem.W.callWith_K (h₀ := X.base) (first := [.ref a]) I.ok.mod.kin hm.kp (thn (ha.run pos pins s1 σ H1 _ I1 (c2.bind (R1 := RVL X.K))) fun us s2 ⟨vs, H2, I2, rv, rs, g2, st2, c3, r3, e3⟩ => ⟨I2.kIn, ?_⟩) hst hpl)
    have all : RVRs X.K σ H g2 H2 st2 (V.ref a :: vs) (r :: rs) := .cons (r1.ev e3) (RVRs.past c1.ev.live r3) (apart_of now)
    exact run_fnSD (us := Value.ref a :: us) (xs := V.ref a :: vs) F hr hb hd (passAt tk σ) I2 (.cons (show RelV (V.ref a) (Value.ref a) from rfl) rv) (pass_run c3 all hw hn)
  · exact (c1.notBad (by rw [bind_eq, q])).elim⟩
theorem de_meth0 {pl : Sem Bool} (c : Cls X.K C) (hm : Meth X.K C m f) (F : FnOk X.prog X.w X.K X.mg X.base (L2.CX X.prog X.w) k f fd ps (spF X.K ps N b)) {n : Nat} (hl : N.length = n) (hr : Room k X.A) (hb : Binds X.K fd ps ds) (hd : Vals dvs ds) (hw : ∀ g, Reps X.K g dvs dw) (tk : Takes X Wx)
    (hn : ms.length + dw.length = ps.length) (ho : DV X Wx o fo)
    (ht : eval (.Call (.Attribute o m apos) [] [] pos) X.env = (do
      let ov ← eval o X.env
      standAt apos.atName
      let (f, first) ← holding [ov] (getMethod ov m pl)
      callWith pos f first (backTo pos (starEach [] X.env)) (backToKw pos (keywordEach [] X.env))) := by rfl) :
    DE X Wx (.Call (.Attribute o m apos) [] [] pos) (dMeth C m n ms dw b fo dNil') := by
  subst hl
  exact ⟨fun pins s σ H Q I h => by
  obtain ⟨g, st, c0⟩ := h.start
  refine PySem.W.methodCall_KW (pl := pl) (thn (ho.run pins s σ H _ I (c0.bind (R1 := RVR X.K))) fun u s1 ⟨z, H1, I1, rz, r, g1, st1, c1, r1, e1⟩ => ?_) ht
  rcases recv_run (C := C) (m := m) c1.sd r1 with ⟨q, now, a, dx, fx, rfl, h2, h3⟩ | q
  · obtain rfl : u = Value.ref a := rz
    have c2 : Cur X.K Wx σ (RTt X.K σ H) Q g H st (dPass N.length ms dw b [r] st1) g1 H1 st1 := ⟨c1.ev, c1.sd, by have p := c1.post; rw [bind_eq, q] at p; exact p⟩
    have all : RVRs X.K σ H g1 H1 st1 [V.ref a] [r] := .cons r1 .nil (apart_of now)
    exact getmeth_ok I1 h2 c hm h3 (PySem.W.callWith_K0 (first := [.ref a]) I1.kIn hm.kp (run_fnSD (us := [Value.ref a]) (xs := [V.ref a]) F hr hb hd (passAt tk σ) I1 (.cons (show RelV (V.ref a) (Value.ref a) from rfl) .nil) (pass_run c2 all hw hn)))
  · exact (c1.notBad (by rw [bind_eq, q])).elim⟩
def noErr {α : Type} (f : M α) : M α := fun s => match f s with
  | .err _ _ => .bad
  | r => r
def dProp (C : Addr) (n : Nat) (m : AM) (b : M Flow) (fo : M VR) : M T := fo >>= fun r => readO C r >>= fun _ => if isOw r = false then noErr (dPass n [m] [] b [r]) else M.bad
theorem Cur.noErr {K : PySem.W.Frag} {σ : Slots} {α β : Type} {R : Gh → Hp → State → β → α → Prop} {Q : β → Hp → Prop} {g0 g1 : Gh} {H0 H1 : Hp} {s0 s1 s : State} {f : M α} (c : Cur K Wx σ R Q g0 H0 s0 (noErr f s) g1 H1 s1) : Cur K WF σ R Q g0 H0 s0 (f s) g1 H1 s1 := ⟨c.ev, c.sd, by
  have p := c.post
  unfold DL.noErr at p
  cases q : f s with
  | ok a s2 => rw [q] at p; exact p
  | err y s2 => rw [q] at p; exact p.elim
  | bad => rw [q] at p; exact p⟩
theorem de_prop {fp : Addr} {am : AM} (c : Cls X.K C) (hp : PropOf X.K C m fp f) (F : FnOk X.prog X.w X.K X.mg X.base (L2.CX X.prog X.w) k f fd ["self"] (spF X.K ["self"] N b)) {n : Nat} (hl : N.length = n) (hr : Room (k + 1) X.A) (hb : Binds X.K fd ["self"] []) (ho : DV X Wx o fo)
    (hab : attributeBase o m X.env (eval o X.env) = eval o X.env := by rfl) : DE X Wx (.Attribute o m pos) (dProp C n am b fo) := by
  subst hl
  exact ⟨fun pins s σ H Q I h => (pe_prop (E1 := E0) ho c hp F hr hb .nil passL hab).run pins s σ H Q I (by
  obtain ⟨g, st, c0⟩ := h.start
  refine c0.bind.mono fun z H1 ⟨r, g1, st1, c1, r1, e1⟩ => ?_
  rcases readO_res (C := C) r st1 with ⟨fs, q⟩ | q
  · obtain ⟨_, a, dx, fx, rfl, h2, h3, h4⟩ := readO_run c1.sd r1 q
    refine ⟨a, dx, fx, rfl, h2, ?_⟩
    have c2 : Cur X.K Wx σ (RTt X.K σ H) Q g H st ((if isOw r = false then noErr (dPass N.length [am] [] b [r]) else M.bad) st1) g1 H1 st1 := ⟨c1.ev, c1.sd, by have p := c1.post; rw [bind_eq, q] at p; exact p⟩
    by_cases now : isOw r = false
    · rw [if_pos now] at c2
      exact pass_run (dvs := []) (Wx := WF) c2.noErr (.cons r1 .nil (apart_of now)) (fun _ => .nil) rfl
    · rw [if_neg now] at c2
      exact (c2.notBad rfl).elim
  · exact (c1.notBad (by rw [bind_eq, q])).elim)⟩
end
def pushW (s : State) (w : W) : State := { s with env := s.env ++ [some w] }
section
variable {K : PySem.W.Frag} {g g' g0 : Gh} {H H' H0 : Hp} {σ σ0 : Slots} {s s' s0 : State} {a dx C : Addr}
theorem push_get {w u : W} {i : Nat} (h : (pushW s w).env[i]? = some (some u)) : s.env[i]? = some (some u) ∨ (i = s.env.length ∧ u = w) := by
  have h : (s.env ++ [some w])[i]? = some (some u) := h
  rw [List.getElem?_append] at h
  split at h
  · exact .inl h
  · rename_i hl
    cases q : i - s.env.length with
    | zero => rw [q] at h; cases h; exact .inr ⟨by omega, rfl⟩
    | succ n => rw [q] at h; cases h
theorem SD.push {w : W} (sd : SD K g H σ s) (wa : WAt K g H (.ref a) w) (nh : ¬ Hd σ s a) : SD K g H (σ ++ [some (.ref a)]) (pushW s w) where
  gh := sd.gh
  len := by show (s.env ++ [some w]).length = _; rw [List.length_append, List.length_append, sd.len]; rfl
  slot := fun i u h => by
    rcases push_get h with h | ⟨rfl, rfl⟩
    · obtain ⟨v, ev, wa⟩ := sd.slot i u h
      exact ⟨v, by rw [List.getElem?_append_left (by rw [← sd.len]; exact (List.getElem?_eq_some_iff.mp h).1)]; exact ev, wa⟩
    · exact ⟨.ref a, by rw [sd.len, List.getElem?_append_right (Nat.le_refl _), Nat.sub_self]; rfl, wa⟩
  inj := fun i j u1 u2 c e1 e2 h1 h2 x1 x2 => by
    have at_ : ∀ {l : Nat} {u : W}, s.env[l]? = some (some u) → (σ ++ [some (V.ref a)])[l]? = σ[l]? := fun {l u} e => List.getElem?_append_left (by rw [← sd.len]; exact (List.getElem?_eq_some_iff.mp e).1)
    have top : (σ ++ [some (V.ref a)])[s.env.length]? = some (some (V.ref a)) := by rw [sd.len, List.getElem?_append_right (Nat.le_refl _), Nat.sub_self]; rfl
    rcases push_get e1 with e1 | ⟨z1, _⟩
    · rw [at_ e1] at x1
      rcases push_get e2 with e2 | ⟨z2, _⟩
      · rw [at_ e2] at x2
        exact sd.inj i j u1 u2 c e1 e2 h1 h2 x1 x2
      · rw [z2, top] at x2; cases x2
        exact (nh ⟨i, u1, e1, h1, x1⟩).elim
    · rw [z1, top] at x1; cases x1
      rcases push_get e2 with e2 | ⟨z2, _⟩
      · rw [at_ e2] at x2
        exact (nh ⟨j, u2, e2, h2, x2⟩).elim
      · rw [z1, z2]
  stl := sd.stl
  sto := sd.sto
  nd := sd.nd
  ng := sd.ng
  dr := sd.dr
def popS (l : Nat) (s : State) : State := { s with env := s.env.take l }
theorem pop_get {l i : Nat} {u : W} (h : (popS l s).env[i]? = some (some u)) : s.env[i]? = some (some u) ∧ i < l := by
  have h : (s.env.take l)[i]? = some (some u) := h
  rw [List.getElem?_take] at h
  split at h
  · rename_i hl; exact ⟨h, hl⟩
  · cases h
theorem SD.pop {x : Option V} (sd : SD K g H (σ ++ [x]) s) : SD K g H σ (popS σ.length s) where
  gh := sd.gh
  len := by
    show (s.env.take σ.length).length = _
    rw [List.length_take, sd.len, List.length_append]
    simp
  slot := fun i u h => by
    obtain ⟨h, hl⟩ := pop_get h
    obtain ⟨v, ev, wa⟩ := sd.slot i u h
    exact ⟨v, by rw [List.getElem?_append_left hl] at ev; exact ev, wa⟩
  inj := fun i j u1 u2 c e1 e2 h1 h2 x1 x2 => by
    obtain ⟨e1, l1⟩ := pop_get e1
    obtain ⟨e2, l2⟩ := pop_get e2
    exact sd.inj i j u1 u2 c e1 e2 h1 h2 (by rw [List.getElem?_append_left l1]; exact x1) (by rw [List.getElem?_append_left l2]; exact x2)
  stl := sd.stl
  sto := sd.sto
  nd := sd.nd
  ng := sd.ng
  dr := sd.dr
theorem pop_hd {b : Addr} {x : Option V} (h : Hd σ (popS σ.length s) b) : Hd (σ ++ [x]) s b := by
  obtain ⟨i, w, e, hw, q⟩ := h
  obtain ⟨e, l⟩ := pop_get e
  exact ⟨i, w, e, hw, by rw [List.getElem?_append_left l]; exact q⟩
theorem Ev.pushPop {w : W} {x : Option V} (sd : SD K g H σ s) (hn : H a = none) (e : Ev g H' (σ ++ [some (.ref a)]) (pushW s w) g' H0 (σ ++ [x]) s') (hx : x = some (.ref a)) (k : ∀ b o, H b = some o → H' b = some o) : Ev g H σ s g' H0 σ (popS σ.length s') := by
  subst hx
  have at_ : ∀ {l : Nat} {u : W}, s.env[l]? = some (some u) → (pushW s w).env[l]? = some (some u) := fun {l u} h => by
    show (s.env ++ [some w])[l]? = _
    rw [List.getElem?_append_left (List.getElem?_eq_some_iff.mp h).1]; exact h
  have lt : ∀ {l : Nat} {u : W}, s.env[l]? = some (some u) → l < σ.length := fun {l u} h => by rw [← sd.len]; exact (List.getElem?_eq_some_iff.mp h).1
  have ins : ∀ {l : Nat} {u : W} {c : Addr}, (pushW s w).env[l]? = some (some u) → (σ ++ [some (V.ref a)])[l]? = some (some (V.ref c)) → (s.env[l]? = some (some u) ∧ σ[l]? = some (some (V.ref c))) ∨ c = a := fun {l u c} h q => by
    rcases push_get h with h | ⟨rfl, rfl⟩
    · rw [List.getElem?_append_left (lt h)] at q
      exact .inl ⟨h, q⟩
    · rw [sd.len, List.getElem?_append_right (Nat.le_refl _), Nat.sub_self] at q
      cases q; exact .inr rfl
  have mu : ∀ b, Mu g (σ ++ [some (V.ref a)]) (pushW s w) b → Mu g σ s b ∨ b = a := fun b m => by
    rcases m with ⟨i, u, h, hm, q⟩ | m
    · rcases ins h q with ⟨h, q⟩ | z
      · exact .inl (.inl ⟨i, u, h, hm, q⟩)
      · exact .inr z
    · exact .inl (.inr m)
  have hd : ∀ b, Hd (σ ++ [some (V.ref a)]) (pushW s w) b → Hd σ s b ∨ b = a := fun b ⟨i, u, h, hm, q⟩ => by
    rcases ins h q with ⟨h, q⟩ | z
    · exact .inl ⟨i, u, h, hm, q⟩
    · exact .inr z
  have live : ∀ b, H b ≠ none → H' b ≠ none := fun b l => by
    cases q : H b with
    | none => exact absurd q l
    | some o => rw [k b o q]; simp
  have none' : ∀ b, H' b = none → H b = none := fun b z => by
    cases q : H b with
    | none => rfl
    | some o => rw [k b o q] at z; cases z
  refine ⟨e.le, fun b o h nm => e.keep b o (k b o h) fun m => ?_, fun b l => e.live b (live b l), fun b l q => ?_, fun b l => e.eta b (live b l), fun b m => ?_, fun b m => ?_, fun b m => ?_, fun i d h => ?_, fun i d h => ?_, fun i d h => ?_⟩
  · rcases mu b m with m | rfl
    · exact nm m
    · rw [hn] at h; cases h
  · rcases e.frz b (live b l) q with z | z | ⟨xs, z⟩
    · exact .inl z
    · rcases mu b z with z | rfl
      · exact .inr (.inl z)
      · exact absurd hn l
    · refine .inr (.inr ⟨xs, ?_⟩)
      cases q2 : H b with
      | none => exact absurd q2 l
      | some o => rw [k b o q2] at z; exact z
  · have m2 : Mu g' (σ ++ [some (V.ref a)]) s' b := by
      rcases m with ⟨i, u, h, hm, q⟩ | m
      · obtain ⟨h, hl⟩ := pop_get h
        exact .inl ⟨i, u, h, hm, by rw [List.getElem?_append_left hl]; exact q⟩
      · exact .inr m
    rcases e.mu b m2 with z | z
    · rcases mu b z with z | rfl
      · exact .inl z
      · exact .inr hn
    · exact .inr (none' b z)
  · rcases e.hd b (pop_hd m) with z | z
    · rcases hd b z with z | rfl
      · exact .inl z
      · exact .inr hn
    · exact .inr (none' b z)
  · obtain ⟨i, d, h, q⟩ := m
    have m2 : OwnA (σ ++ [some (V.ref a)]) s' b := by
      have key : ∀ u : W, (popS σ.length s').env[i]? = some (some u) → s'.env[i]? = some (some u) ∧ (σ ++ [some (V.ref a)])[i]? = some (some (V.ref b)) := fun u h => by
        obtain ⟨h, hl⟩ := pop_get h
        exact ⟨h, by rw [List.getElem?_append_left hl]; exact q⟩
      rcases h with h | h
      · exact ⟨i, d, .inl (key _ h).1, (key _ h).2⟩
      · exact ⟨i, d, .inr (key _ h).1, (key _ h).2⟩
    rcases e.ow b m2 with ⟨j, d', h', q'⟩ | z
    · rcases h' with h' | h'
      · rcases ins h' q' with ⟨h1, q1⟩ | rfl
        · exact .inl ⟨j, d', .inl h1, q1⟩
        · exact .inr hn
      · rcases ins h' q' with ⟨h1, q1⟩ | rfl
        · exact .inl ⟨j, d', .inr h1, q1⟩
        · exact .inr hn
    · exact .inr (none' b z)
  · obtain ⟨h1, d', h2⟩ := e.fix i d (at_ h)
    refine ⟨rfl, d', ?_⟩
    show (s'.env.take σ.length)[i]? = _ ∨ (s'.env.take σ.length)[i]? = _
    rw [List.getElem?_take, if_pos (lt h)]; exact h2
  · obtain ⟨h1, h2⟩ := e.lk i d (at_ h)
    refine ⟨rfl, ?_⟩
    show (s'.env.take σ.length)[i]? = _
    rw [List.getElem?_take, if_pos (lt h)]; exact h2
  · obtain ⟨h1, h2⟩ := e.lkl i d (at_ h)
    refine ⟨rfl, ?_⟩
    show (s'.env.take σ.length)[i]? = _
    rw [List.getElem?_take, if_pos (lt h)]; exact h2
end
def make2 (C : Addr) (n : Nat) (ms : List AM) (dw : List DL.D) (b : M Flow) (hs : List HS) : M T := fun s => match pass2 n (.L :: ms) dw b (.slot s.env.length :: hs) (pushW s (.own (.obj C []))) with
  | .ok (.fz .non) s' => (match s'.env[s.env.length]? with
    | some (some (.own d)) => .ok (.ow d) (popS s.env.length s')
    | _ => .bad)
  | .ok _ _ => .bad
  | .err x s' => .err x (popS s.env.length s')
  | .bad => .bad
def dMake (C : Addr) (n : Nat) (ms : List AM) (dw : List DL.D) (b : M Flow) (fl : M (List VR)) : M T := fl >>= fun rs => toHMs ms rs >>= make2 C n ms dw b
section
variable {K : PySem.W.Frag} {Wx : WX} {g g0 : Gh} {H H0 : Hp} {σ : Slots} {s s0 : State} {C : Addr} {Q : V → Hp → Prop}
theorem RHs.push {x : Option V} : ∀ {vs : List V} {hs : List HS}, RHs K g σ vs hs → RHs K g (σ ++ [x]) vs hs
  | _, _, .nil => .nil
  | v :: _, .d d :: _, .cons a r => .cons (show RH K g (σ ++ [x]) v (.d d) from a) (RHs.push r)
  | v :: _, .slot i :: _, .cons a r => by
    have a : σ[i]? = some (some v) := a
    refine .cons ?_ (RHs.push r)
    show (σ ++ [x])[i]? = some (some v)
    rw [List.getElem?_append_left (List.getElem?_eq_some_iff.mp a).1]; exact a
theorem make2_run {ms : List AM} {dw : List DL.D} {b : M Flow} {hs : List HS} {vs dvs : List V} {ps N : List Str} (c : Cur K Wx σ (fun g H s v t => RT K H0 g H σ s v t) Q g0 H0 s0 (make2 C N.length ms dw b hs s) g H s) (rh : RHs K g σ vs hs) (hd : ∀ g, Reps K g dvs dw)
    (hn : hs.length + 1 + dw.length = ps.length) {x dx : Addr} (hx : H x = none) (hdx : H dx = none) (ne : dx ≠ x) :
    spF K ps N b (.ref x :: (vs ++ dvs)) (upd (upd H dx (.own x)) x (.ins C dx [])) (fun v H2 => v = .non ∧ Q (.ref x) H2) (fun cls d H' => Wx cls d σ H') := by
  have hx2 : (upd H dx (.own x)) x = none := by rw [upd_ne (Ne.symm ne)]; exact hx
  have sd1 : SD K g (upd (upd H dx (.own x)) x (.ins C dx [])) σ s := (c.sd.alloc hdx).alloc hx2
  have keep : ∀ b o, H b = some o → (upd (upd H dx (.own x)) x (.ins C dx [])) b = some o := fun b o e => by
    rw [upd_ne (ne_of_none e hx), upd_ne (ne_of_none e hdx)]; exact e
  generalize hH : upd (upd H dx (.own x)) x (.ins C dx []) = H1 at sd1 keep
  have h1x : H1 x = some (.ins C dx []) := by rw [← hH, upd_same]
  have nhx : ¬ Hd σ s x := c.sd.noHd hx
  have sd2 := sd1.push (w := .own (.obj C [])) ⟨x, .ins C dx [], rfl, c.sd.free1 hx, h1x, dx, [], rfl, rfl, .nil⟩ nhx
  have lσ : s.env.length = σ.length := c.sd.len
  have top : (σ ++ [some (V.ref x)])[σ.length]? = some (some (V.ref x)) := by rw [List.getElem?_append_right (Nat.le_refl _), Nat.sub_self]; rfl
  have rh2 : RHs K g (σ ++ [some (.ref x)]) (V.ref x :: vs) (.slot s.env.length :: hs) := by
    refine .cons (show (σ ++ [some (V.ref x)])[s.env.length]? = some (some (V.ref x)) from by rw [lσ]; exact top) ?_
    exact rh.push
  have p := c.post
  unfold make2 at p
  have c2 : Cur K (fun cls d _ H' => Wx cls d σ H') (σ ++ [some (.ref x)]) (fun g' H' s' v t => RT K H1 g' H' (σ ++ [some (.ref x)]) s' v t) (fun v H2 => v = .non ∧ Q (.ref x) H2) g H1 (pushW s (.own (.obj C []))) (pass2 N.length (.L :: ms) dw b (.slot s.env.length :: hs) (pushW s (.own (.obj C [])))) g H1 (pushW s (.own (.obj C []))) := by
    refine ⟨.refl, sd2, ?_⟩
    cases q : pass2 N.length (.L :: ms) dw b (.slot s.env.length :: hs) (pushW s (.own (.obj C []))) with
    | bad => rw [q] at p; exact p
    | err y s' =>
      rw [q] at p
      intro cls d g2 H2 sdE evE er
      exact p cls d g2 H2 (by rw [lσ]; exact sdE.pop) (c.ev.trans (by rw [lσ]; exact Ev.pushPop c.sd hx evE rfl keep)) er
    | ok t s' =>
      rw [q] at p
      intro v g2 H2 sdE evE rt
      cases t with
      | ow d => exact p.elim
      | fz d =>
        cases d with
        | non =>
          simp only at p
          have hv : v = .non := by cases (show Rep K g2 v .non from rt.at_); rfl
          refine ⟨hv, ?_⟩
          cases q2 : s'.env[s.env.length]? with
          | none => rw [q2] at p; exact p.elim
          | some w =>
            cases w with
            | none => rw [q2] at p; exact p.elim
            | some w =>
              cases w with
              | own d =>
                rw [q2] at p
                obtain ⟨v', ev', a, o, ea, fr, ho, ob⟩ := sdE.slot _ _ q2
                rw [lσ, top] at ev'
                cases ev'
                cases ea
                refine p (.ref x) g2 H2 (by rw [lσ]; exact sdE.pop) (c.ev.trans (by rw [lσ]; exact Ev.pushPop c.sd hx evE rfl keep)) ⟨⟨x, o, rfl, fr, ho, ob⟩, fun d' a' _ ea' => ?_⟩
                cases ea'
                refine ⟨?_, fun ⟨i, w, h1, h2, h3⟩ => ?_⟩
                · cases q3 : H0 x with
                  | none => rfl
                  | some u => exact absurd hx (c.ev.live x (by rw [q3]; simp))
                · obtain ⟨h1, hl⟩ := pop_get h1
                  have z := sdE.inj i s.env.length w _ x h1 q2 h2 rfl (by rw [List.getElem?_append_left (by rw [← lσ]; exact hl)]; exact h3) (by rw [lσ]; exact top)
                  omega
              | _ => rw [q2] at p; exact p.elim
        | _ => exact p.elim
  exact pass2_run (Wx := fun cls d _ H' => Wx cls d σ H') (σ := σ ++ [some (.ref x)]) (vs := V.ref x :: vs) c2 rh2 hd (by rw [List.length_cons]; exact hn) fun _ _ _ _ _ _ rt => rt
end
section
variable {X : Cx} {Wx : WX} {k : Nat} {C f : Addr} {fd : FuncData} {ps N : List Str} {b : M Flow} {dvs : List V} {ds : List Value} {dw : List DL.D} {x : Str} {p pos : Pos} {e : Expr} {es : List Expr} {fl : M (List VR)} {ms : List AM}
theorem make_at {pins : List (Addr × Obj)} {σ : Slots} {H : Hp} {s : Shared} {Q : VK} {ws : List Value} {vs : List V} {sp : Sp} {E : Slots → XK} (mk : Mk X.K C f) (Fi : FnOk X.prog X.w X.K X.mg X.base (L2.CX X.prog X.w) k f fd ps sp) (rm : Room (k + 1) X.A) (bi : Binds X.K fd ps ds) (vd : Vals dvs ds)
    (ps_ : PassesAt (L2.CX X.prog X.w) X σ (E σ)) (I0 : Inv X pins σ H s) (rl : Vals vs ws) (hq : ∀ x dx, H x = none → H dx = none → dx ≠ x → sp (.ref x :: (vs ++ dvs)) (upd (upd H dx (.own x)) x (.ins C dx [])) (fun v H2 => v = .non ∧ Q (.ref x) H2) (E σ)) :
    wpAny (model X.prog X.w) X.A (call (.ref C) ws) (EP X pins σ Q) X.xe s := by
  have big := I0.hok.fresh (Nat.le_succ s.heap.objs.size)
  have low := I0.hok.fresh (Nat.le_refl s.heap.objs.size)
  have q0 := hq _ _ big low (Nat.ne_of_lt (Nat.lt_succ_self _))
  have J := Inv.made (C := C) I0
  have all : Vals (V.ref (s.heap.objs.size + 1) :: (vs ++ dvs)) (Value.ref (s.heap.objs.size + 1) :: (ws ++ ds)) := .cons rfl (rl.append vd)
  have ln : (Value.ref (s.heap.objs.size + 1) :: ws ++ ds).length = ps.length := (all.length.symm.trans (Fi.len _ _ _ _ q0))
  have run := Fi.run (X.A.under (.builtin "type.__call__" ⟨.ref C :: ws, []⟩)) X.stack _ _ ⟨Value.ref (s.heap.objs.size + 1) :: ws, []⟩ _ _ _ _ (rm.make C ws []) (J.env0.make C ws []) (bi _ (Value.ref (s.heap.objs.size + 1) :: ws) J.kIn ln) all q0
  refine wpAny_call (make_map (f := f) I0.kIn mk.makes mk.init (beq_iff_eq.mp mk.fn) (codeAny_mono run fun res s' out => ?_))
  match res, out with
  | .error er, out => exact ps_ pins _ _ er s' J out
  | .ok (.ret u), out =>
    obtain ⟨v, H', J2, rv, ev, q3⟩ := J.after out
    subst ev
    exact ⟨rv, V.ref (s.heap.objs.size + 1), H', J2, rfl, q3⟩
  | .ok .next, out => exact out.elim
  | .ok .brk, out => exact out.elim
  | .ok .cont, out => exact out.elim
theorem de_make (mk : Mk X.K C f) (F : FnOk X.prog X.w X.K X.mg X.base (L2.CX X.prog X.w) k f fd ps (spF X.K ps N b)) {n : Nat} (hl : N.length = n) (hr : Room (k + 1) X.A) (hm : X.mg x = some (.ref C)) (hb : Binds X.K fd ps ds) (hd : Vals dvs ds) (hw : ∀ g, Reps X.K g dvs dw) (tk : Takes X Wx)
    (hn : ms.length + 1 + dw.length = ps.length) (ha : DA X Wx (e :: es) fl) (hg : Gl X x := by rfl) (hdb : (x == ("__debug__" : Str)) = false := by decide) (he : starEach (e :: es) X.env = (false, eval e X.env) :: starEach es X.env := by rfl) (hpl : (backTo pos (starEach es X.env)).any (·.1) = false := by rfl) :
    DE X Wx (.Call (.Name x p) (e :: es) [] pos) (dMake C n ms dw b fl) := by
  subst hl
  exact ⟨fun pins s σ H Q I h => by
  obtain ⟨g, st, c0⟩ := h.start
  refine wpAny_Call_Name_kw (ld_glob I hg hm (PySem.W.callWith_K (h₀ := X.base) I.ok.mod.kin mk.kp (thn (ha.run pos pins s σ H _ I (c0.bind (R1 := RVL X.K))) fun us s1 ⟨vs, H1, I1, rv, rs, g1, st1, c1, r1, e1⟩ => ⟨I1.kIn, ?_⟩) he hpl) hdb)
  refine make_at (E := WE Wx) mk F hr hb hd (passAt tk σ) I1 rv fun x dx hx hdx ne => ?_
  have p := c1.post
  rw [bind_eq] at p
  rcases toHMs_res ms rs st1 with ⟨hs, st2, q⟩ | q
  · rw [q] at p
    obtain ⟨g2, sd2, e2, rh, le⟩ := toHMs_run q c1.ev c1.sd (RVRs.past c0.ev.live r1)
    exact make2_run ⟨e2, sd2, p⟩ rh hw (by rw [← rh.length, r1.length, ← toHMs_len q]; exact hn) hx hdx ne
  · rw [q] at p; exact p.elim⟩
end
end DL
set_option Elab.async false
set_option linter.all false
set_option maxRecDepth 100000
set_option maxHeartbeats 1000000
namespace DL
open PySem PySem.Spec PyProof.Rows L2
inductive DK where
  | rest | turn | mix | cells
def DK.str : DK → Str
  | .rest => "rest" | .turn => "turn" | .mix => "mix" | .cells => "cells"
def DrawSt.set (st : DrawSt) (k : DK) (n : Int) : DrawSt := match k with
  | .rest => { st with rest := n }
  | .turn => { st with turn := n }
  | .mix => { st with mix := n }
  | .cells => st
def drOf (i : Nat) : M DrawSt := fun s => match s.env[i]?, s.dr with
  | some (some (.fz .draw)), some st => .ok st s
  | _, _ => .bad
def putDr (st : DrawSt) : M Flow := fun s => .ok .nx { s with dr := some st }
def DrawSt.get (st : DrawSt) : DK → DL.D
  | .rest => .int st.rest
  | .turn => .int st.turn
  | .mix => .int st.mix
  | .cells => .lst (st.cells.map D.int)
def DrawSt.val (st : DrawSt) (c : Addr) : DK → V
  | .rest => .int st.rest
  | .turn => .int st.turn
  | .mix => .int st.mix
  | .cells => .ref c
theorem divWide {i j : Int} (h : 0 < j ∧ j < 18446744073709551616) : L2.CDivP i j := by
  refine ⟨h.1, PyProof.noPylong_of_log2 ?_⟩
  have h0 : j.natAbs ≠ 0 := by omega
  have h1 : j.natAbs.log2 < 64 := (Nat.log2_lt h0).mpr (Nat.lt_of_lt_of_eq (show j.natAbs < 18446744073709551616 by omega) (by decide))
  omega
def drGet (k : DK) (i : Nat) : M T := drOf i >>= fun st => pure (.fz (st.get k))
def drSet (k : DK) (i : Nat) (fv : M VR) : M Flow := fv >>= fun r => frz r >>= fun d => drOf i >>= fun st => match d, k with
  | .int n, .rest => putDr (st.set .rest n)
  | .int n, .turn => putDr (st.set .turn n)
  | .int n, .mix => putDr (st.set .mix n)
  | _, _ => M.bad
def drPop (i : Nat) : M Flow := drOf i >>= fun st => match st.large with
  | x :: xs => putDr { st with rest := x, large := xs }
  | [] => M.bad
def drNe (i : Nat) : M Bool := drOf i >>= fun st => match neT (.lst (st.large.map D.int)) (.lst []) with
  | some (.fz (.bl b)) => pure b
  | _ => M.bad
def drDiv (i j k : Nat) : M Flow := drOf i >>= fun st s => match s.env[j]? with
  | some (some (.fz (.int n))) => if 0 < n ∧ n < 18446744073709551616 then (match setO k (.fz (.int (st.rest % n))) { s with dr := some (st.set .rest (st.rest / n)) } with
    | some s' => .ok .nx s'
    | none => .bad) else .bad
  | _ => .bad
section
variable {K : PySem.W.Frag} {g g' : Gh} {H H' : Hp} {σ : Slots} {s s' : State} {a l c : Addr} {st st' : DrawSt} {i : Nat}
theorem drOf_run (sd : SD K g H σ s) (i : Nat) : (∃ st a l, drOf i s = .ok st s ∧ s.env[i]? = some (some (.fz .draw)) ∧ s.dr = some st ∧ σ[i]? = some (some (.ref a)) ∧ g.dr = some (a, l) ∧ DrAt g H a l st) ∨ drOf i s = .bad := by
  unfold drOf
  split
  · rename_i st h1 h2
    obtain ⟨v, ev, wa⟩ := sd.slot i _ h1
    cases (show Rep K g v .draw from wa) with
    | draw e =>
      rename_i a l
      have q := sd.dr
      rw [e, h2] at q
      exact .inl ⟨st, a, l, rfl, h1, h2, ev, e, q⟩
  · exact .inr rfl
theorem SD.drUpd (sd : SD K g H σ s) (e : g.dr = some (a, l)) (q : DrAt g H' a l st') (k : ∀ b, b ≠ a → b ≠ l → H' b = H b) : SD K g H' σ { s with dr := some st' } ∧ Ev g H σ s g H' σ { s with dr := some st' } := by
  have dr : ∀ b, b = a ∨ b = l → IsDr g b := fun b h => ⟨a, l, e, h⟩
  have live : ∀ b, H b ≠ none → H' b ≠ none := fun b hb => by
    by_cases z : b = a
    · subst z; obtain ⟨c, h, _⟩ := q.dict; rw [h]; simp
    · by_cases z2 : b = l
      · subst z2; rw [q.list]; simp
      · rw [k b z z2]; exact hb
  refine ⟨⟨fun b u eb => ?_, sd.len, fun j w ej => ?_, sd.inj, sd.stl, fun j mo b e1 e2 => ?_, sd.nd, sd.ng, ?_⟩,
    ⟨.refl g, fun b u eb nm => ?_, live, fun b _ z => .inl z, fun _ _ z => z, fun b mm => .inl mm, fun b mm => .inl mm, fun b mm => .inl mm, fun j x h => ⟨rfl, x, .inl h⟩, fun j x h => ⟨rfl, h⟩, fun j x h => ⟨rfl, h⟩⟩⟩
  · have n1 : b ≠ a := fun z => by subst z; rw [q.ga] at eb; cases eb
    have n2 : b ≠ l := fun z => by subst z; rw [q.gl] at eb; cases eb
    exact (sd.gh b u eb).keep fun _ h => by rw [k b n1 n2]; exact h
  · obtain ⟨v, ev, wa⟩ := sd.slot j w ej
    have fr : w.held = true → ∀ b, v = .ref b → Free1 g b := fun hw b eb => by
      cases w with
      | fz d => cases hw
      | own d => obtain ⟨c, _, ec, f, _⟩ := wa; rw [ec] at eb; cases eb; exact f
      | lent d => obtain ⟨c, _, ec, f, _⟩ := wa; rw [ec] at eb; cases eb; exact f
      | lk d => obtain ⟨c, _, ec, f, _⟩ := wa; rw [ec] at eb; cases eb; exact f
      | lkl d => obtain ⟨c, _, ec, f, _⟩ := wa; rw [ec] at eb; cases eb; exact f
    exact ⟨v, ev, wa.keep (.refl g) (fun b u eb hw h => by
      rw [k b (fun z => (fr hw b eb).2.2 (dr b (.inl z))) fun z => (fr hw b eb).2.2 (dr b (.inr z))]; exact h) fun _ _ _ z => z⟩
  · obtain ⟨u, h, mm⟩ := sd.sto j mo b e1 e2
    have nd := (sd.ng b (List.mem_of_getElem? e2)).2
    exact ⟨u, by rw [k b (fun z => nd (dr b (.inl z))) fun z => nd (dr b (.inr z))]; exact h, mm⟩
  · show DrOk g H' g.dr (some st')
    rw [e]; exact q
  · rw [k b (fun z => nm (.inr (.inr (dr b (.inl z))))) fun z => nm (.inr (.inr (dr b (.inr z))))]; exact eb
theorem DrAt.key (q : DrAt g H a l st) : ∃ c, H a = some (.dK (drKvs l c st)) ∧ g.G c = some (.lst (st.cells.map V.int)) := q.dict
theorem SD.drSet (sd : SD K g H σ s) (e : g.dr = some (a, l)) (q : DrAt g H a l st) (hc : g.G c = some (.lst (st'.cells.map V.int))) (hl : st'.large = st.large) : SD K g (upd H a (.dK (drKvs l c st'))) σ { s with dr := some st' } ∧ Ev g H σ s g (upd H a (.dK (drKvs l c st'))) σ { s with dr := some st' } :=
  sd.drUpd e ⟨⟨c, upd_same, hc⟩, by rw [upd_ne q.ne.symm, hl]; exact q.list, q.ne, q.ga, q.gl⟩ fun b n1 _ => upd_ne n1
theorem ints_reps {xs : List V} : ∀ {ns : List Int}, Reps K g xs (ns.map D.int) → xs = ns.map V.int := fun {ns} h => by
  induction ns generalizing xs with
  | nil => cases h; rfl
  | cons n ns ih =>
    cases h with
    | cons a b => cases a; rw [ih b]; rfl
end
section
variable {X : Cx} {Wx : WX} {x y : Str} {p p2 p3 p4 pos tpos apos cpos : Pos} {i j k n : Nat} {e : Expr} {fv : M VR}
theorem kvs_get (kk : DK) (l c : Addr) (st : DrawSt) : valV (drKvs l c st) (.inr kk.str) = some (st.val c kk) := by
  cases kk <;> rfl
theorem de_drGet (kk : DK) {ks : Str} (hks : ks = kk.str) (hu : X.A.units + 1 < cLine) (hN : X.N[i]? = some x) (hv : Vis X.env.scope x) (hd : (x == ("__debug__" : Str)) = false := by decide) (hcd : (x == ("__classdict__" : Str)) = false := by decide) (hs : PlainIx (.Constant (.str ks) n p2) := by exact fun _ _ => rfl) :
    DE X Wx (.Subscript (.Name x p) (.Constant (.str ks) n p2) pos) (drGet kk i) := ⟨fun pins s σ H Q I q => (pe_ix (ix_dict hu) (pe_var hN hv hd hcd) pe_str hs).run pins s σ H Q I (by
  subst hks
  obtain ⟨g, st, k0⟩ := q.start
  rcases drOf_run k0.sd i with ⟨dr, a, l, q1, _, _, ea, eg, da⟩ | q1
  · obtain ⟨c, hc, gc⟩ := da.key
    refine ⟨.ref a, ea, a, _, rfl, .inl ⟨_, .inr kk.str, .inl hc, rfl, (kvs_get kk l c dr).symm⟩, ?_⟩
    refine k0.done (a := .fz (dr.get kk)) (by unfold drGet; rw [bind_eq, q1]; rfl) ⟨show TAt X.K g H (dr.val c kk) (.fz (dr.get kk)) from ?_, fun _ _ z => nomatch z⟩
    show Rep X.K g (dr.val c kk) (dr.get kk)
    cases kk with
    | rest => exact .int _
    | turn => exact .int _
    | mix => exact .int _
    | cells => exact .lst gc (.ints _)
  · exact (k0.notBad (by unfold drGet; rw [bind_eq, q1])).elim)⟩
theorem kvs_put (kk : DK) (l c : Addr) (st : DrawSt) (m : Int) (h : kk ≠ .cells) : putK (drKvs l c st) (.inr kk.str) (V.int m) = drKvs l c (st.set kk m) := by
  cases kk with
  | cells => exact (h rfl).elim
  | _ => rfl
theorem ds_drSet (kk : DK) {ks : Str} (hks : ks = kk.str) (hu : X.A.units + 1 < cLine) (hN : X.N[i]? = some x) (hv : Vis X.env.scope x) (he : DV X Wx e fv) (hd : (x == ("__debug__" : Str)) = false := by decide) (hcd : (x == ("__classdict__" : Str)) = false := by decide)
    (ha : ∀ v, assign (.Subscript (.Name x p) (.Constant (.str ks) n p2) tpos) X.env v = (do
      let ov ← holding [v] (eval (.Name x p) X.env)
      let iv ← holding [v, ov] (eval (.Constant (.str ks) n p2) X.env)
      standAt tpos
      holding [v, ov, iv] (setItem ov iv v)
      release [v, ov, iv] []) := by intro _; rfl)
    (hs : swapsWithSole [.Subscript (.Name x p) (.Constant (.str ks) n p2) tpos] e pos.line X.env = pure false := by rfl) (hw : swappedStores [.Subscript (.Name x p) (.Constant (.str ks) n p2) tpos] e X.env = pure none := by rfl)
    (h1 : (assignEach [.Subscript (.Name x p) (.Constant (.str ks) n p2) tpos] X.env).map (·.2) = [assign (.Subscript (.Name x p) (.Constant (.str ks) n p2) tpos) X.env] := by rfl) :
    DS X Wx (.Assign [.Subscript (.Name x p) (.Constant (.str ks) n p2) tpos] e pos) (drSet kk i fv) := ⟨fun pins s σ H D I q => (ps_asg he (pg_sub (pe_var hN hv hd hcd) pe_str (set_dict hu) ha) hs hw h1).run pins s σ H D I (by
  subst hks
  obtain ⟨g, st, k0⟩ := q.start
  refine k0.bind.mono fun v H1 ⟨r, g1, s1, k1, r1, e1⟩ => ?_
  obtain ⟨d, g2, s2, k2, rp, _⟩ := k1.frz r1
  rcases drOf_run k2.sd i with ⟨dr, a, l, q1, _, _, ea, eg, da⟩ | q1
  · obtain ⟨c, hc, gc⟩ := da.key
    have k3 : CurS X.K Wx D g H σ st ((match d, kk with
      | .int n, .rest => putDr (dr.set .rest n)
      | .int n, .turn => putDr (dr.set .turn n)
      | .int n, .mix => putDr (dr.set .mix n)
      | _, _ => M.bad) s2) g2 H1 σ s2 := ⟨k2.ev, k2.sd, by have p := k2.post; rw [bind_eq, q1] at p; exact p⟩
    have key : ∃ m, d = .int m ∧ kk ≠ .cells := by
      cases kk with
      | cells => cases d <;> exact (k3.notBad rfl).elim
      | _ =>
        cases d with
        | int m => exact ⟨m, rfl, fun z => nomatch z⟩
        | _ => exact (k3.notBad rfl).elim
    obtain ⟨m, rfl, hk⟩ := key
    have k4 : CurS X.K Wx D g H σ st (putDr (dr.set kk m) s2) g2 H1 σ s2 := by
      cases kk with
      | cells => exact (hk rfl).elim
      | _ => exact k3
    cases rp
    obtain ⟨sd5, ev5⟩ := k4.sd.drSet (st' := dr.set kk m) eg da (c := c) (by cases kk <;> exact gc) (by cases kk <;> rfl)
    refine ⟨.ref a, ea, a, _, rfl, .inl ⟨_, .inr kk.str, hc, rfl, (by decide : 5 < sizeLine), rfl⟩, ?_⟩
    rw [kvs_put kk l c dr m hk]
    exact k4.next rfl sd5 ev5
  · exact (k2.notBad (by rw [bind_eq, q1])).elim)⟩
theorem dt_drNe (hu : X.A.units + 64 < cLine) (hN : X.N[i]? = some x) (hv : Vis X.env.scope x) (hd : (x == ("__debug__" : Str)) = false := by decide) (hcd : (x == ("__classdict__" : Str)) = false := by decide) (hs : PlainIx (.Constant (.str "large") n p2) := by exact fun _ _ => rfl) (hm : behindInMarks .NotEq (.List [] p4) = false := by rfl) :
    DT X Wx (.Compare (.Subscript (.Name x p) (.Constant (.str "large") n p2) p3) [.NotEq] [.List [] p4] pos) (drNe i) := ⟨fun pins s σ H Q I q => (pt_cmpR (op_neD hu) (pe_ix (ix_dict (by omega)) (pe_var hN hv hd hcd) pe_str hs) (pe_lst pa_nil) hm).run pins s σ H Q I (by
  obtain ⟨g, st, k0⟩ := q.start
  rcases drOf_run k0.sd i with ⟨dr, a, l, q1, _, _, ea, eg, da⟩ | q1
  · obtain ⟨c, hc, gc⟩ := da.key
    refine ⟨.ref a, ea, a, .ref l, rfl, .inl ⟨_, .inr "large", .inl hc, rfl, rfl⟩, Nat.zero_le _, fun p hp => ?_⟩
    have f1 := k0.sd.free1 hp
    have sd2 := k0.sd.alloc (o := .lst []) hp
    have hl2 : (upd H p (.lst [])) l = some (.lst (dr.large.map V.int)) := by rw [upd_ne (ne_of_none da.list hp)]; exact da.list
    have hx : VAt X.K g (upd H p (.lst [])) (.ref l) (.lst (dr.large.map D.int)) := .inr ⟨l, _, rfl, .inl hl2, _, rfl, .ints _⟩
    have hy : VAt X.K g (upd H p (.lst [])) (.ref p) (.lst []) := .inr ⟨p, _, rfl, .inl upd_same, _, rfl, .nil⟩
    have k1 : Cur X.K Wx σ (RB σ H) Q g H st ((match neT (.lst (dr.large.map D.int)) (.lst []) with | some (.fz (.bl b)) => pure b | _ => M.bad) st) g H st := ⟨k0.ev, k0.sd, by have p := k0.post; unfold drNe at p; rw [bind_eq, q1] at p; exact p⟩
    cases hq : eqD (.lst (dr.large.map D.int)) (.lst []) with
    | none =>
      have z : neT (.lst (dr.large.map D.int)) (.lst []) = none := by unfold neT; rw [hq]; rfl
      exact (k1.notBad (by rw [z]; rfl)).elim
    | some b =>
      obtain ⟨p1, p2, e1, e2, s1, s2, rfl⟩ := eqD_some hq
      refine ⟨p1, p2, hx.dp sd2 e1, hy.dp sd2 e2, s1, s2, _, rfl, ?_⟩
      exact k1.done' (a := !(PyData.eqv p1 p2)) (by rw [show neT (.lst (dr.large.map D.int)) (.lst []) = some (.fz (.bl (!(PyData.eqv p1 p2)))) from by unfold neT; rw [hq]; rfl]; rfl) sd2 (k0.sd.allocEv hp) rfl
  · exact (k0.notBad (by unfold drNe; rw [bind_eq, q1])).elim)⟩
theorem ds_drPop (hu : X.A.units + 1 < cLine) (hN : X.N[i]? = some x) (hv : Vis X.env.scope x) {q1 q2 q3 q4 : Pos} {m1 m2 : Nat} (hd : (x == ("__debug__" : Str)) = false := by decide) (hcd : (x == ("__classdict__" : Str)) = false := by decide) (hs1 : PlainIx (.Constant (.str "large") m1 q2) := by exact fun _ _ => rfl)
    (hbase : attributeBase (.Subscript (.Name x q1) (.Constant (.str "large") m1 q2) q3) "pop" X.env (eval (.Subscript (.Name x q1) (.Constant (.str "large") m1 q2) q3) X.env) = eval (.Subscript (.Name x q1) (.Constant (.str "large") m1 q2) q3) X.env := by rfl)
    (hfew : ((backTo cpos (starEach [.Constant (.int 0) m2 q4] X.env)).all (fun x => !x.1) && (backToKw cpos (keywordEach [] X.env)).all (fun x => x.1.isSome)
      && decide (([.Constant (.int 0) m2 q4] : List Expr).length + ([] : List Keyword).length + (if ([] : List Keyword).isEmpty then 0 else 1) < 30)) = true := by rfl)
    (hline : (apos.endLine == cpos.line) = true := by rfl) (hst : starEach [.Constant (.int 0) m2 q4] X.env = (false, eval (.Constant (.int 0) m2 q4) X.env) :: starEach [] X.env := by rfl) (hplain : (backTo cpos (starEach [] X.env)).any (·.1) = false := by rfl)
    (ha : ∀ v, assign (.Subscript (.Name x p) (.Constant (.str "rest") n p2) tpos) X.env v = (do
      let ov ← holding [v] (eval (.Name x p) X.env)
      let iv ← holding [v, ov] (eval (.Constant (.str "rest") n p2) X.env)
      standAt tpos
      holding [v, ov, iv] (setItem ov iv v)
      release [v, ov, iv] []) := by intro _; rfl)
    (hs : swapsWithSole [.Subscript (.Name x p) (.Constant (.str "rest") n p2) tpos] (.Call (.Attribute (.Subscript (.Name x q1) (.Constant (.str "large") m1 q2) q3) "pop" apos) [.Constant (.int 0) m2 q4] [] cpos) pos.line X.env = pure false := by rfl)
    (hw : swappedStores [.Subscript (.Name x p) (.Constant (.str "rest") n p2) tpos] (.Call (.Attribute (.Subscript (.Name x q1) (.Constant (.str "large") m1 q2) q3) "pop" apos) [.Constant (.int 0) m2 q4] [] cpos) X.env = pure none := by rfl)
    (h1 : (assignEach [.Subscript (.Name x p) (.Constant (.str "rest") n p2) tpos] X.env).map (·.2) = [assign (.Subscript (.Name x p) (.Constant (.str "rest") n p2) tpos) X.env] := by rfl) :
    DS X Wx (.Assign [.Subscript (.Name x p) (.Constant (.str "rest") n p2) tpos] (.Call (.Attribute (.Subscript (.Name x q1) (.Constant (.str "large") m1 q2) q3) "pop" apos) [.Constant (.int 0) m2 q4] [] cpos) pos) (drPop i) :=
  ⟨fun pins s σ H D I q => (ps_asg (pe_bm PySem.F.plainAttrs_list PySem.F.slot_list_pop PySem.F.type_list_pop mt_popAt (pe_ix (ix_dict hu) (pe_var hN hv hd hcd) pe_str hs1) (pa_cons pe_int pa_nil) hbase hfew hline hst hplain) (pg_sub (pe_var hN hv hd hcd) pe_str (set_dict hu) ha) hs hw h1).run pins s σ H D I (by
  obtain ⟨g, st, k0⟩ := q.start
  rcases drOf_run k0.sd i with ⟨dr, a, l, q1, _, _, ea, eg, da⟩ | q1
  · obtain ⟨c, hc, gc⟩ := da.key
    have k1 : CurS X.K Wx D g H σ st ((match dr.large with | x :: xs => putDr { dr with rest := x, large := xs } | [] => M.bad) st) g H σ st := ⟨k0.ev, k0.sd, by have p := k0.post; unfold drPop at p; rw [bind_eq, q1] at p; exact p⟩
    cases hl : dr.large with
    | nil => rw [hl] at k1; exact (k1.notBad rfl).elim
    | cons y ys =>
      rw [hl] at k1
      have hL : H l = some (.lst ((y :: ys).map V.int)) := by rw [← hl]; exact da.list
      refine ⟨.ref a, ea, a, .ref l, rfl, .inl ⟨_, .inr "large", .inl hc, rfl, rfl⟩, .inl ⟨rfl, _, .of hL⟩, l, _, 0, 0, .int y, rfl, rfl, hL, by decide, by decide, by simp [seqIndex?], rfl, .ref a, ea, a, _, rfl, .inl ⟨drKvs l c dr, .inr "rest", by rw [upd_ne da.ne]; exact hc, rfl, (by decide : 5 < sizeLine), rfl⟩, ?_⟩
      have hp : putK (drKvs l c dr) (.inr ("rest" : Str)) (V.int y) = drKvs l c { dr with rest := y, large := ys } := rfl
      rw [hp]
      obtain ⟨sd5, ev5⟩ := k1.sd.drUpd (a := a) (l := l) (st' := { dr with rest := y, large := ys }) (H' := upd (upd H l (.lst (((y :: ys).map V.int).eraseIdx 0))) a (.dK (drKvs l c { dr with rest := y, large := ys }))) eg ⟨⟨c, upd_same, gc⟩, by rw [upd_ne da.ne.symm, upd_same]; rfl, da.ne, da.ga, da.gl⟩ fun b n1 n2 => by rw [upd_ne n1, upd_ne n2]
      exact k1.next rfl sd5 ev5
  · exact (k0.notBad (by unfold drPop; rw [bind_eq, q1])).elim)⟩
theorem ds_drDiv {z : Str} {q1 q2 q3 q4 q5 q6 q7 q8 : Pos} {m1 kk : Nat} (hc : X.calm = true) (hnd : X.N.Nodup) (hu : X.A.units + 1 < cLine) (hgl : Gl X "divmod") (hm : X.mg "divmod" = none) (hbt : bootBuiltins "divmod" = some (.builtin "divmod")) (hN : X.N[i]? = some x) (hv : Vis X.env.scope x) (hNy : X.N[j]? = some y) (hvy : Vis X.env.scope y) (hNz : X.N[k]? = some z) (hlz : Loc X.env.scope z)
    (hf : X.fn z = true ∨ X.env.scope.names.lookup z = some .local := by first | exact .inl rfl | exact .inr rfl | assumption)
    (hd : (x == ("__debug__" : Str)) = false := by decide) (hcd : (x == ("__classdict__" : Str)) = false := by decide) (hdy : (y == ("__debug__" : Str)) = false := by decide) (hcdy : (y == ("__classdict__" : Str)) = false := by decide) (hs1 : PlainIx (.Constant (.str "rest") m1 q2) := by exact fun _ _ => rfl)
    (he : starEach [.Subscript (.Name x q1) (.Constant (.str "rest") m1 q2) q3, .Name y q4] X.env = (false, eval (.Subscript (.Name x q1) (.Constant (.str "rest") m1 q2) q3) X.env) :: starEach [.Name y q4] X.env := by rfl) (hpl : (backTo q5 (starEach [.Name y q4] X.env)).any (·.1) = false := by rfl)
    (ha : ∀ v, assign (.Subscript (.Name x p) (.Constant (.str "rest") n p2) tpos) X.env v = (do
      let ov ← holding [v] (eval (.Name x p) X.env)
      let iv ← holding [v, ov] (eval (.Constant (.str "rest") n p2) X.env)
      standAt tpos
      holding [v, ov, iv] (setItem ov iv v)
      release [v, ov, iv] []) := by intro _; rfl)
    (hn : (assignEach [.Subscript (.Name x p) (.Constant (.str "rest") n p2) tpos, .Name z q6] X.env).length = 2 := by rfl) (hst : (assignEach [.Subscript (.Name x p) (.Constant (.str "rest") n p2) tpos, .Name z q6] X.env).findIdx? (·.1) = none := by rfl)
    (hs2 : (assignEach [.Subscript (.Name x p) (.Constant (.str "rest") n p2) tpos, .Name z q6] X.env).map (·.2) = assign (.Subscript (.Name x p) (.Constant (.str "rest") n p2) tpos) X.env :: (assignEach [.Name z q6] X.env).map (·.2) := by rfl)
    (hs3 : (assignEach [.Name z q6] X.env).map (·.2) = assign (.Name z q6) X.env :: (assignEach [] X.env).map (·.2) := by rfl)
    (hs : swapsWithSole [.Tuple [.Subscript (.Name x p) (.Constant (.str "rest") n p2) tpos, .Name z q6] kk q7] (.Call (.Name "divmod" q8) [.Subscript (.Name x q1) (.Constant (.str "rest") m1 q2) q3, .Name y q4] [] q5) pos.line X.env = pure false := by rfl)
    (hw : swappedStores [.Tuple [.Subscript (.Name x p) (.Constant (.str "rest") n p2) tpos, .Name z q6] kk q7] (.Call (.Name "divmod" q8) [.Subscript (.Name x q1) (.Constant (.str "rest") m1 q2) q3, .Name y q4] [] q5) X.env = pure none := by rfl)
    (h1 : (assignEach [.Tuple [.Subscript (.Name x p) (.Constant (.str "rest") n p2) tpos, .Name z q6] kk q7] X.env).map (·.2) = [assign (.Tuple [.Subscript (.Name x p) (.Constant (.str "rest") n p2) tpos, .Name z q6] kk q7) X.env] := by rfl) :
    DS X Wx (.Assign [.Tuple [.Subscript (.Name x p) (.Constant (.str "rest") n p2) tpos, .Name z q6] kk q7] (.Call (.Name "divmod" q8) [.Subscript (.Name x q1) (.Constant (.str "rest") m1 q2) q3, .Name y q4] [] q5) pos) (drDiv i j k) :=
  ⟨fun pins s σ H D I q => (ps_asg (pe_callB call_divmodW hgl hm hbt (pa_cons (pe_ix (ix_dict hu) (pe_var hN hv hd hcd) pe_str hs1) (pa_cons (pe_var hNy hvy hdy hcdy) pa_nil)) (by decide) (by decide) he hpl) (pg_tup hc (pgs_cons (pg_sub (pe_var hN hv hd hcd) pe_str (set_dict hu) ha) (pgs_cons (pg_name hnd hNz hlz hf) pgs_nil hs3) hs2) hn hst) hs hw h1).run pins s σ H D I (by
  obtain ⟨g, st, k0⟩ := q.start
  rcases drOf_run k0.sd i with ⟨dr, a, l, q1, e0, edr, ea, eg, da⟩ | q1
  · obtain ⟨c, hc, gc⟩ := da.key
    have p := k0.post
    unfold drDiv at p
    rw [bind_eq, q1] at p
    simp only at p
    split at p
    · rename_i nn hj
      by_cases hb : 0 < nn ∧ nn < 18446744073709551616
      · rw [if_pos hb] at p
        obtain ⟨v, evj, wa⟩ := k0.sd.slot j _ hj
        cases (show Rep X.K g v (.int nn) from wa)
        refine ⟨.ref a, ea, a, _, rfl, .inl ⟨_, .inr "rest", .inl hc, rfl, rfl⟩, .int nn, evj, dr.rest, nn, rfl, divWide hb, fun t ht => ?_⟩
        have nta : a ≠ t := ne_of_none hc ht
        have ntl : l ≠ t := ne_of_none da.list ht
        refine ⟨t, _, rfl, .inl (.inl upd_same), rfl, _, _, rfl, ⟨.ref a, ea, a, _, rfl, .inl ⟨drKvs l c dr, .inr "rest", by rw [upd_ne nta]; exact hc, rfl, (by decide : 5 < sizeLine), rfl⟩, _, _, rfl, ?_⟩⟩
        refine ⟨rfl, ?_⟩
        have hp : putK (drKvs l c dr) (.inr ("rest" : Str)) (V.int (dr.rest / nn)) = drKvs l c (dr.set .rest (dr.rest / nn)) := rfl
        rw [hp]
        have sd1 := k0.sd.alloc (o := .tup [V.int (dr.rest / nn), V.int (dr.rest % nn)]) ht
        have ev1 := k0.sd.allocEv (o := .tup [V.int (dr.rest / nn), V.int (dr.rest % nn)]) ht
        have da1 : DrAt g (upd H t (.tup [V.int (dr.rest / nn), V.int (dr.rest % nn)])) a l dr := ⟨⟨c, by rw [upd_ne nta]; exact hc, gc⟩, by rw [upd_ne ntl]; exact da.list, da.ne, da.ga, da.gl⟩
        obtain ⟨sd2, ev2⟩ := sd1.drSet (st' := dr.set .rest (dr.rest / nn)) eg da1 gc rfl
        unfold setO at p
        by_cases cs : canSet { st with dr := some (dr.set .rest (dr.rest / nn)) } k = true
        · simp only [if_pos cs] at p
          obtain ⟨sd3, ev3⟩ := setT_run (i := k) (t := .fz (.int (dr.rest % nn))) (s' := putE { st with dr := some (dr.set .rest (dr.rest / nn)) } k (.fz (.int (dr.rest % nn)))) (v := V.int (dr.rest % nn)) (by unfold setT; rw [if_pos cs]; rfl) .refl sd2 ⟨show TAt X.K g _ (V.int (dr.rest % nn)) (.fz (.int _)) from (show Rep X.K g _ (.int _) from .int _), fun _ _ z => nomatch z⟩
          exact p _ _ _ sd3 ((ev1.trans ev2).trans ev3)
        · simp only [if_neg cs] at p; exact p.elim
      · rw [if_neg hb] at p; exact p.elim
    · exact p.elim
  · exact (k0.notBad (by unfold drDiv; rw [bind_eq, q1])).elim)⟩
end
end DL
set_option Elab.async false
set_option linter.all false
set_option maxRecDepth 100000
set_option maxHeartbeats 1000000
namespace DL
open PySem PySem.Spec PyProof.Rows L2
theorem loopC_pure {pt : Pt} {vs : List Nat} {ft : M Bool} {fe : M VR} {s : State} {p : D → Bool} {q : D → D} : ∀ (items acc : List D),
    (∀ d ∈ items, ∃ s1, bindP pt d s = some s1 ∧ ft s1 = .ok (p d) s1 ∧ (p d = true → (fe >>= frz) s1 = .ok (q d) s1) ∧ wipeS vs s1 = s) → loopC pt vs ft fe items acc s = .ok (acc ++ (items.filter p).map q) s
  | [], acc, _ => by unfold loopC; simp
  | d :: ds, acc, h => by
    obtain ⟨s1, h1, h2, h3, h4⟩ := h d List.mem_cons_self
    unfold loopC
    rw [h1]
    simp only [h2]
    cases hp : p d with
    | true =>
      simp only [h3 hp, h4]
      rw [loopC_pure ds _ fun d' hd => h d' (List.mem_cons_of_mem _ hd), List.filter_cons_of_pos (by simpa using hp), List.map_cons, List.append_assoc]
      rfl
    | false =>
      simp only [h4]
      rw [loopC_pure ds _ fun d' hd => h d' (List.mem_cons_of_mem _ hd), List.filter_cons_of_neg (by simp [hp])]
def absI (n : Int) : Int := if n < 0 then -n else n
def bigI (n : Int) : Bool := decide (10 ^ 18 ≤ absI n)
def largeOf (ns : List Int) : List Int := (ns.filter bigI).map absI
def beginSt (ns : List Int) : DrawSt := { large := largeOf ns, cells := ns, rest := 0, turn := 0, mix := 7 }
def dLarge : M Flow := dAsg 1 (dComp itS (.name 2) [2] (dB (dOp2 geD (dV (dCallB absD (dCons (dSlot 2) dNil))) (dV (dOp2 powD (dV (dC (.int 10))) (dV (dC (.int 18))))))) (dV (dCallB absD (dCons (dSlot 2) dNil))) (dOne (dSlot 0)))
def begSt (ns : List Int) : State := { env := [some (.fz (.frl ns)), none, none], sto := [], dr := none }
theorem large_eq (ns : List Int) (h : ns.length < sizeLine) : dLarge (begSt ns) = .ok .nx { begSt ns with env := [some (.fz (.frl ns)), some (.own (.lst ((largeOf ns).map D.int))), none] } := by
  have lp : loopC (.name 2) [2] (dB (dOp2 geD (dV (dCallB absD (dCons (dSlot 2) dNil))) (dV (dOp2 powD (dV (dC (.int 10))) (dV (dC (.int 18))))))) (dV (dCallB absD (dCons (dSlot 2) dNil))) (ns.map D.int) [] (begSt ns) = .ok ([] ++ ((ns.map D.int).filter (fun d => match d with | .int n => bigI n | _ => false)).map (fun d => match d with | .int n => .int (absI n) | d => d)) (begSt ns) := by
    refine loopC_pure _ _ fun d hd => ?_
    obtain ⟨n, _, rfl⟩ := List.mem_map.mp hd
    exact ⟨{ begSt ns with env := [some (.fz (.frl ns)), none, some (.fz (.int n))] }, rfl, rfl, fun _ => rfl, rfl⟩
  have e2 : ((ns.map D.int).filter (fun d => match d with | .int n => bigI n | _ => false)).map (fun d => match d with | .int n => .int (absI n) | d => d) = (largeOf ns).map D.int := by
    unfold largeOf
    rw [List.filter_map, List.map_map, List.map_map]
    rfl
  rw [e2] at lp
  have e3 : dLoopC (.name 2) [2] (dB (dOp2 geD (dV (dCallB absD (dCons (dSlot 2) dNil))) (dV (dOp2 powD (dV (dC (.int 10))) (dV (dC (.int 18))))))) (dV (dCallB absD (dCons (dSlot 2) dNil))) (ns.map D.int) (begSt ns) = .ok (.ow (.lst ((largeOf ns).map D.int))) (begSt ns) := by
    unfold dLoopC
    rw [if_pos ⟨rfl, by rw [List.length_map]; exact h⟩]
    have e4 : wipeS [2] (begSt ns) = begSt ns := rfl
    rw [e4, lp]
    rfl
  show (dComp itS (.name 2) [2] _ _ (dOne (dSlot 0)) >>= fun t => setT 1 t >>= fun _ => dNx) (begSt ns) = _
  rw [bind_eq]
  have e5 : dComp itS (.name 2) [2] (dB (dOp2 geD (dV (dCallB absD (dCons (dSlot 2) dNil))) (dV (dOp2 powD (dV (dC (.int 10))) (dV (dC (.int 18))))))) (dV (dCallB absD (dCons (dSlot 2) dNil))) (dOne (dSlot 0)) (begSt ns) = .ok (.ow (.lst ((largeOf ns).map D.int))) (begSt ns) := e3
  rw [e5]
  rfl
def spBegin (K : PySem.W.Frag) : Sp := fun vs H Q _ => ∃ (a : Addr) (ns : List Int), vs = [.ref a] ∧ SqL K H a (ns.map V.int) ∧ ns.length ≤ 63 ∧
  ∀ (H' : Hp) (d l c : Addr), (∀ b o, H b = some o → H' b = some o) → H d = none → H l = none → H c = none → d ≠ l → c ≠ l → c ≠ d → H' d = some (.dK (drKvs l c (beginSt ns))) → H' l = some (.lst ((beginSt ns).large.map V.int)) → H' c = some (.lst (ns.map V.int)) → Q (.ref d) H'
theorem seqAt {K : PySem.W.Frag} {H H' : Hp} {a : Addr} {xs : List V} (h : SqL K H a xs) (e : H' a = H a) : SqL K H' a xs := by
  rcases h with (h | ⟨o, h⟩) | h
  · exact .inl (.inl (e.trans h))
  · exact .inl (.inr ⟨o, e.trans h⟩)
  · exact .inr h
theorem sd_begin {K : PySem.W.Frag} {H : Hp} {a : Addr} {ns : List Int} (h : SqL K H a (ns.map V.int)) : SD K ⟨fun b => if b = a then H a else none, [], none⟩ H [some (.ref a), none, none] (begSt ns) where
  gh := fun b o e => by
    have e : (if b = a then H a else none) = some o := e
    by_cases z : b = a
    · rw [if_pos z] at e; rw [z]; exact .inl e
    · rw [if_neg z] at e; cases e
  len := rfl
  slot := fun i w e => by
    match i, e with
    | 0, e => cases e; exact ⟨_, rfl, show Rep K _ _ (.frl ns) from .frl (seqAt h (if_pos rfl))⟩
    | 1, e => cases e
    | 2, e => cases e
    | i + 3, e => cases e
  inj := fun i j w u b e1 e2 h1 _ _ _ => by
    match i, e1 with
    | 0, e1 => cases e1; cases h1
    | 1, e1 => cases e1
    | 2, e1 => cases e1
    | i + 3, e1 => cases e1
  stl := rfl
  sto := fun i m b e _ => by cases e
  nd := .nil
  ng := fun b hb => by cases hb
  dr := trivial
theorem begin_run {K : PySem.W.Frag} {H : Hp} {vs : List V} {Q : VK} {E : XK} (h : spBegin K vs H Q E) :
    tSeq (tS K (fun cls d _ H' => E cls d H') dLarge) (tRet (tDisp [(tC (.str "large"), tVar 1), (tC (.str "cells"), tCB (fun xs H Q => ∃ p ys, xs = [.ref p] ∧ (SqL K H p ys ∨ SqT K H p ys) ∧ ∀ l, H l = none → Q (.ref l) (upd H l (.lst ys))) (tCons (tVar 0) tNil)), (tC (.str "rest"), tC (.int 0)), (tC (.str "turn"), tC (.int 0)), (tC (.str "mix"), tC (.int 7))]))
      { nx := fun _ H' => Q .non H', rt := Q } (L2.start ["_law_script", "_law_large", "_law_cell"] vs) H := by
  obtain ⟨a, ns, rfl, hS, hl, k⟩ := h
  refine ⟨_, begSt ns, sd_begin hS, ?_⟩
  rw [large_eq ns (Nat.lt_of_le_of_lt hl (by decide))]
  intro σ' g' H' sd ev p hp
  obtain ⟨v1, e1, l, o, rfl, f1, hl1, xs, rfl, rx⟩ := sd.slot 1 _ rfl
  have ex := ints_reps rx
  subst ex
  obtain ⟨v0, e0, r0⟩ := sd.slot 0 (.fz (.frl ns)) rfl
  have keep : ∀ b o, H b = some o → H' b = some o := fun b o hb => ev.keep b o hb fun m => by
    rcases m with ⟨i, w, em, hm, _⟩ | m | ⟨x, y, m, _⟩
    · match i, em with
      | 0, em => cases em; cases hm
      | 1, em => cases em
      | 2, em => cases em
      | i + 3, em => cases em
    · cases m
    · cases m
  have hlN : H l = none := by
    rcases ev.mu l (.inl ⟨1, _, rfl, rfl, e1⟩) with m | m
    · rcases m with ⟨i, w, em, hm, _⟩ | m | ⟨x, y, m, _⟩
      · match i, em with
        | 0, em => cases em; cases hm
        | 1, em => cases em
        | 2, em => cases em
        | i + 3, em => cases em
      · cases m
      · cases m
    · exact m
  cases (show Rep K g' v0 (.frl ns) from r0) with
  | frl q0 =>
    rename_i a0
    have hs0 : SqL K H' a0 (ns.map V.int) := sd.seq q0
    have lp : l ≠ p := ne_of_none hl1 hp
    have hs1 : SqL K (upd H' p (.dK [])) a0 (ns.map V.int) := by
      rcases hs0 with (h | ⟨o, h⟩) | h
      · exact .inl (.inl (by rw [upd_ne (ne_of_none h hp)]; exact h))
      · exact .inl (.inr ⟨o, by rw [upd_ne (ne_of_none h hp)]; exact h⟩)
      · exact .inr h
    refine ⟨.ref l, e1, .ref a0, e0, a0, _, rfl, .inl hs1, fun c hc => ?_⟩
    have cp : c ≠ p := fun z => by rw [z, upd_same] at hc; cases hc
    have cl : c ≠ l := fun z => by rw [z, upd_ne lp, hl1] at hc; cases hc
    have hcN : H' c = none := by rw [upd_ne cp] at hc; exact hc
    have old : ∀ b, H' b = none → H b = none := fun b z => by
      cases q : H b with
      | none => rfl
      | some o => rw [keep b o q] at z; cases z
    refine ⟨by rw [upd_ne cp.symm, upd_same], [(.inr "large", .ref l), (.inr "cells", .ref c), (.inr "rest", .int 0), (.inr "turn", .int 0), (.inr "mix", .int 7)], rfl, (Nat.le_of_ble_eq_true rfl : 5 ≤ 15), ?_⟩
    refine k _ p l c (fun b o hb => ?_) (old p hp) hlN (old c hcN) lp.symm cl cp upd_same ?_ ?_
    · have h1 := keep b o hb
      rw [upd_ne (ne_of_none h1 hp), upd_ne (ne_of_none h1 hcN), upd_ne (ne_of_none h1 hp)]
      exact h1
    · rw [upd_ne lp, upd_ne cl.symm, upd_ne lp]; exact hl1
    · rw [upd_ne cp, upd_same]
def lawSt (ns : List Int) (n : Nat) : State := { env := some (.fz (.frl ns)) :: some (.fz .draw) :: List.replicate n none, sto := [], dr := some (beginSt ns) }
theorem bt_abs : bootBuiltins "abs" = some (.builtin "abs") := by decide +kernel
theorem bt_len : bootBuiltins "len" = some (.builtin "len") := by decide +kernel
theorem bt_max : bootBuiltins "max" = some (.builtin "max") := by decide +kernel
theorem bt_min : bootBuiltins "min" = some (.builtin "min") := by decide +kernel
theorem bt_all : bootBuiltins "all" = some (.builtin "all") := by decide +kernel
theorem bt_divmod : bootBuiltins "divmod" = some (.builtin "divmod") := by decide +kernel
theorem bt_int : bootBuiltins "int" = some (.type "int") := by decide +kernel
theorem bt_bool : bootBuiltins "bool" = some (.type "bool") := by decide +kernel
theorem bt_list : bootBuiltins "list" = some (.type "list") := by decide +kernel
theorem bt_tuple : bootBuiltins "tuple" = some (.type "tuple") := by decide +kernel
theorem cx_none {P : Program} {w : World} {l : List Env} {H : Hp} {s : Shared} {e : Value} {s' : Shared} (z : L2.CX P w l H s (fun _ _ _ => False) e s') : False := by
  obtain ⟨_, _, _, _, _, _, _, _, _, _, _, _, z⟩ := z
  exact z
end DL
set_option Elab.async false
set_option linter.all false
set_option maxRecDepth 100000
set_option maxHeartbeats 1000000
namespace DL
open PySem
section
variable {α β : Type} {s s1 s2 : State}
theorem yes {A B : Prop} (h : A) : if true = true then A else B := by rw [if_pos rfl]; exact h
theorem no {A B : Prop} (h : B) : if false = true then A else B := by rw [if_neg Bool.false_ne_true]; exact h
def ok (m : M α) (s : State) (Q : α → State → Prop) : Prop := ∃ a s', m s = .ok a s' ∧ Q a s'
theorem ok.eq {m : M α} {Q : α → State → Prop} {a : α} (h : m s = .ok a s1) (q : Q a s1) : ok m s Q := ⟨a, s1, h, q⟩
theorem ok.bind {f : M α} {k : α → M β} {Q : β → State → Prop} (h : ok f s fun a s1 => ok (k a) s1 Q) : ok (f >>= k) s Q := by
  obtain ⟨a, s1, e, b, s2, e2, q⟩ := h
  exact ⟨b, s2, by rw [bind_eq, e]; exact e2, q⟩
theorem ok.step {f : M α} {k : α → M β} {Q : β → State → Prop} {a : α} (e : f s = .ok a s1) (h : ok (k a) s1 Q) : ok (f >>= k) s Q := .bind ⟨a, s1, e, h⟩
theorem ok.mono {m : M α} {Q Q' : α → State → Prop} (h : ok m s Q) (k : ∀ a s', Q a s' → Q' a s') : ok m s Q' := by
  obtain ⟨a, s1, e, q⟩ := h
  exact ⟨a, s1, e, k _ _ q⟩
theorem ok.ite {c : M Bool} {a b : M α} {Q : α → State → Prop} (h : ok c s fun t s1 => if t = true then ok a s1 Q else ok b s1 Q) : ok (dIf c a b) s Q := by
  refine ok.bind (h.mono fun t s1 q => ?_)
  cases t with
  | true => rw [if_pos rfl] at q ⊢; exact q
  | false => rw [if_neg Bool.false_ne_true] at q ⊢; exact q
theorem ok.dec {c : M Bool} {P : Prop} [Decidable P] {Q : Bool → State → Prop} (e : c s = .ok (decide P) s1) (h1 : P → Q true s1) (h2 : ¬ P → Q false s1) : ok c s Q := by
  refine ok.eq e ?_
  by_cases h : P
  · rw [decide_eq_true h]; exact h1 h
  · rw [decide_eq_false h]; exact h2 h
theorem ok.tt {a b : M α} {Q : α → State → Prop} (h : ok a s Q) : if true = true then ok a s Q else ok b s Q := by rw [if_pos rfl]; exact h
theorem ok.and {f k : M Bool} {Q : Bool → State → Prop} (h : ok f s fun t s1 => if t = true then ok k s1 Q else Q false s1) : ok (dAnd f k) s Q := by
  refine ok.bind (h.mono fun t s1 q => ?_)
  cases t with
  | true => rw [if_pos rfl] at q ⊢; exact q
  | false => rw [if_neg Bool.false_ne_true] at q ⊢; exact ⟨_, _, rfl, q⟩
theorem ok.or {f k : M Bool} {Q : Bool → State → Prop} (h : ok f s fun t s1 => if t = true then Q true s1 else ok k s1 Q) : ok (dOr f k) s Q := by
  refine ok.bind (h.mono fun t s1 q => ?_)
  cases t with
  | true => rw [if_pos rfl] at q ⊢; exact ⟨_, _, rfl, q⟩
  | false => rw [if_neg Bool.false_ne_true] at q ⊢; exact q
theorem ok.not {f : M Bool} {Q : Bool → State → Prop} (h : ok f s fun t s1 => Q (!t) s1) : ok (dNot f) s Q := by
  refine ok.bind (h.mono fun t s1 q => ?_)
  exact ⟨_, _, rfl, q⟩
end
section
variable {s s1 s2 : State}
def okS (m : M Flow) (s : State) (Nx : State → Prop) (Rt : T → State → Prop) : Prop := match m s with
  | .ok .nx s' => Nx s'
  | .ok (.rt t) s' => Rt t s'
  | _ => False
variable {Nx Nx' : State → Prop} {Rt Rt' : T → State → Prop}
theorem okS.nx {m : M Flow} (e : m s = .ok .nx s1) (h : Nx s1) : okS m s Nx Rt := by unfold okS; rw [e]; exact h
theorem okS.rt {m : M Flow} {t : T} (e : m s = .ok (.rt t) s1) (h : Rt t s1) : okS m s Nx Rt := by unfold okS; rw [e]; exact h
theorem okS.mono {m : M Flow} (h : okS m s Nx Rt) (k1 : ∀ s', Nx s' → Nx' s') (k2 : ∀ t s', Rt t s' → Rt' t s') : okS m s Nx' Rt' := by
  unfold okS at h ⊢
  cases q : m s with
  | bad => rw [q] at h; exact h
  | err x s' => rw [q] at h; exact h
  | ok f s' =>
    rw [q] at h
    cases f with
    | nx => exact k1 _ h
    | rt t => exact k2 _ _ h
    | bk => exact h
    | ct => exact h
theorem okS.seq {f k : M Flow} (h : okS f s (fun s1 => okS k s1 Nx Rt) Rt) : okS (dSeq f k) s Nx Rt := by
  unfold okS dSeq at *
  cases q : f s with
  | bad => rw [q] at h; exact h
  | err x s' => rw [q] at h; exact h
  | ok fl s' =>
    rw [q] at h
    cases fl with
    | nx => exact h
    | rt t => exact h
    | bk => exact h
    | ct => exact h
theorem okS.ite {c : M Bool} {a b : M Flow} (h : ok c s fun t s1 => if t = true then okS a s1 Nx Rt else okS b s1 Nx Rt) : okS (dIf c a b) s Nx Rt := by
  obtain ⟨t, s1, e, q⟩ := h
  unfold okS dIf at *
  rw [bind_eq, e]
  cases t with
  | true => rw [if_pos rfl] at q; exact q
  | false => rw [if_neg Bool.false_ne_true] at q; exact q
theorem okS.tt {a b : M Flow} (h : okS a s Nx Rt) : if true = true then okS a s Nx Rt else okS b s Nx Rt := by rw [if_pos rfl]; exact h
theorem okS.bind {α : Type} {f : M α} {k : α → M Flow} (h : ok f s fun a s1 => okS (k a) s1 Nx Rt) : okS (f >>= k) s Nx Rt := by
  obtain ⟨a, s1, e, q⟩ := h
  unfold okS at *
  rw [bind_eq, e]
  exact q
theorem okS.ret {f : M T} (h : ok f s fun t s1 => Rt t s1) : okS (dRet f) s Nx Rt := okS.bind (h.mono fun t s1 q => okS.rt rfl q)
theorem okS.expr {f : M T} (h : ok f s fun _ s1 => Nx s1) : okS (dExpr f) s Nx Rt := okS.bind (h.mono fun t s1 q => okS.nx rfl q)
theorem okS.asg {i : Nat} {f : M T} (h : ok f s fun t s1 => canSet s1 i = true ∧ Nx (putE s1 i t.w)) : okS (dAsg i f) s Nx Rt := by
  refine okS.bind (h.mono fun t s1 q => okS.bind ⟨(), putE s1 i t.w, ?_, okS.nx rfl q.2⟩)
  unfold setT
  rw [if_pos q.1]
theorem okS.skip (h : Nx s) : okS dNx s Nx Rt := okS.nx rfl h
theorem okS.turn {p : Pt} {b : M Flow} {d : D} {ds : List D} (e : bindP p d s = some s1) (h : okS b s1 (fun s2 => okS (dForL p b ds) s2 Nx Rt) Rt) : okS (dForL p b (d :: ds)) s Nx Rt := by
  unfold okS at h ⊢
  unfold dForL
  rw [e]
  simp only
  cases q : b s1 with
  | bad => rw [q] at h; exact h.elim
  | err x s' => rw [q] at h; exact h.elim
  | ok f s' =>
    rw [q] at h
    cases f with
    | nx => exact h
    | rt t => exact h
    | bk => exact h.elim
    | ct => exact h.elim
theorem okS.forL {p : Pt} {b : M Flow} {items : List D} (I : Nat → State → Prop) : ∀ (k : Nat) (rest : List D), items.drop k = rest → k ≤ items.length → ∀ s, I k s →
    (∀ (i : Nat) (d : D) (s : State), items[i]? = some d → I i s → ∃ s1, bindP p d s = some s1 ∧ okS b s1 (I (i + 1)) Rt) → okS (dForL p b rest) s (I items.length) Rt
  | k, [], e, hk, s, h0, _ => by
    have : k = items.length := by
      have := congrArg List.length e
      rw [List.length_drop] at this
      simp at this
      omega
    subst this
    exact okS.nx rfl h0
  | k, d :: rest, e, hk, s, h0, hs => by
    have hd : items[k]? = some d := by
      have := congrArg (fun l => l[0]?) e
      simp [List.getElem?_drop] at this
      exact this
    have hl : k < items.length := (List.getElem?_eq_some_iff.mp hd).1
    have hr : items.drop (k + 1) = rest := by
      have := congrArg List.tail e
      rw [List.tail_drop] at this
      exact this
    obtain ⟨s1, e1, e2⟩ := hs k d s hd h0
    unfold okS dForL
    rw [e1]
    simp only
    unfold okS at e2
    cases q : b s1 with
    | bad => rw [q] at e2; exact e2.elim
    | err x s' => rw [q] at e2; exact e2.elim
    | ok f s' =>
      rw [q] at e2
      cases f with
      | nx =>
        simp only at e2 ⊢
        exact okS.forL I (k + 1) rest hr hl s' e2 hs
      | rt t => exact e2
      | bk => exact e2.elim
      | ct => exact e2.elim
theorem okS.walk {p : Pt} {b : M Flow} {items : List D} (I : Nat → State → Prop) (h0 : I 0 s) (hs : ∀ (i : Nat) (d : D) (s : State), items[i]? = some d → I i s → ∃ s1, bindP p d s = some s1 ∧ okS b s1 (I (i + 1)) Rt) (hn : ∀ s', I items.length s' → Nx s') : okS (dForL p b items) s Nx Rt :=
  (okS.forL I 0 items rfl (Nat.zero_le _) s h0 hs).mono hn fun _ _ h => h
theorem mapS_id {r : Rs Flow} {f : State → State} (h : ∀ s, f s = s) : mapS f r = r := by
  cases r <;> simp [mapS, h]
theorem okS.forV {h : List D → Option (List D)} {p : Pt} {b : M Flow} {fl : M (List VR)} {rs : List VR} {ds items : List D} (e : fl s = .ok rs s1) (e2 : toHSs rs s1 = .ok (ds.map HS.d) s2) (e3 : h ds = some items) (k : okS (dForL p b items) s2 Nx Rt) : okS (dFor h p b fl) s Nx Rt := by
  unfold dFor
  refine okS.bind ⟨rs, s1, e, ?_⟩
  unfold dHold
  refine okS.bind ⟨_, s2, e2, ?_⟩
  show okS (dLock (ds.map HS.d) (dItems h (dForL p b))) s2 Nx Rt
  have key : ∀ (ds' : List D) (k : List D → M Flow), dLock (ds'.map HS.d) k = k ds' := by
    intro ds'
    induction ds' with
    | nil => intro k; rfl
    | cons d ds' ih => intro k; show dLock (ds'.map HS.d) (fun ds => k (d :: ds)) = _; rw [ih]
  rw [key]
  unfold dItems
  rw [e3]
  exact k
theorem okS.forS {h : List D → Option (List D)} {p : Pt} {b : M Flow} {i : Nat} {d : D} {items : List D} (e : s.env[i]? = some (some (.fz d))) (e1 : noDict d = true) (e3 : h [d] = some items) (k : okS (dForL p b items) s Nx Rt) : okS (dFor h p b (dOne (dSlot i))) s Nx Rt := by
  have q : dFor h p b (dOne (dSlot i)) s = mapS (unlockW i (some (some (.fz d)))) (dItems h (dForL p b) [d] s) := by
    have f1 : dOne (dSlot i) s = .ok [.slot i] s := by
      unfold dOne
      rw [bind_eq]
      unfold dSlot
      simp only [e]
      rfl
    unfold dFor
    rw [bind_eq, f1]
    show dHold [VR.slot i] (dItems h (dForL p b)) s = _
    unfold dHold
    rw [bind_eq]
    have f2 : toHSs [VR.slot i] s = .ok [.slot i] s := rfl
    rw [f2]
    show dLock [HS.slot i] (dItems h (dForL p b)) s = _
    unfold dLock
    simp only [e]
    have f3 : (W.fz d).data = d := rfl
    rw [f3, if_pos e1]
    have f4 : lockS i s = s := by unfold lockS; rw [e]
    rw [f4]
    rfl
  unfold okS
  rw [q, mapS_id (by intro s; rfl)]
  unfold dItems
  rw [e3]
  exact k
end
section
variable {s s1 s2 s3 : State}
theorem dOp2_eq {h : D → D → Option T} {fa fb : M VR} {x y : VR} {d e : D} {t : T} (ha : fa s = .ok x s1) (hb : fb s1 = .ok y s2) (hd : readV x s2 = .ok d s2) (he : readV y s2 = .ok e s2) (hh : h d e = some t) : dOp2 h fa fb s = .ok t s2 := by
  unfold dOp2
  rw [bind_eq, ha]
  show (fb >>= fun y => readV x >>= fun d => readV y >>= fun e => opt (h d e)) s1 = _
  rw [bind_eq, hb]
  show (readV x >>= fun d => readV y >>= fun e => opt (h d e)) s2 = _
  rw [bind_eq, hd]
  show (readV y >>= fun e => opt (h d e)) s2 = _
  rw [bind_eq, he]
  show opt (h d e) s2 = _
  rw [hh]
  rfl
theorem dV_eq {f : M T} {t : T} (h : f s = .ok t s1) : dV f s = .ok (.t t) s1 := by
  unfold dV
  rw [bind_eq, h]
  rfl
theorem dUn_eq {p : Pt} {fv : M VR} {r : VR} {d : D} (h : fv s = .ok r s1) (h2 : frz r s1 = .ok d s2) (h3 : bindP p d s2 = some s3) : dUn p fv s = .ok .nx s3 := by
  unfold dUn
  rw [bind_eq, h]
  show (frz r >>= fun d => dBind p d) s1 = _
  rw [bind_eq, h2]
  show dBind p d s2 = _
  unfold dBind
  rw [h3]
theorem dB_eq {f : M T} {b : Bool} (h : f s = .ok (.fz (.bl b)) s1) : dB f s = .ok b s1 := by
  unfold dB
  rw [bind_eq, h]
theorem dFld_eq {C : Addr} {f : Str} {fv : M VR} {r : VR} {fs : List (Str × D)} {d : D} (h : fv s = .ok r s1) (h2 : readO C r s1 = .ok fs s1) (h3 : fs.lookup f = some d) : dFld C f fv s = .ok (.fz d) s1 := by
  unfold dFld
  rw [bind_eq, h]
  show (readO C r >>= fun fs => (match fs.lookup f with | some d => (pure (T.fz d) : M T) | none => M.bad)) s1 = _
  rw [bind_eq, h2]
  simp only [h3]
  rfl
theorem readO_slot {C : Addr} {i : Nat} {w : W} {fs : List (Str × D)} (h : s.env[i]? = some (some w)) (h2 : w.data = .obj C fs) : readO C (.slot i) s = .ok fs s := by
  unfold readO
  rw [bind_eq]
  unfold readV
  simp only [h, h2]
  rfl
theorem recv_slot {C : Addr} {m : Str} {i : Nat} {w : W} {fs : List (Str × D)} (h : s.env[i]? = some (some w)) (h2 : w.data = .obj C fs) (h3 : (fs.lookup m).isNone = true) : recv C m (.slot i) s = .ok () s := by
  unfold recv
  rw [bind_eq, readO_slot h h2]
  show (if isOw (.slot i) = false ∧ (fs.lookup m).isNone = true then (pure () : M Unit) else M.bad) s = _
  rw [if_pos ⟨rfl, h3⟩]
  rfl
theorem chain_le {fa fb fc : M VR} {x y z : VR} {a v b : Int} (ha : fa s = .ok x s) (hb : fb s = .ok y s) (hx : readV x s = .ok (.int a) s) (hy : readV y s = .ok (.int v) s) (hc : fc s = .ok z s) (hz : readV z s = .ok (.int b) s) : dChain leD leD fa fb fc s = .ok (.fz (.bl (decide (a ≤ v ∧ v ≤ b)))) s := by
  unfold dChain
  simp only [bind_eq, ha, hb, hx, hy]
  by_cases h1 : a ≤ v
  · have e : leD (.int a) (.int v) = some (.fz (.bl true)) := by show some (T.fz (.bl (decide (a ≤ v)))) = _; rw [decide_eq_true h1]
    rw [e]
    simp only [opt, hc, hy, hz]
    show Rs.ok (T.fz (.bl (decide (v ≤ b)))) s = _
    simp [h1]
  · have e : leD (.int a) (.int v) = some (.fz (.bl false)) := by show some (T.fz (.bl (decide (a ≤ v)))) = _; rw [decide_eq_false h1]
    rw [e]
    simp only [opt]
    simp [h1]
theorem dTup_eq {fl : M (List VR)} {rs : List VR} {ds : List D} (h : fl s = .ok rs s1) (h2 : frzs rs s1 = .ok ds s2) (hz : ds.length ≤ sizeLine) : dTup fl s = .ok (.fz (.tup ds)) s2 := by
  unfold dTup
  simp only [bind_eq, h, h2, if_pos hz]
  rfl
theorem dLst_eq {fl : M (List VR)} {rs : List VR} {ds : List D} (h : fl s = .ok rs s1) (h2 : frzs rs s1 = .ok ds s2) (hz : ds.length ≤ sizeLine) : dLst fl s = .ok (.ow (.lst ds)) s2 := by
  unfold dLst
  simp only [bind_eq, h, h2, if_pos hz]
  rfl
theorem append_eq {i : Nat} {f : M VR} {r : VR} {ds : List D} {d : D} (h1 : s.env[i]? = some (some (.own (.lst ds)))) (h2 : f s = .ok r s1) (h3 : frz r s1 = .ok d s2) (h4 : s2.env[i]? = some (some (.own (.lst ds)))) (hz : ds.length < sizeLine) : dAppend i f s = .ok (.fz .non) (putE s2 i (.own (.lst (ds ++ [d])))) := by
  unfold dAppend
  have c : chkD i isLst s = .ok () s := by unfold chkD heldD; rw [h1]; rfl
  have u : updD i (pushD d) s2 = .ok () (putE s2 i (.own (.lst (ds ++ [d])))) := by
    unfold updD heldD
    rw [h4]
    simp only [pushD, if_pos hz]
    rfl
  simp only [bind_eq, c, h2, h3, u]
  rfl
theorem dOne_eq {f : M VR} {r : VR} (h : f s = .ok r s1) : dOne f s = .ok [r] s1 := by
  unfold dOne
  rw [bind_eq, h]
  rfl
theorem dCons_eq {f : M VR} {k : M (List VR)} {r : VR} {rs : List VR} (h : f s = .ok r s1) (h2 : k s1 = .ok rs s2) : dCons f k s = .ok (r :: rs) s2 := by
  unfold dCons
  rw [bind_eq, h]
  show (k >>= fun xs => pure (r :: xs)) s1 = _
  rw [bind_eq, h2]
  rfl
theorem dCallB_eq {h : List D → Option T} {fl : M (List VR)} {rs : List VR} {ds : List D} {t : T} (hl : fl s = .ok rs s1) (hr : readVs rs s1 = .ok ds s1) (hh : h ds = some t) : dCallB h fl s = .ok t s1 := by
  unfold dCallB
  rw [bind_eq, hl]
  show (readVs rs >>= fun ds => opt (h ds)) s1 = _
  rw [bind_eq, hr]
  show opt (h ds) s1 = _
  rw [hh]
  rfl
theorem mul_r {i j : Int} (h : bnd64 j = true) : mulD (.int i) (.int j) = some (.fz (.int (i * j))) := by
  show (if (bnd64 i || bnd64 j) = true then _ else _) = _
  rw [h, Bool.or_true, if_pos rfl]
theorem mul_l {i j : Int} (h : bnd64 i = true) : mulD (.int i) (.int j) = some (.fz (.int (i * j))) := by
  show (if (bnd64 i || bnd64 j) = true then _ else _) = _
  rw [h, Bool.true_or, if_pos rfl]
theorem bnd_of {i : Int} (h1 : -(2 ^ 64) < i) (h2 : i < 2 ^ 64) : bnd64 i = true := by
  unfold bnd64
  rw [decide_eq_true h1, decide_eq_true h2]
  rfl
theorem mod_pos {i j : Int} (h : 0 < j) : modD (.int i) (.int j) = some (.fz (.int (i % j))) := if_pos h
theorem fdiv_pos {i j : Int} (h : 0 < j) (h2 : j < 1073741824) : fdivD (.int i) (.int j) = some (.fz (.int (i / j))) := if_pos ⟨h, h2⟩
theorem pow_ok {i j : Int} (h : 0 ≤ j) (h2 : j ≤ 1000000) (h3 : i.natAbs < 2 ^ 64) : powD (.int i) (.int j) = some (.fz (.int (i ^ j.toNat))) := if_pos ⟨h, h2, h3⟩
end
section
variable {s s1 s2 : State}
theorem backs_d : ∀ {ds : List D} {ws : List W} {ce e : List (Option W)}, ws.length = ds.length → ds.length ≤ ce.length → backs (ds.map HS.d) ws ce e = some e
  | [], [], _, _, _, _ => by unfold backs; rfl
  | [], _ :: _, _, _, h, _ => by cases h
  | _ :: _, [], _, _, h, _ => by cases h
  | d :: ds, w :: ws, [], e, _, h => by simp at h
  | d :: ds, w :: ws, c :: ce, e, h1, h2 => by
    show backs (HS.d d :: ds.map HS.d) (w :: ws) (c :: ce) e = some e
    unfold backs
    have : back1 (HS.d d) w c e = some e := rfl
    rw [this]
    exact backs_d (Nat.succ.inj h1) (Nat.le_of_succ_le_succ h2)
theorem ents_d : ∀ {ds : List D} {ms : List AM}, ms.length = ds.length → ents ms (ds.map HS.d) s = some (ds.map W.fz)
  | [], [], _ => rfl
  | [], _ :: _, h => by cases h
  | _ :: _, [], h => by cases h
  | d :: ds, m :: ms, h => by
    show ents (m :: ms) (HS.d d :: ds.map HS.d) s = _
    unfold ents
    have : ent1 m (HS.d d) s = some (.fz d) := by cases m <;> rfl
    rw [this, ents_d (Nat.succ.inj h)]
    rfl
theorem oneEach_d : ∀ ds : List D, oneEach (ds.map HS.d) = true
  | [] => rfl
  | d :: ds => oneEach_d ds
def gives (F : M Flow) (n : Nat) (args : List D) (s : State) (Q : T → State → Prop) : Prop :=
  ∃ t s', F { env := args.map (fun d => some (.fz d)) ++ List.replicate (n - args.length) none, sto := s.sto, dr := s.dr } = .ok (.rt t) s' ∧ args.length ≤ s'.env.length ∧ Q t { s with sto := s'.sto, dr := s'.dr }
theorem ok.call {n : Nat} {ms : List AM} {F : M Flow} {fl : M (List VR)} {rs : List VR} {ds : List D} {Q : T → State → Prop} (e : fl s = .ok rs s1) (e2 : toHMs ms rs s1 = .ok (ds.map HS.d) s2) (h : gives F n ds s2 Q) : ok (dCall n ms [] F fl) s Q := by
  obtain ⟨t, s', e3, hl, q⟩ := h
  have lm : ms.length = ds.length := by
    have a := toHMs_len e2
    have b : ∀ {ms : List AM} {rs : List VR} {s s' : State} {hs : List HS}, toHMs ms rs s = .ok hs s' → hs.length = ms.length := by
      intro ms
      induction ms with
      | nil =>
        intro rs s s' hs e
        cases rs with
        | nil => cases e; rfl
        | cons _ _ => cases e
      | cons m ms ih =>
        intro rs s s' hs e
        cases rs with
        | nil => cases e
        | cons r rs =>
          unfold toHMs at e
          rw [bind_eq] at e
          cases q1 : toHM m r s with
          | bad => rw [q1] at e; cases e
          | err x s2 => rw [q1] at e; cases e
          | ok h1 s1 =>
            rw [q1] at e
            have e : (toHMs ms rs >>= fun hs => pure (h1 :: hs)) s1 = .ok hs s' := e
            rw [bind_eq] at e
            cases q2 : toHMs ms rs s1 with
            | bad => rw [q2] at e; cases e
            | err x s2 => rw [q2] at e; cases e
            | ok hs2 s2 =>
              rw [q2] at e
              cases e
              rw [List.length_cons, List.length_cons, ih q2]
    have c := b e2
    rw [List.length_map] at c
    exact c.symm
  unfold dCall
  refine ok.step e ?_
  unfold dPass
  refine ok.step e2 ?_
  refine ⟨t, { s2 with sto := s'.sto, dr := s'.dr }, ?_, q⟩
  unfold pass2
  rw [ents_d lm]
  simp only
  rw [if_pos (oneEach_d ds)]
  have e4 : { env := (ds.map W.fz ++ ([] : List D).map W.fz).map some ++ List.replicate (n - ((ds.map W.fz).length + ([] : List D).length)) none, sto := s2.sto, dr := s2.dr : State } = { env := ds.map (fun d => some (.fz d)) ++ List.replicate (n - ds.length) none, sto := s2.sto, dr := s2.dr } := by
    simp [List.map_map]
  rw [e4, e3]
  show (match backS (ds.map HS.d) (ds.map W.fz) s2 s' with | some s' => Rs.ok t s' | none => .bad) = _
  unfold backS
  rw [backs_d (by rw [List.length_map]) hl]
end
def pureG (F : M Flow) (n : Nat) (ws : List W) (v : T) : Prop := ∀ (sto : List MO) (dr : Option DrawSt), ∃ e', F { env := ws.map some ++ List.replicate (n - ws.length) none, sto := sto, dr := dr } = .ok (.rt v) { env := e', sto := sto, dr := dr } ∧ ws.length ≤ e'.length
theorem pureG.of {F : M Flow} {n : Nat} {ws : List W} {v : T} (h : ∀ (sto : List MO) (dr : Option DrawSt), okS F { env := ws.map some ++ List.replicate (n - ws.length) none, sto := sto, dr := dr } (fun _ => False) fun t s' => t = v ∧ ws.length ≤ s'.env.length ∧ s'.sto = sto ∧ s'.dr = dr) : pureG F n ws v := fun sto dr => by
  have h := h sto dr
  unfold okS at h
  cases q : F { env := ws.map some ++ List.replicate (n - ws.length) none, sto := sto, dr := dr } with
  | bad => rw [q] at h; exact h.elim
  | err x s' => rw [q] at h; exact h.elim
  | ok f s' =>
    rw [q] at h
    cases f with
    | nx => exact h.elim
    | bk => exact h.elim
    | ct => exact h.elim
    | rt t =>
      obtain ⟨rfl, hl, h1, h2⟩ := h
      obtain ⟨e', sto', dr'⟩ := s'
      cases h1; cases h2
      exact ⟨e', rfl, hl⟩
def notLent : W → Bool
  | .lent _ => false
  | _ => true
theorem backs_no : ∀ {hs : List HS} {ws : List W} {ce e : List (Option W)}, hs.length = ws.length → ws.all notLent = true → ws.length ≤ ce.length → backs hs ws ce e = some e
  | [], [], _, _, _, _, _ => by unfold backs; rfl
  | [], _ :: _, _, _, h, _, _ => by cases h
  | _ :: _, [], _, _, h, _, _ => by cases h
  | h :: hs, w :: ws, [], e, _, _, z => by simp at z
  | h :: hs, w :: ws, c :: ce, e, h1, h2, h3 => by
    rw [List.all_cons, Bool.and_eq_true] at h2
    unfold backs
    have : back1 h w c e = some e := by
      cases h with
      | d d => rfl
      | slot i =>
        cases w with
        | lent d => cases h2.1
        | _ => rfl
    rw [this]
    exact backs_no (Nat.succ.inj h1) h2.2 (Nat.le_of_succ_le_succ h3)
theorem pass_pure {F : M Flow} {n : Nat} {ms : List AM} {rs : List VR} {hs : List HS} {ws : List W} {v : T} {s s1 : State} (e2 : toHMs ms rs s = .ok hs s1) (e3 : ents ms hs s1 = some ws) (e4 : oneEach hs = true) (e5 : ws.all notLent = true) (h : pureG F n ws v) : dPass n ms [] F rs s = .ok v s1 := by
  obtain ⟨e', q, hl⟩ := h s1.sto s1.dr
  unfold dPass
  rw [bind_eq, e2]
  show pass2 n ms [] F hs s1 = _
  unfold pass2
  rw [e3]
  simp only
  rw [if_pos e4]
  have e6 : { env := (ws ++ ([] : List D).map W.fz).map some ++ List.replicate (n - (ws.length + ([] : List D).length)) none, sto := s1.sto, dr := s1.dr : State } = { env := ws.map some ++ List.replicate (n - ws.length) none, sto := s1.sto, dr := s1.dr } := by simp
  rw [e6, q]
  show (match backS hs ws s1 { env := e', sto := s1.sto, dr := s1.dr } with | some s' => Rs.ok v s' | none => .bad) = _
  unfold backS
  rw [backs_no (ents_length e3).symm e5 hl]
theorem call_pure {F : M Flow} {n : Nat} {ms : List AM} {fl : M (List VR)} {rs : List VR} {hs : List HS} {ws : List W} {v : T} {s s1 s2 : State} (h : pureG F n ws v) (e : fl s = .ok rs s1) (e2 : toHMs ms rs s1 = .ok hs s2) (e3 : ents ms hs s2 = some ws) (e4 : oneEach hs = true) (e5 : ws.all notLent = true) : dCall n ms [] F fl s = .ok v s2 := by
  unfold dCall
  rw [bind_eq, e]
  exact pass_pure e2 e3 e4 e5 h
theorem meth_pure {C : Addr} {m : Str} {F : M Flow} {n : Nat} {ms : List AM} {fo : M VR} {fl : M (List VR)} {r : VR} {rs : List VR} {hs : List HS} {ws : List W} {v : T} {s s0 s1 s2 : State} (h : pureG F n ws v) (e0 : fo s = .ok r s0) (er : recv C m r s0 = .ok () s0) (e : fl s0 = .ok rs s1) (e2 : toHMs ms (r :: rs) s1 = .ok hs s2) (e3 : ents ms hs s2 = some ws) (e4 : oneEach hs = true) (e5 : ws.all notLent = true) : dMeth C m n ms [] F fo fl s = .ok v s2 := by
  unfold dMeth
  rw [bind_eq, e0]
  show (recv C m r >>= fun _ => fl >>= fun rs => dPass n ms [] F (r :: rs)) s0 = _
  rw [bind_eq, er]
  show (fl >>= fun rs => dPass n ms [] F (r :: rs)) s0 = _
  rw [bind_eq, e]
  exact pass_pure e2 e3 e4 e5 h
section
variable {s s1 s2 : State}
theorem setF_eq {C : Addr} {f : Str} {j : Nat} {fv : M VR} {r : VR} {d : D} {fs : List (Str × D)} (h1 : fv s = .ok r s1) (h2 : frz r s1 = .ok d s2) (h3 : s2.env[j]? = some (some (.lent (.obj C fs)))) (hl : fs.length < 1000) : dSetF C f (dSlot j) fv s = .ok .nx (putE s2 j (.lent (.obj C (putFD f d fs)))) := by
  unfold dSetF
  have e : dSlot j s2 = .ok (.slot j) s2 := by unfold dSlot; rw [h3]
  simp only [bind_eq, h1, h2, e]
  unfold putO
  simp only [h3]
  rw [if_pos ⟨trivial, hl⟩]
theorem toHMs_hs : ∀ {ms : List AM} {rs : List VR} {s s' : State} {hs : List HS}, toHMs ms rs s = .ok hs s' → hs.length = ms.length
  | [], [], _, _, _, e => by cases e; rfl
  | [], _ :: _, _, _, _, e => by cases e
  | _ :: _, [], _, _, _, e => by cases e
  | m :: ms, r :: rs, s, s', hs, e => by
    unfold toHMs at e
    rw [bind_eq] at e
    cases q1 : toHM m r s with
    | bad => rw [q1] at e; cases e
    | err x s2 => rw [q1] at e; cases e
    | ok h1 s1 =>
      rw [q1] at e
      have e : (toHMs ms rs >>= fun hs => pure (h1 :: hs)) s1 = .ok hs s' := e
      rw [bind_eq] at e
      cases q2 : toHMs ms rs s1 with
      | bad => rw [q2] at e; cases e
      | err x s2 => rw [q2] at e; cases e
      | ok hs2 s2 =>
        rw [q2] at e
        cases e
        rw [List.length_cons, List.length_cons, toHMs_hs q2]
theorem noSlot_d (i : Nat) : ∀ ds : List D, noSlot i (ds.map HS.d) = true
  | [] => rfl
  | _ :: ds => noSlot_d i ds
theorem pass2_lend {n : Nat} {ms : List AM} {F : M Flow} {ds : List D} {i : Nat} {d0 : D} {r : Rs Flow} (lm : ms.length = ds.length) (h1 : s.env[i]? = some (some (.own d0))) (h : F { env := some (.lent d0) :: (ds.map fun d => some (.fz d)) ++ List.replicate (n - (ds.length + 1)) none, sto := s.sto, dr := s.dr } = r) :
    pass2 n (.L :: ms) [] F (.slot i :: ds.map HS.d) s = callR (.slot i :: ds.map HS.d) (.lent d0 :: ds.map W.fz) s r := by
  unfold pass2
  have e3 : ents (.L :: ms) (.slot i :: ds.map HS.d) s = some (.lent d0 :: ds.map W.fz) := by
    unfold ents
    have : ent1 .L (.slot i) s = some (.lent d0) := by unfold ent1; simp only [h1]; rfl
    rw [this, ents_d lm]
  rw [e3]
  simp only
  have e4 : oneEach (.slot i :: ds.map HS.d) = true := by
    show (noSlot i (ds.map HS.d) && oneEach (ds.map HS.d)) = true
    rw [noSlot_d, oneEach_d]
    rfl
  rw [if_pos e4]
  have e6 : { env := ((.lent d0 :: ds.map W.fz) ++ ([] : List D).map W.fz).map some ++ List.replicate (n - ((.lent d0 :: ds.map W.fz).length + ([] : List D).length)) none, sto := s.sto, dr := s.dr : State } = { env := some (.lent d0) :: (ds.map fun d => some (.fz d)) ++ List.replicate (n - (ds.length + 1)) none, sto := s.sto, dr := s.dr } := by
    simp [List.map_map]
  rw [e6, h]
theorem backS_lend {ds : List D} {i : Nat} {d0 d1 : D} {e' : List (Option W)} {sto : List MO} {dr : Option DrawSt} (h1 : s.env[i]? = some (some (.own d0))) (hl : ds.length ≤ e'.length) :
    backS (.slot i :: ds.map HS.d) (.lent d0 :: ds.map W.fz) s { env := some (.lent d1) :: e', sto := sto, dr := dr } = some { env := s.env.set i (some (.own d1)), sto := sto, dr := dr } := by
  unfold backS backs
  have : back1 (.slot i) (.lent d0) (some (.lent d1)) s.env = some (s.env.set i (some (.own d1))) := by unfold back1; simp only [h1]
  simp only [this]
  rw [backs_d (by rw [List.length_map]) hl]
theorem meth_lend {C : Addr} {m : Str} {n : Nat} {ms : List AM} {F : M Flow} {i : Nat} {fl : M (List VR)} {rs : List VR} {ds : List D} {fs fs1 : List (Str × D)} {t : T} {e' : List (Option W)} {sto : List MO} {dr : Option DrawSt} (h0 : s.env[i]? = some (some (.own (.obj C fs)))) (hm : (fs.lookup m).isNone = true)
    (e : fl s = .ok rs s1) (e2 : toHMs ms rs s1 = .ok (ds.map HS.d) s2) (h1 : s1.env[i]? = some (some (.own (.obj C fs)))) (h2 : s2.env[i]? = some (some (.own (.obj C fs))))
    (h : F { env := some (.lent (.obj C fs)) :: (ds.map fun d => some (.fz d)) ++ List.replicate (n - (ds.length + 1)) none, sto := s2.sto, dr := s2.dr } = .ok (.rt t) { env := some (.lent (.obj C fs1)) :: e', sto := sto, dr := dr }) (hl : ds.length ≤ e'.length) :
    dMeth C m n (.L :: ms) [] F (dSlot i) fl s = .ok t { env := s2.env.set i (some (.own (.obj C fs1))), sto := sto, dr := dr } := by
  have lm : ms.length = ds.length := by have := toHMs_hs e2; rw [List.length_map] at this; exact this.symm
  have f0 : dSlot i s = .ok (.slot i) s := by unfold dSlot; rw [h0]
  have f1 : toHMs (.L :: ms) (.slot i :: rs) s1 = .ok (.slot i :: ds.map HS.d) s2 := by
    unfold toHMs
    have : toHM .L (.slot i) s1 = .ok (.slot i) s1 := by show holdS i s1 = _; unfold holdS; rw [h1]
    simp only [bind_eq, this, e2]
    rfl
  unfold dMeth
  simp only [bind_eq, f0, recv_slot h0 rfl hm, e]
  unfold dPass
  simp only [bind_eq, f1]
  rw [pass2_lend lm h2 h]
  unfold callR
  simp only [backS_lend h2 hl]
theorem make_eq {C : Addr} {n : Nat} {ms : List AM} {F : M Flow} {fl : M (List VR)} {rs : List VR} {ds : List D} {fs : List (Str × D)} {e' : List (Option W)} {sto : List MO} {dr : Option DrawSt} (e : fl s = .ok rs s1) (e2 : toHMs ms rs s1 = .ok (ds.map HS.d) s2)
    (h : F { env := some (.lent (.obj C [])) :: (ds.map fun d => some (.fz d)) ++ List.replicate (n - (ds.length + 1)) none, sto := s2.sto, dr := s2.dr } = .ok .nx { env := some (.lent (.obj C fs)) :: e', sto := sto, dr := dr }) (hl : ds.length ≤ e'.length) :
    dMake C n ms [] F fl s = .ok (.ow (.obj C fs)) { env := s2.env, sto := sto, dr := dr } := by
  have lm : ms.length = ds.length := by have := toHMs_hs e2; rw [List.length_map] at this; exact this.symm
  have top : (pushW s2 (.own (.obj C []))).env[s2.env.length]? = some (some (.own (.obj C []))) := by
    show (s2.env ++ [some (W.own (.obj C []))])[s2.env.length]? = _
    rw [List.getElem?_append_right (Nat.le_refl _), Nat.sub_self]
    rfl
  unfold dMake
  simp only [bind_eq, e, e2]
  unfold make2
  rw [pass2_lend (s := pushW s2 (.own (.obj C []))) lm top h]
  unfold callR
  simp only [backS_lend top hl]
  have e5 : (s2.env ++ [some (W.own (.obj C []))]).set s2.env.length (some (.own (.obj C fs))) = s2.env ++ [some (W.own (.obj C fs))] := by
    rw [List.set_append_right _ _ (Nat.le_refl _), Nat.sub_self]
    rfl
  have e6 : (pushW s2 (.own (.obj C []))).env.set s2.env.length (some (.own (.obj C fs))) = s2.env ++ [some (W.own (.obj C fs))] := e5
  rw [e6, List.getElem?_append_right (Nat.le_refl _), Nat.sub_self]
  show Rs.ok (T.ow (.obj C fs)) (popS s2.env.length _) = _
  unfold popS
  simp
end
theorem okS.toNx {m : M Flow} {s s1 : State} (h : okS m s (fun s' => s' = s1) fun _ _ => False) : m s = .ok .nx s1 := by
  unfold okS at h
  cases q : m s with
  | bad => rw [q] at h; exact h.elim
  | err x s' => rw [q] at h; exact h.elim
  | ok f s' =>
    rw [q] at h
    cases f with
    | nx => rw [show s' = s1 from h]
    | rt t => exact h.elim
    | bk => exact h.elim
    | ct => exact h.elim
theorem okS.toRt {m : M Flow} {s s1 : State} {t : T} (h : okS m s (fun _ => False) fun t' s' => t' = t ∧ s' = s1) : m s = .ok (.rt t) s1 := by
  unfold okS at h
  cases q : m s with
  | bad => rw [q] at h; exact h.elim
  | err x s' => rw [q] at h; exact h.elim
  | ok f s' =>
    rw [q] at h
    cases f with
    | nx => exact h.elim
    | rt t' => obtain ⟨rfl, rfl⟩ := h; rfl
    | bk => exact h.elim
    | ct => exact h.elim
theorem ok.op2R {h : D → D → Option T} {fa : M VR} {f : M T} {x : VR} {s s1 : State} {Q : T → State → Prop} (ha : fa s = .ok x s1) (hf : ok f s1 fun t s2 => ∃ d r, readV x s2 = .ok d s2 ∧ h d t.data = some r ∧ Q r s2) : ok (dOp2 h fa (dV f)) s Q := by
  obtain ⟨t, s2, e, d, r, e1, e2, q⟩ := hf
  exact ⟨r, s2, dOp2_eq ha (dV_eq e) e1 rfl e2, q⟩
theorem setT_eq {i : Nat} {t : T} {s : State} (h : canSet s i = true) : setT i t s = .ok () (putE s i t.w) := by
  unfold setT
  rw [if_pos h]
theorem okS.par {i j : Nat} {f1 f2 : M T} {s : State} {Nx : State → Prop} {Rt : T → State → Prop} (h : ok f1 s fun t1 s1 => ok f2 s1 fun t2 s2 => canSet s2 i = true ∧ canSet (putE s2 i t1.w) j = true ∧ Nx (putE (putE s2 i t1.w) j t2.w)) : okS (dPar i j (dCons (dV f1) (dCons (dV f2) dNil))) s Nx Rt := by
  obtain ⟨t1, s1, e1, t2, s2, e2, c1, c2, q⟩ := h
  refine okS.nx (s1 := putE (putE s2 i t1.w) j t2.w) ?_ q
  unfold dPar
  rw [bind_eq, dCons_eq (dV_eq e1) (dCons_eq (dV_eq e2) (k := dNil) rfl)]
  show (setT i t1 >>= fun _ => setT j t2 >>= fun _ => dNx) s2 = _
  simp only [bind_eq, setT_eq c1, setT_eq c2]
  rfl
end DL
set_option Elab.async false
set_option linter.all false
set_option maxRecDepth 100000
set_option maxHeartbeats 1000000
namespace Law
open PySem DL
def F_law_take : M DL.Flow := dSeq (dIf (dAnd (dB (dOp2 eqT (dV (drGet .rest 0)) (dV (dC (.int 0))))) (drNe 0)) (drPop 0) (dIf (dB (dOp2 eqT (dV (drGet .rest 0)) (dV (dC (.int 0))))) (dSeq (drSet .turn 0 (dV (dOp2 addD (dV (drGet .turn 0)) (dV (dC (.int 1)))))) 
            (dSeq (dFor itS (.name 2) (drSet .mix 0 (dV (dOp2 modD (dV (dCallB intD (dCons (dV (dOp2 addD (dV (dOp2 addD (dV (dOp2 mulD (dV (drGet .mix 0)) (dV (dC (.int 69621))))) (dV (dOp2 mulD (dSlot 2) (dV (dC (.int 48271))))))) (dV (dC (.int 12345))))) (dNil)))) (dV (dC (.int 2147483629)))))) (dOne (dV (dOp2 addD (dV (dLst (dCons (dV (drGet .turn 0)) (dNil)))) (dV (drGet .cells 0)))))) 
            (drSet .rest 0 (dV (dOp2 modD (dV (dCallB intD (dCons (dV (dOp2 powD (dV (drGet .mix 0)) (dV (dC (.int 5))))) (dNil)))) (dV (dC (.int 2305843009213693951)))))))) (dNx))) 
        (dSeq (drDiv 0 1 3) 
        (dRetV 3))
def F_law_pick : M DL.Flow := dRet (dOp2 ixD (dSlot 1) (dV (dCall 4 [.F, .F] [] F_law_take (dCons (dSlot 0) (dCons (dV (dCallB lenD (dCons (dSlot 1) (dNil)))) (dNil))))))
end Law
namespace DL
open PySem
theorem gives.of {F : M Flow} {n : Nat} {args : List D} {s : State} {Q : T → State → Prop} (h : okS F { env := args.map (fun d => some (.fz d)) ++ List.replicate (n - args.length) none, sto := s.sto, dr := s.dr } (fun _ => False) (fun t s' => args.length ≤ s'.env.length ∧ Q t { s with sto := s'.sto, dr := s'.dr })) : gives F n args s Q := by
  unfold okS at h
  cases q : F { env := args.map (fun d => some (.fz d)) ++ List.replicate (n - args.length) none, sto := s.sto, dr := s.dr } with
  | bad => rw [q] at h; exact h.elim
  | err x s' => rw [q] at h; exact h.elim
  | ok f s' =>
    rw [q] at h
    cases f with
    | nx => exact h.elim
    | bk => exact h.elim
    | ct => exact h.elim
    | rt t => exact ⟨t, s', q, h.1, h.2⟩
structure DrOk1 (st : DrawSt) : Prop where
  lo : 0 ≤ st.mix
  hi : st.mix < 2147483629
  la : st.large.length ≤ 63
  ce : st.cells.length ≤ 63
theorem toPys_ints : ∀ ns : List Int, toPys (ns.map D.int) = some (ns.map PyData.int)
  | [] => rfl
  | n :: ns => by
    show toPys (D.int n :: ns.map D.int) = _
    unfold toPys
    rw [toPys_ints ns]
    rfl
theorem lay_ints : ∀ ns : List Int, PyData.canLayAll0 (ns.map PyData.int) = true
  | [] => rfl
  | n :: ns => by
    show PyData.canLayAll0 (PyData.int n :: ns.map PyData.int) = true
    unfold PyData.canLayAll0
    rw [lay_ints ns]
    rfl
theorem deep_ints : ∀ ns : List Int, PyData.depthAll (ns.map PyData.int) ≤ 1
  | [] => Nat.zero_le _
  | n :: ns => by
    show PyData.depthAll (PyData.int n :: ns.map PyData.int) ≤ 1
    unfold PyData.depthAll
    have h := deep_ints ns
    have h2 : PyData.depth (.int n) ≤ 1 := by unfold PyData.depth; omega
    omega
theorem shaped_ints (ns : List Int) : SeqAt.shaped (.list (ns.map PyData.int)) = true := by
  unfold SeqAt.shaped
  rw [Bool.and_eq_true]
  refine ⟨?_, decide_eq_true ?_⟩
  · unfold PyData.canLay0
    exact lay_ints ns
  · unfold PyData.depth
    have h := deep_ints ns
    omega
theorem ne_nil (ns : List Int) : neT (.lst (ns.map D.int)) (.lst []) = some (.fz (.bl (decide (ns ≠ [])))) := by
  have e : eqD (.lst (ns.map D.int)) (.lst []) = some (decide (ns = [])) := by
    unfold eqD
    have e1 : toPy (.lst (ns.map D.int)) = some (.list (ns.map PyData.int)) := by
      unfold toPy
      rw [toPys_ints ns]
      rfl
    have e2 : toPy (.lst []) = some (.list []) := rfl
    rw [e1, e2]
    have e3 : SeqAt.shaped (.list []) = true := shaped_ints []
    simp only [shaped_ints, e3, Bool.and_self, if_true]
    cases ns with
    | nil => rfl
    | cons n ns => rfl
  unfold neT
  rw [e]
  cases ns <;> rfl
example (a b : Int) : eqT (.int a) (.int b) = some (.fz (.bl (decide (a = b)))) := rfl
theorem take_gives {s : State} {st : DrawSt} {n : Int} {Q : T → State → Prop} (hs : s.dr = some st) (hd : DrOk1 st) (h0 : 0 < n) (h1 : n < 18446744073709551616) (h : ∀ (r : Int) (st' : DrawSt), 0 ≤ r → r < n → DrOk1 st' → Q (.fz (.int r)) { s with dr := some st' }) : gives Law.F_law_take 4 [.draw, .int n] s Q := by
  refine .of ?_
  obtain ⟨env, sto, dr⟩ := s
  cases hs
  show okS Law.F_law_take { env := [some (.fz .draw), some (.fz (.int n)), none, none], sto := sto, dr := some st } _ _
  unfold Law.F_law_take
  -- the end: rest, found = divmod(rest, size); return found
  have fin : ∀ (st : DrawSt) (w : Option W), DrOk1 st → okS (dSeq (drDiv 0 1 3) (dRetV 3)) { env := [some (.fz .draw), some (.fz (.int n)), w, none], sto := sto, dr := some st } (fun _ => False) (fun t s' => [D.draw, D.int n].length ≤ s'.env.length ∧ Q t { env := env, sto := s'.sto, dr := s'.dr }) := fun st w hst => by
    refine okS.seq (okS.nx (s1 := { env := [some (.fz .draw), some (.fz (.int n)), w, some (.fz (.int (st.rest % n)))], sto := sto, dr := some (st.set .rest (st.rest / n)) }) ?_ (okS.rt rfl ⟨by show 2 ≤ 4; decide, ?_⟩))
    · unfold drDiv
      show (if 0 < n ∧ n < 18446744073709551616 then _ else _) = _
      rw [if_pos ⟨h0, h1⟩]
      rfl
    · exact h _ _ (Int.emod_nonneg _ (by omega)) (Int.emod_lt_of_pos _ h0) ⟨hst.lo, hst.hi, hst.la, hst.ce⟩
  -- the other way: turn, mix, rest
  have mid : st.rest = 0 → okS (dIf (dB (dOp2 eqT (dV (drGet .rest 0)) (dV (dC (.int 0))))) (dSeq (drSet .turn 0 (dV (dOp2 addD (dV (drGet .turn 0)) (dV (dC (.int 1)))))) (dSeq (dFor itS (.name 2) (drSet .mix 0 (dV (dOp2 modD (dV (dCallB intD (dCons (dV (dOp2 addD (dV (dOp2 addD (dV (dOp2 mulD (dV (drGet .mix 0)) (dV (dC (.int 69621))))) (dV (dOp2 mulD (dSlot 2) (dV (dC (.int 48271))))))) (dV (dC (.int 12345))))) (dNil)))) (dV (dC (.int 2147483629)))))) (dOne (dV (dOp2 addD (dV (dLst (dCons (dV (drGet .turn 0)) (dNil)))) (dV (drGet .cells 0))))))
      (drSet .rest 0 (dV (dOp2 modD (dV (dCallB intD (dCons (dV (dOp2 powD (dV (drGet .mix 0)) (dV (dC (.int 5))))) (dNil)))) (dV (dC (.int 2305843009213693951)))))))) (dNx)) { env := [some (.fz .draw), some (.fz (.int n)), none, none], sto := sto, dr := some st } (fun s1 => okS (dSeq (drDiv 0 1 3) (dRetV 3)) s1 (fun _ => False) (fun t s' => [D.draw, D.int n].length ≤ s'.env.length ∧ Q t { env := env, sto := s'.sto, dr := s'.dr })) (fun t s' => [D.draw, D.int n].length ≤ s'.env.length ∧ Q t { env := env, sto := s'.sto, dr := s'.dr }) := fun hr => by
    refine okS.ite (ok.dec (P := st.rest = 0) rfl (fun _ => yes ?_) fun z => (z hr).elim)
    refine okS.seq (okS.nx (s1 := { env := [some (.fz .draw), some (.fz (.int n)), none, none], sto := sto, dr := some (st.set .turn (st.turn + 1)) }) rfl ?_)
    refine okS.seq (okS.forV (rs := [.t (.ow (.lst (D.int (st.turn + 1) :: st.cells.map D.int)))]) (s1 := { env := [some (.fz .draw), some (.fz (.int n)), none, none], sto := sto, dr := some (st.set .turn (st.turn + 1)) }) (ds := [.lst (D.int (st.turn + 1) :: st.cells.map D.int)]) (items := D.int (st.turn + 1) :: st.cells.map D.int) ?_ rfl rfl ?_)
    · have hl : ([D.int (st.turn + 1)] : List D).length + (st.cells.map D.int).length ≤ sizeLine := by
        rw [List.length_map]
        have := hd.ce
        exact Nat.le_trans (Nat.add_le_add_left this 1) (by decide)
      have e : addD (.lst [D.int (st.turn + 1)]) (.lst (st.cells.map D.int)) = some (.ow (.lst (D.int (st.turn + 1) :: st.cells.map D.int))) := by
        show (if ([D.int (st.turn + 1)] : List D).length + (st.cells.map D.int).length ≤ sizeLine then _ else _) = _
        rw [if_pos hl]
        rfl
      exact dOne_eq (dV_eq (dOp2_eq rfl rfl rfl rfl e))
    · refine okS.walk (fun i s => ∃ (st2 : DrawSt) (w : Option W), (w = none ∨ ∃ d, w = some (.fz d)) ∧ s = { env := [some (.fz .draw), some (.fz (.int n)), w, none], sto := sto, dr := some st2 } ∧ DrOk1 st2) ⟨_, none, .inl rfl, rfl, hd.lo, hd.hi, hd.la, hd.ce⟩ ?_ ?_
      · rintro i d s hi ⟨st2, w, hw, rfl, h2⟩
        obtain ⟨c, rfl⟩ : ∃ c, d = .int c := by
          cases i with
          | zero => cases hi; exact ⟨_, rfl⟩
          | succ i =>
            have hi : (st.cells.map D.int)[i]? = some d := hi
            rw [List.getElem?_map] at hi
            cases q : st.cells[i]? with
            | none => rw [q] at hi; cases hi
            | some c => rw [q] at hi; cases hi; exact ⟨c, rfl⟩
        refine ⟨{ env := [some (.fz .draw), some (.fz (.int n)), some (.fz (.int c)), none], sto := sto, dr := some st2 }, by rcases hw with rfl | ⟨_, rfl⟩ <;> rfl, ?_⟩
        refine okS.nx (s1 := { env := [some (.fz .draw), some (.fz (.int n)), some (.fz (.int c)), none], sto := sto, dr := some (st2.set .mix ((st2.mix * 69621 + c * 48271 + 12345) % 2147483629)) }) ?_ ⟨_, _, .inr ⟨_, rfl⟩, rfl, Int.emod_nonneg _ (by decide), Int.emod_lt_of_pos _ (by decide), h2.la, h2.ce⟩
        have e : ∀ (fv : M VR) (s2 : State) (v : Int), fv s2 = .ok (.t (.fz (.int v))) s2 → s2.env[0]? = some (some (.fz .draw)) → s2.dr = some st2 → drSet .mix 0 fv s2 = .ok .nx { s2 with dr := some (st2.set .mix v) } := fun fv s2 v h1 h2 h3 => by
          unfold drSet
          rw [bind_eq, h1]
          show (frz (.t (.fz (.int v))) >>= _) s2 = _
          rw [bind_eq]
          show (drOf 0 >>= _) s2 = _
          have h4 : drOf 0 s2 = .ok st2 s2 := by unfold drOf; rw [h2, h3]
          rw [bind_eq, h4]
          rfl
        exact e _ _ _ (dV_eq (dOp2_eq (dV_eq (dCallB_eq (dCons_eq (dV_eq (dOp2_eq (dV_eq (dOp2_eq (dV_eq (dOp2_eq rfl rfl rfl rfl (mul_r rfl))) (dV_eq (dOp2_eq rfl rfl rfl rfl (mul_r rfl))) rfl rfl rfl)) rfl rfl rfl rfl)) rfl) rfl rfl)) rfl rfl rfl (mod_pos (by decide)))) rfl rfl
      · rintro s' ⟨st2, w, hw, rfl, h2⟩
        refine okS.nx (s1 := { env := [some (.fz .draw), some (.fz (.int n)), w, none], sto := sto, dr := some (st2.set .rest (st2.mix ^ 5 % 2305843009213693951)) }) ?_ (fin _ w ⟨h2.lo, h2.hi, h2.la, h2.ce⟩)
        have e : ∀ (fv : M VR) (s2 : State) (v : Int), fv s2 = .ok (.t (.fz (.int v))) s2 → s2.env[0]? = some (some (.fz .draw)) → s2.dr = some st2 → drSet .rest 0 fv s2 = .ok .nx { s2 with dr := some (st2.set .rest v) } := fun fv s2 v h1 h2 h3 => by
          unfold drSet
          rw [bind_eq, h1]
          show (frz (.t (.fz (.int v))) >>= _) s2 = _
          rw [bind_eq]
          show (drOf 0 >>= _) s2 = _
          have h4 : drOf 0 s2 = .ok st2 s2 := by unfold drOf; rw [h2, h3]
          rw [bind_eq, h4]
          rfl
        have hm : st2.mix.natAbs < 2 ^ 64 := by
          have := h2.lo
          have := h2.hi
          omega
        exact e _ _ _ (dV_eq (dOp2_eq (dV_eq (dCallB_eq (dCons_eq (dV_eq (dOp2_eq rfl rfl rfl rfl (pow_ok (by decide) (by decide) hm))) rfl) rfl rfl)) rfl rfl rfl (mod_pos (by decide)))) rfl rfl
  refine okS.seq (okS.ite (ok.and (ok.dec (P := st.rest = 0) rfl (fun hr => yes (ok.dec (P := st.large ≠ []) ?_ (fun hl => yes ?_) fun _ => no (mid hr))) fun hr => no (no ?_))))
  · unfold drNe
    show (match neT (.lst (st.large.map D.int)) (.lst []) with | some (.fz (.bl b)) => (pure b : M Bool) | _ => M.bad) _ = _
    rw [ne_nil]
    rfl
  · -- a large number is taken
    cases hq : st.large with
    | nil => exact (hl hq).elim
    | cons x xs =>
      refine okS.nx (s1 := { env := [some (.fz .draw), some (.fz (.int n)), none, none], sto := sto, dr := some { st with rest := x, large := xs } }) ?_ (fin _ _ ⟨hd.lo, hd.hi, ?_, hd.ce⟩)
      · unfold drPop
        show (match st.large with | x :: xs => putDr { st with rest := x, large := xs } | [] => M.bad) _ = _
        rw [hq]
        rfl
      · have := hd.la
        rw [hq] at this
        show xs.length ≤ 63
        rw [List.length_cons] at this
        omega
  · exact okS.ite (ok.dec (P := st.rest = 0) rfl (fun z => (hr z).elim) fun _ => no (okS.skip (fin _ _ hd)))
theorem pick_gives {s : State} {st : DrawSt} {ds : List D} {Q : T → State → Prop} (hs : s.dr = some st) (hd : DrOk1 st) (h0 : 0 < ds.length) (h1 : ds.length < 18446744073709551616) (h : ∀ d ∈ ds, ∀ st', DrOk1 st' → Q (.fz d) { s with dr := some st' }) : gives Law.F_law_pick 2 [.draw, .lst ds] s Q := by
  refine .of ?_
  obtain ⟨env, sto, dr⟩ := s
  cases hs
  show okS Law.F_law_pick { env := [some (.fz .draw), some (.fz (.lst ds))], sto := sto, dr := some st } _ _
  unfold Law.F_law_pick
  refine okS.ret (ok.op2R rfl (ok.call (ds := [.draw, .int ds.length]) rfl rfl (take_gives (st := st) rfl hd (by omega) (by omega) fun r st' hr0 hr1 hst => ?_)))
  obtain ⟨j, rfl⟩ : ∃ j : Nat, r = j := ⟨r.toNat, by omega⟩
  have hj : j < ds.length := by omega
  refine ⟨.lst ds, .fz ds[j], rfl, ?_, by show 2 ≤ 2; decide, h _ (List.getElem_mem hj) st' hst⟩
  show (L2.atI ds (j : Int)).map T.fz = _
  rw [L2.atI_nat (List.getElem?_eq_getElem hj)]
  rfl
end DL
set_option Elab.async false
set_option linter.all false
set_option maxRecDepth 100000
set_option maxHeartbeats 1000000
namespace DL
open PySem PySem.Spec PyProof.Rows L2
def Gh.pub (g : Gh) (a : Addr) : Gh := { g with η := g.η ++ [a] }
section
variable {K : PySem.W.Frag} {g g0 : Gh} {H H0 : Hp} {σ σ0 : Slots} {s s0 : State} {a : Addr} {o : HO}
theorem mem_pub {b : Addr} (h : b ∈ (g.pub a).η) : b ∈ g.η ∨ b = a := by
  have h : b ∈ g.η ++ [a] := h
  rcases List.mem_append.mp h with h | h
  · exact .inl h
  · exact .inr (by simpa using h)
theorem Free1.pub {b : Addr} (f : Free1 g b) (ne : b ≠ a) : Free1 (g.pub a) b := ⟨f.1, fun z => (mem_pub z).elim f.2.1 ne, f.2.2⟩
end
section
variable {X : Cx} {Wx : WX} {e : Expr} {f : M T}
end
end DL
set_option Elab.async false
set_option linter.all false
set_option maxRecDepth 100000
set_option maxHeartbeats 1000000
namespace DL
open PySem PySem.Spec PyProof.Rows L2
section
variable {X : Cx} {Wx : WX} {pos : Pos} {keys : List (Option Expr)} {values : List Expr} {fl : M (List VR)} {k v : Expr} {fk fv : M VR}
end
section
variable {K : PySem.W.Frag} {g : Gh}
end
section
variable {X : Cx} {Wx : WX} {pos : Pos} {keys : List (Option Expr)} {values : List Expr} {fl : M (List VR)}
end
end DL
set_option Elab.async false
set_option linter.all false
set_option maxRecDepth 100000
set_option maxHeartbeats 1000000
namespace DL
open PySem PySem.Spec PyProof.Rows L2
section
variable {X : Cx} {Wx : WX} {pos : Pos}
theorem ds_parT {i j : Nat} {x y : Str} {a b : Expr} {fl : M (List VR)} {px py pt : Pos} {kt k2 pt2} (hc : X.calm = true) (hN : X.N.Nodup) (hi : X.N[i]? = some x) (hj : X.N[j]? = some y)
    (hx : Loc X.env.scope x) (hy : Loc X.env.scope y) (ha : DA X Wx [a, b] fl)
    (fx : X.fn x = true ∨ X.env.scope.names.lookup x = some .local := by first | exact .inl rfl | exact .inr rfl) (fy : X.fn y = true ∨ X.env.scope.names.lookup y = some .local := by first | exact .inl rfl | exact .inr rfl)
    (hw : swappedStores [.Tuple [.Name x px, .Name y py] kt pt] (.Tuple [a, b] k2 pt2) X.env = pure none := by rfl)
    (hs : swapsWithSole [.Tuple [.Name x px, .Name y py] kt pt] (.Tuple [a, b] k2 pt2) pos.line X.env = pure false := by rfl)
    (h1 : (assignEach [.Tuple [.Name x px, .Name y py] kt pt] X.env).map (·.2) = [assign (.Tuple [.Name x px, .Name y py] kt pt) X.env] := by rfl)
    (a1 : (assignEach [.Name x px, .Name y py] X.env).map (·.2) = assign (.Name x px) X.env :: (assignEach [.Name y py] X.env).map (·.2) := by rfl)
    (a2 : (assignEach [.Name y py] X.env).map (·.2) = assign (.Name y py) X.env :: (assignEach [] X.env).map (·.2) := by rfl)
    (al : (assignEach [.Name x px, .Name y py] X.env).length = 2 := by rfl) (as : (assignEach [.Name x px, .Name y py] X.env).findIdx? (·.1) = none := by rfl) :
    DS X Wx (.Assign [.Tuple [.Name x px, .Name y py] kt pt] (.Tuple [a, b] k2 pt2) pos) (dPar i j fl) :=
  ⟨fun pins s σ H D I h => (ps_asg (pe_tup ha) (pg_tup hc (pgs_cons (pg_name hN hi hx fx) (pgs_cons (pg_name hN hj hy fy) pgs_nil a2) a1) al as) hs hw h1).run pins s σ H D I (by
  obtain ⟨g, s, c⟩ := h.start
  refine c.bind.mono fun xs H1 ⟨rs, g1, s1, c1, r1, e1⟩ => ?_
  cases r1 with
  | nil => exact (c1.notBad rfl).elim
  | @cons v r vs rs r1 r2 ap1 =>
    cases r2 with
    | nil => cases r <;> exact (c1.notBad rfl).elim
    | @cons v' r' vs rs r2 r3 ap2 =>
      cases r with
      | slot i => exact (c1.notBad rfl).elim
      | t t =>
        cases r' with
        | slot i => cases rs <;> exact (c1.notBad rfl).elim
        | t t' =>
          cases r3 with
          | cons _ _ _ => exact (c1.notBad rfl).elim
          | nil =>
            refine ⟨by show 2 ≤ sizeLine; decide, fun q hq => ⟨q, [v, v'], rfl, .inl (.inl upd_same), rfl, v, [v'], rfl, v', [], rfl, rfl, ?_⟩⟩
            have p := c1.post
            have p : PostS X.K Wx D g H σ s ((setT i t >>= fun _ => setT j t' >>= fun _ => dNx) s1) := p
            have sd1 := c1.sd.alloc (o := .tup [v, v']) hq
            have ev1 := c1.ev.trans (c1.sd.allocEv (o := .tup [v, v']) hq)
            have q1 : RT X.K H g1 (upd H1 q (.tup [v, v'])) σ s1 v t := RT.ev (c1.sd.allocEv hq) r1
            have q2 : RT X.K H g1 (upd H1 q (.tup [v, v'])) σ s1 v' t' := RT.ev (c1.sd.allocEv hq) r2
            rcases bind_setT (i := i) (t := t) (k := fun _ => setT j t' >>= fun _ => dNx) (s := s1) with e2 | ⟨s2, e2, e3⟩
            · rw [e2] at p; exact p.elim
            · rw [e3] at p
              obtain ⟨sd2, ev2⟩ := setT_run e2 ev1 sd1 q1
              have r2' := RT.setOther (v := v) e2 sd1 q2 fun a d e4 e5 d' e6 e7 => ap1 a d' (by rw [e6]) e7 (v', .t t') (by simp) d (by rw [e4]) e5
              rcases bind_setT (i := j) (t := t') (k := fun _ => dNx) (s := s2) with e4 | ⟨s3, e4, e5⟩
              · rw [e4] at p; exact p.elim
              · rw [e5] at p
                obtain ⟨sd3, ev3⟩ := setT_run e4 ev2 sd2 r2'
                exact p _ _ _ sd3 ev3)⟩
end
end DL
set_option Elab.async false
set_option linter.all false
set_option maxRecDepth 100000
set_option maxHeartbeats 1000000
namespace DL
open PySem
section
variable {s s1 s2 s3 s4 : State}
theorem loopC_step {pt : Pt} {vs : List Nat} {ft : M Bool} {fe : M VR} {d y : D} {ds acc : List D} {r : Rs (List D)} (h1 : bindP pt d s = some s1) (h2 : ft s1 = .ok true s2) (h3 : (fe >>= frz) s2 = .ok y s3) (h4 : wipeS vs s3 = s4) (h5 : loopC pt vs ft fe ds (acc ++ [y]) s4 = r) : loopC pt vs ft fe (d :: ds) acc s = r := by
  conv => lhs; unfold loopC
  rw [h1]
  simp only [h2, h3, h4]
  exact h5
theorem loopC_nil {pt : Pt} {vs : List Nat} {ft : M Bool} {fe : M VR} {acc : List D} : loopC pt vs ft fe [] acc s = .ok acc s := by unfold loopC; rfl
theorem comp_eq {h : List D → Option (List D)} {pt : Pt} {vs : List Nat} {ft : M Bool} {fe : M VR} {fl : M (List VR)} {rs : List VR} {ds items acc : List D} (e : fl s = .ok rs s1) (e2 : frzRs rs s1 = .ok ds s2) (e3 : h ds = some items) (z : fzAt s2.env vs = true) (hl : items.length < sizeLine) (e4 : loopC pt vs ft fe items [] (wipeS vs s2) = .ok acc s3) (e5 : restoreS vs s2 s3 = s4) : dComp h pt vs ft fe fl s = .ok (.ow (.lst acc)) s4 := by
  unfold dComp
  rw [bind_eq, e]
  show (frzRs rs >>= fun ds => match h ds with | some items => dLoopC pt vs ft fe items | none => M.bad) s1 = _
  rw [bind_eq, e2]
  simp only [e3]
  unfold dLoopC
  rw [if_pos ⟨z, hl⟩, e4]
  simp only [e5]
theorem frzV_fz {f : M T} {d : D} (h : f s = .ok (.fz d) s1) : (dV f >>= frz) s = .ok d s1 := by
  rw [bind_eq, dV_eq h]
  rfl
theorem sub_eq {i : Nat} {fv fk : M VR} {v k : VR} {w : W} {kd d d' : D} (h1 : fv s = .ok v s1) (h2 : heldD i s1 = some (w, w.data)) (h3 : fk s1 = .ok k s2) (h4 : readV k s2 = .ok kd s2) (h5 : frz v s2 = .ok d s3) (h6 : ∃ w3, heldD i s3 = some (w3, w3.data) ∧ putD kd d w3.data = some d' ∧ putE s3 i (w3.re d') = s4) : dSub i fv fk s = .ok .nx s4 := by
  obtain ⟨w3, q1, q2, q3⟩ := h6
  unfold dSub
  have c : chkD i (fun _ => true) s1 = .ok () s1 := by unfold chkD; rw [h2]; rfl
  have u : updD i (putD kd d) s3 = .ok () s4 := by unfold updD; rw [q1]; simp only [q2, q3]
  simp only [bind_eq, h1, c, h3, h4, h5, u]
  rfl
end
theorem ok.to {α : Type} {m : M α} {s s1 : State} {a : α} (h : ok m s fun b s' => b = a ∧ s' = s1) : m s = .ok a s1 := by
  obtain ⟨b, s', e, rfl, rfl⟩ := h
  exact e
end DL
set_option Elab.async false
set_option linter.all false
set_option maxRecDepth 100000
set_option maxHeartbeats 1000000
namespace DL
open PySem PySem.Spec PyProof.Rows L2
def Shp (n : Nat) (d : D) : Prop := ∃ p, toPy d = some p ∧ p.canLay0 = true ∧ p.depth ≤ n
theorem Shp.int (n : Nat) (i : Int) : Shp n (.int i) := ⟨.int i, rfl, by simp [PyData.canLay0], by simp [PyData.depth]⟩
theorem Shp.non (n : Nat) : Shp n .non := ⟨.none, rfl, by simp [PyData.canLay0], by simp [PyData.depth]⟩
theorem Shp.bl (n : Nat) (b : Bool) : Shp n (.bl b) := ⟨.bool b, rfl, by simp [PyData.canLay0], by simp [PyData.depth]⟩
theorem Shp.all {n : Nat} : ∀ {ds : List D}, (∀ d ∈ ds, Shp n d) → ∃ ps, toPys ds = some ps ∧ PyData.canLayAll0 ps = true ∧ PyData.depthAll ps ≤ n ∧ ps.length = ds.length
  | [], _ => ⟨[], rfl, by simp [PyData.canLayAll0], by simp [PyData.depthAll], rfl⟩
  | d :: ds, h => by
    obtain ⟨p, h1, h2, h3⟩ := h d List.mem_cons_self
    obtain ⟨ps, h4, h5, h6, h7⟩ := Shp.all fun x hx => h x (List.mem_cons_of_mem _ hx)
    refine ⟨p :: ps, by unfold toPys; rw [h1, h4], by simp [PyData.canLayAll0, h2, h5], by simp only [PyData.depthAll]; omega, by rw [List.length_cons, List.length_cons, h7]⟩
theorem Shp.lst {n : Nat} {ds : List D} (h : ∀ d ∈ ds, Shp n d) : Shp (n + 1) (.lst ds) := by
  obtain ⟨ps, h4, h5, h6, _⟩ := Shp.all h
  exact ⟨.list ps, by show (toPys ds).map _ = _; rw [h4]; rfl, by simpa [PyData.canLay0] using h5, by simp only [PyData.depth]; omega⟩
theorem Shp.tup {n : Nat} {ds : List D} (h : ∀ d ∈ ds, Shp n d) : Shp (n + 1) (.tup ds) := by
  obtain ⟨ps, h4, h5, h6, _⟩ := Shp.all h
  exact ⟨.tuple ps, by show (toPys ds).map _ = _; rw [h4]; rfl, by simpa [PyData.canLay0] using h5, by simp only [PyData.depth]; omega⟩
mutual
theorem eqv_refl : ∀ p : PyData, p.canLay0 = true → PyData.eqv p p = true
  | .none, _ => by simp [PyData.eqv]
  | .bool b, _ => by simp [PyData.eqv]
  | .int i, _ => by simp [PyData.eqv]
  | .str x, _ => by simp [PyData.eqv]
  | .list xs, h => by
    have h : PyData.canLayAll0 xs = true := by simpa [PyData.canLay0] using h
    simp only [PyData.eqv]
    exact eqv_refls xs h
  | .tuple xs, h => by
    have h : PyData.canLayAll0 xs = true := by simpa [PyData.canLay0] using h
    simp only [PyData.eqv]
    exact eqv_refls xs h
  | .dict kvs, h => by simp [PyData.canLay0] at h
theorem eqv_refls : ∀ ps : List PyData, PyData.canLayAll0 ps = true → PyData.eqvAll ps ps = true
  | [], _ => by simp [PyData.eqvAll]
  | p :: ps, h => by
    simp only [PyData.canLayAll0, Bool.and_eq_true] at h
    simp only [PyData.eqvAll, Bool.and_eq_true]
    exact ⟨eqv_refl p h.1, eqv_refls ps h.2⟩
end
end DL
set_option Elab.async false
set_option linter.all false
set_option maxRecDepth 100000
set_option maxHeartbeats 1000000
namespace DL
open PySem PySem.Spec PyProof.Rows L2
def leP (a b : Int × Int) : Prop := a.1 < b.1 ∨ (a.1 = b.1 ∧ a.2 ≤ b.2)
instance (a b : Int × Int) : Decidable (leP a b) := by unfold leP; infer_instance
end DL
set_option Elab.async false
set_option linter.all false
set_option maxRecDepth 100000
set_option maxHeartbeats 1000000
namespace DL
open PySem PySem.Spec PyProof.Rows L2
mutual
theorem pyNoDict {K : PySem.W.Frag} {H : Hp} : ∀ {p : PyData} {v : V}, Dp K H v p → p.hasDict = false
  | .none, _, _ => rfl
  | .bool _, _, _ => rfl
  | .int _, _, _ => rfl
  | .str _, _, _ => rfl
  | .list ps, _, h => by
    cases h with
    | lst _ h => show PyData.hasDictAll ps = false; exact pyNoDictAll h
  | .tuple ps, _, h => by
    cases h with
    | tup _ h => show PyData.hasDictAll ps = false; exact pyNoDictAll h
  | .dict _, _, h => by cases h
theorem pyNoDictAll {K : PySem.W.Frag} {H : Hp} : ∀ {ps : List PyData} {vs : List V}, DpAll K H vs ps → PyData.hasDictAll ps = false
  | [], _, _ => rfl
  | p :: ps, _, h => by
    cases h with
    | cons h1 h2 => show (PyData.hasDict p || PyData.hasDictAll ps) = false; rw [pyNoDict h1, pyNoDictAll h2]; rfl
end
section
variable {X : Cx} {Wx : WX} {e o : Expr}
end
end DL
set_option Elab.async false
set_option linter.all false
set_option maxRecDepth 100000
set_option maxHeartbeats 1000000
namespace DL
open PySem PySem.Spec PyProof.Rows L2
def pick {α : Type} : List Nat → List α → List α
  | [], _ => []
  | i :: π, l => match l[i]? with
    | some x => x :: pick π l
    | none => pick π l
theorem Vals.pick {vs : List V} {us : List Value} (r : Vals vs us) : ∀ π : List Nat, Vals (pick π vs) (pick π us)
  | [] => .nil
  | i :: π => by
    unfold DL.pick
    cases e : vs[i]? with
    | some v =>
      obtain ⟨u, hu, rv⟩ := r.get e
      rw [hu]
      exact .cons rv (Vals.pick r π)
    | none =>
      have : us[i]? = none := List.getElem?_eq_none (by rw [← r.length]; exact List.getElem?_eq_none_iff.mp e)
      rw [this]
      exact Vals.pick r π
section
variable {K : PySem.W.Frag} {σ : Slots} {H0 : Hp} {g : Gh} {H : Hp} {s : State}
theorem RVRs.get : ∀ {vs : List V} {rs : List VR} {i : Nat} {v : V}, RVRs K σ H0 g H s vs rs → vs[i]? = some v → ∃ r, rs[i]? = some r ∧ RVR K σ H0 g H s v r
  | _, _, _, _, .nil, e => by cases e
  | _, _, 0, _, .cons a _ _, e => by cases e; exact ⟨_, rfl, a⟩
  | _, _, i + 1, _, .cons (vs := vs) (rs := rs) _ r _, e => RVRs.get (vs := vs) (rs := rs) (i := i) r e
theorem zip_mem {α β : Type} : ∀ {l : List α} {m : List β} {j : Nat} {x : α} {y : β}, l[j]? = some x → m[j]? = some y → (x, y) ∈ l.zip m
  | [], _, _, _, _, h, _ => by cases h
  | _ :: _, [], _, _, _, _, h => by cases h
  | a :: l, b :: m, 0, _, _, h1, h2 => by cases h1; cases h2; exact List.mem_cons_self
  | a :: l, b :: m, j + 1, _, _, h1, h2 => List.mem_cons_of_mem _ (zip_mem h1 h2)
theorem RVRs.two : ∀ {vs : List V} {rs : List VR} {i j : Nat} {a : Addr} {v : V} {d d' : D}, RVRs K σ H0 g H s vs rs → i ≠ j → vs[i]? = some (.ref a) → rs[i]? = some (.t (.ow d)) → vs[j]? = some v → rs[j]? = some (.t (.ow d')) → v ≠ .ref a
  | _, _, _, _, _, _, _, _, .nil, _, e, _, _, _ => by cases e
  | _, _, 0, 0, _, _, _, _, _, n, _, _, _, _ => (n rfl).elim
  | _, _, 0, j + 1, _, _, _, _, .cons _ _ c, _, e1, e2, e3, e4 => by
    cases e1; cases e2
    exact c _ _ rfl rfl _ (zip_mem (show _ = _ from e3) (show _ = _ from e4)) _ rfl
  | _, _, i + 1, 0, a, v, d, d', .cons _ _ c, _, e1, e2, e3, e4 => by
    cases e3; cases e4
    intro z
    exact c a _ rfl z _ (zip_mem (show _ = _ from e1) (show _ = _ from e2)) _ rfl rfl
  | _, _, i + 1, j + 1, _, _, _, _, .cons _ r _, n, e1, e2, e3, e4 => RVRs.two r (fun z => n (by rw [z])) e1 e2 e3 e4
theorem pick_mem {α β : Type} {l : List α} {m : List β} (hl : l.length = m.length) : ∀ {π : List Nat} {p : α × β}, p ∈ (pick π l).zip (pick π m) → ∃ j ∈ π, l[j]? = some p.1 ∧ m[j]? = some p.2
  | [], p, h => by cases h
  | i :: π, p, h => by
    unfold DL.pick at h
    cases e : l[i]? with
    | none =>
      have e2 : m[i]? = none := List.getElem?_eq_none (by rw [← hl]; exact List.getElem?_eq_none_iff.mp e)
      rw [e, e2] at h
      obtain ⟨j, hj, q⟩ := pick_mem hl h
      exact ⟨j, List.mem_cons_of_mem _ hj, q⟩
    | some x =>
      have hi : i < m.length := by rw [← hl]; exact (List.getElem?_eq_some_iff.mp e).1
      have e2 : m[i]? = some m[i] := List.getElem?_eq_getElem hi
      rw [e, e2] at h
      rcases List.mem_cons.mp h with rfl | h
      · exact ⟨i, List.mem_cons_self, e, e2⟩
      · obtain ⟨j, hj, q⟩ := pick_mem hl h
        exact ⟨j, List.mem_cons_of_mem _ hj, q⟩
theorem RVRs.pick {vs : List V} {rs : List VR} (r : RVRs K σ H0 g H s vs rs) : ∀ {π : List Nat}, π.Nodup → RVRs K σ H0 g H s (pick π vs) (pick π rs)
  | [], _ => .nil
  | i :: π, n => by
    unfold DL.pick
    obtain ⟨n1, n2⟩ := List.nodup_cons.mp n
    cases e : vs[i]? with
    | none =>
      have : rs[i]? = none := List.getElem?_eq_none (by rw [← r.length]; exact List.getElem?_eq_none_iff.mp e)
      rw [this]
      exact RVRs.pick r n2
    | some v =>
      obtain ⟨x, hx, rx⟩ := r.get e
      rw [hx]
      refine .cons rx (RVRs.pick r n2) fun a d e1 e2 p hp d' e3 => ?_
      subst e1; subst e2
      obtain ⟨j, hj, q1, q2⟩ := pick_mem r.length hp
      rw [e3] at q2
      exact r.two (i := i) (j := j) (fun z => n1 (by rw [z]; exact hj)) e hx q1 q2
end
def dPick (π : List Nat) (fl : M (List VR)) : M (List VR) := fl >>= fun rs => if rs.length = π.length then pure (pick π rs) else M.bad
theorem dPick_cur {α : Type} {K : PySem.W.Frag} {Wx : WX} {σ : Slots} {R : Gh → Hp → State → V → α → Prop} {Q : V → Hp → Prop} {g0 g1 : Gh} {H0 H1 : Hp} {s0 s1 : State} {π : List Nat} {fl : M (List VR)} {k : List VR → M α}
    (c : Cur K Wx σ R Q g0 H0 s0 ((dPick π fl >>= k) s1) g1 H1 s1) : Cur K Wx σ R Q g0 H0 s0 ((fl >>= fun rs => if rs.length = π.length then k (pick π rs) else M.bad) s1) g1 H1 s1 := by
  refine ⟨c.ev, c.sd, ?_⟩
  have p := c.post
  rw [bind_eq] at p ⊢
  unfold dPick at p
  rw [bind_eq] at p
  cases q : fl s1 with
  | ok rs s2 =>
    rw [q] at p
    by_cases z : rs.length = π.length
    · simp only [if_pos z] at p ⊢; exact p
    · simp only [if_neg z] at p ⊢; exact p
  | err y s2 => rw [q] at p; exact p
  | bad => rw [q] at p; exact p
structure KwB (K : PySem.W.Frag) (fd : FuncData) (ps : List Str) (n : Nat) (ks : List Str) (π : List Nat) : Prop where
  to : ∀ (s : Shared) (us ws : List Value), K.In s.heap → us.length = n → ws.length = ks.length → BindsTo s fd ⟨us, ks.zip ws⟩ (ps.zip (us ++ pick π ws))
theorem KwB.mk' {K : PySem.W.Frag} {x qual : Str} {st : Stmt} {f : Addr} {fd : FuncData} {ps ks : List Str} {n : Nat} {π : List Nat} (F : Fun K x qual st f fd)
    (h : ∀ (kV doc pm : Value) (an : Option Addr) (cdv ct : Value) (us ws : List Value), us.length = n → ws.length = ks.length → bindArgs (PySem.W.fnOf x qual (defArgs st) (defBody st) (defScope st) .none kV doc pm an cdv ct) ⟨us, ks.zip ws⟩ = pure (ps.zip (us ++ pick π ws))) : KwB K fd ps n ks π := by
  obtain ⟨_, _, kV, doc, pm, an, cdv, ct, _, rfl, _, _⟩ := F.ex
  exact ⟨fun s us ws _ l1 l2 => BindsTo.of_eq (h kV doc pm an cdv ct us ws l1 l2)⟩
def DKw (X : Cx) (Wx : WX) (kws : List Keyword) (fl : M (List VR)) : Prop := PK X kws (tL X.K Wx fl)
section
variable {X : Cx} {Wx : WX} {e o : Expr} {kws : List Keyword} {f : M VR} {fl : M (List VR)} {nm : Option Str} {kpos : Pos}
theorem dk_nil : DKw X Wx [] dNil := ⟨fun pos pins s σ H Q I q => pk_nil.run pos pins s σ H Q I (by
  obtain ⟨g, s, sd, p⟩ := q
  exact p [] g H sd .refl .nil)⟩
theorem dk_cons (ha : DV X Wx e f) (hr : DKw X Wx kws fl) : DKw X Wx (⟨nm, e, kpos⟩ :: kws) (dCons f fl) :=
  ⟨fun pos pins s σ H Q I q => (pk_cons ha hr).run pos pins s σ H Q I (by
    obtain ⟨g, s, c⟩ := q.start
    refine c.bind.mono fun x H1 ⟨r1, g1, s1, c1, q1, e1⟩ => c1.bind.mono fun xs H2 ⟨rs, g2, s2, c2, q2, e2⟩ => ?_
    refine c2.done (a := r1 :: rs) rfl (.cons (q1.ev e2) (RVRs.past e1.live q2) fun a d er ev p hp d' e' ep => ?_)
    subst er
    obtain ⟨b, o, eb, _, ho, _⟩ := RT.at_ q1
    cases ev.symm.trans eb
    have z := q2.mem p hp
    rw [e', ep] at z
    exact absurd (RT.new z d' a rfl rfl).1 (by rw [ho]; exact fun w => by cases w))⟩
variable {k : Nat} {C f0 : Addr} {fd : FuncData} {ps N ks : List Str} {b : M Flow} {x m : Str} {p pos apos : Pos} {fo : M VR} {ms : List AM} {π : List Nat}
theorem run_fnKw {pins : List (Addr × Obj)} {σ : L2.St} {H : Hp} {st : Shared} {Q : VK} {us ws : List Value} {vs zs : List V} {cx : CXT} {pr : Sp} {Ex : L2.St → XK} {n : Nat} (fk : FnOk X.prog X.w X.K X.mg X.base cx k f0 fd ps pr) (room : Room k X.A) (hb : KwB X.K fd ps n ks π) (hx : PassesAt cx X σ (Ex σ))
    (I : Inv X pins σ H st) (l1 : us.length = n) (l2 : ws.length = ks.length) (rv : Vals vs us) (rz : Vals zs ws) (want : pr (vs ++ pick π zs) H Q (Ex σ)) : wpAny (model X.prog X.w) X.A (call (.ref f0) us (ks.zip ws)) (EP X pins σ Q) X.xe st := by
  refine wpAny_call (codeAny_mono (fk.run X.A X.stack st H ⟨us, ks.zip ws⟩ _ _ Q (Ex σ) room I.env0 (hb.to st us ws I.kIn l1 l2) (rv.append (Vals.pick rz π)) want) fun res s2 out => ?_)
  match res, out with
  | .error er, out => exact hx pins H st er s2 I out
  | .ok (.ret u2), out => exact I.after out
  | .ok .next, out => exact out.elim
  | .ok .brk, out => exact out.elim
  | .ok .cont, out => exact out.elim
theorem de_methK {pl : Sem Bool} (c : Cls X.K C) (hm : Meth X.K C m f0) (F : FnOk X.prog X.w X.K X.mg X.base (L2.CX X.prog X.w) k f0 fd ps (spF X.K ps N b)) {n : Nat} (hl : N.length = n) (hr : Room k X.A) (hb : KwB X.K fd ps 1 ks π) (hπ : π.Nodup) (tk : Takes X Wx)
    (hn : ms.length = ps.length) (hkl : ks.length = π.length) (ho : DV X Wx o fo) (ha : DKw X Wx kws fl)
    (hall : (backToKw pos (keywordEach kws X.env)).all (·.1.isSome) = true := by rfl) (hks : (backToKw pos (keywordEach kws X.env)).filterMap (·.1) = ks := by rfl)
    (hpl : ((backTo pos (starEach [] X.env)).any (·.1) || (backToKw pos (keywordEach kws X.env)).any (·.1.isNone)) = false := by rfl)
    (ht : eval (.Call (.Attribute o m apos) [] kws pos) X.env = (do
      let ov ← eval o X.env
      standAt apos.atName
      let (f, first) ← holding [ov] (getMethod ov m pl)
      callWith pos f first (backTo pos (starEach [] X.env)) (backToKw pos (keywordEach kws X.env))) := by rfl) :
    DE X Wx (.Call (.Attribute o m apos) [] kws pos) (dMeth C m n ms [] b fo (dPick π fl)) := by
  subst hl
  exact ⟨fun pins s σ H Q I h => by
  obtain ⟨g, st, c0⟩ := h.start
  refine PySem.W.methodCall_KW (pl := pl) (thn (ho.run pins s σ H _ I (c0.bind (R1 := RVR X.K))) fun u s1 ⟨z, H1, I1, rz, r, g1, st1, c1, r1, e1⟩ => ?_) ht
  rcases recv_run (C := C) (m := m) c1.sd r1 with ⟨q, now, a, dx, fx, rfl, h2, h3⟩ | q
  · obtain rfl : u = Value.ref a := rz
    have c2 : Cur X.K Wx σ (RTt X.K σ H) Q g H st ((dPick π fl >>= fun rs => dPass N.length ms [] b (r :: rs)) st1) g1 H1 st1 := ⟨c1.ev, c1.sd, by have p := c1.post; rw [bind_eq, q] at p; exact p⟩
    have c3 := dPick_cur c2
    refine getmeth_ok I1 h2 c hm h3 (PySem.W.callWith_KW0 (h₀ := X.base) (first := [.ref a]) I.ok.mod.kin hm.kp hall (thn (ha.run pos pins s1 σ H1 _ I1 (c3.bind (R1 := RVL X.K))) fun ws s2 ⟨zs, H2, I2, rv, rs, g2, st2, c4, r3, e3⟩ => ⟨I2.kIn, ?_⟩) hpl)
    by_cases zl : rs.length = π.length
    · rw [if_pos zl] at c4
      have all : RVRs X.K σ H g2 H2 st2 (V.ref a :: pick π zs) (r :: pick π rs) := .cons (r1.ev e3) ((RVRs.past c1.ev.live r3).pick hπ) (apart_of now)
      rw [hks]
      exact run_fnKw (us := [Value.ref a]) (vs := [V.ref a]) F hr hb (passAt tk σ) I2 rfl (by rw [← rv.length, r3.length, zl, hkl]) (.cons (show RelV (V.ref a) (Value.ref a) from rfl) .nil) rv (by
        have z := pass_run (dvs := []) c4 all (fun _ => .nil) (by rw [hn]; rfl)
        rw [List.append_nil] at z
        exact z)
    · rw [if_neg zl] at c4
      exact (c4.notBad rfl).elim
  · exact (c1.notBad (by rw [bind_eq, q])).elim⟩
end
end DL
set_option Elab.async false
set_option linter.all false
set_option maxRecDepth 100000
set_option maxHeartbeats 1000000
namespace DL
open PySem PySem.Spec PyProof.Rows L2
section
variable {K : PySem.W.Frag} {g g' g0 : Gh} {H H' H0 : Hp} {σ σ' σ0 : Slots} {s s' s0 : State} {a b : Addr} {o u : HO} {od : Obj} {v : V} {d : D}
theorem SD.gNoMu (sd : SD K g H σ s) (h : g.G a = some o) : ¬ Mu g σ s a := fun m => by
  rcases m with ⟨i, w, e, hm, x⟩ | m | ⟨x, l, e, m⟩
  · obtain ⟨v, ev, wa⟩ := sd.slot i w e
    rw [x] at ev; cases ev
    cases w with
    | own d => obtain ⟨b, u, eb, f, _⟩ := wa; cases eb; rw [f.1] at h; cases h
    | lent d => obtain ⟨b, u, eb, f, _⟩ := wa; cases eb; rw [f.1] at h; cases h
    | _ => cases hm
  · rw [(sd.ng a m).1] at h; cases h
  · have dr := sd.dr
    rw [e] at dr
    cases q : s.dr with
    | none => rw [q] at dr; exact dr
    | some y =>
      rw [q] at dr
      rcases m with rfl | rfl
      · rw [dr.ga] at h; cases h
      · rw [dr.gl] at h; cases h
theorem Src.lock {a : Addr} (sd : SD K g H σ s) (h : Src K g σ s (.ref a) d) (hd : ∀ o, ObAt K g o d → lockable o = true) (hr : Rep K g (.ref a) d → ∃ o, g.G a = some o ∧ ObAt K g o d) : ∃ o, RdO H a o ∧ lockable o = true ∧ ObAt K g o d ∧ ¬ Mu g σ s a ∧ ∀ u, g.G a = some u → u = o := by
  rcases h with h | ⟨i, hv, h⟩
  · obtain ⟨o, q, ob⟩ := hr h
    exact ⟨o, sd.gh a o q, hd o ob, ob, sd.gNoMu q, fun u e => by rw [q] at e; cases e; rfl⟩
  · have key : ∀ w : W, s.env[i]? = some (some w) → (w = .lk d ∨ w = .lkl d) → ∃ o, RdO H a o ∧ lockable o = true ∧ ObAt K g o d ∧ ¬ Mu g σ s a ∧ ∀ u, g.G a = some u → u = o := fun w e hw => by
      obtain ⟨v', ev, wa⟩ := sd.slot i _ e
      rw [hv] at ev; cases ev
      have hh : w.held = true ∧ w.mut = false := by rcases hw with rfl | rfl <;> exact ⟨rfl, rfl⟩
      have wa : ∃ b o, V.ref a = .ref b ∧ Free1 g b ∧ RdO H b o ∧ ObAt K g o d := by rcases hw with rfl | rfl <;> exact wa
      obtain ⟨b, o, eb, f, q, ob⟩ := wa
      cases eb
      refine ⟨o, q, hd o ob, ob, fun m => ?_, fun u e2 => by rw [f.1] at e2; cases e2⟩
      rcases m with ⟨j, y, e3, hm, x⟩ | m | m
      · have := sd.inj i j w y a e e3 hh.1 (by cases y <;> first | rfl | cases hm) hv x
        subst this
        rw [e] at e3; cases e3
        rw [hh.2] at hm; cases hm
      · exact f.2.1 m
      · exact f.2.2 m
    rcases h with h | h
    · exact key _ h (.inl rfl)
    · exact key _ h (.inr rfl)
theorem Rep.dkAt {ds : List (Key × D)} {a : Addr} (h : Rep K g (.ref a) (.dk ds)) : ∃ o, g.G a = some o ∧ ObAt K g o (.dk ds) := by
  cases h with
  | dk q k r => exact ⟨_, q, _, rfl, k, r⟩
theorem Rep.dtAt {ds : List (List Key × D)} {a : Addr} (h : Rep K g (.ref a) (.dt ds)) : ∃ o, g.G a = some o ∧ ObAt K g o (.dt ds) := by
  cases h with
  | dt q k r => exact ⟨_, q, _, rfl, k, r⟩
end
section
variable {K : PySem.W.Frag} {g g' g0 : Gh} {H H' H0 : Hp} {σ σ' σ0 : Slots} {s s' s0 : State} {a : Addr} {od : Obj}
end
section
variable {X : Cx} {pins : List (Addr × Obj)} {σ : L2.St} {H : Hp} {s : Shared} {d : Addr} {o : Obj}
end
end DL
set_option Elab.async false
set_option linter.all false
set_option maxRecDepth 100000
set_option maxHeartbeats 1000000
namespace DL
open PySem PySem.Spec PyProof.Rows L2
section
variable {K : PySem.W.Frag} {Wx : WX} {g g0 : Gh} {H H0 : Hp} {σ : Slots} {s s0 : State} {Q : V → Hp → Prop}
end
section
variable {X : Cx} {Wx : WX} {pos : Pos} {fl : M (List VR)} {ft : M Bool} {fk fv : M VR} {pt : Pt} {kx vx tg iter : Expr} {ifs : List Expr} {scope : Scope} {own : List (Str × Nat)}
end
end DL
set_option Elab.async false
set_option linter.all false
set_option maxRecDepth 100000
set_option maxHeartbeats 1000000
namespace DL
open PySem PySem.Spec PyProof.Rows L2
section
variable {X : Cx} {Wx : WX} {tg e : Expr} {i : Nat} {apos cpos : Pos}
end
section
variable {K : PySem.W.Frag} {Wx : WX} {g g0 g1 : Gh} {H H0 H1 : Hp} {σ : Slots} {s s0 s1 : State} {Q : V → Hp → Prop} {a : Addr} {o : HO} {i : Nat} {d : DL.D}
theorem Mut.of (ob : ObAt K g o d) : Mut (some o) := by
  cases d with
  | lst _ => obtain ⟨_, rfl, _⟩ := ob; trivial
  | dk _ => obtain ⟨_, rfl, _⟩ := ob; trivial
  | dt _ => obtain ⟨_, rfl, _⟩ := ob; trivial
  | obj _ _ => obtain ⟨_, _, rfl, _⟩ := ob; trivial
  | _ => exact ob.elim
theorem ObAt.lockable (h : isDict d = true) (ob : ObAt K g o d) : lockable o = true := by
  cases d with
  | dk _ => obtain ⟨_, rfl, _⟩ := ob; rfl
  | dt _ => obtain ⟨_, rfl, _⟩ := ob; rfl
  | _ => cases h
theorem Src.dict (sd : SD K g H σ s) (hd : isDict d = true) {v : V} (src : Src K g σ s v d) : ∃ a o, v = .ref a ∧ RdO H a o ∧ lockable o = true ∧ ObAt K g o d ∧ ¬ Mu g σ s a ∧ ∀ u, g.G a = some u → u = o := by
  obtain ⟨a, rfl⟩ : ∃ a, v = .ref a := by
    cases d with
    | dk _ => obtain ⟨a, _, e, _⟩ := (src.view sd).dk sd; exact ⟨a, e⟩
    | dt _ => obtain ⟨a, _, e, _⟩ := (src.view sd).dt sd; exact ⟨a, e⟩
    | _ => cases hd
  obtain ⟨o, z⟩ := src.lock sd (fun o ob => ob.lockable hd) (by
    cases d with
    | dk _ => exact Rep.dkAt
    | dt _ => exact Rep.dtAt
    | _ => cases hd)
  exact ⟨a, o, rfl, z⟩
theorem Cur.walk {α β : Type} {R : Gh → Hp → State → β → α → Prop} {Q : β → Hp → Prop} {k : DL.D → M α} (c : Cur K Wx σ R Q g0 H0 s0 ((frzR (.slot i) >>= k) s1) g1 H1 s1) :
    ∃ v d g2 s2, σ[i]? = some (some v) ∧ Cur K Wx σ R Q g0 H0 s0 (k d s2) g2 H1 s2 ∧ Src K g2 σ s2 v d ∧ Le g1 g2 := by
  rw [bind_eq] at c
  rcases frzR_res (.slot i) s1 with ⟨d, s2, e⟩ | e
  · obtain ⟨w, hw⟩ : ∃ w, s1.env[i]? = some (some w) := by
      cases q : s1.env[i]? with
      | none => simp [frzR, DL.frz, q] at e
      | some u =>
        cases u with
        | none => simp [frzR, DL.frz, q] at e
        | some u => exact ⟨u, rfl⟩
    obtain ⟨v, ev, _⟩ := c.sd.slot i w hw
    rw [e] at c
    obtain ⟨g2, sd2, ev2, rp, _, le⟩ := frzR_run (v := v) e c.ev c.sd (show σ[i]? = some (some v) from ev)
    exact ⟨v, d, g2, s2, ev, ⟨ev2, sd2, c.post⟩, rp, le⟩
  · rw [e] at c
    exact (c.notBad rfl).elim
end
section
variable {X : Cx} {Wx : WX} {pos : Pos} {ft : M Bool} {fe fk fv : M VR} {pt : Pt} {elt kx vx tg iter : Expr} {ifs : List Expr} {scope : Scope} {own : List (Str × Nat)} {i j : Nat} {h : D → Option (List D)} {k : Nat}
end
section
variable {X : Cx} {Wx : WX} {pos : Pos} {pt : Pt} {tg iter : Expr} {i : Nat} {h : D → Option (List D)} {body : List Stmt} {fb : M Flow}
end
end DL
set_option Elab.async false
set_option linter.all false
set_option maxRecDepth 100000
set_option maxHeartbeats 1000000
namespace DL
open PySem PySem.Spec PyProof.Rows L2
section
variable {prog : Program} {w : World} {A : Around} {R : Result → Shared → Prop} {s : Shared} {kx vx ta ia tb ib : Expr} {scope : Scope} {pos : Pos} {it : Value} {D : Addr} {env : Env}
end
section
variable {X : Cx} {kx vx ta ia tb ib : Expr} {scope : Scope} {own : List (Str × Nat)} {us : List Nat} {pos : Pos} {wa wb : TI} {ga gb : TG} {tk tv : TE}
end
end DL
set_option Elab.async false
set_option linter.all false
set_option maxRecDepth 100000
set_option maxHeartbeats 1000000
namespace DL
open PySem PySem.Spec PyProof.Rows L2
section
variable {K : PySem.W.Frag} {Wx : WX} {g g0 : Gh} {H H0 : Hp} {σ : Slots} {s s0 : State} {Q : V → Hp → Prop}
end
section
variable {X : Cx} {Wx : WX} {k i j n : Nat} {scope : Scope} {own : List (Str × Nat)} {ia : Expr} {xj xn : Str} {k1 : Nat} {p1 p2 p3 p4 p5 pos : Pos}
end
end DL
set_option Elab.async false
set_option linter.all false
set_option maxRecDepth 100000
set_option maxHeartbeats 1000000
namespace DL
open PySem PySem.Spec PyProof.Rows L2
section
variable {prog : Program} {w : World} {A : Around} {E : Value → Shared → Prop} {s : Shared} {z TI TO T i1 i2 l1 l2 : Addr} {k : Nat} {xs ys : Array Value}
def ZSt (h : Heap) (z TI TO i1 i2 l1 l2 : Addr) (k : Nat) : Prop :=
  IsPair h TI (.ref i1) (.ref i2) ∧ h.IsTupleIter i1 l1 k ∧ h.IsTupleIter i2 l2 k ∧ ((IsZip h z TI TO .none ∧ ∃ x y, IsPair h TO x y) ∨ ∃ T f o, IsZipHeld h z TI TO T f ∧ h.get? T = some o ∧ T ≠ z ∧ T ≠ i1 ∧ T ≠ i2)
theorem ZSt.lt {h : Heap} (st : ZSt h z TI TO i1 i2 l1 l2 k) : z < h.objs.size ∧ i1 < h.objs.size ∧ i2 < h.objs.size ∧ TI < h.objs.size := by
  obtain ⟨a, ⟨_, b, _⟩, ⟨_, c, _⟩, d⟩ := st
  refine ⟨?_, Heap.lt_size b, Heap.lt_size c, Heap.lt_size a⟩
  rcases d with ⟨d, _⟩ | ⟨_, _, _, d, _⟩ <;> exact Heap.lt_size d
theorem ZSt.keep {h h' : Heap} (st : ZSt h z TI TO i1 i2 l1 l2 k) (kp : ∀ b o, h.get? b = some o → h'.get? b = some o) : ZSt h' z TI TO i1 i2 l1 l2 k := by
  obtain ⟨a, b, c, d⟩ := st
  refine ⟨kp _ _ a, b.at fun o e => kp _ o e, c.at fun o e => kp _ o e, ?_⟩
  rcases d with ⟨d, x, y, e⟩ | ⟨T, f, o, d, e, n⟩
  · exact .inl ⟨kp _ _ d, x, y, kp _ _ e⟩
  · exact .inr ⟨T, f, o, kp _ _ d, kp _ _ e, n⟩
end
section
variable {X : Cx} {pins : List (Addr × Obj)} {σ : Slots}
end
end DL
set_option Elab.async false
set_option linter.all false
set_option maxRecDepth 100000
set_option maxHeartbeats 1000000
namespace DL
open PySem PySem.Spec PyProof.Rows L2
section
variable {K : PySem.W.Frag} {g : Gh} {H : Hp} {σ : Slots} {s : State}
theorem iter_zipT {a b : Addr} {ds es : List DL.D} (src : Src K g σ s (.ref a) (.tup ds)) (src2 : Src K g σ s (.ref b) (.tup es)) : Iter K (RZ.ItzT K a b) g H σ s (zipL ds es) := fun i g2 H2 σ2 s2 sd2 ev2 => by
  obtain ⟨a', xs, e, hx, rx⟩ := ((src.ev ev2).view sd2).tup sd2
  cases e
  obtain ⟨b', ys, e, hy, ry⟩ := ((src2.ev ev2).view sd2).tup sd2
  cases e
  refine ⟨fun hi => ⟨xs, ys, hx, hy, by rw [rx.length, ry.length]; rw [zipL_len] at hi; omega⟩, fun d hd => ?_⟩
  obtain ⟨d1, d2, h1, h2, rfl⟩ := zipL_get ds es i d hd
  obtain ⟨x, hv, rv⟩ := rx.get h1
  obtain ⟨y, hw, rw'⟩ := ry.get h2
  refine ⟨⟨xs, ys, x, y, hx, hy, hv, hw⟩, fun z H3 hz => ?_⟩
  obtain ⟨T, x', y', rfl, hT, rfl, q1, q2⟩ := hz
  have e1 := q1 xs hx
  have e2 := q2 ys hy
  rw [hv] at e1; cases e1
  rw [hw] at e2; cases e2
  exact sd2.newTup hT (.cons rv (.cons rw' .nil))
end
section
variable {X : Cx} {Wx : WX} {e e2 : Expr} {fl : M (List VR)} {p p1 p2 pos : Pos} {pt : Pt} {body : List Stmt} {fb : M Flow}
end
end DL
set_option Elab.async false
set_option linter.all false
set_option maxRecDepth 100000
set_option maxHeartbeats 1000000
namespace DL
open PySem PySem.Spec PyProof.Rows L2
section
variable {prog : Program} {w : World} {A : Around} {E : Value → Shared → Prop} {s : Shared}
end
section
variable {X : Cx} {Wx : WX} {e : Expr} {fa : M VR} {k : Nat} {p1 p2 p3 pos : Pos} {te : TE}
end
end DL
set_option Elab.async false
set_option linter.all false
set_option maxRecDepth 100000
set_option maxHeartbeats 1000000
namespace DL
open PySem PySem.Spec PyProof.Rows L2
section
variable {X : Cx} {pins : List (Addr × Obj)} {σ : Slots}
end
section
variable {X : Cx}
end
end DL
set_option Elab.async false
set_option linter.all false
set_option maxRecDepth 100000
set_option maxHeartbeats 1000000
namespace DL
open PySem PySem.Spec PyProof.Rows L2
section
variable {K : PySem.W.Frag} {g : Gh}
end
section
variable {X : Cx}
end
end DL
set_option Elab.async false
set_option linter.all false
set_option maxRecDepth 100000
set_option maxHeartbeats 1000000
namespace DL
open PySem PySem.Spec PyProof.Rows L2
section
variable {h : Heap}
end
section
variable {X : Cx}
end
end DL
set_option Elab.async false
set_option linter.all false
set_option maxRecDepth 100000
set_option maxHeartbeats 3200000
namespace DL
open PySem PySem.Spec PyProof.Rows L2
section
variable {prog : Program} {w : World} {A : Around} {R : Result → Shared → Prop} {I : Addr} {fp wr : List Addr} {G : Array GenState → Array GenState → Prop} {n : Nat} {P : Nat → Value → Prop} {St : Nat → Shared → Prop}
end
section
variable {prog : Program} {w : World} {A : Around} {E : Value → Shared → Prop} {s : Shared}
end
section
variable {X : Cx} {Wx : WX} {a : Expr} {ta : TE} {fa : M VR} {p p2 q pos : Pos}
end
end DL
set_option Elab.async false
set_option linter.all false
set_option maxRecDepth 100000
set_option maxHeartbeats 1000000
namespace DL
open PySem
section
variable {s s1 s2 s3 : State} {f k : M Flow} {r : Rs Flow} {c : M Bool} {a b : M Flow} {t : T} {i : Nat}
theorem dSeq_nx (h : f s = .ok .nx s1) (q : k s1 = r) : dSeq f k s = r := by unfold dSeq; rw [h]; exact q
theorem dAsg_eq {m : M T} (h : m s = .ok t s1) (q : canSet s1 i = true) (e : putE s1 i t.w = s2) : dAsg i m s = .ok .nx s2 := by
  unfold dAsg
  rw [bind_eq, h]
  show (setT i t >>= fun _ => dNx) s1 = _
  rw [bind_eq]
  unfold setT
  rw [if_pos q, e]
  rfl
theorem dIf_t {α : Type} {a b : M α} {r : Rs α} (h : c s = .ok true s1) (q : a s1 = r) : dIf c a b s = r := by unfold dIf; rw [bind_eq, h]; exact q
theorem dIf_f {α : Type} {a b : M α} {r : Rs α} (h : c s = .ok false s1) (q : b s1 = r) : dIf c a b s = r := by unfold dIf; rw [bind_eq, h]; exact q
theorem dExpr_eq {m : M T} (h : m s = .ok t s1) : dExpr m s = .ok .nx s1 := by unfold dExpr; rw [bind_eq, h]; rfl
theorem dAnd_t {f k : M Bool} {r : Rs Bool} (h : f s = .ok true s1) (q : k s1 = r) : dAnd f k s = r := by unfold dAnd; rw [bind_eq, h]; exact q
theorem dAnd_f {f k : M Bool} (h : f s = .ok false s1) : dAnd f k s = .ok false s1 := by unfold dAnd; rw [bind_eq, h]; rfl
theorem dOr_t {f k : M Bool} (h : f s = .ok true s1) : dOr f k s = .ok true s1 := by unfold dOr; rw [bind_eq, h]; rfl
theorem dOr_f {f k : M Bool} {r : Rs Bool} (h : f s = .ok false s1) (q : k s1 = r) : dOr f k s = r := by unfold dOr; rw [bind_eq, h]; exact q
theorem dNot_eq {f : M Bool} {v : Bool} (h : f s = .ok v s1) : dNot f s = .ok (!v) s1 := by unfold dNot; rw [bind_eq, h]; rfl
variable {p : Pt} {d : D} {ds items : List D}
end
section
variable {s s1 s2 s3 s4 : State}
end
end DL
set_option Elab.async false
set_option linter.all false
set_option maxRecDepth 100000
set_option maxHeartbeats 1000000
namespace DL
open PySem
theorem take_at {s s1 : State} {st : DrawSt} {i : Nat} {n : Int} {f : M VR} {x : VR} (hd : DrOk1 st) (he : s.env[i]? = some (some (.fz .draw))) (he1 : s1.env[i]? = some (some (.fz .draw))) (hs : s1.dr = some st) (h0 : 0 < n) (h1 : n < 18446744073709551616) (hf : f s = .ok x s1) (hx : frz x s1 = .ok (.int n) s1) :
    ∃ (r : Int) (st' : DrawSt), 0 ≤ r ∧ r < n ∧ DrOk1 st' ∧ dCall 4 [.F, .F] [] Law.F_law_take (dCons (dSlot i) (dCons f dNil)) s = .ok (.fz (.int r)) { s1 with dr := some st' } := by
  have e0 : dSlot i s = .ok (.slot i) s := by unfold dSlot; rw [he]
  have e2 : toHMs [.F, .F] [.slot i, x] s1 = .ok [.d .draw, .d (.int n)] s1 := by
    have a : toHM .F x s1 = .ok (.d (.int n)) s1 := by
      show (frz x >>= fun d => pure (HS.d d)) s1 = _
      rw [bind_eq, hx]
      rfl
    have b : toHM .F (.slot i) s1 = .ok (.d .draw) s1 := by
      show (frz (.slot i) >>= fun d => pure (HS.d d)) s1 = _
      have : frz (.slot i) s1 = .ok .draw s1 := by simp only [frz, he1]
      rw [bind_eq, this]
      rfl
    show (toHM .F (.slot i) >>= fun h => toHMs [.F] [x] >>= fun hs => pure (h :: hs)) s1 = _
    rw [bind_eq, b]
    show ((toHM .F x >>= fun h => toHMs [] [] >>= fun hs => pure (h :: hs)) >>= fun hs => pure (HS.d .draw :: hs)) s1 = _
    rw [bind_eq, bind_eq, a]
    rfl
  have tk : ok (dCall 4 [.F, .F] [] Law.F_law_take (dCons (dSlot i) (dCons f dNil))) s (fun y S => ∃ (r : Int) (st' : DrawSt), y = .fz (.int r) ∧ 0 ≤ r ∧ r < n ∧ DrOk1 st' ∧ S = { s1 with dr := some st' }) :=
    ok.call (ds := [.draw, .int n]) (rs := [.slot i, x]) (s1 := s1) (s2 := s1) (dCons_eq e0 (dCons_eq hf (k := dNil) rfl)) e2 (take_gives (st := st) hs hd h0 h1 fun r st' r0 r1 hd' => ⟨r, st', rfl, r0, r1, hd', rfl⟩)
  obtain ⟨_, _, e, r, st', rfl, r0, r1, hd', rfl⟩ := tk
  exact ⟨r, st', r0, r1, hd', e⟩
theorem pick_at {s s1 s2 : State} {st : DrawSt} {i : Nat} {ds : List D} {f : M VR} {x : VR} (hd : DrOk1 st) (he : s.env[i]? = some (some (.fz .draw))) (he1 : s1.env[i]? = some (some (.fz .draw))) (hs : s2.dr = some st) (h0 : 0 < ds.length) (h1 : ds.length < 18446744073709551616) (hf : f s = .ok x s1) (hx : frz x s1 = .ok (.lst ds) s2) :
    ∃ (d : D) (st' : DrawSt), d ∈ ds ∧ DrOk1 st' ∧ dCall 2 [.F, .F] [] Law.F_law_pick (dCons (dSlot i) (dCons f dNil)) s = .ok (.fz d) { s2 with dr := some st' } := by
  have e0 : dSlot i s = .ok (.slot i) s := by unfold dSlot; rw [he]
  have e2 : toHMs [.F, .F] [.slot i, x] s1 = .ok [.d .draw, .d (.lst ds)] s2 := by
    have a : toHM .F x s1 = .ok (.d (.lst ds)) s2 := by
      show (frz x >>= fun d => pure (HS.d d)) s1 = _
      rw [bind_eq, hx]
      rfl
    have b : toHM .F (.slot i) s1 = .ok (.d .draw) s1 := by
      show (frz (.slot i) >>= fun d => pure (HS.d d)) s1 = _
      have : frz (.slot i) s1 = .ok .draw s1 := by simp only [frz, he1]
      rw [bind_eq, this]
      rfl
    show (toHM .F (.slot i) >>= fun h => toHMs [.F] [x] >>= fun hs => pure (h :: hs)) s1 = _
    rw [bind_eq, b]
    show ((toHM .F x >>= fun h => toHMs [] [] >>= fun hs => pure (h :: hs)) >>= fun hs => pure (HS.d .draw :: hs)) s1 = _
    rw [bind_eq, bind_eq, a]
    rfl
  have tk : ok (dCall 2 [.F, .F] [] Law.F_law_pick (dCons (dSlot i) (dCons f dNil))) s (fun y S => ∃ (d : D) (st' : DrawSt), y = .fz d ∧ d ∈ ds ∧ DrOk1 st' ∧ S = { s2 with dr := some st' }) :=
    ok.call (ds := [.draw, .lst ds]) (rs := [.slot i, x]) (s1 := s1) (s2 := s2) (dCons_eq e0 (dCons_eq hf (k := dNil) rfl)) e2 (pick_gives (st := st) hs hd h0 h1 fun d hm st' hd' => ⟨d, st', rfl, hm, hd', rfl⟩)
  obtain ⟨_, _, e, d, st', rfl, hm, hd', rfl⟩ := tk
  exact ⟨d, st', hm, hd', e⟩
end DL
set_option Elab.async false
set_option linter.all false
set_option maxRecDepth 100000
set_option maxHeartbeats 1000000
namespace DL
open PySem
section
variable {s s1 s2 s3 : State}
end
end DL
set_option Elab.async false
set_option linter.all false
set_option maxRecDepth 100000
set_option maxHeartbeats 2000000
namespace DL
open PySem PySem.Spec PyProof.Rows L2
section
variable {prog : Program} {w : World} {A : Around} {s : Shared}
end
section
variable {X : Cx} {pins : List (Addr × Obj)} {σ : L2.St} {H : Hp} {s : Shared}
def LamMade (H : Hp) (P : Addr) (q : Str) (ps : Array Value) (c' : Addr) (H1 : Hp) : Prop :=
  (H c' = some (LamX.CodeO c' q) ∧ H1 = H) ∨ ∃ pos : Pos, H c' = none ∧ c' ≠ P ∧ H1 = upd (upd H P (.tbl (ps ++ #[rawInt pos.line, rawInt pos.col, .ref c']))) c' (LamX.CodeO c' q)
end
end DL
namespace DL
open PySem PySem.Spec PyProof.Rows L2
theorem upd_comm {H : Hp} {a b : Addr} {o u : HO} (h : a ≠ b) : upd (upd H a o) b u = upd (upd H b u) a o := by
  funext x
  by_cases xa : x = a
  · subst xa
    rw [upd_ne h, upd_same, upd_same]
  · by_cases xb : x = b
    · subst xb
      rw [upd_same, upd_ne (Ne.symm h), upd_same]
    · rw [upd_ne xb, upd_ne xa, upd_ne xa, upd_ne xb]
section
variable {K : PySem.W.Frag} {g : Gh} {H H1 : Hp} {σ : Slots} {st : State} {P c' : Addr} {q : Str} {n : Nat}
theorem SD.tab (sd : SD K g H σ st) (e : st.sto[n]? = some (.tab P q)) : g.η[n]? = some P ∧ ∃ ps : Array Value, H P = some (.tbl ps) ∧ TriplesOk ps.toList ∧ ∀ (pos : Pos) (cv : Value), codeAmong pos ps.toList = some cv → ∃ c, cv = .ref c ∧ g.G c = some (LamX.CodeO c q) := by
  have hl : n < g.η.length := by rw [← sd.stl]; exact (List.getElem?_eq_some_iff.mp e).1
  obtain ⟨o, ho, z, ps, rfl, t, r⟩ := sd.sto n _ _ e (List.getElem?_eq_getElem hl)
  rw [z] at ho
  exact ⟨by rw [List.getElem?_eq_getElem hl, z], ps, ho, t, r⟩
theorem SD.lamMade (sd : SD K g H σ st) (e : st.sto[n]? = some (.tab P q)) {ps : Array Value} (hP : H P = some (.tbl ps)) (m : LamMade H P q ps c' H1) : ∃ g', SD K g' H1 σ st ∧ Ev g H σ st g' H1 σ st ∧ H1 c' = some (LamX.CodeO c' q) := by
  rcases m with ⟨h, rfl⟩ | ⟨pos, nC, nP, rfl⟩
  · exact ⟨g, sd, .refl, h⟩
  · obtain ⟨eta, ps', hP', tri, told⟩ := sd.tab e
    rw [hP] at hP'
    cases hP'
    have sd2 := sd.alloc (o := LamX.CodeO c' q) nC
    have ev2 := sd.allocEv (o := LamX.CodeO c' q) nC
    have f := sd.free1 nC
    have sd3 := sd2.freeze f (sd.noHd nC) upd_same
    have ev3 := ev2.freeze (a := c') (o := LamX.CodeO c' q) f nC
    have ob : MObAt K (g.frz c' (LamX.CodeO c' q)) P (.tbl (ps ++ #[rawInt pos.line, rawInt pos.col, .ref c'])) (.tab P q) := by
      refine ⟨rfl, _, rfl, ?_, fun p' cv hcv => ?_⟩
      · have eL : (ps ++ #[rawInt pos.line, rawInt pos.col, .ref c']).toList = ps.toList ++ [rawInt pos.line, rawInt pos.col, .ref c'] := by simp
        rw [eL]
        exact PySem.TriplesOk_snoc _ _ _ _ tri
      · have eL : (ps ++ #[rawInt pos.line, rawInt pos.col, .ref c']).toList = ps.toList ++ [rawInt pos.line, rawInt pos.col, .ref c'] := by simp
        rw [eL] at hcv
        rcases LamX.among_app _ tri hcv with z | z
        · obtain ⟨c0, e1, e2⟩ := told p' cv z
          exact ⟨c0, e1, (Gh.frz_le f.1).G _ _ e2⟩
        · exact ⟨c', z, Gh.frz_at⟩
    obtain ⟨sd4, ev4⟩ := sd3.writeM (o' := .tbl (ps ++ #[rawInt pos.line, rawInt pos.col, .ref c'])) e eta ob
    have es : st.sto.set n (.tab P q) = st.sto := by
      obtain ⟨hl, hx⟩ := List.getElem?_eq_some_iff.mp e
      rw [← hx]
      exact List.set_getElem_self hl
    rw [es, upd_comm nP] at sd4 ev4
    exact ⟨_, sd4, ev3.trans ev4, upd_same⟩
end
end DL
namespace DL
open PySem PySem.Spec PyProof.Rows L2
def isTab (s : State) (n : Nat) (P : Addr) (q : Str) : Bool := match s.sto[n]? with
  | some (.tab P' q') => decide (P' = P) && decide (q' = q)
  | _ => false
theorem isTab_eq {s : State} {n : Nat} {P : Addr} {q : Str} (h : isTab s n P q = true) : s.sto[n]? = some (.tab P q) := by
  unfold isTab at h
  split at h
  · rename_i P' q' e
    rw [Bool.and_eq_true, decide_eq_true_eq, decide_eq_true_eq] at h
    rw [e, h.1, h.2]
  · cases h
theorem Fin.past {K : PySem.W.Frag} {g g2 : Gh} {H H2 : Hp} {σ : Slots} {s : State} {t : T} {Q : V → Hp → Prop} (f : Fin K g H σ s t Q) (ev : Ev g H σ s g2 H2 σ s) : Fin K g2 H2 σ s t Q := fun v g' H' sd' ev' r => f v g' H' sd' (ev.trans ev') (r.past ev.live)
section
variable {X : Cx} {Wx : WX}
end
end DL
set_option Elab.async false
set_option linter.all false
set_option maxRecDepth 100000
set_option maxHeartbeats 1000000
namespace DL
open PySem PySem.Spec PyProof.Rows L2
def tabsL (cs : List (Addr × Addr)) (qs : List Str) : List MO := (cs.zip qs).map fun p => .tab p.1.2 p.2
def lawStT (ns : List Int) (n : Nat) (tabs : List MO) : State := { lawSt ns n with sto := tabs }
def spLawT (K : PySem.W.Frag) (cs : List (Addr × Addr)) : Sp := fun vs H Q _ => ∃ (a : Addr) (ns : List Int), vs = [.ref a] ∧ SqL K H a (ns.map V.int) ∧ ns.length ≤ 63 ∧ (∀ p ∈ cs, H p.2 = some (.tbl #[])) ∧ (∀ p ∈ cs, K.lookup p.2 = none) ∧ (cs.map Prod.snd).Nodup ∧ ∀ H', Q (.bl true) H'
theorem law_runT {K : PySem.W.Frag} {H : Hp} {vs : List V} {Q : VK} {E : XK} {E' : Slots → XK} {x y : Str} {N : List Str} {rest : M Flow} {cs : List (Addr × Addr)} {qs : List Str} (hq : cs.length = qs.length) (h : spLawT K cs vs H Q E) (hm : ∀ ns : List Int, ns.length ≤ 63 → ∃ s', rest (lawStT ns N.length (tabsL cs qs)) = .ok (.rt (.fz (.bl true))) s') :
    tSeq (tAsg (tCallSD (spBegin K) [] E' (tCons (tVar 0) tNil)) (gName 1)) (tS K (fun cls d _ H' => E cls d H') rest) { nx := fun _ H' => Q .non H', rt := Q } (L2.start (x :: y :: N) vs) H := by
  obtain ⟨a, ns, rfl, hS, hl, hT, nT, ndT, k⟩ := h
  refine ⟨.ref a, rfl, a, ns, rfl, hS, hl, fun H' d l c keep hd hlN hc dl cl cd ed el ec => ?_⟩
  obtain ⟨s', hs⟩ := hm ns hl
  have noA : ∀ b, H b = none → b = a → H a = none := fun b z e => by rw [← e]; exact z
  have aT : ∀ p ∈ cs, p.2 ≠ a := fun p hp z => by
    have e := hT p hp
    rw [z] at e
    rcases hS with (h | ⟨o, h⟩) | ⟨o, _, _, h, _⟩
    · rw [e] at h; cases h
    · rw [e] at h; cases h
    · have := nT p hp
      rw [z, h] at this; cases this
  have zl : (tabsL cs qs).length = cs.length := by unfold tabsL; rw [List.length_map, List.length_zip, hq, Nat.min_self]
  refine ⟨⟨fun b => if b = c then some (.lst (ns.map V.int)) else if b = a then H a else none, cs.map Prod.snd, some (d, l)⟩, lawStT ns N.length (tabsL cs qs), ⟨fun b o e => ?_, ?_, fun i w e => ?_, fun i j w u b e1 e2 h1 h2 x1 x2 => ?_, ?_, (fun i m b e1 e2 => ?_), ndT, fun b hb => ?_, ?_⟩, ?_⟩
  · have e : (if b = c then some (.lst (ns.map V.int)) else if b = a then H a else none) = some o := e
    by_cases z : b = c
    · rw [if_pos z] at e; cases e; rw [z]; exact .inl ec
    · rw [if_neg z] at e
      by_cases z2 : b = a
      · rw [if_pos z2] at e; rw [z2]; exact .inl (keep a o e)
      · rw [if_neg z2] at e; cases e
  · show (some (W.fz (.frl ns)) :: some (W.fz .draw) :: List.replicate N.length none).length = _
    unfold L2.start
    simp
  · match i, e with
    | 0, e =>
      cases e
      refine ⟨.ref a, rfl, show Rep K _ _ (.frl ns) from .frl ?_⟩
      cases q : H a with
      | none =>
        rcases hS with (h | ⟨o, h⟩) | h
        · rw [q] at h; cases h
        · rw [q] at h; cases h
        · exact .inr h
      | some o =>
        refine seqAt hS ?_
        show (if a = c then some (HO.lst (List.map V.int ns)) else if a = a then some o else none) = H a
        rw [if_neg (ne_of_none q hc), if_pos rfl, q]
    | 1, e =>
      cases e
      exact ⟨.ref d, rfl, show Rep K _ _ .draw from .draw rfl⟩
    | i + 2, e =>
      have e : (List.replicate N.length (none : Option W))[i]? = some (some w) := e
      rw [List.getElem?_replicate] at e
      split at e <;> cases e
  · match i, e1 with
    | 0, e1 => cases e1; cases h1
    | 1, e1 => cases e1; cases h1
    | i + 2, e1 =>
      have e1 : (List.replicate N.length (none : Option W))[i]? = some (some w) := e1
      rw [List.getElem?_replicate] at e1
      split at e1 <;> cases e1
  · show (tabsL cs qs).length = (cs.map Prod.snd).length
    rw [zl, List.length_map]
  · have e1 : (tabsL cs qs)[i]? = some m := e1
    have e2 : (cs.map Prod.snd)[i]? = some b := e2
    unfold tabsL at e1
    rw [List.getElem?_map] at e1 e2
    cases q : cs[i]? with
    | none => rw [q] at e2; cases e2
    | some p =>
      rw [q] at e2
      cases e2
      have mp : p ∈ cs := List.mem_of_getElem? q
      cases q2 : (cs.zip qs)[i]? with
      | none => rw [q2] at e1; cases e1
      | some z =>
        rw [q2] at e1
        cases e1
        have q3 := (List.getElem?_zip_eq_some.mp q2).1
        rw [q] at q3
        have q3 : p = z.1 := Option.some.inj q3
        refine ⟨.tbl #[], keep _ _ (hT p mp), by rw [q3], #[], rfl, True.intro, fun pos cv hcv => ?_⟩
        have hcv : codeAmong pos [] = some cv := hcv
        simp [codeAmong] at hcv
  · obtain ⟨p, hp, rfl⟩ := List.mem_map.mp hb
    have hh := hT p hp
    refine ⟨?_, fun ⟨x, y, e, z⟩ => ?_⟩
    · show (if p.2 = c then some (HO.lst (List.map V.int ns)) else if p.2 = a then H a else none) = none
      rw [if_neg (ne_of_none hh hc), if_neg (aT p hp)]
    · cases e
      rcases z with z | z
      · rw [z, hd] at hh; cases hh
      · rw [z, hlN] at hh; cases hh
  · refine DrAt.mk ⟨c, ed, ?_⟩ el dl ?_ ?_
    · show (if c = c then some (HO.lst (List.map V.int ns)) else if c = a then H a else none) = _
      rw [if_pos rfl]; rfl
    · show (if d = c then _ else if d = a then H a else none) = none
      rw [if_neg cd.symm]
      by_cases z : d = a
      · rw [if_pos z]; exact noA d hd z
      · rw [if_neg z]
    · show (if l = c then _ else if l = a then H a else none) = none
      rw [if_neg cl.symm]
      by_cases z : l = a
      · rw [if_pos z]; exact noA l hlN z
      · rw [if_neg z]
  · rw [hs]
    intro v σ' g' H2 sd ev rr
    cases (show Rep K g' v (.bl true) from rr.at_)
    exact k H2
theorem law_callGT {prog : Program} {wd : World} {F : PySem.W.Frag} {gl bl : Str → Option Value} {cx : CXT} {n : Nat} {fa a : Addr} {cs : List (Addr × Addr)} {fun_ : FuncData} {nm : Str} {pr : Sp} {st : Shared} {vs : List Value} {ns : List Int}
    (inF : F.In st.heap) (hgl : st.heap.Ns mainGlobals gl) (hbl : st.heap.Ns builtinsNs bl) (hbb : ∀ x : Str, x ≠ "__name__" → bl x = bootBuiltins x) (noLim : st.heap.NoLimit) (noGen : st.gens = #[])
    (hT : ∀ p ∈ cs, st.heap.get? p.2 = some { cls := .none, data := .fields #[] }) (nT : ∀ p ∈ cs, F.lookup p.2 = none) (hC : ∀ p ∈ cs, PySem.W.CodeHd st.heap p.1 p.2)
    (hbm : ∃ (bm : Addr) (ob : Obj), gl "__builtins__" = some (.ref bm) ∧ bm ≠ builtinsNs ∧ st.heap.get? bm = some ob ∧ ob.cls = .type "module" ∧ ob.dict = some builtinsNs ∧ ob.data = .plain)
    (ha : st.heap.get? a = some { cls := .type "list", data := .seq vs.toArray }) (hi : IntsAre vs ns) (hsz : ns.length ≤ sizeLine) (room : Room n callerA)
    (f : ∀ b0 : Heap, F.In b0 → b0.Ns mainGlobals gl → (∀ p ∈ cs, LamX.TabB b0 gl p.1 p.2) → FnOk prog wd F gl b0 cx n fa fun_ [nm] pr) (bnd : ∀ (s : Shared) (u : Value), BindsTo s fun_ ⟨[u], []⟩ [(nm, u)])
    (want : ∀ H : Hp, (∀ p ∈ cs, H p.2 = some (.tbl #[])) → SqL F H a (ns.map V.int) → pr [.ref a] H (fun v _ => v = .bl true) fun _ _ _ => False) (noX : ∀ H e s', cx [] H st (fun _ _ _ => False) e s' → False) :
    codeAny (model prog wd) callerA (.call (.ref fa) ⟨[.ref a], []⟩) (fun r s' => r = .ok (.ret (.bool true)) ∧ OldK st.heap s'.heap ∧ s'.os = st.os ∧ AllBare s'.gens) st := by
  have rvs := vals_ints hi
  have at_a : ∀ {o : Obj}, st.heap.get? a = some o → o = { cls := .type "list", data := .seq vs.toArray } := fun z => (Option.some.inj (ha.symm.trans z)).symm
  have tabs : ∀ b, b ∈ cs.map Prod.snd → st.heap.get? b = some { cls := .none, data := .fields #[] } := fun b hb => by
    obtain ⟨p, hp, rfl⟩ := List.mem_map.mp hb
    exact hT p hp
  have inT : ∀ p ∈ cs, p.2 ∈ cs.map Prod.snd := fun p hp => List.mem_map.mpr ⟨p, hp, rfl⟩
  have notA : a ∉ cs.map Prod.snd := fun z => by
    have e := tabs a z
    have := at_a e
    cases this
  have go : ∀ H : Hp, (∀ p ∈ cs, H p.2 = some (.tbl #[])) → (∀ b, H b = none ∨ b ∈ cs.map Prod.snd ∨ ∃ ob ys, H b = some (.frz ob (.lst ys))) → SqL F H a (ns.map V.int) → HOk prog wd H st.heap → (∀ b, H b ≠ none → b = a ∨ b ∈ cs.map Prod.snd) → (H a ≠ none → F.lookup a = none) →
      codeAny (model prog wd) callerA (.call (.ref fa) ⟨[.ref a], []⟩) (fun r s' => r = .ok (.ret (.bool true)) ∧ OldK st.heap s'.heap ∧ s'.os = st.os ∧ AllBare s'.gens) st := by
    intro H hH only seq hok onlyA notF
    have free : ∀ {b : Addr}, b ≠ a → b ∉ cs.map Prod.snd → H b = none := fun {b} n1 n2 => by
      cases z : H b with
      | none => rfl
      | some u => exact ((onlyA b (by rw [z]; exact fun w => by cases w)).elim n1 n2).elim
    -- an object that is neither the script nor a table
    have other : ∀ {b : Addr} {o : Obj}, st.heap.get? b = some o → (∀ us m, o.data ≠ .seq us m) → o.data ≠ .fields #[] → H b = none := fun {b o} e h1 h2 => free (fun z => by
      subst z
      have := at_a e
      subst this
      exact h1 _ _ rfl) fun z => by
      have := tabs b z
      rw [e] at this
      cases this
      exact h2 rfl
    have nsTo : ∀ {b : Addr} {m : Str → Option Value}, st.heap.Ns b m → (hidT st.heap H).Ns b m := by
      rintro b m ⟨o, es, ep, e1, e2, e3⟩
      refine ⟨o, es, ep, hidT_get e1 (other e1 (fun us k z => ?_) fun z => ?_), e2, e3⟩ <;> (rw [e2] at z; cases z)
    have inF2 : F.In (hidT st.heap H) := fun b o z => hidT_get (inF b o z) (by
      by_cases q : b = a
      · subst q
        cases y : H b with
        | none => rfl
        | some u => rw [notF (by rw [y]; exact fun w => by cases w)] at z; cases z
      · refine free q fun y => ?_
        obtain ⟨p, hp, rfl⟩ := List.mem_map.mp y
        rw [nT p hp] at z
        cases z)
    have lim2 : (hidT st.heap H).NoLimit := let ⟨mc, l1, l2⟩ := noLim; ⟨mc, nsTo l1, l2⟩
    have tb : ∀ p ∈ cs, LamX.TabB (hidT st.heap H) gl p.1 p.2 := fun p hp => by
      refine ⟨?_, ?_, fun z => ?_⟩
      · obtain ⟨o, us, file, tf, flags, tg, inf, text, tt, e1, r1, r2, r3, r4, r5, r6, r7, r8, hne⟩ := hC p hp
        refine ⟨o, us, file, tf, flags, tg, inf, text, tt, hidT_get e1 (other e1 (fun _ _ z => ?_) fun z => ?_), r1, r2, r3, r4, r5, r6, r7, r8, hne⟩
        · rw [r2] at z; cases z
        · rw [r2] at z; cases z; simp at r3
      · obtain ⟨bm, ob, b1, b2, b3, b4, b5, b6⟩ := hbm
        refine ⟨bm, ob, b1, b2, fun q => ?_, fun q => ?_, hidT_get b3 (other b3 (fun _ _ z => ?_) fun z => ?_), b4, b5, b6⟩
        · obtain ⟨o, es, ep, e, hd, _⟩ := hgl
          rw [q, e] at b3
          cases b3
          rw [hd] at b6
          cases b6
        · rw [q, hT p hp] at b3
          cases b3
          cases b6
        · rw [b6] at z; cases z
        · rw [b6] at z; cases z
      · obtain ⟨o, es, ep, e, hd, _⟩ := hgl
        rw [z, hT p hp] at e
        cases e
        cases hd
    have env : Env0 prog wd F gl (hidT st.heap H) callerA [] st H := ⟨rfl, ⟨inF2, nsTo hgl, ⟨bl, nsTo hbl, hbb⟩, lim2⟩, fun _ _ z => of_hidT z, Nat.le_of_eq (hidT_size _ _), trivial, fun b z => (List.not_mem_nil z).elim, hok, .of_eq noGen⟩
    refine codeAny_mono ((f _ inF2 (nsTo hgl) tb).run callerA [] st H ⟨[.ref a], []⟩ [.ref a] [.ref a] _ _ room env (bnd st (.ref a)) (.cons rfl .nil) (want H hH seq)) fun res s2 out => ?_
    match res, out with
    | .error er, out => exact (noX H er s2 out).elim
    | .ok .next, out => exact out.elim
    | .ok .brk, out => exact out.elim
    | .ok .cont, out => exact out.elim
    | .ok (.ret u2), out =>
      obtain ⟨v2, H2, os, bare, un, hok2, rv, rfl⟩ := out
      obtain rfl : u2 = Value.bool true := rv
      have same : ∀ b o, b ∉ cs.map Prod.snd → st.heap.get? b = some o → s2.heap.get? b = some o := fun b o nb z => by
        rcases only b with y | y | ⟨ob, ys, y⟩
        · exact un.keep b o z y (fun w => (List.not_mem_nil w).elim) (by simp)
        · exact (nb y).elim
        · obtain ⟨e1, _⟩ := hok b _ y
          obtain ⟨e2, _⟩ := hok2 b _ (un.frzs b ob _ y)
          exact e2.trans (e1.symm.trans z)
      have grew : ∀ p ∈ cs, ∃ more : Array Value, s2.heap.get? p.2 = some { cls := .none, data := .fields more } := fun p hp => by
        obtain ⟨more, z⟩ := un.tbls p.2 #[] (hH p hp)
        exact ⟨_, hok2 p.2 _ z⟩
      refine ⟨rfl, ⟨fun b o e => ?_, fun b o e => ?_⟩, os, bare⟩
      · by_cases hb : b ∈ cs.map Prod.snd
        · obtain ⟨p, hp, rfl⟩ := List.mem_map.mp hb
          obtain ⟨more, hm⟩ := grew p hp
          rw [hT p hp] at e
          cases e
          exact .inr (.inl ⟨((hC p hp).tab (hT p hp)).isCodeTable, rfl, #[], more, rfl, by rw [Array.empty_append]; exact hm⟩)
        · exact .inl (same b o hb e)
      · by_cases hb : b ∈ cs.map Prod.snd
        · obtain ⟨p, hp, rfl⟩ := List.mem_map.mp hb
          obtain ⟨more, hm⟩ := grew p hp
          exact ⟨_, hm⟩
        · exact ⟨o, same b o hb e⟩
  cases hk : F.lookup a with
  | some o =>
    obtain rfl := at_a (inF a o hk)
    have here : ∀ {b : Addr} {u : HO}, (if b ∈ cs.map Prod.snd then some (HO.tbl #[]) else none) = some u → b ∈ cs.map Prod.snd ∧ u = .tbl #[] := by
      intro b u z
      split at z
      · rename_i q; exact ⟨q, (Option.some.inj z).symm⟩
      · cases z
    refine go (fun b => if b ∈ cs.map Prod.snd then some (.tbl #[]) else none) (fun p hp => if_pos (inT p hp)) (fun b => ?_) (.inr ⟨_, vs.toArray, _, hk, rfl, rfl, rfl, by rw [List.size_toArray, hi.length]; exact hsz, by simpa using rvs⟩) (fun b u z => ?_) (fun b z => ?_) (fun z => (z (if_neg notA)).elim)
    · by_cases q : b ∈ cs.map Prod.snd
      · exact .inr (.inl q)
      · exact .inl (if_neg q)
    · obtain ⟨q, rfl⟩ := here z
      exact tabs b q
    · by_cases q : b ∈ cs.map Prod.snd
      · exact .inr q
      · exact (z (if_neg q)).elim
  | none =>
    have here : ∀ {b : Addr} {u : HO}, (if b = a then some (HO.frz { cls := .type "list", data := .seq vs.toArray } (.lst (ns.map V.int))) else if b ∈ cs.map Prod.snd then some (HO.tbl #[]) else none) = some u → (b = a ∧ u = .frz { cls := .type "list", data := .seq vs.toArray } (.lst (ns.map V.int))) ∨ (b ∈ cs.map Prod.snd ∧ u = .tbl #[]) := by
      intro b u z
      split at z
      · rename_i q; exact .inl ⟨q, (Option.some.inj z).symm⟩
      · split at z
        · rename_i q; exact .inr ⟨q, (Option.some.inj z).symm⟩
        · cases z
    refine go (fun b => if b = a then some (.frz { cls := .type "list", data := .seq vs.toArray } (.lst (ns.map V.int))) else if b ∈ cs.map Prod.snd then some (.tbl #[]) else none) (fun p hp => (if_neg (show ¬ p.2 = a from fun z => notA (by rw [← z]; exact inT p hp))).trans (if_pos (inT p hp))) (fun b => ?_) (.inl (.inr ⟨_, if_pos rfl⟩)) (fun b u z => ?_) (fun b z => ?_) (fun _ => hk)
    · by_cases q : b = a
      · exact .inr (.inr ⟨_, _, if_pos q⟩)
      · by_cases q2 : b ∈ cs.map Prod.snd
        · exact .inr (.inl q2)
        · exact .inl ((if_neg q).trans (if_neg q2))
    · rcases here z with ⟨rfl, rfl⟩ | ⟨q, rfl⟩
      · exact ⟨ha, by rw [List.length_map]; exact hsz, vs, _, rvs, ha⟩
      · exact tabs b q
    · by_cases q : b = a
      · exact .inl q
      · by_cases q2 : b ∈ cs.map Prod.snd
        · exact .inr q2
        · exact (z ((if_neg q).trans (if_neg q2))).elim
def TopTabs (q : Program) (K : PySem.W.Frag) (h : Heap) : Prop := ∀ (x : Str) (c P : Addr), ((PyProof.Rows.recsOf q).find? (fun e => e.name == x)).isSome = true → PySem.W.tabIn K x = some (c, P) → PySem.W.CodeHd h c P ∧ h.get? P = some { cls := .none, data := .fields #[] }
theorem walk_ofGT {l : PySem.W.OpenLaw} {most n : Nat} {q : Program} {loose : List Str} {XP : (Str → Option Value) → Heap → Prop} {YP : World → Heap → Prop} {d : DefRec} {Kp : Params → PySem.W.Frag} {cx : World → CXT} {pr : World → List (Addr × Addr) → Sp} {nm : Str}
    (hn : l.most = some most) (hn2 : most ≤ sizeLine) (hdf : d.params.defaults = []) (room : Room n callerA) (hY : ∀ (w : World) (h : Heap), YP w h → (Kp w.params).In h)
    (f : ∀ (w : World) (gl : Str → Option Value) (fa : Addr) (h : Heap), (Kp w.params).In h → h.Ns mainGlobals gl → gl d.name = some (.ref fa) → TopTabs q (Kp w.params) h →
      ∃ (fun_ : FuncData) (cs : List (Addr × Addr)), (∀ p ∈ cs, h.get? p.2 = some { cls := .none, data := .fields #[] }) ∧ (∀ p ∈ cs, (Kp w.params).lookup p.2 = none) ∧ (∀ p ∈ cs, PySem.W.CodeHd h p.1 p.2) ∧ (cs.map Prod.snd).Nodup ∧ (∀ (s : Shared) (u : Value), BindsTo s fun_ ⟨[u], []⟩ [(nm, u)]) ∧
        ∀ b0 : Heap, (Kp w.params).In b0 → b0.Ns mainGlobals gl → (∀ p ∈ cs, LamX.TabB b0 gl p.1 p.2) → FnOk l.prog w (Kp w.params) gl b0 (cx w) n fa fun_ [nm] (pr w cs))
    (want : ∀ (w : World) (cs : List (Addr × Addr)) (H : Hp) (a : Addr) (ns : List Int), ns.length ≤ most → (∀ p ∈ cs, H p.2 = some (.tbl #[])) → (∀ p ∈ cs, (Kp w.params).lookup p.2 = none) → (cs.map Prod.snd).Nodup → SqL (Kp w.params) H a (ns.map V.int) → pr w cs [.ref a] H (fun v _ => v = .bl true) fun _ _ _ => False)
    (noX : ∀ (w : World) (H : Hp) (s : Shared) (e : Value) (s' : Shared), cx w [] H s (fun _ _ _ => False) e s' → False) :
    PySem.W.WalkO q loose XP YP l.row.toRowW d [] (fun f vs => PySem.call f vs) :=
  Att.attach_call hn hdf fun w s₀ s₁ gl bl fa o pm cd doc a vs ns G Y ho hd hcd hmg hobj hints hlen hg => by
    have inF := hY w _ Y
    obtain ⟨fun_, cs, hT, nT, hC, nd, bnd, hf⟩ := f w gl fa _ inF G.T.g hmg fun x c P h1 h2 => by
      obtain ⟨d, hd⟩ := Option.isSome_iff_exists.mp h1
      exact PySem.W.tab_of G.T inF hd h2
    exact law_callGT inF G.T.g G.T.b G.T.builtins G.T.nolimit hg hT nT hC G.T.bmain hobj hints (Nat.le_trans hlen hn2) room hf bnd (fun H hH hS => want w cs H a ns hlen hH nT nd hS) fun H e s' => noX w H s₁ e s'
end DL
set_option Elab.async false
set_option linter.all false
set_option maxRecDepth 100000
set_option maxHeartbeats 1000000
namespace DL
open PySem PySem.Spec PyProof.Rows L2
theorem Rep.ptr_at {K : PySem.W.Frag} {g : Gh} {v : V} {i : Nat} (h : Rep K g v (.ptr i)) : ∃ a, v = .ref a ∧ g.η[i]? = some a := by
  cases h with
  | ptr e => exact ⟨_, rfl, e⟩
section
variable {X : Cx} {Wx : WX} {e o : Expr} {f0 : M T}
end
mutual
def noPtr : D → Bool
  | .tup xs => noPtrs xs
  | .lst xs => noPtrs xs
  | .dk kvs => noPtrK kvs
  | .dt kvs => noPtrT kvs
  | .obj _ fs => noPtrF fs
  | .exc _ fs => noPtrF fs
  | .ptr _ => false
  | _ => true
def noPtrs : List D → Bool
  | [] => true
  | d :: r => noPtr d && noPtrs r
def noPtrK : List (Key × D) → Bool
  | [] => true
  | (_, d) :: r => noPtr d && noPtrK r
def noPtrT : List (List Key × D) → Bool
  | [] => true
  | (_, d) :: r => noPtr d && noPtrT r
def noPtrF : List (Str × D) → Bool
  | [] => true
  | (_, d) :: r => noPtr d && noPtrF r
end
theorem noPtrK_map : ∀ kvs : List (Key × D), noPtrK kvs = noPtrs (kvs.map Prod.snd)
  | [] => rfl
  | (k, d) :: r => by
    show (noPtr d && noPtrK r) = (noPtr d && noPtrs (r.map Prod.snd))
    rw [noPtrK_map r]
theorem noPtrT_map : ∀ kvs : List (List Key × D), noPtrT kvs = noPtrs (kvs.map Prod.snd)
  | [] => rfl
  | (k, d) :: r => by
    show (noPtr d && noPtrT r) = (noPtr d && noPtrs (r.map Prod.snd))
    rw [noPtrT_map r]
theorem noPtrF_map : ∀ kvs : List (Str × D), noPtrF kvs = noPtrs (kvs.map Prod.snd)
  | [] => rfl
  | (k, d) :: r => by
    show (noPtr d && noPtrF r) = (noPtr d && noPtrs (r.map Prod.snd))
    rw [noPtrF_map r]
structure LeP (g g' : Gh) : Prop where
  G : ∀ a o, g.G a = some o → g'.G a = some o
  dr : g'.dr = g.dr
section
variable {K : PySem.W.Frag} {g g' : Gh}
mutual
theorem Rep.noP (h : LeP g g') : ∀ {v : V} {d : D}, Rep K g v d → noPtr d = true → Rep K g' v d
  | _, _, .non, _ => .non
  | _, _, .bl b, _ => .bl b
  | _, _, .int i, _ => .int i
  | _, _, .str x, _ => .str x
  | _, _, .tup a r, n => .tup (h.G _ _ a) (Reps.noP h r n)
  | _, _, .tup0 a, _ => .tup0 (SqT.le h.G a)
  | _, _, .lst a r, n => .lst (h.G _ _ a) (Reps.noP h r n)
  | _, _, .frl a, _ => .frl (SqL.le h.G a)
  | _, _, .dk a e r, n => .dk (h.G _ _ a) e (Reps.noP h r (by rw [← noPtrK_map]; exact n))
  | _, _, .dt a e r, n => .dt (h.G _ _ a) e (Reps.noP h r (by rw [← noPtrT_map]; exact n))
  | _, _, .obj a e r, n => .obj (h.G _ _ a) e (Reps.noP h r (by rw [← noPtrF_map]; exact n))
  | _, _, .ptr e, n => by cases n
  | _, _, .draw e, _ => .draw (h.dr.trans e)
  | _, _, .exc a x e r, n => .exc (h.G _ _ a) (x.le h.G) e (Reps.noP h r (by rw [← noPtrF_map]; exact n))
theorem Reps.noP (h : LeP g g') : ∀ {v : List V} {d : List D}, Reps K g v d → noPtrs d = true → Reps K g' v d
  | _, _, .nil, _ => .nil
  | _, _, .cons (d := d) a r, n => by
    have n : (noPtr d && noPtrs _) = true := n
    rw [Bool.and_eq_true] at n
    exact .cons (Rep.noP h a n.1) (Reps.noP h r n.2)
end
def noPtrM : MO → Bool
  | .ins _ fs => noPtrF fs
  | .lst ds => noPtrs ds
  | .tab _ _ => true
theorem MObAt.noP (h : LeP g g') {a : Addr} {o : HO} : ∀ {m : MO}, MObAt K g a o m → noPtrM m = true → MObAt K g' a o m
  | .ins _ _, ⟨dx, xs, e, k, r⟩, n => ⟨dx, xs, e, k, r.noP h (by rw [← noPtrF_map]; exact n)⟩
  | .lst _, ⟨xs, e, r⟩, n => ⟨xs, e, r.noP h n⟩
  | .tab _ _, ⟨z, ps, e, t, r⟩, _ => ⟨z, ps, e, t, fun pos cv hc => let ⟨c, e1, e2⟩ := r pos cv hc; ⟨c, e1, h.G _ _ e2⟩⟩
end
def deref (sto : List MO) (n : Nat) : List (Key × D) → Option (List (Key × D))
  | [] => some []
  | (k, .ptr i) :: r => match sto[i]?, deref sto n r with
    | some (.lst ds), some q => if n ≤ i ∧ noPtrs ds = true then some ((k, .lst ds) :: q) else none
    | _, _ => none
  | _ :: _ => none
def notHeldW : Option W → Bool
  | none => true
  | some (.fz _) => true
  | some (.own _) => true
  | _ => false
def retireS (n : Nat) (kvs : List (Key × D)) (s : State) : Rs Flow := match deref s.sto n kvs with
  | some q => if s.env.all notHeldW = true ∧ (s.sto.take n).all noPtrM = true ∧ n ≤ s.sto.length then .ok (.rt (.ow (.dk q))) { env := s.env.map fun _ => none, sto := s.sto.take n, dr := s.dr } else .bad
  | none => .bad
def dRetire (f : M Flow) : M Flow := fun s => match f s with
  | .ok (.rt (.ow (.dk kvs))) s' => retireS s.sto.length kvs s'
  | _ => .bad
section
variable {K : PySem.W.Frag} {g g0 : Gh} {H H0 : Hp} {σ σ0 : Slots} {s s0 : State} {n : Nat}
open Classical in
noncomputable def Gh.retire (g : Gh) (H : Hp) (n : Nat) : Gh := ⟨fun b => if b ∈ g.η.drop n then H b else g.G b, g.η.take n, g.dr⟩
theorem retire_old {b : Addr} (h : b ∉ g.η) : (g.retire H n).G b = g.G b := by
  show (if b ∈ g.η.drop n then H b else g.G b) = _
  exact if_neg fun z => h (List.mem_of_mem_drop z)
theorem retire_new {b : Addr} (h : b ∈ g.η.drop n) : (g.retire H n).G b = H b := if_pos h
theorem SD.leP (sd : SD K g H σ s) : LeP g (g.retire H n) := ⟨fun a o e => by
  rw [retire_old fun z => by rw [(sd.ng a z).1] at e; cases e]; exact e, rfl⟩
theorem drop_take_nd {l : List Addr} (h : l.Nodup) {n : Nat} {b : Addr} (h1 : b ∈ l.take n) (h2 : b ∈ l.drop n) : False := by
  rw [← List.take_append_drop n l] at h
  exact (List.nodup_append.mp h).2.2 b h1 b h2 rfl
theorem notHeld {e : List (Option W)} (h : e.all notHeldW = true) {i : Nat} {w : W} (q : e[i]? = some (some w)) : (∃ d, w = .fz d) ∨ ∃ d, w = .own d := by
  have := List.all_eq_true.mp h _ (List.mem_of_getElem? q)
  cases w with
  | fz d => exact .inl ⟨d, rfl⟩
  | own d => exact .inr ⟨d, rfl⟩
  | _ => cases this
theorem SD.retired (sd : SD K g H σ s) (hm : (s.sto.take n).all noPtrM = true) (hl : n ≤ s.sto.length)
    (lst : ∀ i, n ≤ i → ∀ m, s.sto[i]? = some m → ∀ a, g.η[i]? = some a → a ∈ g.η.drop n → True) :
    SD K (g.retire H n) H σ { env := s.env.map fun _ => none, sto := s.sto.take n, dr := s.dr } where
  gh := fun a o e => by
    by_cases z : a ∈ g.η.drop n
    · rw [retire_new z] at e; exact .inl e
    · have e : (if a ∈ g.η.drop n then H a else g.G a) = some o := e
      rw [if_neg z] at e
      exact sd.gh a o e
  len := by show (s.env.map _).length = _; rw [List.length_map]; exact sd.len
  slot := fun i w e => by
    have e : (s.env.map fun _ => (none : Option W))[i]? = some (some w) := e
    rw [List.getElem?_map] at e
    cases q : s.env[i]? <;> rw [q] at e <;> cases e
  inj := fun i j w u a e _ _ _ _ _ => by
    have e : (s.env.map fun _ => (none : Option W))[i]? = some (some w) := e
    rw [List.getElem?_map] at e
    cases q : s.env[i]? <;> rw [q] at e <;> cases e
  stl := by
    show (s.sto.take n).length = (g.η.take n).length
    rw [List.length_take, List.length_take, sd.stl]
  sto := fun i m a e1 e2 => by
    have e1 : (s.sto.take n)[i]? = some m := e1
    have e2 : (g.η.take n)[i]? = some a := e2
    have mm := List.all_eq_true.mp hm m (List.mem_of_getElem? e1)
    rw [List.getElem?_take] at e1 e2
    by_cases z : i < n
    · rw [if_pos z] at e1 e2
      obtain ⟨o, ho, ob⟩ := sd.sto i m a e1 e2
      exact ⟨o, ho, ob.noP sd.leP mm⟩
    · rw [if_neg z] at e1; cases e1
  nd := sd.nd.sublist (List.take_sublist n g.η)
  ng := fun a ha => by
    have ha : a ∈ g.η.take n := ha
    have mem := List.mem_of_mem_take ha
    refine ⟨?_, (sd.ng a mem).2⟩
    show (if a ∈ g.η.drop n then H a else g.G a) = none
    rw [if_neg fun z => drop_take_nd sd.nd ha z]
    exact (sd.ng a mem).1
  dr := show DrOk (g.retire H n) H g.dr s.dr from (show DrOk g H g.dr s.dr from sd.dr).map fun x l d e q => by
    obtain ⟨c, q1, q2⟩ := q.dict
    have n1 : x ∉ g.η := fun z => (sd.ng x z).2 ⟨x, l, e, .inl rfl⟩
    have n2 : l ∉ g.η := fun z => (sd.ng l z).2 ⟨x, l, e, .inr rfl⟩
    exact ⟨⟨c, q1, (SD.leP (n := n) sd).G _ _ q2⟩, q.list, q.ne, (retire_old n1).trans q.ga, (retire_old n2).trans q.gl⟩
theorem Ev.retired (ev : Ev g0 H0 σ0 s0 g H σ s) (sd : SD K g H σ s) (he : s.env.all notHeldW = true) (hn : s0.sto.length = n) (hl0 : s0.sto.length = g0.η.length) :
    Ev g0 H0 σ0 s0 (g.retire H n) H σ { env := s.env.map fun _ => none, sto := s.sto.take n, dr := s.dr } where
  le := ⟨fun a o e => (SD.leP (n := n) sd).G _ _ (ev.le.G a o e), fun i a e => by
    show (g.η.take n)[i]? = some a
    rw [List.getElem?_take, if_pos (by rw [← hn, hl0]; exact (List.getElem?_eq_some_iff.mp e).1)]
    exact ev.le.η i a e, ev.le.dr⟩
  keep := ev.keep
  live := ev.live
  frz := fun a h q => by
    by_cases z : a ∈ g.η.drop n
    · exact .inr (.inl (.inr (.inl (ev.eta a h (List.mem_of_mem_drop z)))))
    · have q : (if a ∈ g.η.drop n then H a else g.G a) ≠ none := q
      rw [if_neg z] at q
      exact ev.frz a h q
  eta := fun a h q => ev.eta a h (List.mem_of_mem_take (show a ∈ g.η.take n from q))
  mu := fun a m => by
    rcases m with ⟨i, w, e, _⟩ | m | m
    · have e : (s.env.map fun _ => (none : Option W))[i]? = some (some w) := e
      rw [List.getElem?_map] at e
      cases q : s.env[i]? <;> rw [q] at e <;> cases e
    · exact ev.mu a (.inr (.inl (List.mem_of_mem_take (show a ∈ g.η.take n from m))))
    · exact ev.mu a (.inr (.inr m))
  hd := fun a ⟨i, w, e, _⟩ => by
    have e : (s.env.map fun _ => (none : Option W))[i]? = some (some w) := e
    rw [List.getElem?_map] at e
    cases q : s.env[i]? <;> rw [q] at e <;> cases e
  ow := fun a ⟨i, d, e, _⟩ => by
    have e : (s.env.map fun _ => (none : Option W))[i]? = some (some (.own d)) ∨ (s.env.map fun _ => (none : Option W))[i]? = some (some (.lk d)) := e
    rw [List.getElem?_map] at e
    cases q : s.env[i]? <;> rw [q] at e <;> rcases e with e | e <;> cases e
  fix := fun i d e => by
    obtain ⟨_, d', z⟩ := ev.fix i d e
    rcases z with z | z <;> (rcases notHeld he z with ⟨_, y⟩ | ⟨_, y⟩ <;> cases y)
  lk := fun i d e => by
    obtain ⟨_, z⟩ := ev.lk i d e
    rcases notHeld he z with ⟨_, y⟩ | ⟨_, y⟩ <;> cases y
  lkl := fun i d e => by
    obtain ⟨_, z⟩ := ev.lkl i d e
    rcases notHeld he z with ⟨_, y⟩ | ⟨_, y⟩ <;> cases y
theorem deref_reps (sd : SD K g H σ s) : ∀ {kvs q : List (Key × D)} {ks : List (Key × V)}, deref s.sto n kvs = some q → ks.map Prod.fst = kvs.map Prod.fst → Reps K g (ks.map Prod.snd) (kvs.map Prod.snd) → ks.map Prod.fst = q.map Prod.fst ∧ Reps K (g.retire H n) (ks.map Prod.snd) (q.map Prod.snd)
  | [], q, [], h, _, _ => by cases h; exact ⟨rfl, .nil⟩
  | [], q, _ :: _, _, e, _ => by cases e
  | _ :: _, q, [], _, e, _ => by cases e
  | (k, d) :: r, q, (k', v) :: ks, h, e, rp => by
    rw [List.map_cons, List.map_cons] at e
    obtain ⟨e1, e2⟩ := List.cons.inj e
    have e1 : k' = k := e1
    have rp : Reps K g (v :: ks.map Prod.snd) (d :: r.map Prod.snd) := rp
    cases rp with
    | cons ra rr =>
      cases d with
      | ptr i =>
        have h : (match s.sto[i]?, deref s.sto n r with | some (.lst ds), some q => if n ≤ i ∧ noPtrs ds = true then some ((k, D.lst ds) :: q) else none | _, _ => none) = some q := h
        cases q1 : s.sto[i]? with
        | none => rw [q1] at h; cases h
        | some m =>
          rw [q1] at h
          cases m with
          | ins C fs => cases h
          | tab P z => cases h
          | lst ds =>
            cases q2 : deref s.sto n r with
            | none => rw [q2] at h; cases h
            | some q' =>
              rw [q2] at h
              simp only at h
              by_cases z : n ≤ i ∧ noPtrs ds = true
              · rw [if_pos z] at h
                cases h
                obtain ⟨i1, i2⟩ := deref_reps sd q2 e2 rr
                obtain ⟨a, rfl, hη⟩ := Rep.ptr_at ra
                obtain ⟨o, ho, xs, rfl, rx⟩ := sd.sto i _ a q1 hη
                have md : a ∈ g.η.drop n := by
                  refine List.mem_of_getElem? (i := i - n) ?_
                  rw [List.getElem?_drop, show n + (i - n) = i by omega]
                  exact hη
                refine ⟨by rw [List.map_cons, List.map_cons, i1, e1], .cons (.lst ((retire_new md).trans ho) (rx.noP sd.leP z.2)) i2⟩
              · rw [if_neg z] at h; cases h
      | _ => cases h
theorem tS_retire {Wx : WX} {D : Ends} {f : M Flow} (h : tS K Wx (dRetire f) D σ H) : tS K Wx f D σ H := by
  obtain ⟨g, s, sd, p⟩ := h
  refine ⟨g, s, sd, ?_⟩
  unfold dRetire at p
  cases q : f s with
  | bad => rw [q] at p; exact p.elim
  | err x s' => rw [q] at p; exact p.elim
  | ok fl s' =>
    rw [q] at p
    cases fl with
    | nx => exact p.elim
    | bk => exact p.elim
    | ct => exact p.elim
    | rt t =>
      cases t with
      | fz d => exact p.elim
      | ow d =>
        cases d with
        | dk kvs =>
          have p : PostS K Wx D g H σ s (retireS s.sto.length kvs s') := p
          unfold retireS at p
          cases qd : deref s'.sto s.sto.length kvs with
          | none => rw [qd] at p; exact p.elim
          | some kq =>
            rw [qd] at p
            simp only at p
            by_cases z : s'.env.all notHeldW = true ∧ (s'.sto.take s.sto.length).all noPtrM = true ∧ s.sto.length ≤ s'.sto.length
            · rw [if_pos z] at p
              obtain ⟨z1, z2, z3⟩ := z
              intro v σ' g' H' sd' ev rr
              obtain ⟨a, o, rfl, fr, ho, ks, rfl, hk, rk⟩ := rr.at_
              obtain ⟨k1, k2⟩ := deref_reps (n := s.sto.length) sd' qd hk rk
              obtain ⟨n1, n2⟩ := rr.new _ a rfl rfl
              refine p (.ref a) σ' (g'.retire H' s.sto.length) H' (sd'.retired z2 z3 fun _ _ _ _ _ _ _ => trivial) (ev.retired sd' z1 rfl sd.stl) ⟨⟨a, _, rfl, ⟨(retire_old fr.2.1).trans fr.1, fun w => fr.2.1 (List.mem_of_mem_take (show a ∈ g'.η.take _ from w)), fr.2.2⟩, ho, ks, rfl, k1, k2⟩, fun d b e1 e2 => ?_⟩
              cases e2
              refine ⟨n1, fun ⟨i, w, e, _⟩ => ?_⟩
              have e : (s'.env.map fun _ => (none : Option W))[i]? = some (some w) := e
              rw [List.getElem?_map] at e
              cases q : s'.env[i]? <;> rw [q] at e <;> cases e
            · rw [if_neg z] at p; exact p.elim
        | _ => exact p.elim
end
theorem FnOk.retire {P : Program} {w : World} {K : PySem.W.Frag} {mg : Str → Option Value} {base : Heap} {cx : CXT} {f : Addr} {fd : FuncData} {N ps : List Str} {k : Nat} {b : M Flow} (h : FnOk P w K mg base cx k f fd ps (spF K ps N b)) : FnOk P w K mg base cx k f fd ps (spF K ps N (dRetire b)) where
  len := fun xs Hx Qx Ex q => q.1
  run := fun A0 out st Hx ar us xs Qx Ex hr e0 hb hv q => h.run A0 out st Hx ar us xs Qx Ex hr e0 hb hv ⟨q.1, tS_retire q.2⟩
end DL
set_option Elab.async false
set_option linter.all false
set_option maxRecDepth 100000
set_option maxHeartbeats 1000000
namespace DL
open PySem PySem.Spec PyProof.Rows L2
structure DFn (K : PySem.W.Frag) (x qual : Str) (st : Stmt) (f : Addr) (fd : FuncData) (cdv : Value) : Prop where
  ex : ∃ (oc : Value) (od : Option Addr) (dV kV doc pm : Value) (an : Option Addr) (ct : Value) (osl : Array (Option Value)),
    fd = PySem.W.fnOf x qual (defArgs st) (defBody st) (defScope st) dV kV doc pm an cdv ct ∧ K.lookup f = some ⟨oc, od, .func fd, osl⟩ ∧ PySem.W.codeIn K cdv qual = true
  kp : PySem.W.keepIn K (.ref f) = true
section
variable {K : PySem.W.Frag} {x qual : Str} {st : Stmt} {f : Addr} {fd : FuncData} {cdv : Value}
theorem dfn_mk {oc : Value} {od an : Option Addr} {osl : Array (Option Value)} {dV kV doc pm ct : Value} (l : K.lookup f = some ⟨oc, od, .func (PySem.W.fnOf x qual (defArgs st) (defBody st) (defScope st) dV kV doc pm an cdv ct), osl⟩)
    (c : PySem.W.codeIn K cdv qual = true) (k : PySem.W.keepIn K (.ref f) = true) : DFn K x qual st f (PySem.W.fnOf x qual (defArgs st) (defBody st) (defScope st) dV kV doc pm an cdv ct) cdv := ⟨⟨oc, od, dV, kV, doc, pm, an, ct, osl, rfl, l, c⟩, k⟩
theorem DFn.binds {ps : List Str} (F : DFn K x qual st f fd cdv)
    (h : ∀ (dV kV doc pm : Value) (an : Option Addr) (ct : Value) (us : List Value), us.length = ps.length → bindArgs (PySem.W.fnOf x qual (defArgs st) (defBody st) (defScope st) dV kV doc pm an cdv ct) ⟨us, []⟩ = pure (ps.zip us)) : Binds K fd ps [] := by
  obtain ⟨oc, od, dV, kV, doc, pm, an, ct, osl, rfl, lk, hcd⟩ := F.ex
  exact .all (h dV kV doc pm an ct)
end
end DL
set_option Elab.async false
set_option linter.all false
set_option maxRecDepth 100000
set_option maxHeartbeats 1000000
namespace DL
open PySem PySem.Spec PyProof.Rows L2
section
variable {prog : Program} {w : World} {A : Around} {E : Value → Shared → Prop} {s : Shared} {T : String} {r d : Addr} {n : Nat} {P : Nat → Value → Prop} {OK : Heap → Prop}
end
section
variable {X : Cx}
end
section
variable {X : Cx} {Wx : WX} {tg e : Expr} {fa : M VR}
end
end DL
set_option Elab.async false
set_option linter.all false
set_option maxRecDepth 100000
set_option maxHeartbeats 1000000
namespace DL
open PySem PySem.Spec PyProof.Rows L2
section
variable {prog : Program} {w : World} {A : Around} {E : Value → Shared → Prop} {s : Shared}
end
section
variable {X : Cx}
end
end DL
set_option Elab.async false
set_option linter.all false
set_option maxRecDepth 100000
set_option maxHeartbeats 1000000
namespace PySem
open Sem (wp)
open AutoSeq1 (wpAny_loadPart')
theorem DL_meets_enumerate_newT (l : Addr) (items : Array Value) (n : Nat) (dct : Option Addr) (sl : Array (Option Value)) :
    Meets (Builtin.«enumerate.__new__» ⟨[.type "enumerate", .ref l], []⟩) (fun _ R s => s.heap.get? l = some { cls := .type "tuple", dict := dct, data := .seq items n, slots := sl } ∧
      R (.ok (.ret (.ref (s.heap.push { cls := .type "tuple_iterator", data := .fields #[.ref l, .int 0 0] }).objs.size)))
        { s with heap := (s.heap.push { cls := .type "tuple_iterator", data := .fields #[.ref l, .int 0 0] }).push { cls := .type "enumerate", data := .fields #[.none, .bool false, .ref s.heap.objs.size, rawInt 0, .none, .none] } }) :=
  .of_wp fun prog w A R s h => by
    obtain ⟨hp, g, d, tk, os⟩ := s; obtain ⟨hl, h⟩ := h
    have hsub := sub_enumerate
    have hL : Heap.IsTuple (Shared.heap ⟨hp, g, d, tk, os⟩) l items := ⟨_, hl, rfl, n, rfl⟩
    wp_walk using wpAny_loadPart' hl
    refine wpAny_stack_any fun st => wpAny_pure ?_
    split
    · rename_i c _ _ _ _ _
      cases (c == Value.type "enumerate")
      · wp_walk using wpAny_loadPart' hl, wpAny_pyIter_tuple hL
        exact ⟨_, rfl, h⟩
      · wp_walk using wpAny_loadPart' hl, wpAny_pyIter_tuple hL
        exact ⟨_, rfl, h⟩
    · wp_walk using wpAny_loadPart' hl, wpAny_pyIter_tuple hL
      exact ⟨_, rfl, h⟩
theorem DL_call_enumerate_tup {prog : Program} {w : World} {A : Around} {E : Value → Shared → Prop} {s : Shared} {l : Addr} {items : Array Value} {Q : Value → Shared → Prop} (hL : s.heap.IsTuple l items)
    (h : ∀ h', IsEnum h' (s.heap.objs.size + 1) s.heap.objs.size 0 .none → h'.IsTupleIter s.heap.objs.size l 0 → h'.objs.size = s.heap.objs.size + 2 →
      (∀ b o, s.heap.get? b = some o → h'.get? b = some o) → Q (.ref (s.heap.objs.size + 1)) { s with heap := h' }) :
    wpAny (model prog w) A (call (.type "enumerate") [.ref l]) Q E s := by
  obtain ⟨⟨c, dct, dt, sl⟩, hl, hc, n, hd⟩ := hL
  replace hc : c = .type "tuple" := hc
  replace hd : dt = .seq items n := hd
  subst hc hd
  refine callType_new F.called_enumerate (by decide) (F.typeCall_enumerate_1 _) (F.newCall_enumerate_1 _) (fun obj => F.args_object_init_2 obj _) F.entry_enumerate_new
    (DL_meets_enumerate_newT l items n dct sl) ⟨hl, ?_⟩
  have hz : (s.heap.push { cls := .type "tuple_iterator", data := .fields #[.ref l, .int 0 0] }).objs.size = s.heap.objs.size + 1 := Heap.size_push ..
  show _ ∧ _
  rw [hz]
  have he : IsEnum ((s.heap.push { cls := .type "tuple_iterator", data := .fields #[.ref l, .int 0 0] }).push
      { cls := .type "enumerate", data := .fields #[.none, .bool false, .ref s.heap.objs.size, rawInt 0, .none, .none] }) (s.heap.objs.size + 1) s.heap.objs.size 0 .none := by
    have := Heap.get?_push_size (s.heap.push { cls := .type "tuple_iterator", data := .fields #[.ref l, .int 0 0] })
      (o := { cls := .type "enumerate", data := .fields #[.none, .bool false, .ref s.heap.objs.size, rawInt 0, .none, .none] }) rfl
    rw [hz] at this; exact this
  refine ⟨⟨_, he, rfl⟩, h _ he ⟨_, Heap.get?_push_of_some _ (Heap.get?_push_size _ rfl), rfl, rfl⟩ (by rw [Heap.size_push, hz]) fun b o x => Heap.get?_push_of_some _ (Heap.get?_push_of_some _ x)⟩
end PySem
namespace PySem
open Sem (wp)
theorem wpAny_pyNext_enum_endX {prog : Program} {w : World} {A : Around} {E : Value → Shared → Prop} {s : Shared} {e it t : Addr} {i : Int} {j : Nat} {items : Array Value} {old : Value} {Q : Option Value → Shared → Prop}
    (hh : A.handled = none) (he : IsEnum s.heap e it i old) (hit : s.heap.IsTupleIter it t j) (ht : s.heap.IsTuple t items) (hx : items[j]? = none)
    (hQ : ∀ h', Heap.ExtBut it s.heap h' → Q none { s with heap := h' }) : wpAny (model prog w) A (pyNext (.ref e)) Q E s := by
  have hT : s.TypeIs (.ref e) "enumerate" := ⟨_, he, rfl⟩
  unfold pyNext
  refine wpAny_bind (wpAny_attempt (wpAny_callSpecial?_slot (name := Str.ofString "__next__") hT F.slot_enumerate_next
    (wpAny_call_entry F.slot_enumerate_next hT F.entry_enumerate_next ?_ (F.args_enumerate_next_1 _))))
  show wpAny _ _ (field (.ref e) 2 >>= _) _ _ _
  refine wpAny_bind (wpAny_field he rfl (x := .ref it) rfl ?_)
  refine wpAny_bind (wpAny_nextOf_tuple_end hh hit ht hx fun h' x he' hx' => ?_)
  obtain ⟨o, ho, hc⟩ := hx'
  refine wpAny_bind (wpAny_isInstance (T := "StopIteration") (b := true) ⟨o, ho, hc⟩ isSubtype_stop ?_)
  exact wpAny_pure (hQ _ he')
end PySem
namespace L2
open PySem PySem.Spec PyProof.Rows
def IteT (K : PySem.W.Frag) (a : Addr) : It :=
  ⟨fun i H => ∃ (xs : List V) (x : V), SqT K H a xs ∧ xs[i]? = some x, fun i H v H' => ∃ T x, v = .ref T ∧ H T = none ∧ H' = upd H T (.tup [.int (i : Nat), x]) ∧ ∀ xs, SqT K H a xs → xs[i]? = some x, fun i H => ∃ xs : List V, SqT K H a xs ∧ xs.length ≤ i⟩
theorem turn_enumT {P : Program} {w : World} {K : PySem.W.Frag} {elts : List Expr} {kk : Nat} {tpos : Pos} (a e it : Addr) :
    Turn P w K (.Tuple elts kk tpos) (IteT K a) [e, it] e (fun i h => (∃ old, IsEnum h e it ((i : Nat) : Int) old) ∧ h.IsTupleIter it a i ∧ e ≠ it) where
  mem := by simp
  obj := fun i h st b hb => by
    obtain ⟨⟨old, he⟩, ⟨o, ho, hc, hd⟩, _⟩ := st
    have e' : b = e ∨ b = it := by simpa using hb
    rcases e' with z | z
    · rw [z]; exact ⟨_, he, fun v q => nomatch q⟩
    · rw [z]; exact ⟨o, ho, fun v q => by rw [hd] at q; cases q⟩
  keep := fun i h h' st k => let ⟨⟨old, he⟩, hi, hne⟩ := st; ⟨⟨old, k e (by simp) _ he⟩, hi.at fun o q => k it (by simp) o q, hne⟩
  item := by
    intro X hP hw hK hc i pins s σ H E I hf st hg
    subst hP hw hK
    obtain ⟨⟨old, he⟩, hit, hne⟩ := st
    obtain ⟨xs, x, hq, hx⟩ := hg
    obtain ⟨its, rv, p, hz⟩ := I.tuple hq
    obtain ⟨u, hu, ru⟩ := rv.get hx
    have hel : e < s.heap.objs.size := Heap.lt_size he
    have hil : it < s.heap.objs.size := by obtain ⟨_, q, _⟩ := hit; exact Heap.lt_size q
    have pt : s.heap.IsTuple a its.toArray := p
    have hae : a ≠ e := fun z => by
      obtain ⟨o, ho, hc', n, hd⟩ := pt
      rw [z, he] at ho; cases ho; cases hd
    have hai : a ≠ it := fun z => by
      obtain ⟨o, ho, hc', n, hd⟩ := pt
      obtain ⟨o2, ho2, hc2, hd2⟩ := hit
      rw [z, ho2] at ho; cases ho; rw [hd2] at hd; cases hd
    have DT : PySem.Draws X.prog X.w X.A.in1 it [it, a] its.toArray.size (fun i v => its.toArray[i]? = some v) (fun i h => h.IsTupleIter it a i ∧ h.IsTuple a its.toArray) := PySem.Draws.tuple (A := X.A.in1) (I.ok.hd hc) it a hai its.toArray
    refine wpAny_pyNext_enum_itemD DT he ⟨hit, pt⟩ (by simpa using (List.getElem?_eq_some_iff.mp hu).1) hne (by simp [hne, Ne.symm hae]) fun y h' tk hy ho hst hT hsz hk => ?_
    have hy' : y = u := by
      have : its[i]? = some y := by simpa using hy
      rw [hu] at this; cases this; rfl
    subst hy'
    refine ⟨_, rfl, wpAny_letOwnedTupleGo_enum (s := { s with heap := h', toks := tk + 1 }) ho fun h'' he' sb => ?_⟩
    have hT2 : h''.get? s.heap.objs.size = some { cls := .type "tuple", data := .seq #[.int i tk, y] } := (sb.2 _ (Nat.ne_of_gt hel)).trans hT
    have new : ObjOk X.prog X.w (upd H s.heap.objs.size (.tup [.int (i : Nat), x])) h'' s.heap.objs.size (.tup [.int (i : Nat), x]) :=
      ⟨by show 2 ≤ sizeLine; decide, [.int i tk, y], .cons ⟨_, rfl⟩ (.cons ru .nil), ⟨_, hT2, rfl, _, rfl⟩⟩
    have I1 : Inv X pins σ (upd H s.heap.objs.size (.tup [.int (i : Nat), x])) { s with heap := h'', toks := tk + 1 } :=
      I.turnedNew (ch := [e, it]) (fun b ob hb q => (sb.2 b (fun z => hb (by simp [z]))).trans (hk b ob (fun z => hb (by simp [z])) (fun z => hb (by simp [z])) q)) hf (Nat.le_refl _) new
    refine ⟨.ref s.heap.objs.size, _, I1, rfl, ⟨_, x, rfl, I.hok.fresh (Nat.le_refl _), rfl, fun ys hy => by rw [I.tuple_inj hy hq]; exact hx⟩, ⟨⟨y, ?_⟩, hst.1.at fun o q => (sb.2 it (Ne.symm hne)).trans q, hne⟩, fun b hb => ?_⟩
    · have e1 : ((i + 1 : Nat) : Int) = (i : Int) + 1 := by omega
      rw [e1]; exact he'
    · have hb' : b < s.heap.objs.size := by
        have e' : b = e ∨ b = it := by simpa using hb
        rcases e' with z | z
        · rw [z]; exact hel
        · rw [z]; exact hil
      rw [upd_ne (Nat.ne_of_lt hb')]
      exact (hf b hb).1
  done := by
    intro X hP hw hK hc i pins s σ H E I hf st hg
    subst hP hw hK
    obtain ⟨⟨old, he⟩, hit, hne⟩ := st
    obtain ⟨xs, hq, hx⟩ := hg
    obtain ⟨its, rv, p, hz⟩ := I.tuple hq
    obtain ⟨f0, f1, f2, f3, f4, f5⟩ := hf it (by simp)
    have hl := rv.length
    have pt : s.heap.IsTuple a its.toArray := p
    obtain ⟨o2, ho2, hc2, hd2⟩ := id hit
    refine wpAny_pyNext_enum_endX (I.ok.hd hc) he hit pt (by simp; omega) fun h' eb => ⟨rfl, I.turned (t' := s.toks) (fun b o hb q => eb b o hb q) f0 f1 f3 f4 f5⟩
  self := fun A i s Q E st h => let ⟨⟨_, he⟩, _⟩ := st; wpAny_pyIter_enum he h
end L2
namespace DL
open L2 PySem PySem.Spec
section
variable {K : PySem.W.Frag} {g : Gh} {H : Hp} {σ : Slots} {s : State}
theorem iter_enumT {a : Addr} {xs : List V} {ds : List DL.D} (src : Src K g σ s (.ref a) (.tup ds)) : Iter K (IteT K a) g H σ s (enumL 0 ds) := fun i g2 H2 σ2 s2 sd2 ev2 => by
  obtain ⟨b, xs, e, hx, rx⟩ := ((src.ev ev2).view sd2).tup sd2
  cases e
  refine ⟨fun hi => ⟨xs, hx, by rw [rx.length]; rw [enumL_length] at hi; exact hi⟩, fun d hd => ?_⟩
  obtain ⟨y, hy, rfl⟩ := enumL_get 0 ds i d hd
  obtain ⟨x, hv, rv⟩ := rx.get hy
  refine ⟨⟨xs, x, hx, hv⟩, fun z H3 hz => ?_⟩
  obtain ⟨T, x', rfl, hT, rfl, q⟩ := hz
  have e := q xs hx
  rw [hv] at e; cases e
  rw [Nat.zero_add]
  exact sd2.newTup hT (.cons (.int _) (.cons rv .nil))
end
section
variable {X : Cx} {Wx : WX} {tg : Expr} {p p1 pos : Pos} {e : Expr} {body : List Stmt} {pt : Pt} {fb : M Flow} {fl : M (List VR)}
end
end DL
namespace DL
open L2 PySem PySem.Spec
end DL
set_option Elab.async false
set_option linter.all false
set_option maxRecDepth 100000
set_option maxHeartbeats 1000000
namespace DL
open PySem PySem.Spec PyProof.Rows L2
section
variable {X : Cx} {Wx : WX} {a : Expr} {fa : M VR} {p p1 p2 pos : Pos}
end
end DL
set_option Elab.async false
set_option linter.all false
set_option maxRecDepth 100000
set_option maxHeartbeats 1000000
namespace DL
open PySem PySem.Spec PyProof.Rows L2
section
variable {X : Cx}
end
end DL
set_option Elab.async false
set_option linter.all false
set_option maxRecDepth 100000
set_option maxHeartbeats 1000000
namespace L2
open PySem PySem.Spec PyProof.Rows
def iEnumB (K : PySem.W.Frag) (ta : TA) : TI := fun σ H R => ta σ H fun vs H1 => ∃ a xs, vs = [.ref a] ∧ ((SqL K H1 a xs ∧ R (Ite K a) H1) ∨ (SqT K H1 a xs ∧ R (IteT K a) H1))
theorem pi_enumB {X : Cx} {e : Expr} {ta : TA} {p pos tpos : Pos} {elts : List Expr} {kk : Nat} (hg : Gl X "enumerate") (hm : X.mg "enumerate" = none) (ha : PA X [e] ta) (hs : starEach [e] X.env = [(false, eval e X.env)] := by rfl) :
    PI X (.Tuple elts kk tpos) (.Call (.Name "enumerate" p) [e] [] pos) (iEnumB X.K ta) := by
  refine ⟨fun pins s σ H R I h => ?_⟩
  refine Call_ (ld_blt I hg hm boot_enumerate (PyProof.Rows.callWith_type1 (thn (ha.run pos pins s σ H _ I h) fun us s1 ⟨vs, H1, I1, r1, q1⟩ => ?_) hs rfl))
  obtain ⟨a, xs, ex, hq⟩ := q1
  subst ex
  cases r1 with
  | cons r rr =>
    cases rr
    cases r
    have fp : ∀ b, b ∈ [s1.heap.objs.size + 1, s1.heap.objs.size] → s1.heap.objs.size ≤ b := fun b hb => by
      have e' : b = s1.heap.objs.size + 1 ∨ b = s1.heap.objs.size := by simpa using hb
      rcases e' with z | z
      · rw [z]; exact Nat.le_add_right _ _
      · rw [z]; exact Nat.le_refl _
    rcases hq with ⟨hq, q⟩ | ⟨hq, q⟩
    · obtain ⟨its, rv, p', hz⟩ := I1.list hq
      refine call_enumerate_list p'.isList fun h' he hit hsz hk => wpAny_pyIter_enum he ?_
      have I2 : Inv X pins σ H1 { s1 with heap := h' } := I1.kept (t' := s1.toks) hk
      exact ⟨s1.heap.objs.size + 1, [s1.heap.objs.size + 1, s1.heap.objs.size], _, _, H1, rfl, I2, turn_enum a (s1.heap.objs.size + 1) s1.heap.objs.size, ⟨⟨.none, he⟩, hit, Nat.succ_ne_self _⟩, fun b hb => I1.fpOk (fp b hb) (I1.hok.fresh (fp b hb)), q⟩
    · obtain ⟨its, rv, p', hz⟩ := I1.tuple hq
      refine DL_call_enumerate_tup (show s1.heap.IsTuple a its.toArray from p') fun h' he hit hsz hk => wpAny_pyIter_enum he ?_
      have I2 : Inv X pins σ H1 { s1 with heap := h' } := I1.kept (t' := s1.toks) hk
      exact ⟨s1.heap.objs.size + 1, [s1.heap.objs.size + 1, s1.heap.objs.size], _, _, H1, rfl, I2, turn_enumT a (s1.heap.objs.size + 1) s1.heap.objs.size, ⟨⟨.none, he⟩, hit, Nat.succ_ne_self _⟩, fun b hb => I1.fpOk (fp b hb) (I1.hok.fresh (fp b hb)), q⟩
end L2
namespace DL
open L2 PySem PySem.Spec
def itEB : List D → Option (List D)
  | [.lst ds] => some (enumL 0 ds)
  | [.tup ds] => some (enumL 0 ds)
  | _ => none
section
variable {X : Cx} {Wx : WX} {tg : Expr} {p p1 pos : Pos} {e : Expr} {body : List Stmt} {pt : Pt} {fb : M Flow} {fl : M (List VR)}
theorem ds_forEB {elts : List Expr} {kk : Nat} {tpos : Pos} (hp : PassesOwn (model X.prog X.w) X.A X.env X.xe) (hc : X.calm = true) (hgl : Gl X "enumerate") (hm : X.mg "enumerate" = none) (ha : DA X Wx [e] fl) (hg : DG X (.Tuple elts kk tpos) pt) (hb : DSs X Wx body fb)
    (hst : starEach [e] X.env = [(false, eval e X.env)] := by rfl) (hs : ∀ x, foldedSetIterable (.Call (.Name "enumerate" p) [e] [] p1) X.env x = pure x := by intro _; rfl) :
    DS X Wx (.For (.Tuple elts kk tpos) (.Call (.Name "enumerate" p) [e] [] p1) body [] pos) (dFor itEB pt fb fl) := ⟨fun pins s σ H D I h => (ps_for hp hc (pi_enumB hgl hm ha hst) hg hb hs).run pins s σ H D I (by
  obtain ⟨g, s, c⟩ := h.start
  refine c.bind.mono fun vs H1 ⟨rs, g1, s1, c1, r1, e1⟩ => ?_
  obtain ⟨g2, s2, ds, sd2, sr, p2⟩ := hold_run c1 r1
  unfold dItems at p2
  cases q : itEB ds with
  | none => rw [q] at p2; exact p2.elim
  | some items =>
    rw [q] at p2
    unfold itEB at q
    split at q
    · cases q
      cases sr with
      | cons src b =>
        cases b
        obtain ⟨a, xs, rfl, hx, _⟩ := (src.view sd2).lst sd2
        exact ⟨a, xs, rfl, .inl ⟨.of hx, forL_run sd2 (iter_enum src) p2⟩⟩
    · cases q
      cases sr with
      | cons src b =>
        cases b
        obtain ⟨a, xs, rfl, hx, _⟩ := (src.view sd2).tup sd2
        exact ⟨a, xs, rfl, .inr ⟨hx, forL_run sd2 (iter_enumT (xs := xs) src) p2⟩⟩
    · cases q)⟩
end
end DL
set_option linter.all false
set_option maxRecDepth 100000
namespace DL
open PySem PySem.W
def codeOf (o : Obj) : Option Addr := match o.data with
  | .func fd => (match fd.code with
    | .ref c => some c
    | _ => none)
  | _ => none
def tabOf (o : Obj) : Option Addr := match o.data with
  | .fields vs => (match (vs[11]? : Option Value) with
    | some (.ref P) => some P
    | _ => none)
  | _ => none
theorem tabIn_by {K : Frag} {x : Str} {f c P : Addr} {o o2 : Obj} (h1 : nsIn K mainGlobals x = some (some (.ref f))) (h2 : K.lookup f = some o) (h3 : codeOf o = some c) (h4 : K.lookup c = some o2) (h5 : tabOf o2 = some P) : tabIn K x = some (c, P) := by
  obtain ⟨a, b, d, e⟩ := o
  obtain ⟨a2, b2, d2, e2⟩ := o2
  unfold tabIn
  rw [h1]
  show (match K.lookup f with
      | some ⟨_, _, .func fd, _⟩ => (match fd.code with
        | .ref c => (match K.lookup c with
          | some ⟨_, _, .fields vs, _⟩ => (match (vs[11]? : Option Value) with
            | some (.ref P) => some (c, P)
            | _ => none)
          | _ => none)
        | _ => none)
      | _ => none) = _
  rw [h2]
  simp only [codeOf] at h3
  simp only [tabOf] at h5
  cases d with
  | func fd =>
    cases hc : fd.code with
    | ref c' =>
      simp [hc] at h3
      subst h3
      cases d2 with
      | fields vs =>
        cases hv : (vs[11]? : Option Value) with
        | none => simp [hv] at h5
        | some v =>
          cases v with
          | ref P' =>
            simp [hv] at h5
            subst h5
            simp [hc, h4, hv]
          | _ => simp [hv] at h5
      | _ => simp at h5
    | _ => simp [hc] at h3
  | _ => simp at h3
end DL
set_option linter.all false
namespace DL
open PySem PySem.W L2 PyProof.Rows
variable {X : Cx}
end DL
set_option Elab.async false
set_option linter.all false
set_option maxRecDepth 100000
set_option maxHeartbeats 1000000
namespace DL
open PySem PySem.Spec PyProof.Rows L2
def takeD (i : Nat) (h : D → Option (D × D)) : M T := fun s => match heldD i s with
  | some (w, d) => match h d with
    | some (x, d') => .ok (.fz x) (putE s i (w.re d'))
    | none => .bad
  | none => .bad
theorem takeD_res (i : Nat) (h : D → Option (D × D)) (s : State) : (∃ w d x d', heldD i s = some (w, d) ∧ h d = some (x, d') ∧ takeD i h s = .ok (.fz x) (putE s i (w.re d'))) ∨ takeD i h s = .bad := by
  unfold takeD
  cases e : heldD i s with
  | none => exact .inr rfl
  | some z =>
    obtain ⟨w, d⟩ := z
    cases q : h d with
    | none => exact .inr (by simp only [q])
    | some y => exact .inl ⟨w, d, y.1, y.2, rfl, q, by simp only [q]⟩
section
variable {K : PySem.W.Frag} {Wx : WX} {σ : Slots} {R : Gh → Hp → State → V → T → Prop} {Q : V → Hp → Prop} {g0 g1 : Gh} {H0 H1 : Hp} {s0 s1 : State}
theorem Cur.takeD {i : Nat} {h : D → Option (D × D)} (c : Cur K Wx σ R Q g0 H0 s0 (takeD i h s1) g1 H1 s1) :
    ∃ w d x d' a o, heldD i s1 = some (w, d) ∧ h d = some (x, d') ∧ σ[i]? = some (some (V.ref a)) ∧ H1 a = some o ∧ ObAt K g1 o d ∧
      ∀ o', ObAt K g1 o' d' → Cur K Wx σ R Q g0 H0 s0 (.ok (.fz x) (putE s1 i (w.re d'))) g1 (upd H1 a o') (putE s1 i (w.re d')) := by
  rcases takeD_res i h s1 with ⟨w, d, x, d', h1, h2, h3⟩ | h
  · rw [h3] at c
    obtain ⟨a, o, ea, eo, ob⟩ := heldD_at c.sd h1
    obtain ⟨e1, m, _⟩ := heldD_some h1
    refine ⟨w, d, x, d', a, o, h1, h2, ea, eo, ob, fun o' ob' => ?_⟩
    obtain ⟨sd2, ev2⟩ := c.sd.write e1 m ea ob'
    exact ⟨c.ev.trans ev2, sd2, c.post⟩
  · rw [h] at c; exact (c.notBad rfl).elim
end
theorem Reps.init {K : PySem.W.Frag} {g : Gh} {vs : List V} {ds : List D} (r : Reps K g vs ds) : Reps K g vs.dropLast ds.dropLast := by
  rw [List.dropLast_eq_take, List.dropLast_eq_take, r.length]
  exact r.take _
section
variable {X : Cx} {Wx : WX} {e : Expr}
end
end DL
set_option Elab.async false
set_option linter.all false
set_option maxRecDepth 100000
set_option maxHeartbeats 3200000
namespace DL
open PySem PySem.Spec PyProof.Rows L2
section
variable {prog : Program} {w : World} {A : Around} {E : Value → Shared → Prop} {s : Shared}
end
section
variable {X : Cx} {Wx : WX} {a : Expr} {ta : TE} {fa : M VR} {p p2 q pos : Pos}
end
end DL
set_option Elab.async false
set_option linter.all false
set_option maxRecDepth 100000
set_option maxHeartbeats 1000000
namespace DL
open PySem PySem.Spec PyProof.Rows L2
section
variable {prog : Program} {w : World} {K : Type} [DecidableEq K] {knd : KeyKind prog w K} {A : Around} {E : Value → Shared → Prop} {s : Shared}
end
section
variable {X : Cx} {Wx : WX} {pos : Pos} {k v e : Expr}
end
end DL
set_option Elab.async false
set_option linter.all false
set_option maxRecDepth 100000
set_option maxHeartbeats 1000000
namespace DL
open PySem PySem.Spec PyProof.Rows L2
section
variable {X : Cx} {Wx : WX} {k : Nat} {C f : Addr} {fd : FuncData} {N : List Str} {b : M Flow} {p pos : Pos} {o : Expr} {fl : M (List VR)} {am : AM}
end
end DL
set_option Elab.async false
set_option linter.all false
set_option maxRecDepth 100000
set_option maxHeartbeats 1000000
namespace DL
open PySem PySem.Spec PyProof.Rows L2
section
variable {X : Cx} {Wx : WX} {k : Nat} {C f : Addr} {fd : FuncData} {ps N : List Str} {b : M Flow} {d : D} {x : Str} {p pos : Pos} {e : Expr} {es : List Expr} {fl fl' : M (List VR)} {ms ms' : List AM}
end
end DL
set_option Elab.async false
set_option linter.all false
set_option maxRecDepth 100000
set_option maxHeartbeats 1000000
namespace DL
open PySem PySem.Spec PyProof.Rows L2
section
variable {X : Cx} {Wx : WX} {tg e : Expr} {i : Nat} {j : Int}
end
section
variable {X : Cx} {Wx : WX} {pos : Pos} {pt : Pt} {tg iter : Expr} {i : Nat} {j : Int} {h : D → Option (List D)} {body : List Stmt} {fb : M Flow}
end
end DL
set_option Elab.async false
set_option linter.all false
set_option maxRecDepth 100000
set_option maxHeartbeats 1000000
namespace DL
open PySem PySem.Spec PyProof.Rows L2
section
variable {X : Cx} {Wx : WX} {e : Expr} {te : TE} {p apos cpos pos : Pos} {fo : M VR}
end
section
variable {K : PySem.W.Frag} {g : Gh} {H H' : Hp} {σ : Slots} {s : State}
theorem SD.ext (sd : SD K g H σ s) (k : ∀ b o, H b = some o → H' b = some o) : SD K g H' σ s where
  gh := fun b u e => (sd.gh b u e).keep fun w q => k _ _ q
  len := sd.len
  slot := fun i w e => by
    obtain ⟨v, ev, wa⟩ := sd.slot i w e
    exact ⟨v, ev, wa.keep (.refl g) (fun b u eb hw q => k _ _ q) fun _ _ _ x => x⟩
  inj := sd.inj
  stl := sd.stl
  sto := fun i m b e1 e2 => by
    obtain ⟨u, q, m1⟩ := sd.sto i m b e1 e2
    exact ⟨u, k _ _ q, m1⟩
  nd := sd.nd
  ng := sd.ng
  dr := sd.dr.map fun x l d _ q => by
    obtain ⟨c, q1, q2⟩ := q.dict
    exact ⟨⟨c, k _ _ q1, q2⟩, k _ _ q.list, q.ne, q.ga, q.gl⟩
end
section
variable {X : Cx} {Wx : WX} {e : Expr} {p apos cpos pos : Pos} {fo : M VR}
end
end DL
set_option Elab.async false
set_option linter.all false
set_option maxRecDepth 100000
set_option maxHeartbeats 1000000
namespace DL
open PySem PySem.Spec PyProof.Rows L2
end DL
set_option Elab.async false
set_option linter.all false
set_option maxRecDepth 100000
set_option maxHeartbeats 1000000
namespace DL
open PySem PySem.Spec PyProof.Rows L2
section
variable {K : PySem.W.Frag} {g g0 : Gh} {H H0 : Hp} {σ σ0 : Slots} {s s0 : State} {n i : Nat} {kvs q : List (Key × D)} {ks : List Nat}
end
section
variable {X : Cx} {Wx : WX} {st1 st2 st3 : Stmt} {rest : List Stmt} {f1 f2 f3 k : M Flow} {i : Nat} {ks : List Nat}
end
end DL
set_option Elab.async false
set_option linter.all false
set_option maxRecDepth 100000
set_option maxHeartbeats 2000000
namespace DL
open PySem PySem.Spec PyProof.Rows L2
section
variable {prog : Program} {w : World} {A : Around} {s : Shared}
end
section
variable {X : Cx} {Wx : WX}
end
end DL
set_option Elab.async false
set_option linter.all false
set_option maxRecDepth 100000
set_option maxHeartbeats 1000000
namespace DL
open PySem PySem.Spec PyProof.Rows L2
section
variable {X : Cx} {Wx : WX} {pos : Pos} {ft : M Bool} {fe : M VR} {pt : Pt} {elt tg iter : Expr} {ifs : List Expr} {scope : Scope} {own : List (Str × Nat)} {i : Nat} {j : Int} {h : D → Option (List D)} {k : Nat}
end
end DL
set_option Elab.async false
set_option linter.all false
set_option maxRecDepth 100000
set_option maxHeartbeats 1000000
namespace DL
open PySem PySem.Spec PyProof.Rows L2
section
variable {X : Cx}
end
end DL
set_option Elab.async false
set_option linter.all false
set_option maxRecDepth 100000
set_option maxHeartbeats 1000000
namespace DL
open PySem PySem.Spec PyProof.Rows L2
section
variable {X : Cx} {Wx : WX} {e : Expr} {f : M T}
end
end DL
set_option Elab.async false
set_option linter.all false
set_option maxRecDepth 100000
set_option maxHeartbeats 1000000
namespace DL
open PySem PySem.Spec PyProof.Rows L2
section
variable {X : Cx} {Wx : WX}
end
end DL
set_option linter.all false
namespace DL
open PySem PySem.W L2 PyProof.Rows
variable {X : Cx}
end DL
set_option Elab.async false
set_option linter.all false
set_option maxRecDepth 100000
set_option maxHeartbeats 1000000
namespace DL
open PySem PySem.Spec PyProof.Rows L2
abbrev ZF (h : Heap) (z TI TO : Addr) (v : Value) (f : Bool) : Prop :=
  h.get? z = some { cls := .type "zip", dict := none, data := .fields #[v, .bool f, .bool false, .ref TI, .ref TO], slots := #[] }
section
variable {prog : Program} {w : World} {A : Around} {E : Value → Shared → Prop} {s : Shared} {z TI TO i1 i2 l1 l2 : Addr} {k : Nat} {xs ys : Array Value} {v : Value} {f : Bool}
def ZN (h : Heap) (z TI TO i1 i2 l1 l2 : Addr) (k : Nat) : Prop :=
  IsPair h TI (.ref i1) (.ref i2) ∧ h.IsTupleIter i1 l1 k ∧ h.IsTupleIter i2 l2 k ∧ (∃ x y, IsPair h TO x y) ∧ ∃ v f, ZF h z TI TO v f ∧ (v = .none ∨ ∃ T : Addr, v = rawInt T)
end
theorem ZN.lt {h : Heap} {z TI TO i1 i2 l1 l2 c : Addr} {k : Nat} (st : ZN h z TI TO i1 i2 l1 l2 k) (hc : c ∈ [z, TI, TO, i1, i2]) : c < h.objs.size := by
  obtain ⟨hTI, ⟨o1, e1, _⟩, ⟨o2, e2, _⟩, ⟨x, y, hTO⟩, v, f, hz, _⟩ := st
  have e' : c = z ∨ c = TI ∨ c = TO ∨ c = i1 ∨ c = i2 := by simpa using hc
  rcases e' with q | q | q | q | q
  · rw [q]; exact Heap.lt_size hz
  · rw [q]; exact Heap.lt_size hTI
  · rw [q]; exact Heap.lt_size hTO
  · rw [q]; exact Heap.lt_size e1
  · rw [q]; exact Heap.lt_size e2
section
variable {X : Cx} {Wx : WX} {e e2 : Expr} {fl : M (List VR)} {p p1 np : Pos} {x : Str}
end
end DL
set_option Elab.async false
set_option linter.all false
set_option maxRecDepth 100000
set_option maxHeartbeats 3200000
namespace DL
open PySem PySem.Spec PyProof.Rows L2
def txOf (e : Int × Value) : Str := match e.2 with | .str x _ => x | _ => Str.empty
def GoodT (w : World) (e : Int × Value) : Prop := ∃ x tk, e.2 = Value.str x tk ∧ e.1 = hashStr w x
def SetX (w : World) (h : Heap) (a : Addr) (S : Str → Bool) (n : Nat) : Prop :=
  ∃ o es ep t, h.get? a = some o ∧ o.ExactSet ∧ o.data = .set es ep t ∧ (∀ e ∈ es.toList, GoodT w e) ∧ (es.toList.map txOf).Nodup ∧ (∀ k, S k = true ↔ k ∈ es.toList.map txOf) ∧
    es.size < scanBound ∧ t.fits es.size = true ∧ es.size = n ∧ Ris t.place.toList ∧ (w.params.followText "set-order" = true ∨ t.led = true)
section
variable {P : Program} {w : World} {h h' : Heap} {a : Addr} {S : Str → Bool} {n : Nat}
theorem SetX.at (R : SetX w h a S n) (k : ∀ o, h.get? a = some o → h'.get? a = some o) : SetX w h' a S n := by
  obtain ⟨o, es, ep, t, ho, r⟩ := R
  exact ⟨o, es, ep, t, k o ho, r⟩
theorem SetX.congr {S' : Str → Bool} (R : SetX w h a S n) (e : ∀ k, S' k = S k) : SetX w h a S' n := by
  have q : S' = S := funext e
  rw [q]; exact R
end
section
variable {P : Program} {w : World} {A : Around} {E : Value → Shared → Prop} {s : Shared} {a : Addr} {S : Str → Bool} {n : Nat}
end
section
variable {prog : Program} {w : World} {A : Around} {E : Value → Shared → Prop} {s : Shared}
end
section
variable {X : Cx} {Wx : WX} {a : Expr} {ta : TE} {fa : M VR} {p p2 q pos : Pos}
end
end DL
set_option Elab.async false
set_option linter.all false
set_option maxRecDepth 100000
set_option maxHeartbeats 1000000
namespace PySem
open Sem (wp)
section
variable {prog : Program} {w : World} {A : Around} {E : Value → Shared → Prop} {s : Shared}
end
section
variable {prog : Program} {w : World}
end
end PySem
namespace DL
open PySem PySem.Spec PyProof.Rows L2
section
variable {X : Cx} {Wx : WX} {a : Expr} {ta : TE} {fa : M VR} {p p2 q pos : Pos}
end
end DL
namespace DL
open PySem PySem.Spec PyProof.Rows L2
section
variable {X : Cx}
end
end DL
set_option Elab.async false
set_option linter.all false
set_option maxRecDepth 100000
set_option maxHeartbeats 1000000
namespace DL
open PySem PySem.Spec PyProof.Rows L2 RZ
section
variable {prog : Program} {w : World} {A : Around} {E : Value → Shared → Prop} {s : Shared}
end
section
variable {K : PySem.W.Frag} {g : Gh} {H : Hp} {σ : Slots} {s : State}
end
section
variable {X : Cx} {Wx : WX} {e e2 : Expr} {fl : M (List VR)} {p p1 p2 pos : Pos} {pt : Pt} {body : List Stmt} {fb : M Flow}
end
end DL
set_option Elab.async false
set_option linter.all false
set_option maxRecDepth 100000
set_option maxHeartbeats 1000000
namespace DL
open PySem PySem.Spec PyProof.Rows L2
section
variable {X : Cx} {Wx : WX} {e : Expr} {i : Nat} {j : Int} {apos cpos : Pos}
end
end DL
namespace DL
open PySem PySem.Spec PyProof.Rows L2
section
variable {X : Cx}
end
end DL
namespace DL
open PySem PySem.Spec PyProof.Rows L2
section
variable {X : Cx}
end
end DL
namespace DL
open PySem PySem.Spec PyProof.Rows L2
section
variable {X : Cx} {Wx : WX} {e e2 : Expr} {fl : M (List VR)} {p p1 : Pos}
end
end DL
set_option Elab.async false
set_option linter.all false
set_option maxRecDepth 100000
set_option maxHeartbeats 2000000
namespace DL
open PySem PySem.Spec PyProof.Rows L2
section
variable {X : Cx} {Wx : WX} {pos : Pos}
end
end DL
set_option Elab.async false
set_option linter.all false
set_option maxRecDepth 100000
set_option maxHeartbeats 1000000
namespace DL
open PySem PySem.Spec PyProof.Rows L2
section
variable {X : Cx} {Wx : WX} {pos : Pos} {e : Expr}
end
end DL
set_option Elab.async false
set_option linter.all false
set_option maxRecDepth 100000
set_option maxHeartbeats 3200000
namespace DL
open PySem PySem.Spec PyProof.Rows L2
section
variable {prog : Program} {w : World} {A : Around} {R : Result → Shared → Prop} {I : Addr} {fp wr : List Addr} {G : Array GenState → Array GenState → Prop} {n : Nat} {P : Nat → Value → Prop} {St : Nat → Shared → Prop}
end
section
variable {prog : Program} {w : World} {A : Around} {E : Value → Shared → Prop} {s : Shared}
end
section
variable {X : Cx} {Wx : WX} {a : Expr} {ta : TE} {fa : M VR} {p p2 q pos : Pos}
end
end DL
set_option Elab.async false
set_option linter.all false
set_option maxRecDepth 100000
set_option maxHeartbeats 2000000
namespace DL
open PySem PySem.Spec PyProof.Rows L2
section
variable {K : PySem.W.Frag} {Wx : WX} {σ : Slots} {β α : Type} {R : Gh → Hp → State → β → α → Prop} {Q : β → Hp → Prop} {g0 g1 : Gh} {H0 H1 : Hp} {s0 s1 : State}
end
section
variable {X : Cx} {Wx : WX} {a b : Expr} {fa fb : M VR} {pos : Pos}
end
mutual
def derefD (sto : List MO) (n : Nat) : D → Option D
  | .tup xs => (derefDs sto n xs).map .tup
  | .lst xs => (derefDs sto n xs).map .lst
  | .ptr i => match sto[i]? with
    | some (.lst ds) => if n ≤ i ∧ noPtrs ds = true then some (.lst ds) else none
    | _ => none
  | d => if noPtr d = true then some d else none
def derefDs (sto : List MO) (n : Nat) : List D → Option (List D)
  | [] => some []
  | d :: r => match derefD sto n d, derefDs sto n r with
    | some x, some y => some (x :: y)
    | _, _ => none
end
section
variable {K : PySem.W.Frag} {g : Gh} {H : Hp} {σ : Slots} {s : State} {n : Nat}
mutual
theorem Rep.deref (sd : SD K g H σ s) : ∀ {v : V} {d d' : D}, Rep K g v d → derefD s.sto n d = some d' → Rep K (g.retire H n) v d'
  | v, .tup xs, d', h, e => by
    have e : (derefDs s.sto n xs).map D.tup = some d' := by rw [← e]; unfold derefD; rfl
    cases q : derefDs s.sto n xs with
    | none => rw [q] at e; cases e
    | some ys =>
      rw [q] at e; cases e
      cases h with
      | tup a r => exact .tup ((SD.leP (n := n) sd).G _ _ a) (Reps.deref sd r q)
      | tup0 a =>
        have : ys = [] := by unfold derefDs at q; cases q; rfl
        subst this
        exact .tup0 (SqT.le (SD.leP (n := n) sd).G a)
  | v, .lst xs, d', h, e => by
    have e : (derefDs s.sto n xs).map D.lst = some d' := by rw [← e]; unfold derefD; rfl
    cases q : derefDs s.sto n xs with
    | none => rw [q] at e; cases e
    | some ys =>
      rw [q] at e; cases e
      cases h with
      | lst a r => exact .lst ((SD.leP (n := n) sd).G _ _ a) (Reps.deref sd r q)
  | v, .ptr i, d', h, e => by
    have e : (match s.sto[i]? with | some (.lst ds) => if n ≤ i ∧ noPtrs ds = true then some (D.lst ds) else none | _ => none) = some d' := by rw [← e]; unfold derefD; rfl
    cases q : s.sto[i]? with
    | none => rw [q] at e; cases e
    | some m =>
      rw [q] at e
      cases m with
      | ins C fs => cases e
      | tab P z => cases e
      | lst ds =>
        simp only at e
        by_cases z : n ≤ i ∧ noPtrs ds = true
        · rw [if_pos z] at e; cases e
          obtain ⟨a, rfl, hη⟩ := Rep.ptr_at h
          obtain ⟨o, ho, xs, rfl, rx⟩ := sd.sto i _ a q hη
          have md : a ∈ g.η.drop n := by
            refine List.mem_of_getElem? (i := i - n) ?_
            rw [List.getElem?_drop, show n + (i - n) = i by omega]
            exact hη
          exact .lst ((retire_new md).trans ho) (rx.noP sd.leP z.2)
        · rw [if_neg z] at e; cases e
  | v, .non, d', h, e => by cases e; exact h.noP sd.leP rfl
  | v, .bl b, d', h, e => by cases e; exact h.noP sd.leP rfl
  | v, .int b, d', h, e => by cases e; exact h.noP sd.leP rfl
  | v, .str b, d', h, e => by cases e; exact h.noP sd.leP rfl
  | v, .frl b, d', h, e => by cases e; exact h.noP sd.leP rfl
  | v, .draw, d', h, e => by cases e; exact h.noP sd.leP rfl
  | v, .dk kvs, d', h, e => by
    unfold derefD at e
    by_cases z : noPtr (.dk kvs) = true
    · rw [if_pos z] at e; cases e; exact h.noP sd.leP z
    · rw [if_neg z] at e; cases e
  | v, .dt kvs, d', h, e => by
    unfold derefD at e
    by_cases z : noPtr (.dt kvs) = true
    · rw [if_pos z] at e; cases e; exact h.noP sd.leP z
    · rw [if_neg z] at e; cases e
  | v, .obj C fs, d', h, e => by
    unfold derefD at e
    by_cases z : noPtr (.obj C fs) = true
    · rw [if_pos z] at e; cases e; exact h.noP sd.leP z
    · rw [if_neg z] at e; cases e
  | v, .exc C fs, d', h, e => by
    unfold derefD at e
    by_cases z : noPtr (.exc C fs) = true
    · rw [if_pos z] at e; cases e; exact h.noP sd.leP z
    · rw [if_neg z] at e; cases e
theorem Reps.deref (sd : SD K g H σ s) : ∀ {vs : List V} {ds ds' : List D}, Reps K g vs ds → derefDs s.sto n ds = some ds' → Reps K (g.retire H n) vs ds'
  | _, [], ds', h, e => by
    unfold derefDs at e; cases e
    cases h; exact .nil
  | _, d :: ds, ds', h, e => by
    have e : (match derefD s.sto n d, derefDs s.sto n ds with | some x, some y => some (x :: y) | _, _ => none) = some ds' := by rw [← e]; conv => rhs; unfold derefDs
    cases q1 : derefD s.sto n d with
    | none => rw [q1] at e; cases e
    | some x =>
      cases q2 : derefDs s.sto n ds with
      | none => rw [q1, q2] at e; cases e
      | some y =>
        rw [q1, q2] at e; cases e
        cases h with
        | cons ra rr => exact .cons (Rep.deref sd ra q1) (Reps.deref sd rr q2)
end
def retireT (n : Nat) (d : D) (s : State) : Rs Flow := match derefD s.sto n d with
  | some q => if s.env.all notHeldW = true ∧ (s.sto.take n).all noPtrM = true ∧ n ≤ s.sto.length then .ok (.rt (.fz q)) { env := s.env.map fun _ => none, sto := s.sto.take n, dr := s.dr } else .bad
  | none => .bad
def dRetireT (f : M Flow) : M Flow := fun s => match f s with
  | .ok (.rt (.fz d)) s' => retireT s.sto.length d s'
  | _ => .bad
theorem tS_retireT {Wx : WX} {D : Ends} {f : M Flow} (h : tS K Wx (dRetireT f) D σ H) : tS K Wx f D σ H := by
  obtain ⟨g, s, sd, p⟩ := h
  refine ⟨g, s, sd, ?_⟩
  unfold dRetireT at p
  cases q : f s with
  | bad => rw [q] at p; exact p.elim
  | err x s' => rw [q] at p; exact p.elim
  | ok fl s' =>
    rw [q] at p
    cases fl with
    | nx => exact p.elim
    | bk => exact p.elim
    | ct => exact p.elim
    | rt t =>
      cases t with
      | ow d => exact p.elim
      | fz d =>
        have p : PostS K Wx D g H σ s (retireT s.sto.length d s') := p
        unfold retireT at p
        cases qd : derefD s'.sto s.sto.length d with
        | none => rw [qd] at p; exact p.elim
        | some kq =>
          rw [qd] at p
          simp only at p
          by_cases z : s'.env.all notHeldW = true ∧ (s'.sto.take s.sto.length).all noPtrM = true ∧ s.sto.length ≤ s'.sto.length
          · rw [if_pos z] at p
            obtain ⟨z1, z2, z3⟩ := z
            intro v σ' g' H' sd' ev rr
            have rp : Rep K g' v d := rr.at_
            exact p v σ' (g'.retire H' s.sto.length) H' (sd'.retired z2 z3 fun _ _ _ _ _ _ _ => trivial) (ev.retired sd' z1 rfl sd.stl) ⟨Rep.deref sd' rp qd, fun _ _ z => nomatch z⟩
          · rw [if_neg z] at p; exact p.elim
end
theorem FnOk.retireT {P : Program} {w : World} {K : PySem.W.Frag} {mg : Str → Option Value} {base : Heap} {cx : CXT} {f : Addr} {fd : FuncData} {N ps : List Str} {k : Nat} {b : M Flow} (h : FnOk P w K mg base cx k f fd ps (spF K ps N b)) : FnOk P w K mg base cx k f fd ps (spF K ps N (dRetireT b)) where
  len := fun xs Hx Qx Ex q => q.1
  run := fun A0 out st Hx ar us xs Qx Ex hr e0 hb hv q => h.run A0 out st Hx ar us xs Qx Ex hr e0 hb hv ⟨q.1, tS_retireT q.2⟩
end DL
set_option Elab.async false
set_option linter.all false
set_option maxRecDepth 100000
set_option maxHeartbeats 2000000
namespace DL
open PySem PySem.Spec PyProof.Rows L2
section
variable {K : PySem.W.Frag} {g : Gh} {H : Hp} {σ : Slots} {s : State}
end
section
variable {X : Cx} {Wx : WX} {tg : Expr} {body : List Stmt} {pt : Pt} {fb : M Flow} {fl : M (List VR)} {p p1 pos : Pos}
end
end DL
set_option Elab.async false
set_option linter.all false
set_option maxRecDepth 100000
set_option maxHeartbeats 2000000
namespace DL
open PySem PySem.Spec PyProof.Rows L2
def isLstD : D → Bool
  | .lst _ => true
  | _ => false
section
variable {X : Cx} {Wx : WX}
end
end DL
set_option Elab.async false
set_option linter.all false
set_option maxRecDepth 100000
set_option maxHeartbeats 2000000
namespace DL
open PySem PySem.Spec PyProof.Rows L2
theorem exk_ok {P : Program} {w : World} {H : Hp} {h : Heap} {a C : Addr} {dx : Option Addr} {o : Obj} {vs : Array Value} (e : h.get? a = some o) (hc : o.cls = .ref C) (hd : o.dict = dx) (hf : o.data = .fields vs) : ObjOk P w H h a (exk a C dx) :=
  ⟨⟨o, vs, e, hc, hd, hf⟩, ⟨o, e⟩, fun _ _ ⟨u, v, q, r⟩ k => ⟨u, v, k u q, r⟩⟩
section
variable {X : Cx} {pins : List (Addr × Obj)} {σ : L2.St} {H : Hp} {s : Shared}
theorem regI {a : Addr} {o : HO} {u : Obj} {vs : Array Value} (I : Inv X pins σ H s) (na : H a = none) (n0 : X.s_0.heap.get? a = none) (hu : s.heap.get? a = some u) (hf : u.data = .fields vs) (nL : a ≠ X.env.locals) (np : ∀ p ∈ X.pn ++ pins, p.1 ≠ a) (new : ObjOk X.prog X.w (upd H a o) s.heap a o) : Inv X pins σ (upd H a o) s := by
  have up : ∀ {b : Addr} {q : HO}, H b = some q → upd H a o b = some q := fun {b q} e => by
    rw [upd_ne (fun z => by rw [z, na] at e; cases e)]; exact e
  refine ⟨I.ok, I.os, I.bare, ?_, I.loc, I.cell, ?_, fun x c hc => ?_, fun p hp => ?_, HOk.laidN I.hok (fun b v q => q) na new, I.len⟩
  · obtain ⟨k1, k2, k3, k4, k5, k6, k7⟩ := I.base
    refine ⟨k1, k2, fun b v e n hx => ?_, k4, fun b xs e => up (k5 b xs e), fun b v xs e => up (k6 b v xs e), fun b ps e => ?_⟩
    · rw [upd_ne (fun z => by rw [z, n0] at e; cases e)]
      exact k3 b v e n hx
    · obtain ⟨more, q⟩ := k7 b ps e
      exact ⟨more, up q⟩
  · rw [upd_ne nL.symm]; exact I.free
  · obtain ⟨v, w, e, d⟩ := I.cell x c hc
    rw [upd_ne (fun z => by rw [z, hu] at e; cases e; rw [hf] at d; cases d)]
    exact I.freeC x c hc
  · obtain ⟨p1, p2, p3, p4, p5⟩ := I.pin p hp
    exact ⟨p1, by rw [upd_ne (np p hp)]; exact p2, p3, p4, p5⟩
theorem new0 {a : Addr} {B : Heap} (I : Inv X pins σ H s) (nb : ∀ b o, s.heap.get? b = some o → b ∉ frs X.stack → B.get? b = some o) (nB : B.get? a = none) (nF : a ∉ frs X.stack) (hx : X.ex = []) : X.s_0.heap.get? a = none ∧ ∀ p ∈ X.pn ++ pins, p.1 ≠ a := by
  have no : s.heap.get? a = none := by
    cases e : s.heap.get? a with
    | none => rfl
    | some o => rw [nb a o e nF] at nB; cases nB
  refine ⟨?_, fun p hp z => ?_⟩
  · cases e : X.s_0.heap.get? a with
    | none => rfl
    | some o =>
      obtain ⟨o', q⟩ := I.base.there a o e (by rw [hx]; exact fun z => nomatch z)
      rw [no] at q; cases q
  · have := (I.pin p hp).1
    rw [z, no] at this; cases this
end
def wKeep (K : PySem.W.Frag) (c : Value) (i : Nat) (ts : Addr → Value → Option Addr → TS) (Wout : WX) (D : Ends) : WX := fun cls d σ H =>
  ∃ b, PySem.W.exmOne K cls c = some b ∧ (b = true → ∀ a, H a = none → ts a cls d { nx := fun σ' H' => ∃ C, cls = .ref C ∧ D.nx (σ'.set i none) (upd H' a (exk a C d)), rt := fun _ _ => False, bk := fun _ _ => False, ct := fun _ _ => False } (σ.set i (some (.ref a))) H) ∧
    (b = false → Wout cls d σ H)
section
variable {X : Cx} {x n : Str} {c : Value} {i : Nat} {body suite : List Stmt} {b₀ : Stmt} {np pos pos' : Pos} {tb : WX → TS} {ts : Addr → Value → Option Addr → TS} {Wout : WX}
theorem ps_try_keep (hx : X.ex = []) (hs : X.stack = X.env :: X.outer) (hf : X.env.frame = some X.env.locals) (hN : X.N.Nodup) (hi : X.N[i]? = some n) (hln : X.env.kindOf n = some .local) (hc : Names X x c) (tk : Takes X Wout)
    (hb : ∀ (W : WX) (pn : List (Addr × Obj)) (xe : Value → Shared → Prop), Takes (X.tr pn xe) W → PassesOwn (model X.prog X.w) X.A X.env xe → PSs (X.tr pn xe) body (tb W))
    (hsu : ∀ (a : Addr) (oe : Obj) (cls : Value) (d : Option Addr) (pn : List (Addr × Obj)), Zc cls d oe → (∃ vs, oe.data = .fields vs) → PSs (X.suite a ((a, oe) :: pn)) (b₀ :: suite) (ts a cls d)) :
    PS X (.Try body [.ExceptHandler (some (.Name x np)) (some n) (b₀ :: suite) pos'] [] [] pos) (fun D σ H => tb (wKeep X.K c i ts Wout D) D σ H) := by
  refine ⟨fun pins s σ H D I h => ?_⟩
  have ok := I.ok
  have hfr : X.A.frames = some (X.env :: X.outer) := by rw [ok.frames, hs]
  -- what the clause does with an exception
  have catch_ : ∀ u s', XE (X.tr (X.pn ++ pins) (fun e s₁ => wpAny (model X.prog X.w) X.A (noteFrame e X.env) (fun _ s₂ => wpAny (model X.prog X.w) X.A (setFlight e none) (fun _ s₃ =>
    wpAny (model X.prog X.w) X.A (handleBy e X.env [.ExceptHandler (some (.Name x np)) (some n) (b₀ :: suite) pos']) (SP X pins D) X.xe s₃) X.xe s₂) X.xe s₁)) (wKeep X.K c i ts Wout D) u s' →
      wpAny (model X.prog X.w) X.A (noteFrame u X.env) (fun _ s₂ => wpAny (model X.prog X.w) X.A (setFlight u none) (fun _ s₃ =>
    wpAny (model X.prog X.w) X.A (handleBy u X.env [.ExceptHandler (some (.Name x np)) (some n) (b₀ :: suite) pos']) (SP X pins D) X.xe s₃) X.xe s₂) X.xe s' := by
    rintro u s' ⟨a, B, sI, pins', σ', H', cls, d, rfl, J', nb, up, sky, na, os, ag, b, hb1, hyes, hno⟩
    have J : Inv X pins σ' H' sI := J'.ofTry ok
    have sky1 : Sky B (X.env :: X.outer) a (Zc cls d) X.env.locals s'.heap := by rw [← hs]; exact sky
    refine Sky.land Zc.steady hfr hf sky1 fun h3 fl3 up3 => ?_
    have J3 : Inv X pins σ' H' { s' with heap := h3 } := J.landed nb fl3.1 (up.trans up3) os ag
    obtain ⟨oe3, vs3, he3, hz3, hd3⟩ := fl3.there
    have far : a ∉ frs (X.env :: X.outer) := fun hm => by
      obtain ⟨_, o', e', hnf⟩ := fl3.2.2.1.mem hm
      rw [he3] at e'; cases e'
      exact hnf _ hd3
    have nL : a ≠ X.env.locals := fun z => far (List.mem_filterMap.mpr ⟨X.env, List.mem_cons_self, by rw [hf, z]⟩)
    have nF : a ∉ X.fs := fun hm => by
      obtain ⟨e, he, q⟩ := List.mem_filterMap.mp hm
      exact far (List.mem_filterMap.mpr ⟨e, List.mem_cons_of_mem _ he, q⟩)
    obtain ⟨n0, npn⟩ := new0 J nb fl3.2.1 (by rw [hs]; exact far) hx
    have S3 := J3.suite he3 hd3 na nL nF
    have LT : PySem.W.Looks (model X.prog X.w) h3 (typeOf (.ref a)) cls := fun A Q E s k q => wpAny_typeOf_ref (k _ _ he3) (by rw [hz3.1]; exact q)
    have LM := PySem.W.exm_one (M := model X.prog X.w) (J3.kIn) LT hb1
    refine wpAny_handleBy_cons (codeAny_handlers_test ?_) (by intro q; cases q)
    have test : ∀ {Q : Value → Shared → Prop} {E : Value → Shared → Prop}, Q c { s' with heap := h3 } → wpAny (model X.prog X.w) (X.A.mark (some (.ref a))) (eval (.Name x np) X.env) Q E { s' with heap := h3 } := fun {Q E} q => by
      obtain ⟨hg, hdbg, hm | ⟨hm, hv, hnn⟩⟩ := hc
      · exact ld_glob (X := X.suite a ((a, oe3) :: (X.pn ++ pins))) S3 hg hm q hdbg
      · exact ld_blt (X := X.suite a ((a, oe3) :: (X.pn ++ pins))) S3 hg hm hv q hnn hdbg
    refine test (LM.here ?_)
    cases b with
    | false =>
      show wpAny _ X.A (handleBy (.ref a) X.env []) _ _ _
      refine wpAny_handleBy_nil ?_
      obtain ⟨_, _, _, oe, vs, T, _, _, he, _, hd, h1, _⟩ := id fl3
      unfold PySem.passOn
      refine wpAny_bind (wpAny_field he hd h1 ?_)
      rw [if_neg (show ¬ ((Value.ref T == Value.none) = true) from by simp)]
      have fin_ : wpAny (model X.prog X.w) X.A (setFlight (.ref a) X.env.frame) (fun _ s4 => wpAny (model X.prog X.w) X.A (throw (.ref a) : Sem PySem.Flow) (SP X pins D) X.xe s4) X.xe { s' with heap := h3 } := by
        rw [hf]
        refine HandSPX.setFlight_upZ fl3 fun h4 hh4 up4 => wpAny_throw (tk _ _ ?_)
        exact ⟨a, B, sI, pins, σ', H', cls, d, rfl, J, nb, (up.trans up3).trans up4, .inr (.inr (by rw [hs]; exact hh4)), na, os, ag, hno rfl⟩
      first
        | exact wpAny_bind (wpAny_pure (wpAny_bind fin_))
        | exact wpAny_bind fin_
    | true =>
      refine codeAny_handlers_suite_as ?_
      refine HandSPX.lands_againZ fl3 fun h4 fl4 up4 => ?_
      have J4 : Inv X pins σ' H' { s' with heap := h4 } := J.landed nb fl4.1 ((up.trans up3).trans up4) os ag
      obtain ⟨oe4, vs4, he4, hz4, hd4⟩ := fl4.there
      have S4 := J4.suite he4 hd4 na nL nF
      refine store_ok (X := X.suite a ((a, oe4) :: (X.pn ++ pins))) (v := .ref a) S4 hN hi (.inl hln) rfl (fun s5 S5 => ?_) (.inr hln)
      refine wpAny_mono ((hsu a oe4 cls d (X.pn ++ pins) hz4 ⟨_, hd4⟩).run [] s5 _ H' _ S5 (hyes rfl a na)) (fun f s6 hsp => ?_) (fun _ _ z => False.elim z)
      cases f with
      | next =>
        obtain ⟨σ6, H6, S6, C, eC, q6⟩ := hsp
        have pa := S6.pin (a, oe4) (List.mem_append_left _ List.mem_cons_self)
        have J6 := S6.unsuite ok
        have K6 : Inv X pins σ6 (upd H6 a (exk a C d)) s6 := regI J6 pa.2.1 n0 pa.1 hd4 nL npn (exk_ok pa.1 (hz4.1.trans eC) hz4.2 hd4)
        exact gone_ok K6 hN hi hln fun s7 J7 => ⟨_, _, J7, q6⟩
      | brk =>
        obtain ⟨_, _, _, q6⟩ := hsp
        exact q6.elim
      | cont =>
        obtain ⟨_, _, _, q6⟩ := hsp
        exact q6.elim
      | ret u =>
        obtain ⟨_, _, _, _, _, q6⟩ := hsp
        exact q6.elim
  refine wpAny_Try_except ?_
  refine wpAny_mono ((hb (wKeep X.K c i ts Wout D) (X.pn ++ pins) _ (fun u s' xx => catch_ u s' xx) PassesOwn.looking).run [] s σ H D (I.toTry _) h) (fun f s1 hsp => ?_) (fun e s1 he => he)
  cases f with
  | next =>
    obtain ⟨σ', H', J', q⟩ := hsp
    exact wpAny_execs_nil ⟨σ', H', J'.ofTry ok, q⟩
  | brk =>
    obtain ⟨σ', H', J', q⟩ := hsp
    exact ⟨σ', H', J'.ofTry ok, q⟩
  | cont =>
    obtain ⟨σ', H', J', q⟩ := hsp
    exact ⟨σ', H', J'.ofTry ok, q⟩
  | ret u =>
    obtain ⟨v, σ', H', J', r, q⟩ := hsp
    exact ⟨v, σ', H', J'.ofTry ok, r, q⟩
end
end DL
set_option Elab.async false
set_option linter.all false
set_option maxRecDepth 100000
set_option maxHeartbeats 2000000
namespace DL
open PySem PySem.Spec PyProof.Rows L2
section
variable {K : PySem.W.Frag} {g : Gh} {H : Hp} {σ : Slots} {s : State}
theorem SD.xdFree (sd : SD K g H σ s) {dd : Addr} {fs : List (Str × V)} (h : H dd = some (.xd fs)) : g.G dd = some (.xd fs) ∨ (Free1 g dd ∧ ¬ Hd σ s dd) := by
  cases q : g.G dd with
  | some o =>
    refine .inl ?_
    rcases sd.gh dd o q with e | ⟨_, ob, e⟩
    · rw [h] at e; cases e; rfl
    · rw [h] at e; cases e
  | none =>
    refine .inr ⟨⟨q, fun m => ?_, fun z => ?_⟩, fun ⟨i, w, e, hw, x⟩ => ?_⟩
    · obtain ⟨i, hi, e⟩ := List.getElem_of_mem m
      have e' : g.η[i]? = some dd := by rw [List.getElem?_eq_getElem hi, e]
      have hs : i < s.sto.length := by rw [sd.stl]; exact hi
      obtain ⟨o, q1, ob⟩ := sd.sto i s.sto[i] dd (List.getElem?_eq_getElem hs) e'
      rw [h] at q1; cases q1
      cases m2 : s.sto[i] with
      | ins C ds => rw [m2] at ob; obtain ⟨_, _, z, _⟩ := ob; cases z
      | lst ds => rw [m2] at ob; obtain ⟨_, z, _⟩ := ob; cases z
      | tab P z => rw [m2] at ob; obtain ⟨_, _, z, _⟩ := ob; cases z
    · obtain ⟨x, l, e, z⟩ := z
      have q1 := sd.dr
      rw [e] at q1
      cases r : s.dr with
      | none => rw [r] at q1; exact False.elim q1
      | some d =>
        rw [r] at q1
        have q1 : DrAt g H x l d := q1
        rcases z with rfl | rfl
        · obtain ⟨c, q2, _⟩ := q1.dict
          rw [h] at q2; cases q2
        · have q2 := q1.list
          rw [h] at q2; cases q2
    · obtain ⟨v, ev, wa⟩ := sd.slot i w e
      rw [x] at ev; cases ev
      exact wa.noTup hw rfl ⟨_, h, .inr ⟨fs, rfl⟩⟩
theorem Ev.freezeXd {g0 : Gh} {H0 : Hp} {σ0 : Slots} {s0 : State} (e : Ev g0 H0 σ0 s0 g H σ s) {dd : Addr} {fs : List (Str × V)} (f : Free1 g dd) (h : H dd = some (.xd fs)) : Ev g0 H0 σ0 s0 (g.frz dd (.xd fs)) H σ s where
  le := e.le.trans (Gh.frz_le f.1)
  keep := e.keep
  live := e.live
  frz := fun b l q => by
    by_cases z : b = dd
    · subst z
      cases y : H0 b with
      | none => exact absurd y l
      | some o =>
        by_cases m : Mu g0 σ0 s0 b
        · exact .inr (.inl m)
        · have y2 := e.keep b o y m
          rw [h] at y2; cases y2
          exact .inr (.inr ⟨_, y, .inr ⟨fs, rfl⟩⟩)
    · have q' : upd g.G dd (.xd fs) b ≠ none := q
      rw [upd_ne z] at q'
      exact e.frz b l q'
  eta := e.eta
  mu := e.mu
  hd := e.hd
  ow := e.ow
  fix := e.fix
  lk := e.lk
  lkl := e.lkl
theorem SD.newExc (sd : SD K g H σ s) {a : Addr} {cls : Value} {d : Option Addr} {x : Ex} (na : H a = none) (ea : ErrAt K g H cls d x) : ∃ g3, SD K g3 (upd H a (exk a x.cls d)) σ s ∧ Ev g H σ s g3 (upd H a (exk a x.cls d)) σ s ∧ Rep K g3 (.ref a) (.exc x.cls x.fs) := by
  obtain ⟨_, ea⟩ := ea
  rcases ea with ⟨ef, rfl⟩ | ⟨dd, fs, rfl, hd, k, r⟩
  · have f1 := sd.free1 na
    refine ⟨g.frz a (exk a x.cls none), (sd.alloc (o := exk a x.cls none) na).freeze f1 (sd.noHd na) upd_same, (sd.allocEv na).freeze f1 na, ?_⟩
    rw [ef]
    exact .exc Gh.frz_at (.inl ⟨rfl, rfl⟩) rfl .nil
  · have ne : dd ≠ a := fun z => by rw [z, na] at hd; cases hd
    rcases sd.xdFree hd with q | ⟨f, nh⟩
    · have f1 := sd.free1 na
      refine ⟨g.frz a (exk a x.cls (some dd)), (sd.alloc (o := exk a x.cls (some dd)) na).freeze f1 (sd.noHd na) upd_same, (sd.allocEv na).freeze f1 na, ?_⟩
      exact .exc Gh.frz_at (.inr ⟨dd, rfl, (Gh.frz_le f1.1).G _ _ q⟩) k (r.mono (Gh.frz_le f1.1))
    · have sd1 := sd.freeze f nh hd
      have ev1 : Ev g H σ s (g.frz dd (.xd fs)) H σ s := Ev.freezeXd .refl f hd
      have f1 := sd1.free1 na
      refine ⟨(g.frz dd (.xd fs)).frz a (exk a x.cls (some dd)), (sd1.alloc (o := exk a x.cls (some dd)) na).freeze f1 (sd1.noHd na) upd_same, ev1.trans ((sd1.allocEv na).freeze f1 na), ?_⟩
      have le := (Gh.frz_le (o := exk a x.cls (some dd)) f1.1)
      exact .exc Gh.frz_at (.inr ⟨dd, rfl, le.G _ _ Gh.frz_at⟩) k ((r.mono (Gh.frz_le f.1)).mono le)
end
end DL
set_option Elab.async false
set_option linter.all false
set_option maxRecDepth 100000
set_option maxHeartbeats 2000000
namespace DL
open PySem PySem.Spec PyProof.Rows L2
section
variable {K : PySem.W.Frag} {g g0 : Gh} {H H0 : Hp} {σ σ0 : Slots} {s s0 : State} {i : Nat}
end
section
variable {X : Cx} {Wx : WX} {x n : Str} {c : Value} {i j : Nat} {body suite : List Stmt} {b₀ : Stmt} {np pos pos' : Pos} {fb : M Flow} {tsu : TS} {mt : Addr → Option Bool}
end
end DL
set_option Elab.async false
set_option linter.all false
set_option maxRecDepth 100000
set_option maxHeartbeats 2000000
namespace DL
open PySem PySem.Spec PyProof.Rows L2
def dRaise (C : Addr) : M Flow := fun s => .err ⟨C, []⟩ s
section
variable {X : Cx} {Wx : WX} {C : Addr} {bmB : List Value} {B newId initId : String}
theorem ds_raise {x m : Str} {j : Nat} {p p2 pos pos' : Pos} (hc : X.calm = true) (tk : Takes X Wx) (F : ExcBaseFacts B newId initId bmB) (q : PySem.W.excIn X.K C bmB newId = true) (gC : X.mg x = some (.ref C)) (kC : PySem.W.keepIn X.K (.ref C) = true) (r : Raises X (.ref C)) (hg : Gl X x)
    (hdb : (x == ("__debug__" : Str)) = false := by decide) : DS X Wx (.Raise (some (.Call (.Name x p) [.Constant (.str m) j p2] [] pos)) none pos') (dRaise C) :=
  ⟨fun pins s σ H D I h => (ps_raise hc tk (pmk_own F q gC kC r hg hdb)).run pins s σ H D I (by
    obtain ⟨g, st, sd, k⟩ := h
    exact k (.ref C) none σ g H sd .refl ⟨rfl, .inl ⟨rfl, rfl⟩⟩)⟩
end
end DL
set_option Elab.async false
set_option linter.all false
set_option maxRecDepth 100000
set_option maxHeartbeats 2000000
namespace DL
open PySem PySem.Spec PyProof.Rows L2
section
variable {X : Cx} {Wx : WX} {x n m : Str} {c : Value} {i j k : Nat} {body : List Stmt} {np p1 p2 pos pos1 pos' : Pos} {fb : M Flow} {mt : Addr → Option Bool}
theorem Bd.tr (b : Bd X Wx k) {W : WX} {pn : List (Addr × Obj)} {xe : Value → Shared → Prop} (t : Takes (X.tr pn xe) W) (o : PassesOwn (model X.prog X.w) X.A X.env xe) : Bd (X.tr pn xe) W k := ⟨b.calm, b.room, t, o, b.nd⟩
theorem suite_keep (hN : X.N.Nodup) (hi : X.N[i]? = some n) (hv : Vis X.env.scope n) (hj : X.N[j]? = some m) (hl : Loc X.env.scope m) (hf : X.fn m = true ∨ X.env.scope.names.lookup m = some .local) (hd : (n == ("__debug__" : Str)) = false) (hcd : (n == ("__classdict__" : Str)) = false)
    (hs : swapsWithSole [.Name m p1] (.Name n p2) pos1.line X.env = pure false) (hw : swappedStores [.Name m p1] (.Name n p2) X.env = pure none) (h1 : (assignEach [.Name m p1] X.env).map (·.2) = [assign (.Name m p1) X.env]) (a : Addr) (oe : Obj) (pn : List (Addr × Obj)) :
    PSs (X.suite a ((a, oe) :: pn)) [.Assign [.Name m p1] (.Name n p2) pos1] (tSeq (tAsg (tVar i) (gName j)) tNext) :=
  pss_cons (ps_asg (pe_var (X := X.suite a ((a, oe) :: pn)) hi hv hd hcd) (pg_name (X := X.suite a ((a, oe) :: pn)) hN hj hl hf) hs hw h1) pss_nil
end
end DL
set_option Elab.async false
set_option linter.all false
set_option maxRecDepth 100000
set_option maxHeartbeats 2000000
namespace DL
open PySem PySem.Spec PyProof.Rows L2
structure ExcK (K : PySem.W.Frag) (C : Addr) : Prop where
  cl : (PySem.W.clsIn K C).isSome = true
  ga : PySem.W.findIn K (.ref C) "__getattribute__" = some (some (.builtin "BaseException.__getattribute__"))
  gt : PySem.W.findIn K (.ref C) "__getattr__" = some none
  sub : PySem.W.subIn K (.ref C) (.type "BaseException") = some true
  at_ : PySem.W.findIn K (.ref C) "__class__" = some (some (.builtin "object.__class__"))
  sp : PySem.W.specialIn K (.builtin "object.__class__") "__get__" = some (some (.builtin "getset_descriptor.__get__"))
  tk : PySem.W.takesIn K (.builtin "object.__class__") = some true
  mro : PySem.W.mroIn K C (.type "object") = some true
def rIsiX (K : PySem.W.Frag) : List V → Hp → VK → Prop := fun xs H Q => ∃ (a C : Addr) (dx : Option Addr) (fs : List (Str × V)) (c : V) (u : Value) (b : Bool), xs = [.ref a, c] ∧ ClsV c u ∧ H a = some (exk a C dx) ∧ XdAt H dx fs ∧ ExcK K C ∧ PySem.W.kitOne K (.ref C) u = some b ∧ Q (.bl b) H
theorem call_isiX {X : Cx} : CallR X (.builtin "isinstance") (rIsiX X.K) := by
  intro pins s σ H xs us Q I r h
  obtain ⟨a, C, dx, fs, c, u, b, rfl, k, ea, xd, ek, e, q⟩ := h
  obtain ⟨u1, u2, rfl, r1, r2⟩ := vals2 r
  have e2 := k.eq r2
  subst e2
  cases (show u1 = Value.ref a from r1)
  obtain ⟨⟨o, vs, e1, e3, e4, e5⟩, _, _⟩ := I.hok a _ ea
  have no : PySem.W.notCls o = true := by unfold PySem.W.notCls; rw [e5]
  have at_ : ∃ od, PySem.W.InstAt s.heap a o C od := by
    rcases xd with ⟨rfl, _⟩ | ⟨dd, rfl, hd⟩
    · exact ⟨none, e1, e3, no, by rw [e4]; trivial⟩
    · obtain ⟨mA, ⟨od, es, ep, ho, _⟩, _⟩ := I.hok dd _ hd
      exact ⟨some od, e1, e3, no, by rw [e4]; exact ho⟩
  obtain ⟨od, at_⟩ := at_
  exact PySem.W.kia_one (PySem.W.kitx_exc (od := od) ek.cl ek.ga ek.gt ek.sub ek.at_ ek.sp ek.tk ek.mro) I.kIn at_ e (fun z => nomatch z) fun tk => ⟨.bl b, H, I.tok tk, rfl, q⟩
def isX (ct : Addr → Option Bool) : D → Option T
  | .exc C _ => (ct C).map fun b => .fz (.bl b)
  | .non => some (.fz (.bl false))
  | _ => none
def dIsX (ct : Addr → Option Bool) (fa : M VR) : M T := fa >>= fun x => readV x >>= fun d => opt (isX ct d)
section
variable {X : Cx} {Wx : WX} {e : Expr} {fa : M VR} {p p1 pos : Pos} {x1 : Str} {C1 : Addr} {ct : Addr → Option Bool}
theorem de_isX (ha : DV X Wx e fa) (hg : Gl X "isinstance") (hm : X.mg "isinstance" = none) (hg1 : Gl X x1) (hm1 : X.mg x1 = some (.ref C1)) (hk : ∀ C b, ct C = some b → ExcK X.K C ∧ PySem.W.kitOne X.K (.ref C) (.ref C1) = some b) (hn : PySem.W.kitOne X.K (.type "NoneType") (.ref C1) = some false) (hd1 : (x1 == ("__debug__" : Str)) = false := by decide)
    (hs1 : starEach [e, .Name x1 p1] X.env = (false, eval e X.env) :: starEach [.Name x1 p1] X.env := by rfl) (hs2 : starEach [.Name x1 p1] X.env = (false, eval (.Name x1 p1) X.env) :: starEach [] X.env := by rfl)
    (hpl : (backTo pos (starEach [.Name x1 p1] X.env)).any (·.1) = false := by rfl) :
    DE X Wx (.Call (.Name "isinstance" p) [e, .Name x1 p1] [] pos) (dIsX ct fa) := by
  have both : CallR X (.builtin "isinstance") (fun xs H Q => rIsi X.K xs H Q ∨ rIsiX X.K xs H Q) := fun pins s σ H xs us Q I r h => h.elim (call_isi pins s σ H xs us Q I r) (call_isiX pins s σ H xs us Q I r)
  refine ⟨fun pins s σ H Q I q => (pe_callB both hg hm (by decide +kernel) (pa_cons ha (pa_cons (pe_glob (v := .ref C1) hg1 hm1 rfl hd1) pa_nil hs2) hs1) (by decide) (by decide) hs1 hpl).run pins s σ H Q I ?_⟩
  obtain ⟨g, s, c⟩ := q.start
  show tV X.K Wx fa σ H _
  refine c.bind.mono fun x H1 ⟨x', g1, s1, c1, r1, e1⟩ => ?_
  obtain ⟨d, c3, v1⟩ := c1.read r1
  cases q : isX ct d with
  | none => exact (c3.notBad (by rw [q]; rfl)).elim
  | some t =>
    have f := c3.fin (t := t) (by rw [q]; rfl)
    unfold isX at q
    split at q
    · rename_i C fs
      cases qc : ct C with
      | none => rw [qc] at q; cases q
      | some b =>
        rw [qc] at q; cases q
        obtain ⟨k1, k2⟩ := hk C b qc
        cases v1.sc (fun _ z => z) with
        | exc ga xd ek rr =>
          have ea := c1.sd.here ga rfl
          have xh : XdAt H1 _ _ := xd.elim .inl fun ⟨dd, e, h⟩ => .inr ⟨dd, e, c1.sd.here h rfl⟩
          exact .inr ⟨_, C, _, _, .ref C1, .ref C1, b, rfl, .own C1, ea, xh, k1, k2, f.fz c1.sd (.bl b)⟩
    · cases q
      cases v1.non
      exact .inl ⟨.non, .ref C1, .type "NoneType", .ref C1, false, rfl, .own C1, .base .non, hn, f.fz c1.sd (.bl false)⟩
    · cases q
end
end DL
set_option Elab.async false
set_option linter.all false
set_option maxRecDepth 100000
set_option maxHeartbeats 2000000
namespace DL
open PySem PySem.Spec PyProof.Rows L2
section
variable {X : Cx} {Wx : WX} {e : Expr} {fa : M VR} {pos : Pos} {n : Str} {cs : Addr → Bool}
end
end DL
set_option Elab.async false
set_option linter.all false
set_option maxRecDepth 100000
set_option maxHeartbeats 2000000
namespace DL
open PySem PySem.Spec PyProof.Rows L2
section
variable {X : Cx} {pins : List (Addr × Obj)} {σ : L2.St} {H : Hp} {s : Shared}
theorem lam_makeC {c P : Addr} {params : Arguments} {body : Expr} {scope : Scope} {pos : Pos} {ps : Array Value} {E : Value → Shared → Prop} {Q : Value → Shared → Prop} (I : Inv X pins σ H s) (TB : LamX.TabB X.base X.mg c P) (hcode : X.env.code = .ref c)
    (hP : H P = some (.tbl ps)) (ht : TriplesOk ps.toList) (ha : ∀ (pos : Pos) (cv : Value), codeAmong pos ps.toList = some cv → ∃ c', cv = .ref c' ∧ H c' = some (LamX.CodeO c' (X.env.qual ++ "<lambda>")))
    (hdef : defaultsOf params X.env = ([], [])) (hfree : ∀ y ∈ scope.names, y.2 = .free → ∃ c, X.env.cells.lookup y.1 = some c)
    (h : ∀ (f c' : Addr) (pm ctv : Value) (H1 : Hp) (s' : Shared), Inv X pins σ H1 s' → LamMade H P (X.env.qual ++ "<lambda>") ps c' H1 →
      s'.heap.get? f = some (PySem.W.kla_obj "<lambda>" (X.env.qual ++ "<lambda>") params body scope (cloFrom X.env.cells scope.names []) pm c' ctv) → H1 f = none → f ∉ frs X.stack → Q (.ref f) s') :
    wpAny (model X.prog X.w) X.A (eval (.Lambda params body scope pos) X.env) Q E s := by
  refine PySem.W.kla_eval hdef ?_
  have bP : s.heap.BuiltinsAt X.mg P := TB.bm.keeps I.bk
  have hP' : s.heap.get? P = some { cls := .none, data := .fields ps } := I.hok P _ hP
  have nofr : ∀ f, s.heap.objs.size ≤ f → f ∉ frs X.stack := fun f hf z => by
    rcases List.mem_cons.mp (I.stkSub _ z) with e | e
    · have h1 := I.lt
      rw [← e] at h1
      exact Nat.lt_irrefl _ (Nat.lt_of_lt_of_le h1 hf)
    · exact I.nofs hf e
  cases hc : codeAmong pos ps.toList with
  | none =>
    refine PySem.W.kla_makeFunction (mg := X.mg) (c := c) (P := P) (ps := ps) (closure_ok hfree) I.ok.glob (I.mod.glob.keeps I.bk) hcode (TB.code.keeps I.bk) hP' ht hc TB.gP bP fun c' ctv h' tk hx hge hlt hrec htb => ?_
    obtain ⟨c2, oc, vs, t, e2, hoc, hd, hv⟩ := hrec
    cases e2
    have hsz : s.heap.objs.size ≤ h'.objs.size := Nat.le_trans hge (Nat.le_of_lt hlt)
    have nC : H c' = none := I.hok.fresh hge
    have I1 := LamX.inv_table (t' := tk) (more := #[rawInt pos.line, rawInt pos.col, .ref c']) (h' := h'.push (PySem.W.kla_obj "<lambda>" (X.env.qual ++ "<lambda>") params body scope (cloFrom X.env.cells scope.names []) ((X.mg "__name__").getD .none) c' ctv)) I hP
      (fun b o hb e => Heap.get?_push_of_some _ (hx b o hb e)) (Heap.get?_push_of_some _ htb) hge ⟨oc, vs, t, Heap.get?_push_of_some _ hoc, hd, hv⟩
    have nPc : c' ≠ P := fun z => by rw [z, hP] at nC; cases nC
    refine h h'.objs.size c' ((X.mg "__name__").getD .none) ctv _ _ I1 (.inr ⟨pos, nC, nPc, rfl⟩) (Heap.get?_push_size _ rfl) ?_ (nofr _ hsz)
    have n1 : h'.objs.size ≠ c' := Nat.ne_of_gt hlt
    have n2 : h'.objs.size ≠ P := Nat.ne_of_gt (Nat.lt_of_lt_of_le (Heap.lt_size hP') hsz)
    rw [upd_ne n1, upd_ne n2]
    exact I.hok.fresh hsz
  | some cv =>
    obtain ⟨c', e, hco⟩ := ha pos cv hc
    subst e
    refine PySem.W.kla_makeFunctionHit (mg := X.mg) (c := c) (P := P) (ps := ps) (closure_ok hfree) I.ok.glob (I.mod.glob.keeps I.bk) hcode (TB.code.keeps I.bk) hP' ht hc bP fun ctv h' tk hx hsz => ?_
    have I1 : Inv X pins σ H { s with heap := h'.push (PySem.W.kla_obj "<lambda>" (X.env.qual ++ "<lambda>") params body scope (cloFrom X.env.cells scope.names []) ((X.mg "__name__").getD .none) c' ctv), toks := tk } := I.kept fun b o e => Heap.get?_push_of_some _ (hx b o e)
    exact h h'.objs.size c' ((X.mg "__name__").getD .none) ctv H _ I1 (.inl ⟨hco, rfl⟩) (Heap.get?_push_size _ rfl) (I.hok.fresh hsz) (nofr _ hsz)
end
section
variable {K : PySem.W.Frag} {g g' : Gh} {H H' : Hp} {σ σ' τ : Slots} {s sc : State}
def oneSt (n j : Nat) (d : D) (s : State) : State := { env := (List.replicate n none).set j (some (.fz d)), sto := s.sto, dr := s.dr }
theorem oneSt_get {n j i : Nat} {d : D} {w : W} (h : (oneSt n j d s).env[i]? = some (some w)) : i = j ∧ w = .fz d := by
  have h : ((List.replicate n (none : Option W)).set j (some (.fz d)))[i]? = some (some w) := h
  rw [List.getElem?_set] at h
  split at h
  · rename_i e
    split at h
    · cases h; exact ⟨e.symm, rfl⟩
    · cases h
  · rw [List.getElem?_replicate] at h
    split at h <;> cases h
theorem SD.one (sd : SD K g H σ s) {n j : Nat} {d : D} {v : V} (hl : τ.length = n) (hv : τ[j]? = some (some v)) (r : Rep K g v d) : SD K g H τ (oneSt n j d s) where
  gh := sd.gh
  len := by
    show ((List.replicate n (none : Option W)).set j (some (.fz d))).length = _
    rw [List.length_set, List.length_replicate, hl]
  slot := fun i w e => by
    obtain ⟨rfl, rfl⟩ := oneSt_get e
    exact ⟨v, hv, r⟩
  inj := fun i k w u a e1 e2 h1 => by
    obtain ⟨_, rfl⟩ := oneSt_get e1
    cases h1
  stl := sd.stl
  sto := sd.sto
  nd := sd.nd
  ng := sd.ng
  dr := sd.dr
theorem SD.back0 {n j : Nat} {d : D} (sd : SD K g H σ s) (sdc : SD K g' H' σ' sc) (ev : Ev g H τ (oneSt n j d s) g' H' σ' sc) :
    SD K g' H' σ { env := s.env, sto := sc.sto, dr := sc.dr } ∧ Ev g H σ s g' H' σ { env := s.env, sto := sc.sto, dr := sc.dr } ∧ (∀ a, ¬ OwnA τ (oneSt n j d s) a) ∧ ∀ a, Hd σ { env := s.env, sto := sc.sto, dr := sc.dr } a → Hd σ s a := by
  have muIn : ∀ a, Mu g τ (oneSt n j d s) a → a ∈ g.η ∨ IsDr g a := fun a m => by
    rcases m with ⟨i, w, e, m, _⟩ | m
    · obtain ⟨_, rfl⟩ := oneSt_get e; cases m
    · exact m
  have muUp : ∀ a, Mu g τ (oneSt n j d s) a → Mu g σ s a := fun a m => .inr (muIn a m)
  have hdUp : ∀ a, Hd σ { env := s.env, sto := sc.sto, dr := sc.dr } a → Hd σ s a := fun a h => h
  have noOwn : ∀ a, ¬ OwnA τ (oneSt n j d s) a := fun a ⟨i, x, h, _⟩ => by
    rcases h with h | h
    · have := (oneSt_get h).2; cases this
    · have := (oneSt_get h).2; cases this
  refine ⟨⟨sdc.gh, sd.len, fun i w hi => ?_, fun i j w u a h1 h2 h3 h4 h5 h6 => sd.inj i j w u a h1 h2 h3 h4 h5 h6, sdc.stl, sdc.sto, sdc.nd, sdc.ng, sdc.dr⟩,
    ⟨ev.le, fun a ob h nm => ev.keep a ob h fun m => nm (muUp a m), ev.live, fun a l z => (ev.frz a l z).imp id (Or.imp (muUp a) id), ev.eta, fun a m => ?_, fun a m => .inl (hdUp a m), fun a m => .inl m, fun i x h => ⟨rfl, x, .inl h⟩, fun i x h => ⟨rfl, h⟩, fun i x h => ⟨rfl, h⟩⟩, noOwn, hdUp⟩
  · have hi : s.env[i]? = some (some w) := hi
    obtain ⟨v, ev', wa⟩ := sd.slot i w hi
    have nm : ∀ b, v = .ref b → w.held = true → Free1 g b → ¬ Mu g τ (oneSt n j d s) b := fun b eb hw f m => by
      rcases muIn b m with m | m
      · exact f.2.1 m
      · exact f.2.2 m
    have nt : ∀ b, v = .ref b → w.held = true → ¬ IsTup H b := fun b eb hw => wa.noTup hw eb
    have fr : ∀ b, v = .ref b → w.held = true → H b ≠ none → Free1 g b → Free1 g' b := fun b eb hw lv f => by
      refine ⟨?_, fun z => f.2.1 (ev.eta b lv z), fun z => f.2.2 (z.eq ev.le.dr)⟩
      cases q : g'.G b with
      | none => rfl
      | some ob => exact ((ev.frz b lv (by rw [q]; simp)).elim (fun z => z f.1) fun z => z.elim (nm b eb hw f) (nt b eb hw)).elim
    refine ⟨v, ev', ?_⟩
    have free : w.held = true → ∀ b, v = .ref b → Free1 g b := fun hw b eb => by
      cases w with
      | fz d => cases hw
      | own d => obtain ⟨c, _, ec, f, _⟩ := wa; rw [ec] at eb; cases eb; exact f
      | lent d => obtain ⟨c, _, ec, f, _⟩ := wa; rw [ec] at eb; cases eb; exact f
      | lk d => obtain ⟨c, _, ec, f, _⟩ := wa; rw [ec] at eb; cases eb; exact f
      | lkl d => obtain ⟨c, _, ec, f, _⟩ := wa; rw [ec] at eb; cases eb; exact f
    refine wa.keep ev.le (fun b u eb hw h => ev.keep b u h (nm b eb hw (free hw b eb))) fun b eb hw f => fr b eb hw (sd.hdLive ⟨i, w, hi, hw, by rw [ev', eb]⟩) f
  · rcases m with ⟨i, w, h1, h2, h3⟩ | m
    · exact .inl (.inl ⟨i, w, h1, h2, h3⟩)
    · rcases ev.mu a (.inr m) with z | z
      · exact .inl (muUp a z)
      · exact .inr z
end
def endR (s : State) : Rs Flow → Rs T
  | .ok (.rt t) sc => .ok t { env := s.env, sto := sc.sto, dr := sc.dr }
  | .ok .nx sc => .ok (.fz .non) { env := s.env, sto := sc.sto, dr := sc.dr }
  | .ok _ _ => .bad
  | .err x sc => .err x { env := s.env, sto := sc.sto, dr := sc.dr }
  | .bad => .bad
def dLamG (nt : Nat) (P : Addr) (q : Str) (n j : Nat) (mt : Addr → Option Bool) (fr : M Flow) (fb : M T) : M T := fun s =>
  if isTab s nt P q = true then (match fb s with
    | .ok _ s1 => endR s1 (fr (oneSt n j .non s1))
    | .err x s1 => (match mt x.cls with
      | some true => endR s1 (fr (oneSt n j (.exc x.cls x.fs) s1))
      | _ => .bad)
    | .bad => .bad) else .bad
def RestOk (prog : Program) (wd : World) (K : PySem.W.Frag) (mg : Str → Option Value) (base : Heap) (N : List Str) (qual : Str) (sc : Scope) (f : Addr) (cdv : Value) (k : Nat) (rest : List Stmt) (fr : M Flow) : Prop :=
  ∀ (A : Around) (outer : List Env) (s : Shared) (H : Hp) (E : XK) (X : Cx), X = cxOf (L2.CX prog wd) prog wd K mg base N qual sc f cdv A outer s H E → Bd X (fun cls d _ H' => E cls d H') k → DSs X (fun cls d _ H' => E cls d H') rest fr
section
variable {K : PySem.W.Frag} {Wx : WX} {g0 g : Gh} {H0 H : Hp} {σ τ : Slots} {s0 s1 : State} {Q : V → Hp → Prop} {fr : M Flow} {n j : Nat} {d : D} {v : V} {Hq : Hp}
theorem rest_run (c : Cur K Wx σ (fun g H s v t => RT K Hq g H σ s v t) Q g0 H0 s0 (endR s1 (fr (oneSt n j d s1))) g H s1) (lv : ∀ a, Hq a ≠ none → H a ≠ none) (hl : τ.length = n) (hv : τ[j]? = some (some v)) (r : Rep K g v d) :
    tS K (fun cls dd _ H' => Wx cls dd σ H') fr { nx := fun _ H' => Q .non H', rt := Q, bk := fun _ _ => False, ct := fun _ _ => False } τ H := by
  refine ⟨g, _, c.sd.one hl hv r, ?_⟩
  have p := c.post
  cases q : fr (oneSt n j d s1) with
  | bad => rw [q] at p; exact p
  | err x sc =>
    rw [q] at p
    intro cls dd σ' g' H' sdc ev er
    obtain ⟨k1, k2, _⟩ := c.sd.back0 sdc ev
    exact p cls dd g' H' k1 (c.ev.trans k2) er
  | ok fl sc =>
    rw [q] at p
    cases fl with
    | bk => exact p.elim
    | ct => exact p.elim
    | nx =>
      intro σ' g' H' sdc ev
      obtain ⟨k1, k2, _⟩ := c.sd.back0 sdc ev
      exact p .non g' H' k1 (c.ev.trans k2) ⟨.non, fun _ _ z => nomatch z⟩
    | rt t =>
      intro v σ' g' H' sdc ev rr
      obtain ⟨k1, k2, k3, k4⟩ := c.sd.back0 sdc ev
      refine p v g' H' k1 (c.ev.trans k2) (RT.past lv ⟨rr.at_, fun d a h1 h2 => ?_⟩)
      have hn : H a = none := ((rr.new d a h1 h2).1).elim id fun z => (k3 a z).elim
      exact ⟨hn, fun z => c.sd.hdLive (k4 a z) hn⟩
end
end DL
set_option Elab.async false
set_option linter.all false
set_option maxRecDepth 100000
set_option maxHeartbeats 2000000
namespace DL
open PySem PySem.Spec PyProof.Rows L2
open LamX (LamS lamEnv lamCx CodeO TabB)
section
variable {X : Cx} {pins : List (Addr × Obj)} {σ : L2.St} {H : Hp} {s : Shared}
theorem pe_actD {E0 : XK} {Ng : List Str} {qg : Str} {sg : Scope} {fg f c' : Addr} {cdg pm ctv : Value} {params : Arguments} {body : Expr} {scope : Scope} {k : Nat} {a : Str} {pn : List (Addr × Obj)} {xe : Value → Shared → Prop} {W : WX} {tb : XK → TE} {p1 p2 : Pos}
    (I : Inv X pins σ H s) (L : LamS X.env.scope scope) (hf : s.heap.get? f = some (PySem.W.kla_obj "<lambda>" (X.env.qual ++ "<lambda>") params body scope (cloFrom X.env.cells scope.names []) pm c' ctv)) (fresh : H f = none ∧ f ∉ frs X.stack)
    (hbind : bindArgs (PySem.W.kla_fn "<lambda>" (X.env.qual ++ "<lambda>") params body scope (cloFrom X.env.cells scope.names []) pm (.ref c') ctv) ⟨[], []⟩ = pure [])
    (tk : Takes ((cxOf (L2.CX X.prog X.w) X.prog X.w X.K X.mg X.base Ng qg sg fg cdg X.A X.stack s H E0).tr pn xe) W) (room : Room (k + 1) (X.A.deeper (envOfC qg sg s.heap.objs.size fg cdg)))
    (reads : ∀ (A : Around) (outer : List Env) (sz : Shared) (Hz : Hp) (E : XK), Room k (A.deeper (lamEnv X scope sz.heap.objs.size f c')) → PE (lamCx X A outer sz Hz E scope f c') body (tb E))
    (h0 : Ng[0]? = some a) (hv : Vis sg a) (hd : (a == ("__debug__" : Str)) = false) (hcd : (a == ("__classdict__" : Str)) = false) :
    PE ((cxOf (L2.CX X.prog X.w) X.prog X.w X.K X.mg X.base Ng qg sg fg cdg X.A X.stack s H E0).tr pn xe) (.Call (.Name a p1) [] [] p2)
      (fun τ Hz Q => τ[0]? = some (some (.ref f)) ∧ Hz c' = some (CodeO c' (X.env.qual ++ "<lambda>")) ∧ tb (fun cls d H' => W cls d τ H') σ Hz Q) where
  run := by
    rintro pinsZ sz τ Hz Q IZ ⟨slot0, code, want⟩
    refine wpAny_Call_Name_kw (thn ((pe_var (pos := p1) (i := 0) h0 hv hd hcd).run pinsZ sz τ Hz (fun v H1 => v = .ref f ∧ H1 = Hz) IZ ⟨_, slot0, rfl, rfl⟩) ?_)
    rintro u s1 ⟨_, _, I1, r1, rfl, rfl⟩
    rename_i H1
    obtain rfl : u = Value.ref f := r1
    have here := I1.base.keep f _ hf fresh.1 fresh.2 (List.not_mem_nil (a := f))
    have since : Un (frs X.stack) [] H H1 s.heap s1.heap := I1.base
    have coded : ∃ (oc : Obj) (vs : Array Value) (t : Tok), s1.heap.get? c' = some oc ∧ oc.data = .fields vs ∧ vs[1]? = some (.str (X.env.qual ++ "<lambda>") t) := (I1.hok c' _ code).1
    have ran : codeAny (model X.prog X.w) (X.A.deeper (envOfC qg sg s.heap.objs.size fg cdg)) (.call (.ref f) ⟨[], []⟩) (CR (L2.CX X.prog X.w) (envOfC qg sg s.heap.objs.size fg cdg :: X.stack) X.prog X.w H1 s1 Q (fun cls d H' => W cls d τ H')) s1 := by
      obtain ⟨oc, vs, t, b1, b2, b3⟩ := coded
      refine PySem.W.kla_callFunE room.depth here rfl L.co L.gen rfl ⟨c', oc, vs, t, rfl, b1, b2, b3⟩ ?_
      rw [hbind]
      refine wpAny_pure (wpAny_newFunctionEnv (fun y hy => (L.own y hy).2) (fun y hy => (List.not_mem_nil hy).elim) (fun h1 ns fr => ⟨I1.nolimit.fresh _ fr, ?_⟩) L.kind)
      have J := LamX.lam_start2 (A := X.A.deeper (envOfC qg sg s.heap.objs.size fg cdg)) (outer := envOfC qg sg s.heap.objs.size fg cdg :: X.stack) (E := fun cls d H' => W cls d τ H') (f := f) (c' := c') (h₁ := h1) (tk := s1.toks + ([] : List (Str × Value)).length) I L I1.env0 room.old.hd since ns
        fun b o z => fr.extBut b o (Nat.ne_of_lt (Heap.lt_size z)) (Heap.get?_push_of_some _ z)
      show codeAny _ _ (.expr body (lamEnv X scope s1.heap.objs.size f c')) _ _
      refine PySem.W.kla_codeExpr (wpAny_mono ((reads _ _ s1 H1 _ (room.deeper _)).run [] _ _ H1 Q J want) ?_ fun e s' z => z)
      rintro v s' ⟨w', H', J', rv, q⟩
      exact ⟨w', H', J'.os, J'.bare, J'.base, J'.hok, rv, q⟩
    refine PySem.W.callWith_F0 ⟨_, _, _, _, here⟩ (wpAny_call (codeAny_mono ran ?_))
    · intro res s2 out
      match res, out with
      | .error er, out => exact tk er s2 (XE.of_call I1 (fun cls d H' h => h) out)
      | .ok (.ret u2), out => exact I1.after out
      | .ok .next, out => exact out.elim
      | .ok .brk, out => exact out.elim
      | .ok .cont, out => exact out.elim
end
section
variable {X : Cx} {Wx : WX}
theorem de_lamG {nt k n i j ja : Nat} {c P fg : Addr} {cX cdv : Value} {x a m nE xe q : Str} {stg : Stmt} {fd : FuncData} {Ng : List Str} {rest : List Stmt} {fr : M Flow} {fb : M T} {mt : Addr → Option Bool} {pa1 pa2 pa3 p1 p2 p3 p4 p5 p6 p7 p8 np p lpos pos : Pos}
    {params : Arguments} {body : Expr} {scope : Scope} (hm : X.mg x = some (.ref fg)) (Fg : DFn X.K x x stg fg fd cdv) (Sg : FnScope Ng [a] (defScope stg)) (hb : Binds X.K fd [a] [])
    (hbd : defBody stg = .Assign [.Name m pa1] (.Constant .none ja pa2) pa3 :: .Try [.Expr (.Call (.Name a p1) [] [] p2) p3] [.ExceptHandler (some (.Name xe np)) (some nE) [.Assign [.Name m p4] (.Name nE p5) p6] p7] [] [] p8 :: rest)
    (hn : Ng.length = n) (h0 : Ng[0]? = some a) (hi : Ng[i]? = some nE) (hj : Ng[j]? = some m) (i0 : i ≠ 0) (j0 : j ≠ 0) (ij : i ≠ j) (hva : Vis (defScope stg) a) (hvn : Vis (defScope stg) nE) (hlm : Loc (defScope stg) m) (hln : (defScope stg).names.lookup nE = some .local)
    (hge : (defScope stg).names.lookup xe = some .globalImplicit) (hme : X.mg xe = some cX) (hde : (xe == ("__debug__" : Str)) = false) (hmt : ∀ C b, mt C = some b → PySem.W.exmOne X.K (.ref C) cX = some b)
    (hR : RestOk X.prog X.w X.K X.mg X.base Ng x (defScope stg) fg cdv k rest fr)
    (TB : TabB X.base X.mg c P) (hcode : X.env.code = .ref c) (hq : q = X.env.qual ++ "<lambda>") (room : Room (k + 2) X.A) (tk : Takes X Wx) (nd : X.N.Nodup) (L : LamS X.env.scope scope) (hdef : defaultsOf params X.env = ([], []))
    (hbind : ∀ (q : Str) (cl : List (Str × Addr)) (pm cv ctv : Value), bindArgs (PySem.W.kla_fn "<lambda>" q params body scope cl pm cv ctv) ⟨[], []⟩ = pure [])
    (hbody : ∀ (A : Around) (outer : List Env) (s : Shared) (H : Hp) (E : XK) (f c' : Addr) (Y : Cx), Y = lamCx X A outer s H E scope f c' → Bd Y (fun cls d _ H' => E cls d H') k → DE Y (fun cls d _ H' => E cls d H') body fb)
    (hg : Gl X x := by rfl) (hdb : (x == ("__debug__" : Str)) = false := by decide) (hda : (a == ("__debug__" : Str)) = false := by decide) (hcda : (a == ("__classdict__" : Str)) = false := by decide)
    (hdn : (nE == ("__debug__" : Str)) = false := by decide) (hcdn : (nE == ("__classdict__" : Str)) = false := by decide) :
    DE X Wx (.Call (.Name x p) [.Lambda params body scope lpos] [] pos) (dLamG nt P q n j mt fr fb) := by
  subst hq
  refine ⟨fun pins s σ H Q I h => ?_⟩
  obtain ⟨g, st, cu⟩ := h.start
  have ht : isTab st nt P (X.env.qual ++ "<lambda>") = true := by
    by_cases z : isTab st nt P (X.env.qual ++ "<lambda>") = true
    · exact z
    · exact (cu.notBad (if_neg z)).elim
  have tabE := isTab_eq ht
  obtain ⟨eta, ps, hP, tri, told⟩ := cu.sd.tab tabE
  refine wpAny_Call_Name_kw (ld_glob I hg hm ?_ hdb)
  refine PySem.W.callWith_K (h₀ := X.base) I.ok.mod.kin Fg.kp ?_ (by rfl) (by rfl)
  show wpAny _ _ (spliced ((false, eval (.Lambda params body scope lpos) X.env) :: backTo pos (starEach [] X.env))) _ _ s
  refine Calls.spliced_cons (lam_makeC I TB hcode hP tri (fun pos cv hcv => ?_) hdef (L.has I.ok) fun f c' pm ctv H1 s1 I1 made hf hfn hfr => ?_)
  · obtain ⟨c0, e1, e2⟩ := told pos cv hcv
    exact ⟨c0, e1, cu.sd.here e2 rfl⟩
  refine Calls.spliced_nil ⟨I1.kIn, ?_⟩
  obtain ⟨g1, sd1, ev1, hco⟩ := cu.sd.lamMade tabE hP made
  obtain ⟨oc, od, dV, kV, doc, pm', an, ct, osl, rfl, lk, hcg⟩ := Fg.ex
  -- the caller's wishes, at the lambda's call
  have c1 : Cur X.K Wx σ (fun g H' s v t => RT X.K H g H' σ s v t) Q g H st (dLamG nt P (X.env.qual ++ "<lambda>") n j mt fr fb st) g1 H1 st := ⟨cu.ev.trans ev1, sd1, cu.post⟩
  have e0 : dLamG nt P (X.env.qual ++ "<lambda>") n j mt fr fb st = (match fb st with
      | .ok _ s1 => endR s1 (fr (oneSt n j .non s1))
      | .err x s1 => (match mt x.cls with
        | some true => endR s1 (fr (oneSt n j (.exc x.cls x.fs) s1))
        | _ => .bad)
      | .bad => .bad) := if_pos ht
  rw [e0] at c1
  let E : XK := fun cls d H' => Wx cls d σ H'
  have rc : codeAny (model X.prog X.w) X.A (.call (.ref fg) ⟨[.ref f], []⟩) (CR (L2.CX X.prog X.w) X.stack X.prog X.w H1 s1 Q E) s1 := by
    refine LamX.run_ofS (N := Ng) (ps := [a]) (us := [.ref f]) (vs := [.ref f]) (k := k + 1) lk hcg Sg room.old I1.env0 (hb s1 [.ref f] I1.kIn rfl) (.cons rfl .nil) rfl fun hr' => ?_
    have room' : Room (k + 1) (X.A.deeper (envOfC x (defScope stg) s1.heap.objs.size fg cdv)) := room.deeper _
    let Xg : Cx := cxOf (L2.CX X.prog X.w) X.prog X.w X.K X.mg X.base Ng x (defScope stg) fg cdv X.A X.stack s1 H1 E
    have tkg : Takes Xg (fun cls d _ H' => E cls d H') := takes_of rfl rfl rfl rfl
    have bdg : Bd Xg (fun cls d _ H' => E cls d H') (k + 1) := ⟨rfl, room', tkg, passes_of rfl, Sg.nd⟩
    have rest_ : PSs Xg rest (tS X.K (fun cls d _ H' => E cls d H') fr) := hR _ _ _ _ _ Xg rfl ⟨rfl, room'.mono (Nat.le_succ _), tkg, passes_of rfl, Sg.nd⟩
    have lN : (L2.start Ng [V.ref f]).length = n := by
      rw [start_len, hn]
      have := (List.getElem?_eq_some_iff.mp h0).1
      show 1 + (n - 1) = n
      omega
    have jl : j < n := by rw [← hn]; exact (List.getElem?_eq_some_iff.mp hj).1
    have il : i < n := by rw [← hn]; exact (List.getElem?_eq_some_iff.mp hi).1
    have s0 : (L2.start Ng [V.ref f])[0]? = some (some (.ref f)) := start_at rfl
    rw [hbd]
    let ts : TS := tSeq (tAsg (tVar i) (gName j)) tNext
    let D0 : Ends := { nx := fun _ H' => Q .non H', rt := Q }
    let D1 : Ends := { D0 with nx := tS X.K (fun cls d _ H' => E cls d H') fr D0 }
    refine ⟨_, pss_cons (ps_asg pe_non (pg_name (X := Xg) Sg.nd hj hlm (.inl rfl))) (pss_cons (ps_try_keep (X := Xg) (c := cX) (Wout := fun cls d _ H' => E cls d H')
      (tb := fun W D τ Hz => τ[0]? = some (some (.ref f)) ∧ Hz c' = some (CodeO c' (X.env.qual ++ "<lambda>")) ∧ tE X.K (fun cls d _ H' => W cls d τ H') fb σ Hz fun _ H' => D.nx τ H')
      (ts := fun _ _ _ => ts) rfl rfl rfl Sg.nd hi hln ⟨hge, hde, .inl hme⟩ tkg (fun W pn xe tkw _ => ?_) (fun a oe cls d pn _ _ => suite_keep (X := Xg) Sg.nd hi hvn hj hlm (.inl rfl) hdn hcdn rfl rfl rfl a oe pn)) rest_), ?_⟩
    · refine ⟨fun pins2 s2 τ Hz D I2 ⟨h1, h2, h3⟩ => ?_⟩
      have act := pe_actD (E0 := E) (p1 := p1) (p2 := p2) (k := k) (W := W) I1 L hf ⟨hfn, hfr⟩ (hbind _ _ _ _ _) tkw room' (tb := fun Ech => tE X.K (fun cls d _ H' => Ech cls d H') fb) (fun A outer sz Hz Ech hr => hbody A outer sz Hz Ech f c' _ rfl ⟨rfl, hr, takes_of rfl rfl rfl rfl, passes_of rfl, nd⟩) h0 hva hda hcda
      exact (pss_one (ps_expr (pos := p3) act)).run pins2 s2 τ Hz D I2 ⟨h1, h2, h3⟩
    · -- what the def is asked for
      show ((L2.start Ng [V.ref f]).set j (some .non))[0]? = some (some (.ref f)) ∧ H1 c' = some (CodeO c' (X.env.qual ++ "<lambda>")) ∧ tE X.K (fun cls d _ H' => wKeep X.K cX i (fun _ _ _ => ts) (fun cls d _ H' => E cls d H') D1 cls d ((L2.start Ng [V.ref f]).set j (some .non)) H') fb σ H1 fun _ H' => D1.nx ((L2.start Ng [V.ref f]).set j (some .non)) H'
      refine ⟨by rw [List.getElem?_set_ne j0]; exact s0, hco, g1, st, c1.sd, ?_⟩
      have p := c1.post
      cases qf : fb st with
      | bad => rw [qf] at p; exact p
      | ok t s2 =>
        rw [qf] at p
        intro b g2 H2 sd2 ev2 _
        have c2 : Cur X.K Wx σ (fun g H' s v t => RT X.K H g H' σ s v t) Q g H st (endR s2 (fr (oneSt n j .non s2))) g2 H2 s2 := ⟨c1.ev.trans ev2, sd2, p⟩
        exact rest_run c2 c2.ev.live (by rw [List.length_set]; exact lN) (List.getElem?_set_self (by rw [lN]; exact jl)) .non
      | err y s2 =>
        rw [qf] at p
        intro cls d g2 H2 sd2 ev2 ea
        simp only at p
        cases qm : mt y.cls with
        | none => rw [qm] at p; exact p.elim
        | some b =>
          rw [qm] at p
          cases b with
          | false => exact p.elim
          | true =>
            refine ⟨true, by rw [ea.1]; exact hmt _ _ qm, fun _ a na => ?_, fun z => nomatch z⟩
            obtain ⟨g3, sd3, ev3, rp⟩ := sd2.newExc na ea
            have c2 : Cur X.K Wx σ (fun g H' s v t => RT X.K H g H' σ s v t) Q g H st (endR s2 (fr (oneSt n j (.exc y.cls y.fs) s2))) g3 (upd H2 a (exk a y.cls d)) s2 := ⟨(c1.ev.trans ev2).trans ev3, sd3, p⟩
            refine ⟨.ref a, List.getElem?_set_self (by rw [List.length_set, lN]; exact il), y.cls, ea.1, ?_⟩
            refine rest_run c2 c2.ev.live (by rw [List.length_set, List.length_set, List.length_set, List.length_set]; exact lN) ?_ rp
            rw [List.getElem?_set_ne ij]
            exact List.getElem?_set_self (by rw [List.length_set, List.length_set, lN]; exact jl)
  refine wpAny_call (codeAny_mono rc fun r s2 out => ?_)
  match r, out with
  | .error er, out => exact passAt tk σ pins H1 s1 er s2 I1 out
  | .ok (.ret u2), out => exact I1.after out
  | .ok .next, out => exact out.elim
  | .ok .brk, out => exact out.elim
  | .ok .cont, out => exact out.elim
end
end DL
set_option Elab.async false
set_option linter.all false
set_option maxRecDepth 100000
set_option maxHeartbeats 2000000
namespace DL
open PySem PySem.Spec PyProof.Rows L2
def ctL (l : List (Addr × Bool)) : Addr → Option Bool := fun C => l.lookup C
theorem ct_nil {P : Addr → Bool → Prop} : ∀ C b, ctL [] C = some b → P C b := fun _ _ h => by cases h
theorem ct_cons {P : Addr → Bool → Prop} {C0 : Addr} {b0 : Bool} {l : List (Addr × Bool)} (h : P C0 b0) (r : ∀ C b, ctL l C = some b → P C b) : ∀ C b, ctL ((C0, b0) :: l) C = some b → P C b := fun C b e => by
  unfold ctL at e
  rw [List.lookup_cons] at e
  split at e
  · rename_i z
    cases e
    rw [beq_iff_eq] at z
    subst z
    exact h
  · exact r C b e
section
variable {K : PySem.W.Frag} {C C1 : Addr} {b : Bool} {t : Value}
structure XCls (K : PySem.W.Frag) (C : Addr) : Prop where
  hd : PySem.W.hasDictIn K C = true
  ty : PySem.W.typeIn K (.ref C) = some (.type "type")
  sub : PySem.W.subIn K (.ref C) (.type "BaseException") = some true
  ga : PySem.W.findIn K (.ref C) "__getattribute__" = some (some (.builtin "BaseException.__getattribute__"))
  gt : PySem.W.findIn K (.ref C) "__getattr__" = some none
  at_ : PySem.W.findIn K (.ref C) "__class__" = some (some (.builtin "object.__class__"))
  sp : PySem.W.specialIn K (.builtin "object.__class__") "__get__" = some (some (.builtin "getset_descriptor.__get__"))
  tk : PySem.W.takesIn K (.builtin "object.__class__") = some true
  mro : PySem.W.mroIn K C (.type "object") = some true
theorem XCls.cl (x : XCls K C) : (PySem.W.clsIn K C).isSome = true := by
  obtain ⟨cd, hc, _⟩ := PySem.W.any_some x.hd
  rw [hc]; rfl
theorem XCls.k (x : XCls K C) : ExcK K C := ⟨x.cl, x.ga, x.gt, x.sub, x.at_, x.sp, x.tk, x.mro⟩
theorem XCls.f (x : XCls K C) : XfC K C := ⟨x.ga, x.gt, x.sub, x.hd⟩
theorem kit_ref (x : XCls K C1) (h : PySem.W.subIn K t (.ref C1) = some b) (ne : t = .ref C1 → b = true) : PySem.W.kitOne K t (.ref C1) = some b := by
  unfold PySem.W.kitOne
  by_cases z : (t == Value.ref C1) = true
  · rw [if_pos z, ne (beq_iff_eq.mp z)]
  · rw [if_neg z]
    have e2 : ((PySem.W.clsIn K C1).isSome && PySem.W.typeIn K (.ref C1) == some (.type "type")) = true := by rw [x.cl, x.ty] <;> rfl
    show (if ((PySem.W.clsIn K C1).isSome && PySem.W.typeIn K (.ref C1) == some (.type "type")) = true then PySem.W.subIn K t (.ref C1) else none) = some b
    rw [if_pos e2, h]
theorem kit_t (x : XCls K C1) (h : PySem.W.subIn K (.ref C) (.ref C1) = some true) : PySem.W.kitOne K (.ref C) (.ref C1) = some true := kit_ref x h fun _ => rfl
theorem kit_f (x : XCls K C1) (h : PySem.W.subIn K (.ref C) (.ref C1) = some false) (ne : C ≠ C1) : PySem.W.kitOne K (.ref C) (.ref C1) = some false := kit_ref x h fun z => by cases z; exact absurd rfl ne
theorem kit_n (x : XCls K C1) (h : PySem.W.subIn K (.type "NoneType") (.ref C1) = some false) : PySem.W.kitOne K (.type "NoneType") (.ref C1) = some false := kit_ref x h fun z => nomatch z
theorem xm_of (x : XCls K C1) (h : PySem.W.subIn K t (.ref C1) = some b) : PySem.W.exmOne K t (.ref C1) = some b := PySem.W.exm_ref x.sub x.hd x.ty h
end
section
variable {P : Program} {w : World} {K : PySem.W.Frag} {mg : Str → Option Value} {base : Heap}
theorem Bd.mono {X : Cx} {Wx : WX} {k k' : Nat} (b : Bd X Wx k') (h : k ≤ k') : Bd X Wx k := ⟨b.calm, b.room.mono h, b.tk, b.own, b.nd⟩
theorem RestOk.mono {N : List Str} {qual : Str} {sc : Scope} {f : Addr} {cdv : Value} {k k' : Nat} {rest : List Stmt} {fr : M Flow} (r : RestOk P w K mg base N qual sc f cdv k rest fr) (h : k ≤ k') : RestOk P w K mg base N qual sc f cdv k' rest fr :=
  fun A outer s H E X hX B => r A outer s H E X hX (B.mono h)
theorem DFn.okG {x qual : Str} {st : Stmt} {f : Addr} {fd : FuncData} {cdv : Value} {N par : List Str} {n : Nat} {pr : Sp} (F : DFn K x qual st f fd cdv) (sc : FnScope N par (defScope st)) (hlen : ∀ xs Hx Qx Ex, pr xs Hx Qx Ex → xs.length = par.length)
    (body : ∀ (A0 : Around) (out : List Env) (s : Shared) (Hx : Hp) (xs : List V) (Qx : VK) (Ex : XK), Room n (A0.deeper (envOfC qual (defScope st) s.heap.objs.size f cdv)) → pr xs Hx Qx Ex →
      ∃ rd, PSs (cxOf (L2.CX P w) P w K mg base N qual (defScope st) f cdv A0 out s Hx Ex) (defBody st) rd ∧ rd { nx := fun _ Hy => Qx .non Hy, rt := Qx } (start N xs) Hx) : FnOk P w K mg base (L2.CX P w) (n + 1) f fd par pr := by
  obtain ⟨_, _, _, _, _, _, _, _, _, rfl, hl, hc⟩ := F.ex
  exact fn_okG hl hc sc hlen body
end
def isBlD : D → Bool
  | .bl _ => true
  | _ => false
def idxB : List D → Bool → Option Nat
  | [], _ => none
  | .bl y :: ds, k => if y = k then some 0 else (idxB ds k).map (· + 1)
  | _ :: _, _ => none
def indexB : D → D → Option T
  | .lst ds, .bl k => if ds.all isBlD = true then (idxB ds k).map fun j => .fz (.int (j : Nat)) else none
  | _, _ => none
def dIndexB (fo fe : M VR) : M T := fo >>= fun x => readV x >>= fun d0 => chk (isLstD d0) >>= fun _ => fe >>= fun y => readV x >>= fun d => readV y >>= fun e => opt (indexB d e)
theorem bls_flat {K : PySem.W.Frag} {g : Gh} : ∀ {vs : List V} {es : List D}, Reps K g vs es → es.all isBlD = true → vs.all flatV = true
  | _, [], .nil, _ => rfl
  | _, d :: es, .cons a b, al => by
    rw [List.all_cons, Bool.and_eq_true] at al
    rw [List.all_cons, Bool.and_eq_true]
    refine ⟨?_, bls_flat b al.2⟩
    cases d with
    | bl y => cases a; rfl
    | _ => cases al.1
theorem idxB_run {K : PySem.W.Frag} {g : Gh} {k : Bool} : ∀ {ys : List V} {ds : List D} {j : Nat}, Reps K g ys ds → ds.all isBlD = true → idxB ds k = some j → (∃ z, ys[j]? = some z ∧ eqV z (.bl k) = true) ∧ ∀ (m : Nat) (z' : V), m < j → ys[m]? = some z' → eqV z' (.bl k) = false
  | _, [], _, _, _, e => by cases e
  | _, d :: ds, j, r, al, e => by
    cases r with
    | cons ra rr =>
      rw [List.all_cons, Bool.and_eq_true] at al
      cases d with
      | bl y =>
        cases ra
        have e : (if y = k then some 0 else (idxB ds k).map (· + 1)) = some j := e
        by_cases c : y = k
        · subst c
          rw [if_pos rfl] at e; cases e
          refine ⟨⟨_, rfl, ?_⟩, fun m z' lt => absurd lt (Nat.not_lt_zero _)⟩
          show eqV (.bl y) (.bl y) = true
          simp [eqV]
        · rw [if_neg c] at e
          cases q : idxB ds k with
          | none => rw [q] at e; cases e
          | some j' =>
            rw [q] at e; cases e
            obtain ⟨⟨z, a2, a3⟩, a4⟩ := idxB_run rr al.2 q
            refine ⟨⟨z, a2, a3⟩, fun m z' lt h => ?_⟩
            cases m with
            | zero =>
              have h : some (V.bl y) = some z' := h
              cases h
              show eqV (.bl y) (.bl k) = false
              cases y <;> cases k <;> first | rfl | exact absurd rfl c | decide
            | succ m => exact a4 m z' (by have lt : m + 1 < j' + 1 := lt; omega) h
      | _ => cases al.1
end DL
namespace DL
open PySem PySem.Spec PyProof.Rows L2
section
variable {X : Cx} {Wx : WX}
theorem de_indexB {o e : Expr} {fo fe : M VR} {apos cpos : Pos} (ho : DV X Wx o fo) (he : DV X Wx e fe)
    (h1 : attributeBase o "index" X.env (eval o X.env) = eval o X.env := by rfl)
    (h2 : ((backTo cpos (starEach (e :: []) X.env)).all (fun x => !x.1) && (backToKw cpos (keywordEach [] X.env)).all (fun x => x.1.isSome) && decide ((e :: []).length + ([] : List Keyword).length + (if ([] : List Keyword).isEmpty then 0 else 1) < 30)) = true := by rfl)
    (h3 : (apos.endLine == cpos.line) = true := by rfl) (h4 : starEach (e :: []) X.env = (false, eval e X.env) :: starEach [] X.env := by rfl) (h5 : (backTo cpos (starEach [] X.env)).any (·.1) = false := by rfl) :
    DE X Wx (.Call (.Attribute o "index" apos) [e] [] cpos) (dIndexB fo fe) := by
  exact ⟨fun pins s σ H Q I q => (pe_bm PySem.F.plainAttrs_list PySem.F.slot_list_index PySem.F.type_list_index mt_index ho (pa_cons he pa_nil h4) h1 h2 h3 h4 h5).run pins s σ H Q I (by
  obtain ⟨g, s, c⟩ := q.start
  refine c.bind.mono fun x H1 ⟨x', g1, s1, c1, r1, e1⟩ => ?_
  obtain ⟨d0, c2, v2⟩ := c1.read r1
  obtain ⟨hd, c3⟩ := c2.chk
  cases d0 with
  | lst ds0 =>
    obtain ⟨a, xs, rfl, hx, _⟩ := v2.lst c1.sd
    refine ⟨.inl ⟨rfl, xs, .of hx⟩, c3.bind.mono fun y H2 ⟨y', g2, s2, c4, r4, e4⟩ => ?_⟩
    obtain ⟨d, c5, v5⟩ := c4.read (r1.ev e4)
    obtain ⟨k, c6, v6⟩ := c5.read r4
    cases q : indexB d k with
    | none => exact (c6.notBad (by rw [q]; rfl)).elim
    | some t =>
      have f := c6.fin (t := t) (by rw [q]; rfl)
      unfold indexB at q
      split at q
      · rename_i ds k
        split at q
        · rename_i al
          cases qj : idxB ds k with
          | none => rw [qj] at q; cases q
          | some j =>
            rw [qj] at q; cases q
            obtain ⟨a', ys, ea, hy, ry⟩ := v5.lst c4.sd
            cases ea
            cases v6.bl
            obtain ⟨⟨z, f2, f3⟩, f4⟩ := idxB_run ry al qj
            exact ⟨a, ys, .bl k, j, z, rfl, rfl, .of hy, rfl, bls_flat ry al, f2, f3, f4, f.fz c4.sd (.int _)⟩
        · cases q
      · cases q
  | _ => cases hd)⟩
end
def dMakeKM (C : Addr) (n : Nat) (ms : List AM) (b : M Flow) (fa : M (List VR)) (π : List Nat) (fl : M (List VR)) : M T := fa >>= fun rs => dPick π fl >>= fun zs => toHMs ms (rs ++ zs) >>= make2 C n ms [] b
section
variable {K : PySem.W.Frag} {σ : Slots} {H0 H1 H2 : Hp} {g1 g2 : Gh} {s1 s2 : State}
theorem RVRs.app {xs : List V} {ys : List VR} (e2 : Ev g1 H1 σ s1 g2 H2 σ s2) (lv : ∀ a, H0 a ≠ none → H1 a ≠ none) (q2 : RVRs K σ H1 g2 H2 s2 xs ys) : ∀ {vs : List V} {rs : List VR}, RVRs K σ H0 g1 H1 s1 vs rs → RVRs K σ H0 g2 H2 s2 (vs ++ xs) (rs ++ ys)
  | _, _, .nil => RVRs.past lv q2
  | _, _, .cons (vs := vs) (rs := rs) a b c => by
    refine .cons (a.ev e2) (RVRs.app e2 lv q2 b) fun x d er ev p hp d' ep => ?_
    have hp : p ∈ (vs ++ xs).zip (rs ++ ys) := hp
    rw [List.zip_append b.length] at hp
    rcases List.mem_append.mp hp with hp | hp
    · exact c x d er ev p hp d' ep
    · subst er
      obtain ⟨y, o, eb, _, ho, _⟩ := RT.at_ a
      cases ev.symm.trans eb
      have z := q2.mem p hp
      rw [ep] at z
      intro w
      rw [w] at z
      exact absurd (RT.new z d' x rfl rfl).1 (by rw [ho]; exact fun w => by cases w)
end
theorem pick_len {α : Type} {l : List α} : ∀ {π : List Nat}, (∀ i ∈ π, i < l.length) → (pick π l).length = π.length
  | [], _ => rfl
  | i :: π, h => by
    unfold DL.pick
    rw [List.getElem?_eq_getElem (h i List.mem_cons_self)]
    show (pick π l).length + 1 = π.length + 1
    rw [pick_len fun j hj => h j (List.mem_cons_of_mem _ hj)]
section
variable {X : Cx} {Wx : WX} {e : Expr} {es : List Expr} {kws : List Keyword} {k m : Nat} {C f0 : Addr} {fd : FuncData} {ps N ks : List Str} {b : M Flow} {x : Str} {p pos : Pos} {ms : List AM} {π : List Nat} {fa fl : M (List VR)}
theorem make_atKM {pins : List (Addr × Obj)} {σ : Slots} {H : Hp} {s : Shared} {Q : VK} {us ws : List Value} {vs zs : List V} {sp : Sp} {E : Slots → XK} (mk : Mk X.K C f0) (Fi : FnOk X.prog X.w X.K X.mg X.base (L2.CX X.prog X.w) k f0 fd ps sp) (rm : Room (k + 1) X.A) (bi : KwB X.K fd ps m ks π)
    (ps_ : PassesAt (L2.CX X.prog X.w) X σ (E σ)) (I0 : Inv X pins σ H s) (l1 : us.length + 1 = m) (l2 : ws.length = ks.length) (rv : Vals vs us) (rl : Vals zs ws) (hq : ∀ x dx, H x = none → H dx = none → dx ≠ x → sp (.ref x :: (vs ++ pick π zs)) (upd (upd H dx (.own x)) x (.ins C dx [])) (fun v H2 => v = .non ∧ Q (.ref x) H2) (E σ)) :
    wpAny (model X.prog X.w) X.A (call (.ref C) us (ks.zip ws)) (EP X pins σ Q) X.xe s := by
  have q0 := hq _ _ (I0.hok.fresh (Nat.le_succ s.heap.objs.size)) (I0.hok.fresh (Nat.le_refl s.heap.objs.size)) (Nat.ne_of_lt (Nat.lt_succ_self _))
  have J := Inv.made (C := C) I0
  have all : Vals (V.ref (s.heap.objs.size + 1) :: (vs ++ pick π zs)) (Value.ref (s.heap.objs.size + 1) :: (us ++ pick π ws)) := .cons rfl (rv.append (Vals.pick rl π))
  have run := Fi.run (X.A.under (.builtin "type.__call__" ⟨.ref C :: us, ks.zip ws⟩)) X.stack _ _ ⟨Value.ref (s.heap.objs.size + 1) :: us, ks.zip ws⟩ _ _ _ _ (rm.make C us (ks.zip ws)) (J.env0.make C us (ks.zip ws)) (bi.to _ (Value.ref (s.heap.objs.size + 1) :: us) ws J.kIn l1 l2) all q0
  refine wpAny_call (make_map (f := f0) I0.kIn mk.makes mk.init (beq_iff_eq.mp mk.fn) (codeAny_mono run fun res s' out => ?_))
  match res, out with
  | .error er, out => exact ps_ pins _ _ er s' J out
  | .ok (.ret u), out =>
    obtain ⟨v, H', J2, rv, ev, q3⟩ := J.after out
    subst ev
    exact ⟨rv, V.ref (s.heap.objs.size + 1), H', J2, rfl, q3⟩
  | .ok .next, out => exact out.elim
  | .ok .brk, out => exact out.elim
  | .ok .cont, out => exact out.elim
theorem de_makeKM (mk : Mk X.K C f0) (F : FnOk X.prog X.w X.K X.mg X.base (L2.CX X.prog X.w) k f0 fd ps (spF X.K ps N b)) {n : Nat} (hl : N.length = n) (hr : Room (k + 1) X.A) (hm : X.mg x = some (.ref C)) (hb : KwB X.K fd ps m ks π) (hπ : π.Nodup) (tk : Takes X Wx)
    (hn : ms.length + 1 = ps.length) (hm1 : ms.length + 1 = m + π.length) (hin : ∀ i ∈ π, i < π.length) (hkl : ks.length = π.length) (ha : DA X Wx (e :: es) fa) (hk : DKw X Wx kws fl) (hg : Gl X x := by rfl)
    (hall : (backToKw pos (keywordEach kws X.env)).all (·.1.isSome) = true := by rfl) (hks : (backToKw pos (keywordEach kws X.env)).filterMap (·.1) = ks := by rfl) (hdb : (x == ("__debug__" : Str)) = false := by decide)
    (hpl : ((backTo pos (starEach (e :: es) X.env)).any (·.1) || (backToKw pos (keywordEach kws X.env)).any (·.1.isNone)) = false := by rfl) (he : starEach (e :: es) X.env = (false, eval e X.env) :: starEach es X.env := by rfl) :
    DE X Wx (.Call (.Name x p) (e :: es) kws pos) (dMakeKM C n ms b fa π fl) := by
  subst hl
  refine ⟨fun pins s σ H Q I h => ?_⟩
  obtain ⟨g, st, c0⟩ := h.start
  refine wpAny_Call_Name_kw (ld_glob I hg hm (PySem.W.callWith_KW (h₀ := X.base) I.ok.mod.kin mk.kp hall (thn (ha.run pos pins s σ H _ I (c0.bind (R1 := RVL X.K))) fun us s1 ⟨vs, H1, I1, rv, rs, g1, st1, c1, r1, e1⟩ => ?_) hpl he) hdb)
  have c1 := dPick_cur c1
  refine thn (hk.run pos pins s1 σ H1 _ I1 (c1.bind (R1 := RVL X.K))) fun ws s2 ⟨zs, H2, I2, rz, ts, g2, st2, c2, r2, e2⟩ => ⟨I2.kIn, ?_⟩
  by_cases zl : ts.length = π.length
  · rw [if_pos zl] at c2
    rw [hks]
    show wpAny _ _ (call (.ref C) ([] ++ us) (ks.zip ws)) _ _ _
    have p := c2.post
    rw [bind_eq] at p
    have rp : RVRs X.K σ H g2 H2 st2 (vs ++ pick π zs) (rs ++ pick π ts) := RVRs.app e2 c1.ev.live (r2.pick hπ) r1
    rcases toHMs_res ms (rs ++ pick π ts) st2 with ⟨hs, st3, q⟩ | q
    · rw [q] at p
      have ln := toHMs_len q
      rw [List.length_append, pick_len (l := ts) (fun i hi => by rw [zl]; exact hin i hi), ← r1.length, rv.length] at ln
      obtain ⟨g3, sd3, e3, rh, le⟩ := toHMs_run q c2.ev c2.sd rp
      refine make_atKM (E := WE Wx) mk F hr hb (passAt tk σ) I2 (by show us.length + 1 = m; omega) (by rw [← rz.length, r2.length, zl, hkl]) rv rz fun x dx hx hdx ne => ?_
      have z := make2_run (dvs := []) (dw := []) ⟨e3, sd3, p⟩ rh (fun _ => .nil) (by rw [← rh.length, rp.length, ← toHMs_len q]; exact hn) hx hdx ne
      rw [List.append_nil] at z
      exact z
    · rw [q] at p; exact p.elim
  · rw [if_neg zl] at c2
    exact (c2.notBad rfl).elim
end
end DL
namespace DL
open PySem PySem.Spec PyProof.Rows L2
def itZA : List D → Option (List D)
  | [.lst ds, .lst es] => some (zipL ds es)
  | [.tup ds, .tup es] => some (zipL ds es)
  | _ => none
section
variable {X : Cx} {Wx : WX} {e e2 : Expr} {fl : M (List VR)} {p p1 : Pos}
theorem di_zipA {elts : List Expr} {kk : Nat} {tpos : Pos} (hgl : Gl X "zip") (hm : X.mg "zip" = none) (ha : DA X Wx [e, e2] fl) (hst : starEach [e, e2] X.env = (false, eval e X.env) :: starEach [e2] X.env := by rfl) (hpl : (backTo p1 (starEach [e2] X.env)).any (·.1) = false := by rfl) :
    DItr X Wx (.Tuple elts kk tpos) (.Call (.Name "zip" p) [e, e2] [] p1) itZA fl := ⟨fun pins s σ H R I q => (RZ.pi_zipA hgl hm ha hst hpl).run pins s σ H R I (by
  refine tM.mono q fun vs H1 ⟨g, ds, s, sd, rs, items, hi, k⟩ => ?_
  unfold itZA at hi
  split at hi
  · cases hi
    cases rs with
    | cons a b =>
      cases b with
      | cons a2 b =>
        cases b
        obtain ⟨ad, xs, rfl, hx, _⟩ := (a.view sd).lst sd
        obtain ⟨bd, ys, rfl, hy, _⟩ := (a2.view sd).lst sd
        exact ⟨ad, bd, xs, ys, rfl, .inl ⟨.of hx, .of hy, k _ (iter_zip a a2)⟩⟩
  · cases hi
    cases rs with
    | cons a b =>
      cases b with
      | cons a2 b =>
        cases b
        obtain ⟨ad, xs, rfl, hx, _⟩ := (a.view sd).tup sd
        obtain ⟨bd, ys, rfl, hy, _⟩ := (a2.view sd).tup sd
        exact ⟨ad, bd, xs, ys, rfl, .inr ⟨hx, hy, k _ (iter_zipT a a2)⟩⟩
  · cases hi)⟩
end
end DL
set_option Elab.async false
set_option linter.all false
set_option maxRecDepth 100000
set_option maxHeartbeats 1000000
namespace DL
open PySem
def toRs {α : Type} (r : Except Ex α) (s : State) : Rs α := match r with
  | .ok a => .ok a s
  | .error x => .err x s
def toFl (r : Except Ex T) (s : State) : Rs Flow := match r with
  | .ok t => .ok (.rt t) s
  | .error x => .err x s
section
variable {α β : Type} {s s1 s2 : State} {x : Ex}
theorem bind_er {f : M α} {k : α → M β} (h : f s = .err x s1) : (f >>= k) s = .err x s1 := by rw [bind_eq, h]
theorem dSeq_er {f k : M Flow} (h : f s = .err x s1) : dSeq f k s = .err x s1 := by unfold dSeq; rw [h]
theorem dAsg_er {i : Nat} {m : M T} (h : m s = .err x s1) : dAsg i m s = .err x s1 := bind_er h
theorem dExpr_er {m : M T} (h : m s = .err x s1) : dExpr m s = .err x s1 := bind_er h
def resG (F : M Flow) (n : Nat) (ws : List W) (r : Except Ex T) : Prop := ∀ (sto : List MO) (dr : Option DrawSt), ∃ e', F { env := ws.map some ++ List.replicate (n - ws.length) none, sto := sto, dr := dr } = toFl r { env := e', sto := sto, dr := dr } ∧ ws.length ≤ e'.length
theorem pureG.res {F : M Flow} {n : Nat} {ws : List W} {v : T} (h : pureG F n ws v) : resG F n ws (.ok v) := h
theorem resG.pure {F : M Flow} {n : Nat} {ws : List W} {v : T} (h : resG F n ws (.ok v)) : pureG F n ws v := h
theorem resG.er {F : M Flow} {n : Nat} {ws : List W} {e' : List (Option W)} (hl : ws.length ≤ e'.length) (h : ∀ (sto : List MO) (dr : Option DrawSt), F { env := ws.map some ++ List.replicate (n - ws.length) none, sto := sto, dr := dr } = .err x { env := e', sto := sto, dr := dr }) : resG F n ws (.error x) := fun sto dr => ⟨e', h sto dr, hl⟩
variable {F : M Flow} {n : Nat} {ms : List AM} {fl : M (List VR)} {rs : List VR} {hs : List HS} {ws : List W} {r : Except Ex T}
theorem callR_res {e' : List (Option W)} (e5 : ws.all notLent = true) (hl : ws.length ≤ e'.length) (lh : hs.length = ws.length) : callR hs ws s (toFl r { env := e', sto := s.sto, dr := s.dr }) = toRs r s := by
  have b : backS hs ws s { env := e', sto := s.sto, dr := s.dr } = some s := by
    unfold backS
    rw [backs_no lh e5 hl]
  cases r with
  | ok t =>
    show (match backS hs ws s { env := e', sto := s.sto, dr := s.dr } with | some s' => Rs.ok t s' | none => .bad) = _
    rw [b]; rfl
  | error x =>
    show (match backS hs ws s { env := e', sto := s.sto, dr := s.dr } with | some s' => Rs.err x s' | none => .bad) = _
    rw [b]; rfl
theorem pass_res (e2 : toHMs ms rs s = .ok hs s1) (e3 : ents ms hs s1 = some ws) (e4 : oneEach hs = true) (e5 : ws.all notLent = true) (h : resG F n ws r) : dPass n ms [] F rs s = toRs r s1 := by
  obtain ⟨e', q, hl⟩ := h s1.sto s1.dr
  unfold dPass
  rw [bind_eq, e2]
  show pass2 n ms [] F hs s1 = _
  unfold pass2
  rw [e3]
  simp only
  rw [if_pos e4]
  have e6 : { env := (ws ++ ([] : List D).map W.fz).map some ++ List.replicate (n - (ws.length + ([] : List D).length)) none, sto := s1.sto, dr := s1.dr : State } = { env := ws.map some ++ List.replicate (n - ws.length) none, sto := s1.sto, dr := s1.dr } := by simp
  rw [e6, q, callR_res e5 hl (ents_length e3).symm]
theorem meth_res {C : Addr} {m : Str} {fo : M VR} {v : VR} {s0 : State} (h : resG F n ws r) (e0 : fo s = .ok v s0) (er : recv C m v s0 = .ok () s0) (e : fl s0 = .ok rs s1) (e2 : toHMs ms (v :: rs) s1 = .ok hs s2) (e3 : ents ms hs s2 = some ws) (e4 : oneEach hs = true) (e5 : ws.all notLent = true) : dMeth C m n ms [] F fo fl s = toRs r s2 := by
  unfold dMeth
  rw [bind_eq, e0]
  show (recv C m v >>= fun _ => fl >>= fun rs => dPass n ms [] F (v :: rs)) s0 = _
  rw [bind_eq, er]
  show (fl >>= fun rs => dPass n ms [] F (v :: rs)) s0 = _
  rw [bind_eq, e]
  exact pass_res e2 e3 e4 e5 h
theorem lend_res {C : Addr} {m : Str} {i : Nat} {ds : List D} {fs fs1 : List (Str × D)} {e' : List (Option W)} {sto : List MO} {dr : Option DrawSt} (h0 : s.env[i]? = some (some (.own (.obj C fs)))) (hm : (fs.lookup m).isNone = true)
    (e : fl s = .ok rs s1) (e2 : toHMs ms rs s1 = .ok (ds.map HS.d) s2) (h1 : s1.env[i]? = some (some (.own (.obj C fs)))) (h2 : s2.env[i]? = some (some (.own (.obj C fs))))
    (h : F { env := some (.lent (.obj C fs)) :: (ds.map fun d => some (.fz d)) ++ List.replicate (n - (ds.length + 1)) none, sto := s2.sto, dr := s2.dr } = toFl r { env := some (.lent (.obj C fs1)) :: e', sto := sto, dr := dr }) (hl : ds.length ≤ e'.length) :
    dMeth C m n (.L :: ms) [] F (dSlot i) fl s = toRs r { env := s2.env.set i (some (.own (.obj C fs1))), sto := sto, dr := dr } := by
  have lm : ms.length = ds.length := by have := toHMs_hs e2; rw [List.length_map] at this; exact this.symm
  have f0 : dSlot i s = .ok (.slot i) s := by unfold dSlot; rw [h0]
  have f1 : toHMs (.L :: ms) (.slot i :: rs) s1 = .ok (.slot i :: ds.map HS.d) s2 := by
    unfold toHMs
    have : toHM .L (.slot i) s1 = .ok (.slot i) s1 := by show holdS i s1 = _; unfold holdS; rw [h1]
    simp only [bind_eq, this, e2]
    rfl
  unfold dMeth
  simp only [bind_eq, f0, recv_slot h0 rfl hm, e]
  unfold dPass
  simp only [bind_eq, f1]
  rw [pass2_lend lm h2 h]
  have b := backS_lend (ds := ds) (i := i) (d0 := .obj C fs) (d1 := .obj C fs1) (sto := sto) (dr := dr) h2 hl
  cases r with
  | ok t =>
    show (match backS (.slot i :: ds.map HS.d) (.lent (.obj C fs) :: ds.map W.fz) s2 { env := some (.lent (.obj C fs1)) :: e', sto := sto, dr := dr } with | some s' => Rs.ok t s' | none => .bad) = _
    rw [b]; rfl
  | error x =>
    show (match backS (.slot i :: ds.map HS.d) (.lent (.obj C fs) :: ds.map W.fz) s2 { env := some (.lent (.obj C fs1)) :: e', sto := sto, dr := dr } with | some s' => Rs.err x s' | none => .bad) = _
    rw [b]; rfl
end
section
variable {s s1 s2 s3 : State} {x : Ex} {C : Addr} {n : Nat} {ms : List AM} {F : M Flow} {rs zs : List VR} {ds : List D} {fs : List (Str × D)} {e' : List (Option W)} {sto : List MO} {dr : Option DrawSt} {fa fl : M (List VR)} {π : List Nat}
theorem make2_ok (lm : ms.length = ds.length) (h : F { env := some (.lent (.obj C [])) :: (ds.map fun d => some (.fz d)) ++ List.replicate (n - (ds.length + 1)) none, sto := s2.sto, dr := s2.dr } = .ok .nx { env := some (.lent (.obj C fs)) :: e', sto := sto, dr := dr }) (hl : ds.length ≤ e'.length) :
    make2 C n ms [] F (ds.map HS.d) s2 = .ok (.ow (.obj C fs)) { env := s2.env, sto := sto, dr := dr } := by
  have top : (pushW s2 (.own (.obj C []))).env[s2.env.length]? = some (some (.own (.obj C []))) := by
    show (s2.env ++ [some (W.own (.obj C []))])[s2.env.length]? = _
    rw [List.getElem?_append_right (Nat.le_refl _), Nat.sub_self]
    rfl
  unfold make2
  rw [pass2_lend (s := pushW s2 (.own (.obj C []))) lm top h]
  unfold callR
  simp only [backS_lend top hl]
  have e6 : (pushW s2 (.own (.obj C []))).env.set s2.env.length (some (.own (.obj C fs))) = s2.env ++ [some (W.own (.obj C fs))] := by
    show (s2.env ++ [some (W.own (.obj C []))]).set s2.env.length (some (.own (.obj C fs))) = _
    rw [List.set_append_right _ _ (Nat.le_refl _), Nat.sub_self]
    rfl
  rw [e6, List.getElem?_append_right (Nat.le_refl _), Nat.sub_self]
  show Rs.ok (T.ow (.obj C fs)) (popS s2.env.length _) = _
  unfold popS
  simp
theorem make2_er (lm : ms.length = ds.length) (h : F { env := some (.lent (.obj C [])) :: (ds.map fun d => some (.fz d)) ++ List.replicate (n - (ds.length + 1)) none, sto := s2.sto, dr := s2.dr } = .err x { env := some (.lent (.obj C fs)) :: e', sto := sto, dr := dr }) (hl : ds.length ≤ e'.length) :
    make2 C n ms [] F (ds.map HS.d) s2 = .err x { env := s2.env, sto := sto, dr := dr } := by
  have top : (pushW s2 (.own (.obj C []))).env[s2.env.length]? = some (some (.own (.obj C []))) := by
    show (s2.env ++ [some (W.own (.obj C []))])[s2.env.length]? = _
    rw [List.getElem?_append_right (Nat.le_refl _), Nat.sub_self]
    rfl
  unfold make2
  rw [pass2_lend (s := pushW s2 (.own (.obj C []))) lm top h]
  unfold callR
  simp only [backS_lend top hl]
  have e6 : (pushW s2 (.own (.obj C []))).env.set s2.env.length (some (.own (.obj C fs))) = s2.env ++ [some (W.own (.obj C fs))] := by
    show (s2.env ++ [some (W.own (.obj C []))]).set s2.env.length (some (.own (.obj C fs))) = _
    rw [List.set_append_right _ _ (Nat.le_refl _), Nat.sub_self]
    rfl
  rw [e6]
  show Rs.err x (popS s2.env.length _) = _
  unfold popS
  simp
theorem makeKM_is {q : Rs T} (e : fa s = .ok rs s1) (e1 : fl s1 = .ok zs s2) (lz : zs.length = π.length) (e2 : toHMs ms (rs ++ pick π zs) s2 = .ok (ds.map HS.d) s3) (h : ms.length = ds.length → make2 C n ms [] F (ds.map HS.d) s3 = q) : dMakeKM C n ms F fa π fl s = q := by
  have lm : ms.length = ds.length := by have := toHMs_hs e2; rw [List.length_map] at this; exact this.symm
  have f : dPick π fl s1 = .ok (pick π zs) s2 := by
    unfold dPick
    rw [bind_eq, e1]
    show (if zs.length = π.length then pure (pick π zs) else M.bad) s2 = _
    rw [if_pos lz]; rfl
  unfold dMakeKM
  simp only [bind_eq, e, f, e2]
  exact h lm
variable {nt j : Nat} {P : Addr} {qn : Str} {mt : Addr → Option Bool} {fr : M Flow} {fb : M T} {t v : T} {sc : State}
theorem lamG_ok (ht : isTab s nt P qn = true) (h : fb s = .ok t s1) (hr : fr (oneSt n j .non s1) = .ok (.rt v) sc) : dLamG nt P qn n j mt fr fb s = .ok v { env := s1.env, sto := sc.sto, dr := sc.dr } := by
  unfold dLamG
  rw [if_pos ht, h]
  simp only
  rw [hr]
  rfl
theorem lamG_er (ht : isTab s nt P qn = true) (h : fb s = .err x s1) (hm : mt x.cls = some true) (hr : fr (oneSt n j (.exc x.cls x.fs) s1) = .ok (.rt v) sc) : dLamG nt P qn n j mt fr fb s = .ok v { env := s1.env, sto := sc.sto, dr := sc.dr } := by
  unfold dLamG
  rw [if_pos ht, h]
  simp only
  rw [hm]
  simp only
  rw [hr]
  rfl
theorem dIsX_eq {ct : Addr → Option Bool} {fo : M VR} {y : VR} {d : D} {t : T} (e : fo s = .ok y s1) (hd : readV y s1 = .ok d s1) (h : isX ct d = some t) : dIsX ct fo s = .ok t s1 := by
  unfold dIsX
  simp only [bind_eq, e, hd, h]
  rfl
end
end DL
set_option linter.all false
set_option maxRecDepth 100000
namespace Law
open PySem DL
def F_law_odd : M DL.Flow := dRet (dCall 2 [.F, .F] [] F_law_pick (dCons (dSlot 0) (dCons (dV (dLst (dCons (dV (dC .non)) (dCons (dV (dC (.bl true))) (dCons (dV (dC (.bl false))) (dCons (dV (dC (.str "1"))) (dCons (dV (dOp1 negD (dV (dC (.int 1))))) (dCons (dV (dC (.int 0))) (dCons (dV (dC (.int 500))) (dCons (dV (dC (.int 501))) (dCons (dV (dC (.int 900))) (dCons (dV (dC (.int 901))) (dCons (dV (dOp2 powD (dV (dC (.int 10))) (dV (dC (.int 9))))) (dCons (dV (dOp2 addD (dV (dOp2 powD (dV (dC (.int 10))) (dV (dC (.int 9))))) (dV (dC (.int 1))))) (dCons (dV (dTup (dNil))) (dCons (dV (dLst (dNil))) (dCons (dV (dNewK)) (dCons (dV (dC (.int 7))) (dNil))))))))))))))))))) (dNil))))
def F_law_is_int : M DL.Flow := dRet (dAndV (dIsi [.int] (dSlot 0)) (dAndV (dNotV (dIsi [.bool] (dSlot 0))) (dChain leD leD (dSlot 1) (dSlot 0) (dSlot 2))))
def F_law_error (a_HourError : Addr) (a_NoClock : Addr) (a_NoReading : Addr) (a_NoSpans : Addr) : M DL.Flow := dSeq (dAsg 3 (dLst (dCons (dV (dIsX (ctL [(a_NoClock, true), (a_NoReading, false), (a_NoSpans, false)]) (dSlot 1))) (dCons (dV (dIsX (ctL [(a_NoClock, false), (a_NoReading, true), (a_NoSpans, false)]) (dSlot 1))) (dCons (dV (dIsX (ctL [(a_NoClock, false), (a_NoReading, false), (a_NoSpans, true)]) (dSlot 1))) (dNil)))))) 
        (dRet (dIf (dB (dOp2 isD (dSlot 1) (dV (dC .non)))) (dC (.str "")) (dOp2 ixD (dV (dLst (dCons (dV (dC (.str "clock"))) (dCons (dV (dC (.str "reading"))) (dCons (dV (dC (.str "spans"))) (dCons (dV (dC (.str "other"))) (dNil))))))) (dV (dIndexB (dV (dOp2 addD (dSlot 3) (dV (dLst (dCons (dV (dC (.bl true))) (dNil)))))) (dV (dC (.bl true))))))))
def F_is_between : M DL.Flow := dRet (dAndV (dIsi [.int] (dSlot 0)) (dAndV (dNotV (dIsi [.bool] (dSlot 0))) (dChain leD leD (dSlot 1) (dSlot 0) (dSlot 2))))
def F_is_integer : M DL.Flow := dRet (dAndV (dIsi [.int] (dSlot 0)) (dNotV (dIsi [.bool] (dSlot 0))))
def F_Shown_init (a_Shown : Addr) (a_NoClock : Addr) : M DL.Flow := dSeq (dIf (dOr (dNot (dB (dCall 3 [.F, .F, .F] [] F_is_between (dCons (dSlot 1) (dCons (dV (dC (.int 0))) (dCons (dV (dC (.int 500))) (dNil))))))) (dNot (dB (dCall 3 [.F, .F, .F] [] F_is_between (dCons (dSlot 2) (dCons (dV (dC (.int 0))) (dCons (dV (dC (.int 900))) (dNil)))))))) (dRaise a_NoClock) (dNx)) 
        (dSeq (dIf (dOr (dNot (dB (dCall 1 [.F] [] F_is_integer (dCons (dSlot 3) (dNil))))) (dOr (dB (dOp2 ltD (dSlot 3) (dV (dC (.int 0))))) (dOr (dNot (dB (dCall 3 [.F, .F, .F] [] F_is_between (dCons (dSlot 4) (dCons (dV (dC (.int 0))) (dCons (dV (dC (.int 1000000000))) (dNil))))))) (dNot (dB (dCall 1 [.F] [] F_is_integer (dCons (dSlot 5) (dNil)))))))) (dRaise a_NoClock) (dNx)) 
        (dSeq (dSetF a_Shown "c_rules" (dSlot 0) (dV (dTup (dCons (dSlot 1) (dCons (dSlot 2) (dCons (dSlot 3) (dNil))))))) 
        (dSeq (dSetF a_Shown "c_reading" (dSlot 0) (dSlot 4)) 
        (dSeq (dSetF a_Shown "c_value" (dSlot 0) (dSlot 5)) 
        (dSetF a_Shown "c_spans" (dSlot 0) (dV (dLst (dNil))))))))
def F_Shown_ticks_to (a_Shown : Addr) (a_NoReading : Addr) : M DL.Flow := dSeq (dIf (dNot (dB (dCall 3 [.F, .F, .F] [] F_is_between (dCons (dSlot 1) (dCons (dV (dFld a_Shown "c_reading" (dSlot 0))) (dCons (dV (dC (.int 1000000000))) (dNil))))))) (dRaise a_NoReading) (dNx)) 
        (dRet (dOp2 subD (dSlot 1) (dV (dFld a_Shown "c_reading" (dSlot 0)))))
def F_is_list : M DL.Flow := dRet (dIsi [.list, .tuple] (dSlot 0))
def F_is_end : M DL.Flow := dRet (dOrV (dOp2 isD (dSlot 0) (dV (dC .non))) (dCall 1 [.F] [] F_is_integer (dCons (dSlot 0) (dNil))))
def L_are_spans_0 : M DL.Flow := dSeq (dIf (dOr (dNot (dB (dIsi [.tuple] (dSlot 2)))) (dOr (dB (dOp2 neT (dV (dCallB lenD (dCons (dSlot 2) (dNil)))) (dV (dC (.int 2))))) (dOr (dNot (dB (dCall 1 [.F] [] F_is_end (dCons (dV (dOp2 ixD (dSlot 2) (dV (dC (.int 0))))) (dNil))))) (dNot (dB (dCall 1 [.F] [] F_is_end (dCons (dV (dOp2 ixD (dSlot 2) (dV (dC (.int 1))))) (dNil)))))))) (dRet (dC (.bl false))) (dNx)) 
          (dSeq (dUn (.tup [.name 3, .name 4]) (dSlot 2)) 
          (dSeq (dIf (dOr (dAnd (dB (dOp2 isD (dSlot 3) (dV (dC .non)))) (dB (dOp2 gtD (dSlot 1) (dV (dC (.int 0)))))) (dAnd (dB (dOp2 isD (dSlot 4) (dV (dC .non)))) (dB (dOp2 ltD (dV (dOp2 addD (dSlot 1) (dV (dC (.int 1))))) (dV (dCallB lenD (dCons (dSlot 0) (dNil)))))))) (dRet (dC (.bl false))) (dNx)) 
          (dIf (dAnd (dB (dOp2 isNotD (dSlot 3) (dV (dC .non)))) (dAnd (dB (dOp2 isNotD (dSlot 4) (dV (dC .non)))) (dB (dOp2 gtD (dSlot 3) (dSlot 4))))) (dRet (dC (.bl false))) (dNx))))
def F_are_spans : M DL.Flow := dSeq (dIf (dNot (dB (dCall 1 [.F] [] F_is_list (dCons (dSlot 0) (dNil))))) (dRet (dC (.bl false))) (dNx)) 
        (dSeq (dFor itEB (.tup [.name 1, .name 2]) (L_are_spans_0) (dCons (dSlot 0) (dNil))) 
        (dRet (dCallB allD (dCons (dV (dComp itZA (.tup [.name 5, .name 6]) [5, 6] (dYes) (dV (dOp2 ltD (dV (dOp2 addD (dV (dOp2 ixD (dSlot 5) (dV (dC (.int 1))))) (dV (dC (.int 1))))) (dV (dOp2 ixD (dSlot 6) (dV (dC (.int 0))))))) (dCons (dSlot 0) (dCons (dV (dSlice (dSlot 0) (dPart (dC (.int 1))) (dNoPart))) (dNil))))) (dNil)))))
def L_gaps_0 : M DL.Flow := dSeq (dIf (dAnd (dOr (dB (dOp2 isD (dSlot 4) (dV (dC .non)))) (dB (dOp2 leD (dSlot 4) (dSlot 1)))) (dOr (dB (dOp2 isD (dSlot 5) (dV (dC .non)))) (dB (dOp2 leD (dSlot 1) (dSlot 5))))) (dRet (dTup (dCons (dV (dC (.int 0))) (dCons (dV (dC (.int 0))) (dNil))))) (dNx)) 
          (dSeq (dIf (dAnd (dB (dOp2 isNotD (dSlot 4) (dV (dC .non)))) (dAnd (dB (dOp2 ltD (dSlot 1) (dSlot 4))) (dOr (dB (dOp2 isD (dSlot 2) (dV (dC .non)))) (dB (dOp2 ltD (dV (dOp2 subD (dSlot 4) (dSlot 1))) (dSlot 2)))))) (dAsg 2 (dOp2 subD (dSlot 4) (dSlot 1))) (dNx)) 
          (dIf (dAnd (dB (dOp2 isNotD (dSlot 5) (dV (dC .non)))) (dAnd (dB (dOp2 ltD (dSlot 5) (dSlot 1))) (dOr (dB (dOp2 isD (dSlot 3) (dV (dC .non)))) (dB (dOp2 ltD (dV (dOp2 subD (dSlot 1) (dSlot 5))) (dSlot 3)))))) (dAsg 3 (dOp2 subD (dSlot 1) (dSlot 5))) (dNx)))
def F_gaps : M DL.Flow := dSeq (dUn (.tup [.name 2, .name 3]) (dV (dTup (dCons (dV (dC .non)) (dCons (dV (dC .non)) (dNil)))))) 
        (dSeq (dFor itS (.tup [.name 4, .name 5]) (L_gaps_0) (dOne (dSlot 0))) 
        (dRet (dTup (dCons (dSlot 2) (dCons (dSlot 3) (dNil))))))
def F_way_to : M DL.Flow := dSeq (dUn (.tup [.name 2, .name 3]) (dV (dCall 6 [.F, .F] [] F_gaps (dCons (dSlot 0) (dCons (dSlot 1) (dNil)))))) 
        (dSeq (dIf (dB (dOp2 isD (dSlot 2) (dV (dC .non)))) (dRet (dIf (dB (dOp2 isD (dSlot 3) (dV (dC .non)))) (dC .non) (dOp1 negD (dSlot 3)))) (dNx)) 
        (dRet (dIf (dOr (dB (dOp2 isD (dSlot 3) (dV (dC .non)))) (dB (dOp2 leD (dSlot 2) (dSlot 3)))) (dVar 2) (dOp1 negD (dSlot 3)))))
def F_moved : M DL.Flow := dSeq (dAsg 4 (dCallB absD (dCons (dSlot 0) (dNil)))) 
        (dSeq (dIf (dOr (dB (dOp2 eqT (dV (dOp2 addD (dSlot 1) (dSlot 2))) (dV (dC (.int 0))))) (dB (dOp2 leD (dSlot 3) (dV (dOp2 fdivD (dSlot 4) (dV (dOp2 addD (dSlot 1) (dSlot 2)))))))) (dAsg 5 (dOp2 mulD (dSlot 2) (dSlot 3))) (dSeq (dAsg 6 (dOp2 fdivD (dSlot 4) (dV (dOp2 addD (dSlot 1) (dSlot 2))))) 
          (dAsg 5 (dCallB maxD (dCons (dV (dOp2 mulD (dSlot 2) (dSlot 6))) (dCons (dV (dOp2 subD (dSlot 4) (dV (dOp2 mulD (dSlot 1) (dV (dOp2 addD (dSlot 6) (dV (dC (.int 1))))))))) (dNil))))))) 
        (dRet (dIf (dB (dOp2 gtD (dSlot 0) (dV (dC (.int 0))))) (dVar 5) (dOp1 negD (dSlot 5)))))
def F_Shown_at (a_Shown : Addr) (a_NoReading : Addr) : M DL.Flow := dSeq (dAsg 2 (dMeth a_Shown "ticks_to" 2 [.R, .F] [] (F_Shown_ticks_to a_Shown a_NoReading) (dSlot 0) (dCons (dSlot 1) (dNil)))) 
        (dSeq (dUn (.tup [.name 3, .name 4, .name 5]) (dV (dFld a_Shown "c_rules" (dSlot 0)))) 
        (dSeq (dAsg 6 (dCall 4 [.F, .F] [] F_way_to (dCons (dV (dFld a_Shown "c_spans" (dSlot 0))) (dCons (dV (dFld a_Shown "c_value" (dSlot 0))) (dNil))))) 
        (dSeq (dAsg 7 (dIf (dOr (dB (dOp2 isD (dSlot 6) (dV (dC .non)))) (dB (dOp2 eqT (dSlot 6) (dV (dC (.int 0)))))) (dC (.int 0)) (dCall 7 [.F, .F, .F, .F] [] F_moved (dCons (dSlot 6) (dCons (dSlot 3) (dCons (dSlot 4) (dCons (dSlot 2) (dNil)))))))) 
        (dRet (dOp2 addD (dV (dOp2 addD (dV (dFld a_Shown "c_value" (dSlot 0))) (dV (dOp2 mulD (dV (dC (.int 1000))) (dSlot 2))))) (dSlot 7))))))
def F_Shown_learn (a_Shown : Addr) (a_NoReading : Addr) (a_NoSpans : Addr) : M DL.Flow := dSeq (dExpr (dMeth a_Shown "ticks_to" 2 [.R, .F] [] (F_Shown_ticks_to a_Shown a_NoReading) (dSlot 0) (dCons (dSlot 1) (dNil)))) 
        (dSeq (dIf (dNot (dB (dCall 7 [.F] [] F_are_spans (dCons (dSlot 2) (dNil))))) (dRaise a_NoSpans) (dNx)) 
        (dSeq (dAsg 3 (dMeth a_Shown "at" 8 [.R, .F] [] (F_Shown_at a_Shown a_NoReading) (dSlot 0) (dCons (dSlot 1) (dNil)))) 
        (dSeq (dAsg 4 (dCall 4 [.F, .F] [] F_way_to (dCons (dSlot 2) (dCons (dSlot 3) (dNil))))) 
        (dSeq (dAsg 5 (dIf (dAnd (dB (dOp2 isNotD (dSlot 4) (dV (dC .non)))) (dB (dOp2 gtD (dSlot 4) (dV (dOp2 ixD (dV (dFld a_Shown "c_rules" (dSlot 0))) (dV (dC (.int 2)))))))) (dVar 4) (dC (.int 0)))) 
        (dSeq (dSetF a_Shown "c_reading" (dSlot 0) (dSlot 1)) 
        (dSeq (dSetF a_Shown "c_value" (dSlot 0) (dV (dOp2 addD (dSlot 3) (dSlot 5)))) 
        (dSeq (dSetF a_Shown "c_spans" (dSlot 0) (dV (dCallB listD (dCons (dSlot 2) (dNil))))) 
        (dRetV 5))))))))
def F_Shown_reading (a_Shown : Addr) : M DL.Flow := dRet (dFld a_Shown "c_reading" (dSlot 0))
def F_Shown_value (a_Shown : Addr) : M DL.Flow := dRet (dFld a_Shown "c_value" (dSlot 0))
def F_Shown_spans (a_Shown : Addr) : M DL.Flow := dRet (dCallB listD (dCons (dV (dFld a_Shown "c_spans" (dSlot 0))) (dNil)))
def L_widened_0 : M DL.Flow := dExpr (dAppend 3 (dV (dTup (dCons (dV (dIf (dB (dOp2 isD (dSlot 4) (dV (dC .non)))) (dC .non) (dOp2 subD (dSlot 4) (dV (dOp2 mulD (dSlot 1) (dSlot 2)))))) (dCons (dV (dIf (dB (dOp2 isD (dSlot 5) (dV (dC .non)))) (dC .non) (dOp2 addD (dSlot 5) (dV (dOp2 mulD (dSlot 1) (dSlot 2)))))) (dNil))))))
def F_widened : M DL.Flow := dSeq (dAsg 3 (dLst (dNil))) 
        (dSeq (dFor itS (.tup [.name 4, .name 5]) (L_widened_0) (dOne (dSlot 0))) 
        (dRetV 3))
def F_Shown_distance (a_Shown : Addr) (a_NoReading : Addr) : M DL.Flow := dSeq (dAsg 2 (dMeth a_Shown "ticks_to" 2 [.R, .F] [] (F_Shown_ticks_to a_Shown a_NoReading) (dSlot 0) (dCons (dSlot 1) (dNil)))) 
        (dSeq (dAsg 3 (dCall 4 [.F, .F] [] F_way_to (dCons (dV (dCall 6 [.F, .F, .F] [] F_widened (dCons (dV (dFld a_Shown "c_spans" (dSlot 0))) (dCons (dV (dOp2 ixD (dV (dFld a_Shown "c_rules" (dSlot 0))) (dV (dC (.int 0))))) (dCons (dSlot 2) (dNil)))))) (dCons (dV (dOp2 subD (dV (dMeth a_Shown "at" 8 [.R, .F] [] (F_Shown_at a_Shown a_NoReading) (dSlot 0) (dCons (dSlot 1) (dNil)))) (dV (dOp2 mulD (dV (dC (.int 1000))) (dSlot 2))))) (dNil))))) 
        (dRet (dIf (dB (dOp2 isD (dSlot 3) (dV (dC .non)))) (dC .non) (dCallB absD (dCons (dSlot 3) (dNil))))))
def L_law_are_spans_0 : M DL.Flow := dSeq (dIf (dOr (dNot (dB (dIsi [.tuple] (dSlot 3)))) (dB (dOp2 neT (dV (dCallB lenD (dCons (dSlot 3) (dNil)))) (dV (dC (.int 2)))))) (dRet (dC (.bl false))) (dNx)) 
          (dSeq (dIf (dB (dOp2 neT (dV (dComp itS (.name 4) [4] (dAnd (dB (dOp2 isNotD (dSlot 4) (dV (dC .non)))) (dNot (dB (dCall 3 [.F, .F, .F] [] F_law_is_int (dCons (dSlot 4) (dCons (dV (dOp1 negD (dV (dOp2 powD (dV (dC (.int 10))) (dV (dC (.int 60))))))) (dCons (dV (dOp2 powD (dV (dC (.int 10))) (dV (dC (.int 60))))) (dNil)))))))) (dSlot 4) (dOne (dSlot 3)))) (dV (dLst (dNil))))) (dRet (dC (.bl false))) (dNx)) 
          (dSeq (dIf (dOr (dAnd (dB (dOp2 isD (dV (dOp2 ixD (dSlot 3) (dV (dC (.int 0))))) (dV (dC .non)))) (dB (dOp2 gtD (dSlot 2) (dV (dC (.int 0)))))) (dAnd (dB (dOp2 isD (dV (dOp2 ixD (dSlot 3) (dV (dC (.int 1))))) (dV (dC .non)))) (dB (dOp2 ltD (dV (dOp2 addD (dSlot 2) (dV (dC (.int 1))))) (dV (dCallB lenD (dCons (dSlot 0) (dNil)))))))) (dRet (dC (.bl false))) (dNx)) 
          (dSeq (dIf (dOr (dAnd (dB (dOp2 gtD (dSlot 2) (dV (dC (.int 0))))) (dB (dOp2 geD (dV (dOp2 addD (dSlot 1) (dV (dC (.int 1))))) (dV (dOp2 ixD (dSlot 3) (dV (dC (.int 0)))))))) (dAnd (dB (dOp2 notInT (dV (dC .non)) (dSlot 3))) (dB (dOp2 gtD (dV (dOp2 ixD (dSlot 3) (dV (dC (.int 0))))) (dV (dOp2 ixD (dSlot 3) (dV (dC (.int 1))))))))) (dRet (dC (.bl false))) (dNx)) 
          (dAsg 1 (dOp2 ixD (dSlot 3) (dV (dC (.int 1))))))))
def F_law_are_spans : M DL.Flow := dSeq (dIf (dNot (dB (dIsi [.list, .tuple] (dSlot 0)))) (dRet (dC (.bl false))) (dNx)) 
        (dSeq (dAsg 1 (dC .non)) 
        (dSeq (dFor itEB (.tup [.name 2, .name 3]) (L_law_are_spans_0) (dCons (dSlot 0) (dNil))) 
        (dRet (dC (.bl true)))))
def F_Shown_copy (a_Shown : Addr) (a_NoClock : Addr) : M DL.Flow := dSeq (dUn (.tup [.name 1, .name 2, .name 3]) (dV (dFld a_Shown "c_rules" (dSlot 0)))) 
        (dSeq (dAsg 4 (dMake a_Shown 6 [.F, .F, .F, .F, .F] [] (F_Shown_init a_Shown a_NoClock) (dCons (dSlot 1) (dCons (dSlot 2) (dCons (dSlot 3) (dCons (dV (dFld a_Shown "c_reading" (dSlot 0))) (dCons (dV (dFld a_Shown "c_value" (dSlot 0))) (dNil)))))))) 
        (dSeq (dSetF a_Shown "c_spans" (dSlot 4) (dV (dCallB listD (dCons (dV (dFld a_Shown "c_spans" (dSlot 0))) (dNil))))) 
        (dRetV 4)))
def L_law_0 (a_Shown : Addr) (a_HourError : Addr) (a_NoClock : Addr) (a_NoReading : Addr) (a_NoSpans : Addr) (a_tab_law : Addr) : M DL.Flow := dSub 3 (dV (dCall 1 [.F] [] F_law_odd (dCons (dSlot 1) (dNil)))) (dV (dCall 4 [.F, .F] [] F_law_take (dCons (dSlot 1) (dCons (dV (dC (.int 5))) (dNil)))))
def L_law_1 (a_Shown : Addr) (a_HourError : Addr) (a_NoClock : Addr) (a_NoReading : Addr) (a_NoSpans : Addr) (a_tab_law : Addr) : M DL.Flow := dSeq (dAsg 3 (dLst (dCons (dV (dC (.int 10))) (dCons (dV (dC (.int 20))) (dCons (dV (dC (.int 30))) (dCons (dV (dC (.int 40))) (dCons (dV (dC (.int 50))) (dNil)))))))) 
          (dSeq (dFor itR1 (.name 4) ((L_law_0 a_Shown a_HourError a_NoClock a_NoReading a_NoSpans a_tab_law)) (dCons (dV (dCall 4 [.F, .F] [] F_law_take (dCons (dSlot 1) (dCons (dV (dC (.int 3))) (dNil))))) (dNil))) 
          (dSeq (dAsg 5 (dAndV (dCall 3 [.F, .F, .F] [] F_law_is_int (dCons (dV (dOp2 ixD (dSlot 3) (dV (dC (.int 0))))) (dCons (dV (dC (.int 0))) (dCons (dV (dC (.int 500))) (dNil))))) (dAndV (dCall 3 [.F, .F, .F] [] F_law_is_int (dCons (dV (dOp2 ixD (dSlot 3) (dV (dC (.int 1))))) (dCons (dV (dC (.int 0))) (dCons (dV (dC (.int 900))) (dNil))))) (dCall 3 [.F, .F, .F] [] F_law_is_int (dCons (dV (dOp2 ixD (dSlot 3) (dV (dC (.int 3))))) (dCons (dV (dC (.int 0))) (dCons (dV (dOp2 powD (dV (dC (.int 10))) (dV (dC (.int 9))))) (dNil)))))))) 
          (dSeq (dAsg 5 (dAndV (dVar 5) (dAndV (dCall 3 [.F, .F, .F] [] F_law_is_int (dCons (dV (dOp2 ixD (dSlot 3) (dV (dC (.int 2))))) (dCons (dV (dC (.int 0))) (dCons (dV (dOp2 powD (dV (dC (.int 10))) (dV (dC (.int 60))))) (dNil))))) (dCall 3 [.F, .F, .F] [] F_law_is_int (dCons (dV (dOp2 ixD (dSlot 3) (dV (dC (.int 4))))) (dCons (dV (dOp1 negD (dV (dOp2 powD (dV (dC (.int 10))) (dV (dC (.int 60))))))) (dCons (dV (dOp2 powD (dV (dC (.int 10))) (dV (dC (.int 60))))) (dNil)))))))) 
          (dSeq (dAsg 6 (dIf (dB (dVar 5)) (dC (.str "")) (dC (.str "clock")))) 
          (dSeq (dIf (dB (dOp2 neT (dV (dLamG 0 a_tab_law "law.<locals>.<lambda>" 4 1 (ctL [(a_NoClock, true), (a_NoReading, true), (a_NoSpans, true)]) (F_law_error a_HourError a_NoClock a_NoReading a_NoSpans) (dMakeKM a_Shown 6 [.F, .F, .F, .F, .F] (F_Shown_init a_Shown a_NoClock) (dCons (dV (dOp2 ixD (dSlot 3) (dV (dC (.int 0))))) (dCons (dV (dOp2 ixD (dSlot 3) (dV (dC (.int 1))))) (dCons (dV (dOp2 ixD (dSlot 3) (dV (dC (.int 2))))) (dNil)))) [1, 0] (dCons (dV (dOp2 ixD (dSlot 3) (dV (dC (.int 4))))) (dCons (dV (dOp2 ixD (dSlot 3) (dV (dC (.int 3))))) (dNil)))))) (dSlot 6))) (dRet (dC (.bl false))) (dNx)) 
          (dSeq (dAsg 7 (dMake a_Shown 6 [.F, .F, .F, .F, .F] [] (F_Shown_init a_Shown a_NoClock) (dCons (dV (dC (.int 10))) (dCons (dV (dC (.int 20))) (dCons (dV (dC (.int 30))) (dCons (dV (dC (.int 40))) (dCons (dV (dC (.int 50))) (dNil)))))))) 
          (dSeq (dExpr (dMeth a_Shown "learn" 6 [.L, .F, .F] [] (F_Shown_learn a_Shown a_NoReading a_NoSpans) (dSlot 7) (dCons (dV (dC (.int 60))) (dCons (dV (dTup (dCons (dV (dTup (dCons (dV (dC (.int 0))) (dCons (dV (dC (.int 5))) (dNil))))) (dCons (dV (dTup (dCons (dV (dC (.int 7))) (dCons (dV (dC .non)) (dNil))))) (dNil))))) (dNil))))) 
          (dSeq (dPar 8 9 (dCons (dV (dCall 1 [.F] [] F_law_odd (dCons (dSlot 1) (dNil)))) (dCons (dV (dTup (dCons (dV (dProp a_Shown 1 .R (F_Shown_reading a_Shown) (dSlot 7))) (dCons (dV (dProp a_Shown 1 .R (F_Shown_value a_Shown) (dSlot 7))) (dCons (dV (dProp a_Shown 1 .R (F_Shown_spans a_Shown) (dSlot 7))) (dCons (dV (dMeth a_Shown "at" 8 [.R, .F] [] (F_Shown_at a_Shown a_NoReading) (dSlot 7) (dCons (dV (dC (.int 99))) (dNil)))) (dNil))))))) (dNil)))) 
          (dSeq (dAsg 10 (dIf (dB (dCall 3 [.F, .F, .F] [] F_law_is_int (dCons (dSlot 8) (dCons (dV (dC (.int 60))) (dCons (dV (dOp2 powD (dV (dC (.int 10))) (dV (dC (.int 9))))) (dNil)))))) (dC (.str "")) (dC (.str "reading")))) 
          (dSeq (dIf (dB (dOp2 neT (dV (dLamG 0 a_tab_law "law.<locals>.<lambda>" 4 1 (ctL [(a_NoClock, true), (a_NoReading, true), (a_NoSpans, true)]) (F_law_error a_HourError a_NoClock a_NoReading a_NoSpans) (dMeth a_Shown "at" 8 [.R, .F] [] (F_Shown_at a_Shown a_NoReading) (dSlot 7) (dPick [0] (dCons (dSlot 8) (dNil)))))) (dSlot 10))) (dRet (dC (.bl false))) (dNx)) 
          (dSeq (dIf (dB (dOp2 neT (dV (dLamG 0 a_tab_law "law.<locals>.<lambda>" 4 1 (ctL [(a_NoClock, true), (a_NoReading, true), (a_NoSpans, true)]) (F_law_error a_HourError a_NoClock a_NoReading a_NoSpans) (dMeth a_Shown "distance" 4 [.R, .F] [] (F_Shown_distance a_Shown a_NoReading) (dSlot 7) (dCons (dSlot 8) (dNil))))) (dSlot 10))) (dRet (dC (.bl false))) (dNx)) 
          (dSeq (dAsg 11 (dLst (dCons (dV (dTup (dCons (dV (dC (.int 5))) (dCons (dV (dC (.int 4))) (dNil))))) (dCons (dV (dTup (dCons (dV (dC (.int 0))) (dCons (dV (dC (.int 5))) (dNil))))) (dCons (dV (dTup (dCons (dV (dC (.int 6))) (dCons (dV (dC (.int 9))) (dNil))))) (dCons (dV (dTup (dCons (dV (dC (.int 7))) (dCons (dV (dC (.int 9))) (dNil))))) (dCons (dV (dTup (dCons (dV (dC .non)) (dCons (dV (dC (.int 3))) (dNil))))) (dCons (dV (dTup (dCons (dV (dC (.int 8))) (dCons (dV (dC .non)) (dNil))))) (dCons (dV (dTup (dCons (dV (dC .non)) (dCons (dV (dC .non)) (dNil))))) (dCons (dV (dTup (dCons (dV (dC (.int 0))) (dCons (dV (dC (.bl true))) (dNil))))) (dCons (dV (dLst (dCons (dV (dC (.int 0))) (dCons (dV (dC (.int 5))) (dNil))))) (dCons (dV (dTup (dCons (dV (dC (.int 0))) (dNil)))) (dNil))))))))))))) 
          (dSeq (dAsg 11 (dOp2 addD (dSlot 11) (dV (dLst (dCons (dV (dC .non)) (dCons (dV (dTup (dCons (dV (dC (.int 1))) (dCons (dV (dC (.str "2"))) (dNil))))) (dNil))))))) 
          (dSeq (dAsg 12 (dComp itR1 (.name 4) [4] (dYes) (dV (dCall 2 [.F, .F] [] F_law_pick (dCons (dSlot 1) (dCons (dSlot 11) (dNil))))) (dCons (dV (dCall 4 [.F, .F] [] F_law_take (dCons (dSlot 1) (dCons (dV (dC (.int 4))) (dNil))))) (dNil)))) 
          (dSeq (dAsg 12 (dCall 2 [.F, .F] [] F_law_pick (dCons (dSlot 1) (dCons (dV (dLst (dCons (dSlot 12) (dCons (dSlot 12) (dCons (dV (dCallB tupleD (dCons (dSlot 12) (dNil)))) (dCons (dV (dC .non)) (dCons (dV (dNewK)) (dCons (dV (dC (.str "a"))) (dNil))))))))) (dNil))))) 
          (dSeq (dAsg 6 (dIf (dB (dOp2 neT (dSlot 10) (dV (dC (.str ""))))) (dVar 10) (dIf (dB (dCall 5 [.F] [] F_law_are_spans (dCons (dSlot 12) (dNil)))) (dC (.str "")) (dC (.str "spans"))))) 
          (dSeq (dAsg 13 (dMeth a_Shown "copy" 5 [.R] [] (F_Shown_copy a_Shown a_NoClock) (dSlot 7) dNil')) 
          (dSeq (dIf (dB (dOp2 neT (dV (dLamG 0 a_tab_law "law.<locals>.<lambda>" 4 1 (ctL [(a_NoClock, true), (a_NoReading, true), (a_NoSpans, true)]) (F_law_error a_HourError a_NoClock a_NoReading a_NoSpans) (dMeth a_Shown "learn" 6 [.L, .F, .F] [] (F_Shown_learn a_Shown a_NoReading a_NoSpans) (dSlot 7) (dCons (dSlot 8) (dCons (dSlot 12) (dNil)))))) (dSlot 6))) (dRet (dC (.bl false))) (dNx)) 
          (dSeq (dIf (dAnd (dB (dOp2 neT (dSlot 6) (dV (dC (.str ""))))) (dB (dOp2 neT (dV (dTup (dCons (dV (dProp a_Shown 1 .R (F_Shown_reading a_Shown) (dSlot 7))) (dCons (dV (dProp a_Shown 1 .R (F_Shown_value a_Shown) (dSlot 7))) (dCons (dV (dProp a_Shown 1 .R (F_Shown_spans a_Shown) (dSlot 7))) (dCons (dV (dMeth a_Shown "at" 8 [.R, .F] [] (F_Shown_at a_Shown a_NoReading) (dSlot 7) (dCons (dV (dC (.int 99))) (dNil)))) (dNil))))))) (dSlot 9)))) (dRet (dC (.bl false))) (dNx)) 
          (dIf (dB (dOp2 neT (dV (dTup (dCons (dV (dProp a_Shown 1 .R (F_Shown_reading a_Shown) (dSlot 13))) (dCons (dV (dProp a_Shown 1 .R (F_Shown_value a_Shown) (dSlot 13))) (dCons (dV (dProp a_Shown 1 .R (F_Shown_spans a_Shown) (dSlot 13))) (dCons (dV (dMeth a_Shown "at" 8 [.R, .F] [] (F_Shown_at a_Shown a_NoReading) (dSlot 13) (dCons (dV (dC (.int 99))) (dNil)))) (dNil))))))) (dSlot 9))) (dRet (dC (.bl false))) (dNx)))))))))))))))))))))
def F_law (a_Shown : Addr) (a_HourError : Addr) (a_NoClock : Addr) (a_NoReading : Addr) (a_NoSpans : Addr) (a_tab_law : Addr) : M DL.Flow := dSeq (dFor itR1 (.name 2) ((L_law_1 a_Shown a_HourError a_NoClock a_NoReading a_NoSpans a_tab_law)) (dCons (dV (dOp2 addD (dV (dC (.int 8))) (dV (dCallB minD (dCons (dV (dCallB lenD (dCons (dSlot 0) (dNil)))) (dCons (dV (dC (.int 24))) (dNil))))))) (dNil))) 
        (dRet (dC (.bl true)))
end Law
set_option Elab.async false
set_option linter.all false
set_option maxRecDepth 100000
set_option maxHeartbeats 4000000
namespace Law
open PySem PySem.Spec PyProof.Rows L2 DL
def topS (i : Nat) : Stmt := PySem.Challenge.pw_surehour_k45_shown_clocks_refused.main.body.getD i (.Pass ⟨0, 0, 0, 0⟩)
abbrev s_law_begin : Stmt := topS 22
theorem sc_law_begin : FnScope ["_law_script", "_law_large", "_law_cell"] ["_law_script"] (defScope s_law_begin) := ⟨rfl, rfl, rfl, by decide +kernel, rfl, by decide +kernel, by decide +kernel⟩
abbrev s_law_take : Stmt := topS 23
theorem sc_law_take : FnScope ["_law_draw", "_law_size", "_law_cell", "_law_found"] ["_law_draw", "_law_size"] (defScope s_law_take) := ⟨rfl, rfl, rfl, by decide +kernel, rfl, by decide +kernel, by decide +kernel⟩
abbrev s_law_pick : Stmt := topS 24
theorem sc_law_pick : FnScope ["_law_draw", "_law_some"] ["_law_draw", "_law_some"] (defScope s_law_pick) := ⟨rfl, rfl, rfl, by decide +kernel, rfl, by decide +kernel, by decide +kernel⟩
abbrev s_law_odd : Stmt := topS 28
theorem sc_law_odd : FnScope ["_law_draw"] ["_law_draw"] (defScope s_law_odd) := ⟨rfl, rfl, rfl, by decide +kernel, rfl, by decide +kernel, by decide +kernel⟩
abbrev s_law_is_int : Stmt := topS 26
theorem sc_law_is_int : FnScope ["_law_worth", "_law_least", "_law_most"] ["_law_worth", "_law_least", "_law_most"] (defScope s_law_is_int) := ⟨rfl, rfl, rfl, by decide +kernel, rfl, by decide +kernel, by decide +kernel⟩
abbrev s_law_error : Stmt := topS 25
theorem sc_law_error : FnScope ["_law_work", "_law_caught", "e", "_law_marks"] ["_law_work"] (defScope s_law_error) := ⟨rfl, rfl, rfl, by decide +kernel, rfl, by decide +kernel, by decide +kernel⟩
abbrev s_is_between : Stmt := topS 8
theorem sc_is_between : FnScope ["value", "least", "most"] ["value", "least", "most"] (defScope s_is_between) := ⟨rfl, rfl, rfl, by decide +kernel, rfl, by decide +kernel, by decide +kernel⟩
abbrev s_is_integer : Stmt := topS 9
theorem sc_is_integer : FnScope ["value"] ["value"] (defScope s_is_integer) := ⟨rfl, rfl, rfl, by decide +kernel, rfl, by decide +kernel, by decide +kernel⟩
abbrev s_Shown_init : Stmt := inClass (topS 20) 0
theorem sc_Shown_init : FnScope ["self", "drift", "slew", "jump", "reading", "value"] ["self", "drift", "slew", "jump", "reading", "value"] (defScope s_Shown_init) := ⟨rfl, rfl, rfl, by decide +kernel, rfl, by decide +kernel, by decide +kernel⟩
abbrev s_Shown_ticks_to : Stmt := inClass (topS 20) 5
theorem sc_Shown_ticks_to : FnScope ["self", "reading"] ["self", "reading"] (defScope s_Shown_ticks_to) := ⟨rfl, rfl, rfl, by decide +kernel, rfl, by decide +kernel, by decide +kernel⟩
abbrev s_is_list : Stmt := topS 10
theorem sc_is_list : FnScope ["value"] ["value"] (defScope s_is_list) := ⟨rfl, rfl, rfl, by decide +kernel, rfl, by decide +kernel, by decide +kernel⟩
abbrev s_is_end : Stmt := topS 14
theorem sc_is_end : FnScope ["value"] ["value"] (defScope s_is_end) := ⟨rfl, rfl, rfl, by decide +kernel, rfl, by decide +kernel, by decide +kernel⟩
abbrev s_are_spans : Stmt := topS 15
theorem sc_are_spans : FnScope ["value", "at", "span", "low", "high", "one", "other"] ["value"] (defScope s_are_spans) := ⟨rfl, rfl, rfl, by decide +kernel, rfl, by decide +kernel, by decide +kernel⟩
abbrev s_gaps : Stmt := topS 17
theorem sc_gaps : FnScope ["spans", "value", "below", "above", "low", "high"] ["spans", "value"] (defScope s_gaps) := ⟨rfl, rfl, rfl, by decide +kernel, rfl, by decide +kernel, by decide +kernel⟩
abbrev s_way_to : Stmt := topS 18
theorem sc_way_to : FnScope ["spans", "value", "below", "above"] ["spans", "value"] (defScope s_way_to) := ⟨rfl, rfl, rfl, by decide +kernel, rfl, by decide +kernel, by decide +kernel⟩
abbrev s_moved : Stmt := topS 19
theorem sc_moved : FnScope ["way", "drift", "slew", "ticks", "far", "found", "full"] ["way", "drift", "slew", "ticks"] (defScope s_moved) := ⟨rfl, rfl, rfl, by decide +kernel, rfl, by decide +kernel, by decide +kernel⟩
abbrev s_Shown_at : Stmt := inClass (topS 20) 6
theorem sc_Shown_at : FnScope ["self", "reading", "ticks", "drift", "slew", "jump", "way", "more"] ["self", "reading"] (defScope s_Shown_at) := ⟨rfl, rfl, rfl, by decide +kernel, rfl, by decide +kernel, by decide +kernel⟩
abbrev s_Shown_learn : Stmt := inClass (topS 20) 7
theorem sc_Shown_learn : FnScope ["self", "reading", "spans", "value", "way", "step"] ["self", "reading", "spans"] (defScope s_Shown_learn) := ⟨rfl, rfl, rfl, by decide +kernel, rfl, by decide +kernel, by decide +kernel⟩
abbrev s_Shown_reading : Stmt := inClass (topS 20) 1
theorem sc_Shown_reading : FnScope ["self"] ["self"] (defScope s_Shown_reading) := ⟨rfl, rfl, rfl, by decide +kernel, rfl, by decide +kernel, by decide +kernel⟩
abbrev s_Shown_value : Stmt := inClass (topS 20) 2
theorem sc_Shown_value : FnScope ["self"] ["self"] (defScope s_Shown_value) := ⟨rfl, rfl, rfl, by decide +kernel, rfl, by decide +kernel, by decide +kernel⟩
abbrev s_Shown_spans : Stmt := inClass (topS 20) 3
theorem sc_Shown_spans : FnScope ["self"] ["self"] (defScope s_Shown_spans) := ⟨rfl, rfl, rfl, by decide +kernel, rfl, by decide +kernel, by decide +kernel⟩
abbrev s_widened : Stmt := topS 16
theorem sc_widened : FnScope ["spans", "drift", "ticks", "found", "low", "high"] ["spans", "drift", "ticks"] (defScope s_widened) := ⟨rfl, rfl, rfl, by decide +kernel, rfl, by decide +kernel, by decide +kernel⟩
abbrev s_Shown_distance : Stmt := inClass (topS 20) 8
theorem sc_Shown_distance : FnScope ["self", "reading", "ticks", "way"] ["self", "reading"] (defScope s_Shown_distance) := ⟨rfl, rfl, rfl, by decide +kernel, rfl, by decide +kernel, by decide +kernel⟩
abbrev s_law_are_spans : Stmt := topS 27
theorem sc_law_are_spans : FnScope ["_law_worth", "_law_last", "_law_at", "_law_pair", "_law_end"] ["_law_worth"] (defScope s_law_are_spans) := ⟨rfl, rfl, rfl, by decide +kernel, rfl, by decide +kernel, by decide +kernel⟩
abbrev s_Shown_copy : Stmt := inClass (topS 20) 4
theorem sc_Shown_copy : FnScope ["self", "drift", "slew", "jump", "found"] ["self"] (defScope s_Shown_copy) := ⟨rfl, rfl, rfl, by decide +kernel, rfl, by decide +kernel, by decide +kernel⟩
abbrev s_law : Stmt := topS 29
theorem sc_law : FnScope ["_law_script", "_law_draw", "_law_turn", "_law_five", "_law_k", "_law_is_right", "_law_due", "_law_made", "_law_odd_here", "_law_kept", "_law_bad", "_law_spots", "_law_some", "_law_twin"] ["_law_script"] (defScope s_law) := ⟨rfl, rfl, rfl, by decide +kernel, rfl, by decide +kernel, by decide +kernel⟩
structure Txt (K : PySem.W.Frag) (mg : Str → Option Value) (base : Heap) : Type where
  z_abs : mg "abs" = none
  z_list : mg "list" = none
  z_range : mg "range" = none
  z_len : mg "len" = none
  z_min : mg "min" = none
  z_int : mg "int" = none
  z_divmod : mg "divmod" = none
  z_isinstance : mg "isinstance" = none
  z_bool : mg "bool" = none
  z_tuple : mg "tuple" = none
  z_enumerate : mg "enumerate" = none
  z_zip : mg "zip" = none
  z_all : mg "all" = none
  z_max : mg "max" = none
  t_MOST_SLEW : Tok
  g_MOST_SLEW : mg "MOST_SLEW" = some (.int 900 t_MOST_SLEW)
  t_MOST_DRIFT : Tok
  g_MOST_DRIFT : mg "MOST_DRIFT" = some (.int 500 t_MOST_DRIFT)
  t_MOST_READING : Tok
  g_MOST_READING : mg "MOST_READING" = some (.int 1000000000 t_MOST_READING)
  t_EXACT : Tok
  g_EXACT : mg "EXACT" = some (.int 1000 t_EXACT)
  a_Shown : Addr
  m_Shown : mg "Shown" = some (.ref a_Shown)
  c_Shown : Cls K a_Shown
  n_Shown_c_reading : NoAttr K a_Shown "c_reading"
  n_Shown_c_rules : NoAttr K a_Shown "c_rules"
  n_Shown_c_spans : NoAttr K a_Shown "c_spans"
  n_Shown_c_value : NoAttr K a_Shown "c_value"
  a_HourError : Addr
  m_HourError : mg "HourError" = some (.ref a_HourError)
  x_HourError : XCls K a_HourError
  a_NoClock : Addr
  m_NoClock : mg "NoClock" = some (.ref a_NoClock)
  x_NoClock : XCls K a_NoClock
  a_NoReading : Addr
  m_NoReading : mg "NoReading" = some (.ref a_NoReading)
  x_NoReading : XCls K a_NoReading
  a_NoSpans : Addr
  m_NoSpans : mg "NoSpans" = some (.ref a_NoSpans)
  x_NoSpans : XCls K a_NoSpans
  xe_NoClock : PySem.W.excIn K a_NoClock [.type "ValueError", .type "Exception", .type "BaseException", .type "object"] "ValueError.__new__" = true
  xk_NoClock : PySem.W.keepIn K (.ref a_NoClock) = true
  xe_NoReading : PySem.W.excIn K a_NoReading [.type "ValueError", .type "Exception", .type "BaseException", .type "object"] "ValueError.__new__" = true
  xk_NoReading : PySem.W.keepIn K (.ref a_NoReading) = true
  xe_NoSpans : PySem.W.excIn K a_NoSpans [.type "ValueError", .type "Exception", .type "BaseException", .type "object"] "ValueError.__new__" = true
  xk_NoSpans : PySem.W.keepIn K (.ref a_NoSpans) = true
  xn_HourError : PySem.W.subIn K (.type "NoneType") (.ref a_HourError) = some false
  xi_NoClock_HourError : PySem.W.kitOne K (.ref a_NoClock) (.ref a_HourError) = some true
  xm_NoClock_HourError : PySem.W.exmOne K (.ref a_NoClock) (.ref a_HourError) = some true
  xi_NoReading_HourError : PySem.W.kitOne K (.ref a_NoReading) (.ref a_HourError) = some true
  xm_NoReading_HourError : PySem.W.exmOne K (.ref a_NoReading) (.ref a_HourError) = some true
  xi_NoSpans_HourError : PySem.W.kitOne K (.ref a_NoSpans) (.ref a_HourError) = some true
  xm_NoSpans_HourError : PySem.W.exmOne K (.ref a_NoSpans) (.ref a_HourError) = some true
  xn_NoClock : PySem.W.subIn K (.type "NoneType") (.ref a_NoClock) = some false
  xi_NoClock_NoClock : PySem.W.kitOne K (.ref a_NoClock) (.ref a_NoClock) = some true
  xm_NoClock_NoClock : PySem.W.exmOne K (.ref a_NoClock) (.ref a_NoClock) = some true
  xi_NoReading_NoClock : PySem.W.kitOne K (.ref a_NoReading) (.ref a_NoClock) = some false
  xi_NoSpans_NoClock : PySem.W.kitOne K (.ref a_NoSpans) (.ref a_NoClock) = some false
  xn_NoReading : PySem.W.subIn K (.type "NoneType") (.ref a_NoReading) = some false
  xi_NoClock_NoReading : PySem.W.kitOne K (.ref a_NoClock) (.ref a_NoReading) = some false
  xi_NoReading_NoReading : PySem.W.kitOne K (.ref a_NoReading) (.ref a_NoReading) = some true
  xm_NoReading_NoReading : PySem.W.exmOne K (.ref a_NoReading) (.ref a_NoReading) = some true
  xi_NoSpans_NoReading : PySem.W.kitOne K (.ref a_NoSpans) (.ref a_NoReading) = some false
  xn_NoSpans : PySem.W.subIn K (.type "NoneType") (.ref a_NoSpans) = some false
  xi_NoClock_NoSpans : PySem.W.kitOne K (.ref a_NoClock) (.ref a_NoSpans) = some false
  xi_NoReading_NoSpans : PySem.W.kitOne K (.ref a_NoReading) (.ref a_NoSpans) = some false
  xi_NoSpans_NoSpans : PySem.W.kitOne K (.ref a_NoSpans) (.ref a_NoSpans) = some true
  xm_NoSpans_NoSpans : PySem.W.exmOne K (.ref a_NoSpans) (.ref a_NoSpans) = some true
  a_tab_law : Addr
  c_tab_law : Addr
  tb_tab_law : LamX.TabB base mg c_tab_law a_tab_law
  a_f_law_begin : Addr
  d_law_begin : FuncData
  F_law_begin : Fun K "_law_begin" "_law_begin" s_law_begin a_f_law_begin d_law_begin
  b_law_begin : Binds K d_law_begin ["_law_script"] []
  m_law_begin : mg "_law_begin" = some (.ref a_f_law_begin)
  a_f_law_take : Addr
  d_law_take : FuncData
  F_law_take : Fun K "_law_take" "_law_take" s_law_take a_f_law_take d_law_take
  b_law_take : Binds K d_law_take ["_law_draw", "_law_size"] []
  m_law_take : mg "_law_take" = some (.ref a_f_law_take)
  a_f_law_pick : Addr
  d_law_pick : FuncData
  F_law_pick : Fun K "_law_pick" "_law_pick" s_law_pick a_f_law_pick d_law_pick
  b_law_pick : Binds K d_law_pick ["_law_draw", "_law_some"] []
  m_law_pick : mg "_law_pick" = some (.ref a_f_law_pick)
  a_f_law_odd : Addr
  d_law_odd : FuncData
  F_law_odd : Fun K "_law_odd" "_law_odd" s_law_odd a_f_law_odd d_law_odd
  b_law_odd : Binds K d_law_odd ["_law_draw"] []
  m_law_odd : mg "_law_odd" = some (.ref a_f_law_odd)
  a_f_law_is_int : Addr
  d_law_is_int : FuncData
  F_law_is_int : Fun K "_law_is_int" "_law_is_int" s_law_is_int a_f_law_is_int d_law_is_int
  b_law_is_int : Binds K d_law_is_int ["_law_worth", "_law_least", "_law_most"] []
  m_law_is_int : mg "_law_is_int" = some (.ref a_f_law_is_int)
  a_f_law_error : Addr
  d_law_error : FuncData
  v_law_error : Value
  F_law_error : DFn K "_law_error" "_law_error" s_law_error a_f_law_error d_law_error v_law_error
  b_law_error : Binds K d_law_error ["_law_work"] []
  m_law_error : mg "_law_error" = some (.ref a_f_law_error)
  a_f_is_between : Addr
  d_is_between : FuncData
  F_is_between : Fun K "is_between" "is_between" s_is_between a_f_is_between d_is_between
  b_is_between : Binds K d_is_between ["value", "least", "most"] []
  m_is_between : mg "is_between" = some (.ref a_f_is_between)
  a_f_is_integer : Addr
  d_is_integer : FuncData
  F_is_integer : Fun K "is_integer" "is_integer" s_is_integer a_f_is_integer d_is_integer
  b_is_integer : Binds K d_is_integer ["value"] []
  m_is_integer : mg "is_integer" = some (.ref a_f_is_integer)
  a_f_Shown_init : Addr
  d_Shown_init : FuncData
  F_Shown_init : Fun K "__init__" "Shown.__init__" s_Shown_init a_f_Shown_init d_Shown_init
  b_Shown_init : Binds K d_Shown_init ["self", "drift", "slew", "jump", "reading", "value"] []
  w0_Shown_init : KwB K d_Shown_init ["self", "drift", "slew", "jump", "reading", "value"] 4 ["value", "reading"] [1, 0]
  k_Shown : Mk K a_Shown a_f_Shown_init
  a_f_Shown_ticks_to : Addr
  d_Shown_ticks_to : FuncData
  F_Shown_ticks_to : Fun K "ticks_to" "Shown.ticks_to" s_Shown_ticks_to a_f_Shown_ticks_to d_Shown_ticks_to
  b_Shown_ticks_to : Binds K d_Shown_ticks_to ["self", "reading"] []
  M_Shown_ticks_to : Meth K a_Shown "ticks_to" a_f_Shown_ticks_to
  a_f_is_list : Addr
  d_is_list : FuncData
  F_is_list : Fun K "is_list" "is_list" s_is_list a_f_is_list d_is_list
  b_is_list : Binds K d_is_list ["value"] []
  m_is_list : mg "is_list" = some (.ref a_f_is_list)
  a_f_is_end : Addr
  d_is_end : FuncData
  F_is_end : Fun K "is_end" "is_end" s_is_end a_f_is_end d_is_end
  b_is_end : Binds K d_is_end ["value"] []
  m_is_end : mg "is_end" = some (.ref a_f_is_end)
  a_f_are_spans : Addr
  d_are_spans : FuncData
  F_are_spans : Fun K "are_spans" "are_spans" s_are_spans a_f_are_spans d_are_spans
  b_are_spans : Binds K d_are_spans ["value"] []
  m_are_spans : mg "are_spans" = some (.ref a_f_are_spans)
  a_f_gaps : Addr
  d_gaps : FuncData
  F_gaps : Fun K "gaps" "gaps" s_gaps a_f_gaps d_gaps
  b_gaps : Binds K d_gaps ["spans", "value"] []
  m_gaps : mg "gaps" = some (.ref a_f_gaps)
  a_f_way_to : Addr
  d_way_to : FuncData
  F_way_to : Fun K "way_to" "way_to" s_way_to a_f_way_to d_way_to
  b_way_to : Binds K d_way_to ["spans", "value"] []
  m_way_to : mg "way_to" = some (.ref a_f_way_to)
  a_f_moved : Addr
  d_moved : FuncData
  F_moved : Fun K "moved" "moved" s_moved a_f_moved d_moved
  b_moved : Binds K d_moved ["way", "drift", "slew", "ticks"] []
  m_moved : mg "moved" = some (.ref a_f_moved)
  a_f_Shown_at : Addr
  d_Shown_at : FuncData
  F_Shown_at : Fun K "at" "Shown.at" s_Shown_at a_f_Shown_at d_Shown_at
  b_Shown_at : Binds K d_Shown_at ["self", "reading"] []
  w0_Shown_at : KwB K d_Shown_at ["self", "reading"] 1 ["reading"] [0]
  M_Shown_at : Meth K a_Shown "at" a_f_Shown_at
  a_f_Shown_learn : Addr
  d_Shown_learn : FuncData
  F_Shown_learn : Fun K "learn" "Shown.learn" s_Shown_learn a_f_Shown_learn d_Shown_learn
  b_Shown_learn : Binds K d_Shown_learn ["self", "reading", "spans"] []
  M_Shown_learn : Meth K a_Shown "learn" a_f_Shown_learn
  a_f_Shown_reading : Addr
  d_Shown_reading : FuncData
  F_Shown_reading : Fun K "reading" "Shown.reading" s_Shown_reading a_f_Shown_reading d_Shown_reading
  b_Shown_reading : Binds K d_Shown_reading ["self"] []
  p_Shown_reading : Addr
  P_Shown_reading : PropOf K a_Shown "reading" p_Shown_reading a_f_Shown_reading
  a_f_Shown_value : Addr
  d_Shown_value : FuncData
  F_Shown_value : Fun K "value" "Shown.value" s_Shown_value a_f_Shown_value d_Shown_value
  b_Shown_value : Binds K d_Shown_value ["self"] []
  p_Shown_value : Addr
  P_Shown_value : PropOf K a_Shown "value" p_Shown_value a_f_Shown_value
  a_f_Shown_spans : Addr
  d_Shown_spans : FuncData
  F_Shown_spans : Fun K "spans" "Shown.spans" s_Shown_spans a_f_Shown_spans d_Shown_spans
  b_Shown_spans : Binds K d_Shown_spans ["self"] []
  p_Shown_spans : Addr
  P_Shown_spans : PropOf K a_Shown "spans" p_Shown_spans a_f_Shown_spans
  a_f_widened : Addr
  d_widened : FuncData
  F_widened : Fun K "widened" "widened" s_widened a_f_widened d_widened
  b_widened : Binds K d_widened ["spans", "drift", "ticks"] []
  m_widened : mg "widened" = some (.ref a_f_widened)
  a_f_Shown_distance : Addr
  d_Shown_distance : FuncData
  F_Shown_distance : Fun K "distance" "Shown.distance" s_Shown_distance a_f_Shown_distance d_Shown_distance
  b_Shown_distance : Binds K d_Shown_distance ["self", "reading"] []
  M_Shown_distance : Meth K a_Shown "distance" a_f_Shown_distance
  a_f_law_are_spans : Addr
  d_law_are_spans : FuncData
  F_law_are_spans : Fun K "_law_are_spans" "_law_are_spans" s_law_are_spans a_f_law_are_spans d_law_are_spans
  b_law_are_spans : Binds K d_law_are_spans ["_law_worth"] []
  m_law_are_spans : mg "_law_are_spans" = some (.ref a_f_law_are_spans)
  a_f_Shown_copy : Addr
  d_Shown_copy : FuncData
  F_Shown_copy : Fun K "copy" "Shown.copy" s_Shown_copy a_f_Shown_copy d_Shown_copy
  b_Shown_copy : Binds K d_Shown_copy ["self"] []
  M_Shown_copy : Meth K a_Shown "copy" a_f_Shown_copy
  a_f_law : Addr
  d_law : FuncData
  v_law : Value
  F_law : DFn K "law" "law" s_law a_f_law d_law (.ref c_tab_law)
  b_law : Binds K d_law ["_law_script"] []
  m_law : mg "law" = some (.ref a_f_law)
section
variable {P : Program} {w : World} {K : PySem.W.Frag} {mg : Str → Option Value} {base : Heap}
theorem ok_law_begin (T : Txt K mg base) : DL.FnOk P w K mg base (L2.CX P w) 1 T.a_f_law_begin T.d_law_begin ["_law_script"] (spBegin K) := by
  refine T.F_law_begin.okG sc_law_begin (fun vs H Q E h => ?_) (fun cdv A outer s H vs Q E hr h => ?_)
  · obtain ⟨a, ns, rfl, _⟩ := h
    rfl
  · have B : Bd (cxOf (L2.CX P w) P w K mg base ["_law_script", "_law_large", "_law_cell"] "_law_begin" (defScope s_law_begin) T.a_f_law_begin cdv A outer s H E) (fun cls d _ H' => E cls d H') 0 := ⟨rfl, hr, takes_of rfl rfl rfl rfl, passes_of rfl, sc_law_begin.nd⟩
    refine ⟨_, pss_cons (ds_setLc (Wx := fun cls d _ H' => E cls d H') (i := 1) (own := [("_law_cell", 2)]) ⟨B, blkOk_by (N := ["_law_script", "_law_large", "_law_cell"]) (sc := defScope s_law_begin) (own := [("_law_cell", 2)]) (by decide +kernel), fun _ _ _ _ _ B => dg_name (i := 2) B.nd (by rfl) (by first | exact Or.inl rfl | exact Or.inr rfl), fun _ _ _ _ _ B => dts_one (dt_cmp o_ge (dv_e (de_callB c_abs (by rfl) T.z_abs bt_abs (da_cons (dv_v 2) (da_nil)))) (dv_e (de_op o_pow (dv_e (de_int)) (dv_e (de_int)))) (by rfl)), fun _ _ _ _ _ B => dv_e (de_callB c_abs (by rfl) T.z_abs bt_abs (da_cons (dv_v 2) (da_nil))), by decide⟩ (di_seq (dv_v 0)) (by rfl) (by rfl) (sw_true rfl rfl rfl (by decide +kernel)))
      (pss_one (ps_ret (pe_disp (pps_cons pe_str (pv 1) (pps_cons pe_str (pe_callTy call_list_of (by rfl) T.z_list bt_list (pa_cons (pv 0) pa_nil)) (pps_cons pe_str pe_int (pps_cons pe_str pe_int (pps_cons pe_str pe_int pps_nil))))) (by rfl) (by rfl) (fun z => by cases z) (by decide)))), ?_⟩
    exact begin_run h
theorem ok_law_take (T : Txt K mg base) : DL.FnOk P w K mg base (L2.CX P w) 1 T.a_f_law_take T.d_law_take ["_law_draw", "_law_size"] (spF K ["_law_draw", "_law_size"] ["_law_draw", "_law_size", "_law_cell", "_law_found"] (F_law_take)) :=
  fn_dl T.F_law_take sc_law_take fun cdv A outer s H E X hX B => by
    subst hX
    exact dss_cons (ds_if (DTW.dt (dtw_and (dt_cmp (o_eq B.room.units) (dv_e (de_drGet .rest (by rfl) (DL.hu_of B.room) (by rfl) (by first | exact Or.inl rfl | exact Or.inr (Or.inl rfl) | exact Or.inr (Or.inr rfl)))) (dv_e (de_int)) (by rfl)) (dtw_and1 (dt_drNe B.room.units (by rfl) (by first | exact Or.inl rfl | exact Or.inr (Or.inl rfl) | exact Or.inr (Or.inr rfl)))))) (dss_one (ds_drPop (i := 0) (DL.hu_of B.room) (by rfl) (by first | exact Or.inl rfl | exact Or.inr (Or.inl rfl) | exact Or.inr (Or.inr rfl)))) (dss_one (ds_if (dt_cmp (o_eq B.room.units) (dv_e (de_drGet .rest (by rfl) (DL.hu_of B.room) (by rfl) (by first | exact Or.inl rfl | exact Or.inr (Or.inl rfl) | exact Or.inr (Or.inr rfl)))) (dv_e (de_int)) (by rfl)) (dss_cons (ds_drSet (i := 0) .turn (by rfl) (DL.hu_of B.room) (by rfl) (by first | exact Or.inl rfl | exact Or.inr (Or.inl rfl) | exact Or.inr (Or.inr rfl)) (dv_e (de_op o_add (dv_e (de_drGet .turn (by rfl) (DL.hu_of B.room) (by rfl) (by first | exact Or.inl rfl | exact Or.inr (Or.inl rfl) | exact Or.inr (Or.inr rfl)))) (dv_e (de_int))))) 
            (dss_cons (ds_for B.own B.calm (dv_e (de_op o_add (dv_e (de_lst (da_cons (dv_e (de_drGet .turn (by rfl) (DL.hu_of B.room) (by rfl) (by first | exact Or.inl rfl | exact Or.inr (Or.inl rfl) | exact Or.inr (Or.inr rfl)))) (da_nil)))) (dv_e (de_drGet .cells (by rfl) (DL.hu_of B.room) (by rfl) (by first | exact Or.inl rfl | exact Or.inr (Or.inl rfl) | exact Or.inr (Or.inr rfl)))))) (dg_name (i := 2) B.nd (by rfl) (by first | exact Or.inl rfl | exact Or.inr rfl)) (dss_one (ds_drSet (i := 0) .mix (by rfl) (DL.hu_of B.room) (by rfl) (by first | exact Or.inl rfl | exact Or.inr (Or.inl rfl) | exact Or.inr (Or.inr rfl)) (dv_e (de_op o_mod (dv_e (de_callTy c_int (by rfl) T.z_int bt_int (da_cons (dv_e (de_op o_add (dv_e (de_op o_add (dv_e (de_op o_mul (dv_e (de_drGet .mix (by rfl) (DL.hu_of B.room) (by rfl) (by first | exact Or.inl rfl | exact Or.inr (Or.inl rfl) | exact Or.inr (Or.inr rfl)))) (dv_e (de_int)))) (dv_e (de_op o_mul (dv_v 2) (dv_e (de_int)))))) (dv_e (de_int)))) (da_nil)))) (dv_e (de_int))))))) 
            (dss_one (ds_drSet (i := 0) .rest (by rfl) (DL.hu_of B.room) (by rfl) (by first | exact Or.inl rfl | exact Or.inr (Or.inl rfl) | exact Or.inr (Or.inr rfl)) (dv_e (de_op o_mod (dv_e (de_callTy c_int (by rfl) T.z_int bt_int (da_cons (dv_e (de_op o_pow (dv_e (de_drGet .mix (by rfl) (DL.hu_of B.room) (by rfl) (by first | exact Or.inl rfl | exact Or.inr (Or.inl rfl) | exact Or.inr (Or.inr rfl)))) (dv_e (de_int)))) (da_nil)))) (dv_e (de_int)))))))) (dss_nil)))) 
        (dss_cons (ds_drDiv (i := 0) (j := 1) (k := 3) B.calm B.nd (DL.hu_of B.room) (by rfl) T.z_divmod bt_divmod (by rfl) (by first | exact Or.inl rfl | exact Or.inr (Or.inl rfl) | exact Or.inr (Or.inr rfl)) (by rfl) (by first | exact Or.inl rfl | exact Or.inr (Or.inl rfl) | exact Or.inr (Or.inr rfl)) (by rfl) (by first | exact Or.inl rfl | exact Or.inr rfl)) 
        (dss_one (ds_retV 3)))
theorem ok_law_pick (T : Txt K mg base) : DL.FnOk P w K mg base (L2.CX P w) 2 T.a_f_law_pick T.d_law_pick ["_law_draw", "_law_some"] (spF K ["_law_draw", "_law_some"] ["_law_draw", "_law_some"] (F_law_pick)) :=
  fn_dl T.F_law_pick sc_law_pick fun cdv A outer s H E X hX B => by
    subst hX
    exact dss_one (ds_ret (de_ix (o_ix (DL.hu_of B.room)) (dv_v 1) (dv_e (de_call (ms := [.F, .F]) (ok_law_take T) rfl (B.room.mono (by decide)) T.m_law_take T.F_law_take.kp T.b_law_take .nil (fun _ => .nil) B.tk rfl (da_cons (dv_v 0) (da_cons (dv_e (de_callB c_len (by rfl) T.z_len bt_len (da_cons (dv_v 1) (da_nil)))) (da_nil))))) (fun _ _ => rfl)))
theorem ok_law_odd (T : Txt K mg base) : DL.FnOk P w K mg base (L2.CX P w) 3 T.a_f_law_odd T.d_law_odd ["_law_draw"] (spF K ["_law_draw"] ["_law_draw"] (F_law_odd)) :=
  fn_dl T.F_law_odd sc_law_odd fun cdv A outer s H E X hX B => by
    subst hX
    exact dss_one (ds_ret (de_call (ms := [.F, .F]) (ok_law_pick T) rfl (B.room.mono (by decide)) T.m_law_pick T.F_law_pick.kp T.b_law_pick .nil (fun _ => .nil) B.tk rfl (da_cons (dv_v 0) (da_cons (dv_e (de_lst (da_cons (dv_e (de_non)) (da_cons (dv_e (de_bl)) (da_cons (dv_e (de_bl)) (da_cons (dv_e (de_str)) (da_cons (dv_e (de_un o_neg (dv_e (de_int)))) (da_cons (dv_e (de_int)) (da_cons (dv_e (de_int)) (da_cons (dv_e (de_int)) (da_cons (dv_e (de_int)) (da_cons (dv_e (de_int)) (da_cons (dv_e (de_op o_pow (dv_e (de_int)) (dv_e (de_int)))) (da_cons (dv_e (de_op o_add (dv_e (de_op o_pow (dv_e (de_int)) (dv_e (de_int)))) (dv_e (de_int)))) (da_cons (dv_e (de_tup (da_nil))) (da_cons (dv_e (de_lst (da_nil))) (da_cons (dv_e (de_newK)) (da_cons (dv_e (de_int)) (da_nil))))))))))))))))))) (da_nil)))))
theorem ok_law_is_int (T : Txt K mg base) : DL.FnOk P w K mg base (L2.CX P w) 1 T.a_f_law_is_int T.d_law_is_int ["_law_worth", "_law_least", "_law_most"] (spF K ["_law_worth", "_law_least", "_law_most"] ["_law_worth", "_law_least", "_law_most"] (F_law_is_int)) :=
  fn_dl T.F_law_is_int sc_law_is_int fun cdv A outer s H E X hX B => by
    subst hX
    exact dss_one (ds_ret (de_and (de_isi .int (by rfl) (dv_v 0) (by rfl) T.z_isinstance (by rfl) T.z_int bt_int) (de_and (de_not (de_isi .bool (by rfl) (dv_v 0) (by rfl) T.z_isinstance (by rfl) T.z_bool bt_bool)) (de_one (de_chain o_le o_le (dv_v 1) (dv_v 0) (dv_v 2))))))
theorem okr_law_error (T : Txt K mg base) : RestOk P w K mg base ["_law_work", "_law_caught", "e", "_law_marks"] "_law_error" (defScope s_law_error) T.a_f_law_error T.v_law_error 0 ((defBody s_law_error).drop 2) (F_law_error T.a_HourError T.a_NoClock T.a_NoReading T.a_NoSpans) := fun A outer s H E X hX B => by
    subst hX
    exact dss_cons (ds_set (i := 3) B.nd (by rfl) (by first | exact Or.inl rfl | exact Or.inr rfl) (de_lst (da_cons (dv_e (de_isX (dv_v 1) (by rfl) T.z_isinstance (by rfl) T.m_NoClock (ct_cons ⟨T.x_NoClock.k, T.xi_NoClock_NoClock⟩ (ct_cons ⟨T.x_NoReading.k, T.xi_NoReading_NoClock⟩ (ct_cons ⟨T.x_NoSpans.k, T.xi_NoSpans_NoClock⟩ ct_nil))) (kit_n T.x_NoClock T.xn_NoClock))) (da_cons (dv_e (de_isX (dv_v 1) (by rfl) T.z_isinstance (by rfl) T.m_NoReading (ct_cons ⟨T.x_NoClock.k, T.xi_NoClock_NoReading⟩ (ct_cons ⟨T.x_NoReading.k, T.xi_NoReading_NoReading⟩ (ct_cons ⟨T.x_NoSpans.k, T.xi_NoSpans_NoReading⟩ ct_nil))) (kit_n T.x_NoReading T.xn_NoReading))) (da_cons (dv_e (de_isX (dv_v 1) (by rfl) T.z_isinstance (by rfl) T.m_NoSpans (ct_cons ⟨T.x_NoClock.k, T.xi_NoClock_NoSpans⟩ (ct_cons ⟨T.x_NoReading.k, T.xi_NoReading_NoSpans⟩ (ct_cons ⟨T.x_NoSpans.k, T.xi_NoSpans_NoSpans⟩ ct_nil))) (kit_n T.x_NoSpans T.xn_NoSpans))) (da_nil)))))) 
        (dss_one (ds_ret (de_if (dt_cmp o_is (dv_v 1) (dv_e (de_non)) (by rfl)) (de_str) (de_ix (o_ix (DL.hu_of B.room)) (dv_e (de_lst (da_cons (dv_e (de_str)) (da_cons (dv_e (de_str)) (da_cons (dv_e (de_str)) (da_cons (dv_e (de_str)) (da_nil))))))) (dv_e (de_indexB (dv_e (de_op o_add (dv_v 3) (dv_e (de_lst (da_cons (dv_e (de_bl)) (da_nil)))))) (dv_e (de_bl)))) (fun _ _ => rfl)))))
theorem ok_is_between (T : Txt K mg base) : DL.FnOk P w K mg base (L2.CX P w) 1 T.a_f_is_between T.d_is_between ["value", "least", "most"] (spF K ["value", "least", "most"] ["value", "least", "most"] (F_is_between)) :=
  fn_dl T.F_is_between sc_is_between fun cdv A outer s H E X hX B => by
    subst hX
    exact dss_one (ds_ret (de_and (de_isi .int (by rfl) (dv_v 0) (by rfl) T.z_isinstance (by rfl) T.z_int bt_int) (de_and (de_not (de_isi .bool (by rfl) (dv_v 0) (by rfl) T.z_isinstance (by rfl) T.z_bool bt_bool)) (de_one (de_chain o_le o_le (dv_v 1) (dv_v 0) (dv_v 2))))))
theorem ok_is_integer (T : Txt K mg base) : DL.FnOk P w K mg base (L2.CX P w) 1 T.a_f_is_integer T.d_is_integer ["value"] (spF K ["value"] ["value"] (F_is_integer)) :=
  fn_dl T.F_is_integer sc_is_integer fun cdv A outer s H E X hX B => by
    subst hX
    exact dss_one (ds_ret (de_and (de_isi .int (by rfl) (dv_v 0) (by rfl) T.z_isinstance (by rfl) T.z_int bt_int) (de_one (de_not (de_isi .bool (by rfl) (dv_v 0) (by rfl) T.z_isinstance (by rfl) T.z_bool bt_bool)))))
theorem ok_Shown_init (T : Txt K mg base) : DL.FnOk P w K mg base (L2.CX P w) 2 T.a_f_Shown_init T.d_Shown_init ["self", "drift", "slew", "jump", "reading", "value"] (spF K ["self", "drift", "slew", "jump", "reading", "value"] ["self", "drift", "slew", "jump", "reading", "value"] (F_Shown_init T.a_Shown T.a_NoClock)) :=
  fn_dl T.F_Shown_init sc_Shown_init fun cdv A outer s H E X hX B => by
    subst hX
    exact dss_cons (ds_if (DTW.dt (dtw_or (dt_not (dt_val (de_call (ms := [.F, .F, .F]) (ok_is_between T) rfl (B.room.mono (by decide)) T.m_is_between T.F_is_between.kp T.b_is_between .nil (fun _ => .nil) B.tk rfl (da_cons (dv_v 1) (da_cons (dv_e (de_int)) (da_cons (dv_e (de_gint (by rfl) T.g_MOST_DRIFT)) (da_nil))))))) (dtw_or1 (dt_not (dt_val (de_call (ms := [.F, .F, .F]) (ok_is_between T) rfl (B.room.mono (by decide)) T.m_is_between T.F_is_between.kp T.b_is_between .nil (fun _ => .nil) B.tk rfl (da_cons (dv_v 2) (da_cons (dv_e (de_int)) (da_cons (dv_e (de_gint (by rfl) T.g_MOST_SLEW)) (da_nil)))))))))) (dss_one (ds_raise B.calm B.tk PySem.F.excBase_ValueError T.xe_NoClock T.m_NoClock T.xk_NoClock (raises_own T.x_NoClock.sub T.x_NoClock.ty) rfl)) (dss_nil)) 
        (dss_cons (ds_if (DTW.dt (dtw_or (dt_not (dt_val (de_call (ms := [.F]) (ok_is_integer T) rfl (B.room.mono (by decide)) T.m_is_integer T.F_is_integer.kp T.b_is_integer .nil (fun _ => .nil) B.tk rfl (da_cons (dv_v 3) (da_nil))))) (dtw_or (dt_cmp o_lt (dv_v 3) (dv_e (de_int)) (by rfl)) (dtw_or (dt_not (dt_val (de_call (ms := [.F, .F, .F]) (ok_is_between T) rfl (B.room.mono (by decide)) T.m_is_between T.F_is_between.kp T.b_is_between .nil (fun _ => .nil) B.tk rfl (da_cons (dv_v 4) (da_cons (dv_e (de_int)) (da_cons (dv_e (de_gint (by rfl) T.g_MOST_READING)) (da_nil))))))) (dtw_or1 (dt_not (dt_val (de_call (ms := [.F]) (ok_is_integer T) rfl (B.room.mono (by decide)) T.m_is_integer T.F_is_integer.kp T.b_is_integer .nil (fun _ => .nil) B.tk rfl (da_cons (dv_v 5) (da_nil)))))))))) (dss_one (ds_raise B.calm B.tk PySem.F.excBase_ValueError T.xe_NoClock T.m_NoClock T.xk_NoClock (raises_own T.x_NoClock.sub T.x_NoClock.ty) rfl)) (dss_nil)) 
        (dss_cons (ds_setF T.c_Shown T.n_Shown_c_rules (dv_v 0) (dv_e (de_tup (da_cons (dv_v 1) (da_cons (dv_v 2) (da_cons (dv_v 3) (da_nil))))))) 
        (dss_cons (ds_setF T.c_Shown T.n_Shown_c_reading (dv_v 0) (dv_v 4)) 
        (dss_cons (ds_setF T.c_Shown T.n_Shown_c_value (dv_v 0) (dv_v 5)) 
        (dss_one (ds_setF T.c_Shown T.n_Shown_c_spans (dv_v 0) (dv_e (de_lst (da_nil)))))))))
theorem ok_Shown_ticks_to (T : Txt K mg base) : DL.FnOk P w K mg base (L2.CX P w) 2 T.a_f_Shown_ticks_to T.d_Shown_ticks_to ["self", "reading"] (spF K ["self", "reading"] ["self", "reading"] (F_Shown_ticks_to T.a_Shown T.a_NoReading)) :=
  fn_dl T.F_Shown_ticks_to sc_Shown_ticks_to fun cdv A outer s H E X hX B => by
    subst hX
    exact dss_cons (ds_if (dt_not (dt_val (de_call (ms := [.F, .F, .F]) (ok_is_between T) rfl (B.room.mono (by decide)) T.m_is_between T.F_is_between.kp T.b_is_between .nil (fun _ => .nil) B.tk rfl (da_cons (dv_v 1) (da_cons (dv_e (de_fld T.c_Shown T.n_Shown_c_reading (dv_v 0))) (da_cons (dv_e (de_gint (by rfl) T.g_MOST_READING)) (da_nil))))))) (dss_one (ds_raise B.calm B.tk PySem.F.excBase_ValueError T.xe_NoReading T.m_NoReading T.xk_NoReading (raises_own T.x_NoReading.sub T.x_NoReading.ty) rfl)) (dss_nil)) 
        (dss_one (ds_ret (de_op o_sub (dv_v 1) (dv_e (de_fld T.c_Shown T.n_Shown_c_reading (dv_v 0))))))
theorem ok_is_list (T : Txt K mg base) : DL.FnOk P w K mg base (L2.CX P w) 1 T.a_f_is_list T.d_is_list ["value"] (spF K ["value"] ["value"] (F_is_list)) :=
  fn_dl T.F_is_list sc_is_list fun cdv A outer s H E X hX B => by
    subst hX
    exact dss_one (ds_ret (de_isi2 .list .tuple (by rfl) (by rfl) (dv_v 0) (by rfl) T.z_isinstance (by rfl) T.z_list bt_list (by rfl) T.z_tuple bt_tuple))
theorem ok_is_end (T : Txt K mg base) : DL.FnOk P w K mg base (L2.CX P w) 2 T.a_f_is_end T.d_is_end ["value"] (spF K ["value"] ["value"] (F_is_end)) :=
  fn_dl T.F_is_end sc_is_end fun cdv A outer s H E X hX B => by
    subst hX
    exact dss_one (ds_ret (de_or (de_cmp o_is (dv_v 0) (dv_e (de_non)) (by rfl)) (de_one (de_call (ms := [.F]) (ok_is_integer T) rfl (B.room.mono (by decide)) T.m_is_integer T.F_is_integer.kp T.b_is_integer .nil (fun _ => .nil) B.tk rfl (da_cons (dv_v 0) (da_nil))))))
theorem ok_are_spans (T : Txt K mg base) : DL.FnOk P w K mg base (L2.CX P w) 3 T.a_f_are_spans T.d_are_spans ["value"] (spF K ["value"] ["value", "at", "span", "low", "high", "one", "other"] (F_are_spans)) :=
  fn_dl T.F_are_spans sc_are_spans fun cdv A outer s H E X hX B => by
    subst hX
    exact dss_cons (ds_if (dt_not (dt_val (de_call (ms := [.F]) (ok_is_list T) rfl (B.room.mono (by decide)) T.m_is_list T.F_is_list.kp T.b_is_list .nil (fun _ => .nil) B.tk rfl (da_cons (dv_v 0) (da_nil))))) (dss_one (ds_ret (de_bl))) (dss_nil)) 
        (dss_cons (ds_forEB B.own B.calm (by rfl) T.z_enumerate (da_cons (dv_v 0) (da_nil)) (dg_tup B.calm (dgs_cons (dg_name (i := 1) B.nd (by rfl) (by first | exact Or.inl rfl | exact Or.inr rfl)) (dgs_cons (dg_name (i := 2) B.nd (by rfl) (by first | exact Or.inl rfl | exact Or.inr rfl)) (dgs_nil)))) (dss_cons (ds_if (DTW.dt (dtw_or (dt_not (dt_val (de_isi .tuple (by rfl) (dv_v 2) (by rfl) T.z_isinstance (by rfl) T.z_tuple bt_tuple))) (dtw_or (dt_cmp (o_ne B.room.units) (dv_e (de_callB c_len (by rfl) T.z_len bt_len (da_cons (dv_v 2) (da_nil)))) (dv_e (de_int)) (by rfl)) (dtw_or (dt_not (dt_val (de_call (ms := [.F]) (ok_is_end T) rfl (B.room.mono (by decide)) T.m_is_end T.F_is_end.kp T.b_is_end .nil (fun _ => .nil) B.tk rfl (da_cons (dv_e (de_ix (o_ix (DL.hu_of B.room)) (dv_v 2) (dv_e (de_int)) (fun _ _ => rfl))) (da_nil))))) (dtw_or1 (dt_not (dt_val (de_call (ms := [.F]) (ok_is_end T) rfl (B.room.mono (by decide)) T.m_is_end T.F_is_end.kp T.b_is_end .nil (fun _ => .nil) B.tk rfl (da_cons (dv_e (de_ix (o_ix (DL.hu_of B.room)) (dv_v 2) (dv_e (de_int)) (fun _ _ => rfl))) (da_nil)))))))))) (dss_one (ds_ret (de_bl))) (dss_nil)) 
          (dss_cons (ds_un (dg_tup B.calm (dgs_cons (dg_name (i := 3) B.nd (by rfl) (by first | exact Or.inl rfl | exact Or.inr rfl)) (dgs_cons (dg_name (i := 4) B.nd (by rfl) (by first | exact Or.inl rfl | exact Or.inr rfl)) (dgs_nil)))) (dv_v 2)) 
          (dss_cons (ds_if (DTW.dt (dtw_or (DTW.dt (dtw_and (dt_cmp o_is (dv_v 3) (dv_e (de_non)) (by rfl)) (dtw_and1 (dt_cmp o_gt (dv_v 1) (dv_e (de_int)) (by rfl))))) (dtw_or1 (DTW.dt (dtw_and (dt_cmp o_is (dv_v 4) (dv_e (de_non)) (by rfl)) (dtw_and1 (dt_cmp o_lt (dv_e (de_op o_add (dv_v 1) (dv_e (de_int)))) (dv_e (de_callB c_len (by rfl) T.z_len bt_len (da_cons (dv_v 0) (da_nil)))) (by rfl)))))))) (dss_one (ds_ret (de_bl))) (dss_nil)) 
          (dss_one (ds_if (DTW.dt (dtw_and (dt_cmp o_isNot (dv_v 3) (dv_e (de_non)) (by rfl)) (dtw_and (dt_cmp o_isNot (dv_v 4) (dv_e (de_non)) (by rfl)) (dtw_and1 (dt_cmp o_gt (dv_v 3) (dv_v 4) (by rfl)))))) (dss_one (ds_ret (de_bl))) (dss_nil))))))) 
        (dss_one (ds_ret (de_callB (c_all B.calm) (by rfl) T.z_all bt_all (da_cons (dv_e (de_lc (own := [("one", 5), ("other", 6)]) ⟨B, blkOk_by (N := ["value", "at", "span", "low", "high", "one", "other"]) (sc := defScope s_are_spans) (own := [("one", 5), ("other", 6)]) (by decide +kernel), fun _ _ _ _ _ B => dg_tup B.calm (dgs_cons (dg_name (i := 5) B.nd (by rfl) (by first | exact Or.inl rfl | exact Or.inr rfl)) (dgs_cons (dg_name (i := 6) B.nd (by rfl) (by first | exact Or.inl rfl | exact Or.inr rfl)) (dgs_nil))), fun _ _ _ _ _ B => dts_nil, fun _ _ _ _ _ B => dv_e (de_cmp o_lt (dv_e (de_op o_add (dv_e (de_ix (o_ix (DL.hu_of B.room)) (dv_v 5) (dv_e (de_int)) (fun _ _ => rfl))) (dv_e (de_int)))) (dv_e (de_ix (o_ix (DL.hu_of B.room)) (dv_v 6) (dv_e (de_int)) (fun _ _ => rfl))) (by rfl)), by decide⟩ (di_zipA (by rfl) T.z_zip (da_cons (dv_v 0) (da_cons (dv_e (de_slice (dv_v 0) (do_some (de_int)) (do_none))) (da_nil)))))) (da_nil))))))
theorem ok_gaps (T : Txt K mg base) : DL.FnOk P w K mg base (L2.CX P w) 1 T.a_f_gaps T.d_gaps ["spans", "value"] (spF K ["spans", "value"] ["spans", "value", "below", "above", "low", "high"] (F_gaps)) :=
  fn_dl T.F_gaps sc_gaps fun cdv A outer s H E X hX B => by
    subst hX
    exact dss_cons (ds_un (dg_tup B.calm (dgs_cons (dg_name (i := 2) B.nd (by rfl) (by first | exact Or.inl rfl | exact Or.inr rfl)) (dgs_cons (dg_name (i := 3) B.nd (by rfl) (by first | exact Or.inl rfl | exact Or.inr rfl)) (dgs_nil)))) (dv_e (de_tup (da_cons (dv_e (de_non)) (da_cons (dv_e (de_non)) (da_nil)))))) 
        (dss_cons (ds_for B.own B.calm (dv_v 0) (dg_tup B.calm (dgs_cons (dg_name (i := 4) B.nd (by rfl) (by first | exact Or.inl rfl | exact Or.inr rfl)) (dgs_cons (dg_name (i := 5) B.nd (by rfl) (by first | exact Or.inl rfl | exact Or.inr rfl)) (dgs_nil)))) (dss_cons (ds_if (DTW.dt (dtw_and (DTW.dt (dtw_or (dt_cmp o_is (dv_v 4) (dv_e (de_non)) (by rfl)) (dtw_or1 (dt_cmp o_le (dv_v 4) (dv_v 1) (by rfl))))) (dtw_and1 (DTW.dt (dtw_or (dt_cmp o_is (dv_v 5) (dv_e (de_non)) (by rfl)) (dtw_or1 (dt_cmp o_le (dv_v 1) (dv_v 5) (by rfl)))))))) (dss_one (ds_ret (de_tup (da_cons (dv_e (de_int)) (da_cons (dv_e (de_int)) (da_nil)))))) (dss_nil)) 
          (dss_cons (ds_if (DTW.dt (dtw_and (dt_cmp o_isNot (dv_v 4) (dv_e (de_non)) (by rfl)) (dtw_and (dt_cmp o_lt (dv_v 1) (dv_v 4) (by rfl)) (dtw_and1 (DTW.dt (dtw_or (dt_cmp o_is (dv_v 2) (dv_e (de_non)) (by rfl)) (dtw_or1 (dt_cmp o_lt (dv_e (de_op o_sub (dv_v 4) (dv_v 1))) (dv_v 2) (by rfl))))))))) (dss_one (ds_set (i := 2) B.nd (by rfl) (by first | exact Or.inl rfl | exact Or.inr rfl) (de_op o_sub (dv_v 4) (dv_v 1)))) (dss_nil)) 
          (dss_one (ds_if (DTW.dt (dtw_and (dt_cmp o_isNot (dv_v 5) (dv_e (de_non)) (by rfl)) (dtw_and (dt_cmp o_lt (dv_v 5) (dv_v 1) (by rfl)) (dtw_and1 (DTW.dt (dtw_or (dt_cmp o_is (dv_v 3) (dv_e (de_non)) (by rfl)) (dtw_or1 (dt_cmp o_lt (dv_e (de_op o_sub (dv_v 1) (dv_v 5))) (dv_v 3) (by rfl))))))))) (dss_one (ds_set (i := 3) B.nd (by rfl) (by first | exact Or.inl rfl | exact Or.inr rfl) (de_op o_sub (dv_v 1) (dv_v 5)))) (dss_nil)))))) 
        (dss_one (ds_ret (de_tup (da_cons (dv_v 2) (da_cons (dv_v 3) (da_nil)))))))
theorem ok_way_to (T : Txt K mg base) : DL.FnOk P w K mg base (L2.CX P w) 2 T.a_f_way_to T.d_way_to ["spans", "value"] (spF K ["spans", "value"] ["spans", "value", "below", "above"] (F_way_to)) :=
  fn_dl T.F_way_to sc_way_to fun cdv A outer s H E X hX B => by
    subst hX
    exact dss_cons (ds_un (dg_tup B.calm (dgs_cons (dg_name (i := 2) B.nd (by rfl) (by first | exact Or.inl rfl | exact Or.inr rfl)) (dgs_cons (dg_name (i := 3) B.nd (by rfl) (by first | exact Or.inl rfl | exact Or.inr rfl)) (dgs_nil)))) (dv_e (de_call (ms := [.F, .F]) (ok_gaps T) rfl (B.room.mono (by decide)) T.m_gaps T.F_gaps.kp T.b_gaps .nil (fun _ => .nil) B.tk rfl (da_cons (dv_v 0) (da_cons (dv_v 1) (da_nil)))))) 
        (dss_cons (ds_if (dt_cmp o_is (dv_v 2) (dv_e (de_non)) (by rfl)) (dss_one (ds_ret (de_if (dt_cmp o_is (dv_v 3) (dv_e (de_non)) (by rfl)) (de_non) (de_un o_neg (dv_v 3))))) (dss_nil)) 
        (dss_one (ds_ret (de_if (DTW.dt (dtw_or (dt_cmp o_is (dv_v 3) (dv_e (de_non)) (by rfl)) (dtw_or1 (dt_cmp o_le (dv_v 2) (dv_v 3) (by rfl))))) (de_v 2) (de_un o_neg (dv_v 3))))))
theorem ok_moved (T : Txt K mg base) : DL.FnOk P w K mg base (L2.CX P w) 1 T.a_f_moved T.d_moved ["way", "drift", "slew", "ticks"] (spF K ["way", "drift", "slew", "ticks"] ["way", "drift", "slew", "ticks", "far", "found", "full"] (F_moved)) :=
  fn_dl T.F_moved sc_moved fun cdv A outer s H E X hX B => by
    subst hX
    exact dss_cons (ds_set (i := 4) B.nd (by rfl) (by first | exact Or.inl rfl | exact Or.inr rfl) (de_callB c_abs (by rfl) T.z_abs bt_abs (da_cons (dv_v 0) (da_nil)))) 
        (dss_cons (ds_if (DTW.dt (dtw_or (dt_cmp (o_eq B.room.units) (dv_e (de_op o_add (dv_v 1) (dv_v 2))) (dv_e (de_int)) (by rfl)) (dtw_or1 (dt_cmp o_le (dv_v 3) (dv_e (de_op o_fdiv (dv_v 4) (dv_e (de_op o_add (dv_v 1) (dv_v 2))))) (by rfl))))) (dss_one (ds_set (i := 5) B.nd (by rfl) (by first | exact Or.inl rfl | exact Or.inr rfl) (de_op o_mul (dv_v 2) (dv_v 3)))) (dss_cons (ds_set (i := 6) B.nd (by rfl) (by first | exact Or.inl rfl | exact Or.inr rfl) (de_op o_fdiv (dv_v 4) (dv_e (de_op o_add (dv_v 1) (dv_v 2))))) 
          (dss_one (ds_set (i := 5) B.nd (by rfl) (by first | exact Or.inl rfl | exact Or.inr rfl) (de_callB (c_max B.calm) (by rfl) T.z_max bt_max (da_cons (dv_e (de_op o_mul (dv_v 2) (dv_v 6))) (da_cons (dv_e (de_op o_sub (dv_v 4) (dv_e (de_op o_mul (dv_v 1) (dv_e (de_op o_add (dv_v 6) (dv_e (de_int)))))))) (da_nil)))))))) 
        (dss_one (ds_ret (de_if (dt_cmp o_gt (dv_v 0) (dv_e (de_int)) (by rfl)) (de_v 5) (de_un o_neg (dv_v 5))))))
theorem ok_Shown_at (T : Txt K mg base) : DL.FnOk P w K mg base (L2.CX P w) 3 T.a_f_Shown_at T.d_Shown_at ["self", "reading"] (spF K ["self", "reading"] ["self", "reading", "ticks", "drift", "slew", "jump", "way", "more"] (F_Shown_at T.a_Shown T.a_NoReading)) :=
  fn_dl T.F_Shown_at sc_Shown_at fun cdv A outer s H E X hX B => by
    subst hX
    exact dss_cons (ds_set (i := 2) B.nd (by rfl) (by first | exact Or.inl rfl | exact Or.inr rfl) (de_meth (ms := [.R, .F]) T.c_Shown T.M_Shown_ticks_to (ok_Shown_ticks_to T) rfl (B.room.mono (by decide)) T.b_Shown_ticks_to .nil (fun _ => .nil) B.tk rfl (dv_v 0) (da_cons (dv_v 1) (da_nil)))) 
        (dss_cons (ds_un (dg_tup B.calm (dgs_cons (dg_name (i := 3) B.nd (by rfl) (by first | exact Or.inl rfl | exact Or.inr rfl)) (dgs_cons (dg_name (i := 4) B.nd (by rfl) (by first | exact Or.inl rfl | exact Or.inr rfl)) (dgs_cons (dg_name (i := 5) B.nd (by rfl) (by first | exact Or.inl rfl | exact Or.inr rfl)) (dgs_nil))))) (dv_e (de_fld T.c_Shown T.n_Shown_c_rules (dv_v 0)))) 
        (dss_cons (ds_set (i := 6) B.nd (by rfl) (by first | exact Or.inl rfl | exact Or.inr rfl) (de_call (ms := [.F, .F]) (ok_way_to T) rfl (B.room.mono (by decide)) T.m_way_to T.F_way_to.kp T.b_way_to .nil (fun _ => .nil) B.tk rfl (da_cons (dv_e (de_fld T.c_Shown T.n_Shown_c_spans (dv_v 0))) (da_cons (dv_e (de_fld T.c_Shown T.n_Shown_c_value (dv_v 0))) (da_nil))))) 
        (dss_cons (ds_set (i := 7) B.nd (by rfl) (by first | exact Or.inl rfl | exact Or.inr rfl) (de_if (DTW.dt (dtw_or (dt_cmp o_is (dv_v 6) (dv_e (de_non)) (by rfl)) (dtw_or1 (dt_cmp (o_eq B.room.units) (dv_v 6) (dv_e (de_int)) (by rfl))))) (de_int) (de_call (ms := [.F, .F, .F, .F]) (ok_moved T) rfl (B.room.mono (by decide)) T.m_moved T.F_moved.kp T.b_moved .nil (fun _ => .nil) B.tk rfl (da_cons (dv_v 6) (da_cons (dv_v 3) (da_cons (dv_v 4) (da_cons (dv_v 2) (da_nil)))))))) 
        (dss_one (ds_ret (de_op o_add (dv_e (de_op o_add (dv_e (de_fld T.c_Shown T.n_Shown_c_value (dv_v 0))) (dv_e (de_op o_mul (dv_e (de_gint (by rfl) T.g_EXACT)) (dv_v 2))))) (dv_v 7)))))))
theorem ok_Shown_learn (T : Txt K mg base) : DL.FnOk P w K mg base (L2.CX P w) 4 T.a_f_Shown_learn T.d_Shown_learn ["self", "reading", "spans"] (spF K ["self", "reading", "spans"] ["self", "reading", "spans", "value", "way", "step"] (F_Shown_learn T.a_Shown T.a_NoReading T.a_NoSpans)) :=
  fn_dl T.F_Shown_learn sc_Shown_learn fun cdv A outer s H E X hX B => by
    subst hX
    exact dss_cons (ds_expr (de_meth (ms := [.R, .F]) T.c_Shown T.M_Shown_ticks_to (ok_Shown_ticks_to T) rfl (B.room.mono (by decide)) T.b_Shown_ticks_to .nil (fun _ => .nil) B.tk rfl (dv_v 0) (da_cons (dv_v 1) (da_nil)))) 
        (dss_cons (ds_if (dt_not (dt_val (de_call (ms := [.F]) (ok_are_spans T) rfl (B.room.mono (by decide)) T.m_are_spans T.F_are_spans.kp T.b_are_spans .nil (fun _ => .nil) B.tk rfl (da_cons (dv_v 2) (da_nil))))) (dss_one (ds_raise B.calm B.tk PySem.F.excBase_ValueError T.xe_NoSpans T.m_NoSpans T.xk_NoSpans (raises_own T.x_NoSpans.sub T.x_NoSpans.ty) rfl)) (dss_nil)) 
        (dss_cons (ds_set (i := 3) B.nd (by rfl) (by first | exact Or.inl rfl | exact Or.inr rfl) (de_meth (ms := [.R, .F]) T.c_Shown T.M_Shown_at (ok_Shown_at T) rfl (B.room.mono (by decide)) T.b_Shown_at .nil (fun _ => .nil) B.tk rfl (dv_v 0) (da_cons (dv_v 1) (da_nil)))) 
        (dss_cons (ds_set (i := 4) B.nd (by rfl) (by first | exact Or.inl rfl | exact Or.inr rfl) (de_call (ms := [.F, .F]) (ok_way_to T) rfl (B.room.mono (by decide)) T.m_way_to T.F_way_to.kp T.b_way_to .nil (fun _ => .nil) B.tk rfl (da_cons (dv_v 2) (da_cons (dv_v 3) (da_nil))))) 
        (dss_cons (ds_set (i := 5) B.nd (by rfl) (by first | exact Or.inl rfl | exact Or.inr rfl) (de_if (DTW.dt (dtw_and (dt_cmp o_isNot (dv_v 4) (dv_e (de_non)) (by rfl)) (dtw_and1 (dt_cmp o_gt (dv_v 4) (dv_e (de_ix (o_ix (DL.hu_of B.room)) (dv_e (de_fld T.c_Shown T.n_Shown_c_rules (dv_v 0))) (dv_e (de_int)) (fun _ _ => rfl))) (by rfl))))) (de_v 4) (de_int))) 
        (dss_cons (ds_setF T.c_Shown T.n_Shown_c_reading (dv_v 0) (dv_v 1)) 
        (dss_cons (ds_setF T.c_Shown T.n_Shown_c_value (dv_v 0) (dv_e (de_op o_add (dv_v 3) (dv_v 5)))) 
        (dss_cons (ds_setF T.c_Shown T.n_Shown_c_spans (dv_v 0) (dv_e (de_callTy c_list (by rfl) T.z_list bt_list (da_cons (dv_v 2) (da_nil))))) 
        (dss_one (ds_retV 5)))))))))
theorem ok_Shown_reading (T : Txt K mg base) : DL.FnOk P w K mg base (L2.CX P w) 1 T.a_f_Shown_reading T.d_Shown_reading ["self"] (spF K ["self"] ["self"] (F_Shown_reading T.a_Shown)) :=
  fn_dl T.F_Shown_reading sc_Shown_reading fun cdv A outer s H E X hX B => by
    subst hX
    exact dss_one (ds_ret (de_fld T.c_Shown T.n_Shown_c_reading (dv_v 0)))
theorem ok_Shown_value (T : Txt K mg base) : DL.FnOk P w K mg base (L2.CX P w) 1 T.a_f_Shown_value T.d_Shown_value ["self"] (spF K ["self"] ["self"] (F_Shown_value T.a_Shown)) :=
  fn_dl T.F_Shown_value sc_Shown_value fun cdv A outer s H E X hX B => by
    subst hX
    exact dss_one (ds_ret (de_fld T.c_Shown T.n_Shown_c_value (dv_v 0)))
theorem ok_Shown_spans (T : Txt K mg base) : DL.FnOk P w K mg base (L2.CX P w) 1 T.a_f_Shown_spans T.d_Shown_spans ["self"] (spF K ["self"] ["self"] (F_Shown_spans T.a_Shown)) :=
  fn_dl T.F_Shown_spans sc_Shown_spans fun cdv A outer s H E X hX B => by
    subst hX
    exact dss_one (ds_ret (de_callTy c_list (by rfl) T.z_list bt_list (da_cons (dv_e (de_fld T.c_Shown T.n_Shown_c_spans (dv_v 0))) (da_nil))))
theorem ok_widened (T : Txt K mg base) : DL.FnOk P w K mg base (L2.CX P w) 1 T.a_f_widened T.d_widened ["spans", "drift", "ticks"] (spF K ["spans", "drift", "ticks"] ["spans", "drift", "ticks", "found", "low", "high"] (F_widened)) :=
  fn_dl T.F_widened sc_widened fun cdv A outer s H E X hX B => by
    subst hX
    exact dss_cons (ds_set (i := 3) B.nd (by rfl) (by first | exact Or.inl rfl | exact Or.inr rfl) (de_lst (da_nil))) 
        (dss_cons (ds_for B.own B.calm (dv_v 0) (dg_tup B.calm (dgs_cons (dg_name (i := 4) B.nd (by rfl) (by first | exact Or.inl rfl | exact Or.inr rfl)) (dgs_cons (dg_name (i := 5) B.nd (by rfl) (by first | exact Or.inl rfl | exact Or.inr rfl)) (dgs_nil)))) (dss_one (ds_expr (de_append (i := 3) (by rfl) (by first | exact Or.inl rfl | exact Or.inr (Or.inl rfl) | exact Or.inr (Or.inr rfl)) (dv_e (de_tup (da_cons (dv_e (de_if (dt_cmp o_is (dv_v 4) (dv_e (de_non)) (by rfl)) (de_non) (de_op o_sub (dv_v 4) (dv_e (de_op o_mul (dv_v 1) (dv_v 2)))))) (da_cons (dv_e (de_if (dt_cmp o_is (dv_v 5) (dv_e (de_non)) (by rfl)) (de_non) (de_op o_add (dv_v 5) (dv_e (de_op o_mul (dv_v 1) (dv_v 2)))))) (da_nil))))))))) 
        (dss_one (ds_retV 3)))
theorem ok_Shown_distance (T : Txt K mg base) : DL.FnOk P w K mg base (L2.CX P w) 4 T.a_f_Shown_distance T.d_Shown_distance ["self", "reading"] (spF K ["self", "reading"] ["self", "reading", "ticks", "way"] (F_Shown_distance T.a_Shown T.a_NoReading)) :=
  fn_dl T.F_Shown_distance sc_Shown_distance fun cdv A outer s H E X hX B => by
    subst hX
    exact dss_cons (ds_set (i := 2) B.nd (by rfl) (by first | exact Or.inl rfl | exact Or.inr rfl) (de_meth (ms := [.R, .F]) T.c_Shown T.M_Shown_ticks_to (ok_Shown_ticks_to T) rfl (B.room.mono (by decide)) T.b_Shown_ticks_to .nil (fun _ => .nil) B.tk rfl (dv_v 0) (da_cons (dv_v 1) (da_nil)))) 
        (dss_cons (ds_set (i := 3) B.nd (by rfl) (by first | exact Or.inl rfl | exact Or.inr rfl) (de_call (ms := [.F, .F]) (ok_way_to T) rfl (B.room.mono (by decide)) T.m_way_to T.F_way_to.kp T.b_way_to .nil (fun _ => .nil) B.tk rfl (da_cons (dv_e (de_call (ms := [.F, .F, .F]) (ok_widened T) rfl (B.room.mono (by decide)) T.m_widened T.F_widened.kp T.b_widened .nil (fun _ => .nil) B.tk rfl (da_cons (dv_e (de_fld T.c_Shown T.n_Shown_c_spans (dv_v 0))) (da_cons (dv_e (de_ix (o_ix (DL.hu_of B.room)) (dv_e (de_fld T.c_Shown T.n_Shown_c_rules (dv_v 0))) (dv_e (de_int)) (fun _ _ => rfl))) (da_cons (dv_v 2) (da_nil)))))) (da_cons (dv_e (de_op o_sub (dv_e (de_meth (ms := [.R, .F]) T.c_Shown T.M_Shown_at (ok_Shown_at T) rfl (B.room.mono (by decide)) T.b_Shown_at .nil (fun _ => .nil) B.tk rfl (dv_v 0) (da_cons (dv_v 1) (da_nil)))) (dv_e (de_op o_mul (dv_e (de_gint (by rfl) T.g_EXACT)) (dv_v 2))))) (da_nil))))) 
        (dss_one (ds_ret (de_if (dt_cmp o_is (dv_v 3) (dv_e (de_non)) (by rfl)) (de_non) (de_callB c_abs (by rfl) T.z_abs bt_abs (da_cons (dv_v 3) (da_nil)))))))
theorem ok_law_are_spans (T : Txt K mg base) : DL.FnOk P w K mg base (L2.CX P w) 2 T.a_f_law_are_spans T.d_law_are_spans ["_law_worth"] (spF K ["_law_worth"] ["_law_worth", "_law_last", "_law_at", "_law_pair", "_law_end"] (F_law_are_spans)) :=
  fn_dl T.F_law_are_spans sc_law_are_spans fun cdv A outer s H E X hX B => by
    subst hX
    exact dss_cons (ds_if (dt_not (dt_val (de_isi2 .list .tuple (by rfl) (by rfl) (dv_v 0) (by rfl) T.z_isinstance (by rfl) T.z_list bt_list (by rfl) T.z_tuple bt_tuple))) (dss_one (ds_ret (de_bl))) (dss_nil)) 
        (dss_cons (ds_set (i := 1) B.nd (by rfl) (by first | exact Or.inl rfl | exact Or.inr rfl) (de_non)) 
        (dss_cons (ds_forEB B.own B.calm (by rfl) T.z_enumerate (da_cons (dv_v 0) (da_nil)) (dg_tup B.calm (dgs_cons (dg_name (i := 2) B.nd (by rfl) (by first | exact Or.inl rfl | exact Or.inr rfl)) (dgs_cons (dg_name (i := 3) B.nd (by rfl) (by first | exact Or.inl rfl | exact Or.inr rfl)) (dgs_nil)))) (dss_cons (ds_if (DTW.dt (dtw_or (dt_not (dt_val (de_isi .tuple (by rfl) (dv_v 3) (by rfl) T.z_isinstance (by rfl) T.z_tuple bt_tuple))) (dtw_or1 (dt_cmp (o_ne B.room.units) (dv_e (de_callB c_len (by rfl) T.z_len bt_len (da_cons (dv_v 3) (da_nil)))) (dv_e (de_int)) (by rfl))))) (dss_one (ds_ret (de_bl))) (dss_nil)) 
          (dss_cons (ds_if (dt_cmp (o_ne B.room.units) (dv_e (de_lc (own := [("_law_end", 4)]) ⟨B, blkOk_by (N := ["_law_worth", "_law_last", "_law_at", "_law_pair", "_law_end"]) (sc := defScope s_law_are_spans) (own := [("_law_end", 4)]) (by decide +kernel), fun _ _ _ _ _ B => dg_name (i := 4) B.nd (by rfl) (by first | exact Or.inl rfl | exact Or.inr rfl), fun _ _ _ _ _ B => dts_one (DTW.dt (dtw_and (dt_cmp o_isNot (dv_v 4) (dv_e (de_non)) (by rfl)) (dtw_and1 (dt_not (dt_val (de_call (ms := [.F, .F, .F]) (ok_law_is_int T) rfl (B.room.mono (by decide)) T.m_law_is_int T.F_law_is_int.kp T.b_law_is_int .nil (fun _ => .nil) B.tk rfl (da_cons (dv_v 4) (da_cons (dv_e (de_un o_neg (dv_e (de_op o_pow (dv_e (de_int)) (dv_e (de_int)))))) (da_cons (dv_e (de_op o_pow (dv_e (de_int)) (dv_e (de_int)))) (da_nil)))))))))), fun _ _ _ _ _ B => dv_v 4, by decide⟩ (di_seq (dv_v 3)))) (dv_e (de_lst (da_nil))) (by rfl)) (dss_one (ds_ret (de_bl))) (dss_nil)) 
          (dss_cons (ds_if (DTW.dt (dtw_or (DTW.dt (dtw_and (dt_cmp o_is (dv_e (de_ix (o_ix (DL.hu_of B.room)) (dv_v 3) (dv_e (de_int)) (fun _ _ => rfl))) (dv_e (de_non)) (by rfl)) (dtw_and1 (dt_cmp o_gt (dv_v 2) (dv_e (de_int)) (by rfl))))) (dtw_or1 (DTW.dt (dtw_and (dt_cmp o_is (dv_e (de_ix (o_ix (DL.hu_of B.room)) (dv_v 3) (dv_e (de_int)) (fun _ _ => rfl))) (dv_e (de_non)) (by rfl)) (dtw_and1 (dt_cmp o_lt (dv_e (de_op o_add (dv_v 2) (dv_e (de_int)))) (dv_e (de_callB c_len (by rfl) T.z_len bt_len (da_cons (dv_v 0) (da_nil)))) (by rfl)))))))) (dss_one (ds_ret (de_bl))) (dss_nil)) 
          (dss_cons (ds_if (DTW.dt (dtw_or (DTW.dt (dtw_and (dt_cmp o_gt (dv_v 2) (dv_e (de_int)) (by rfl)) (dtw_and1 (dt_cmp o_ge (dv_e (de_op o_add (dv_v 1) (dv_e (de_int)))) (dv_e (de_ix (o_ix (DL.hu_of B.room)) (dv_v 3) (dv_e (de_int)) (fun _ _ => rfl))) (by rfl))))) (dtw_or1 (DTW.dt (dtw_and (dt_cmp (o_notIn (DL.hu_of B.room)) (dv_e (de_non)) (dv_v 3) (by rfl)) (dtw_and1 (dt_cmp o_gt (dv_e (de_ix (o_ix (DL.hu_of B.room)) (dv_v 3) (dv_e (de_int)) (fun _ _ => rfl))) (dv_e (de_ix (o_ix (DL.hu_of B.room)) (dv_v 3) (dv_e (de_int)) (fun _ _ => rfl))) (by rfl)))))))) (dss_one (ds_ret (de_bl))) (dss_nil)) 
          (dss_one (ds_set (i := 1) B.nd (by rfl) (by first | exact Or.inl rfl | exact Or.inr rfl) (de_ix (o_ix (DL.hu_of B.room)) (dv_v 3) (dv_e (de_int)) (fun _ _ => rfl))))))))) 
        (dss_one (ds_ret (de_bl)))))
theorem ok_Shown_copy (T : Txt K mg base) : DL.FnOk P w K mg base (L2.CX P w) 4 T.a_f_Shown_copy T.d_Shown_copy ["self"] (spF K ["self"] ["self", "drift", "slew", "jump", "found"] (F_Shown_copy T.a_Shown T.a_NoClock)) :=
  fn_dl T.F_Shown_copy sc_Shown_copy fun cdv A outer s H E X hX B => by
    subst hX
    exact dss_cons (ds_un (dg_tup B.calm (dgs_cons (dg_name (i := 1) B.nd (by rfl) (by first | exact Or.inl rfl | exact Or.inr rfl)) (dgs_cons (dg_name (i := 2) B.nd (by rfl) (by first | exact Or.inl rfl | exact Or.inr rfl)) (dgs_cons (dg_name (i := 3) B.nd (by rfl) (by first | exact Or.inl rfl | exact Or.inr rfl)) (dgs_nil))))) (dv_e (de_fld T.c_Shown T.n_Shown_c_rules (dv_v 0)))) 
        (dss_cons (ds_set (i := 4) B.nd (by rfl) (by first | exact Or.inl rfl | exact Or.inr rfl) (de_make (ms := [.F, .F, .F, .F, .F]) T.k_Shown (ok_Shown_init T) rfl (B.room.mono (by decide)) T.m_Shown T.b_Shown_init .nil (fun _ => .nil) B.tk rfl (da_cons (dv_v 1) (da_cons (dv_v 2) (da_cons (dv_v 3) (da_cons (dv_e (de_fld T.c_Shown T.n_Shown_c_reading (dv_v 0))) (da_cons (dv_e (de_fld T.c_Shown T.n_Shown_c_value (dv_v 0))) (da_nil)))))))) 
        (dss_cons (ds_setF T.c_Shown T.n_Shown_c_spans (dv_v 4) (dv_e (de_callTy c_list (by rfl) T.z_list bt_list (da_cons (dv_e (de_fld T.c_Shown T.n_Shown_c_spans (dv_v 0))) (da_nil))))) 
        (dss_one (ds_retV 4))))
theorem ok_law (T : Txt K mg base) (hm : ∀ ns : List Int, ns.length ≤ 63 → ∃ s', F_law T.a_Shown T.a_HourError T.a_NoClock T.a_NoReading T.a_NoSpans T.a_tab_law (lawStT ns 12 [.tab T.a_tab_law "law.<locals>.<lambda>"]) = .ok (.rt (.fz (.bl true))) s') : DL.FnOk P w K mg base (L2.CX P w) 7 T.a_f_law T.d_law ["_law_script"] (spLawT K [(T.c_tab_law, T.a_tab_law)]) := by
  refine T.F_law.okG sc_law (fun vs H Q E h => ?_) (fun A outer s H vs Q E hr h => ?_)
  · obtain ⟨a, ns, rfl, _⟩ := h
    rfl
  · have B : Bd (cxOf (L2.CX P w) P w K mg base ["_law_script", "_law_draw", "_law_turn", "_law_five", "_law_k", "_law_is_right", "_law_due", "_law_made", "_law_odd_here", "_law_kept", "_law_bad", "_law_spots", "_law_some", "_law_twin"] "law" (defScope s_law) T.a_f_law (.ref T.c_tab_law) A outer s H E) (fun cls d _ H' => E cls d H') 6 := ⟨rfl, hr, takes_of rfl rfl rfl rfl, passes_of rfl, sc_law.nd⟩
    have rest : DSs (cxOf (L2.CX P w) P w K mg base ["_law_script", "_law_draw", "_law_turn", "_law_five", "_law_k", "_law_is_right", "_law_due", "_law_made", "_law_odd_here", "_law_kept", "_law_bad", "_law_spots", "_law_some", "_law_twin"] "law" (defScope s_law) T.a_f_law (.ref T.c_tab_law) A outer s H E) (fun cls d _ H' => E cls d H') (defBody s_law).tail (F_law T.a_Shown T.a_HourError T.a_NoClock T.a_NoReading T.a_NoSpans T.a_tab_law) := dss_cons (ds_forR1 B.own B.calm (by rfl) T.z_range (da_cons (dv_e (de_op o_add (dv_e (de_int)) (dv_e (de_callB (c_min B.calm) (by rfl) T.z_min bt_min (da_cons (dv_e (de_callB c_len (by rfl) T.z_len bt_len (da_cons (dv_v 0) (da_nil)))) (da_cons (dv_e (de_int)) (da_nil))))))) (da_nil)) (dg_name (i := 2) B.nd (by rfl) (by first | exact Or.inl rfl | exact Or.inr rfl)) (dss_cons (ds_set (i := 3) B.nd (by rfl) (by first | exact Or.inl rfl | exact Or.inr rfl) (de_lst (da_cons (dv_e (de_int)) (da_cons (dv_e (de_int)) (da_cons (dv_e (de_int)) (da_cons (dv_e (de_int)) (da_cons (dv_e (de_int)) (da_nil)))))))) 
          (dss_cons (ds_forR1 B.own B.calm (by rfl) T.z_range (da_cons (dv_e (de_call (ms := [.F, .F]) (ok_law_take T) rfl (B.room.mono (by decide)) T.m_law_take T.F_law_take.kp T.b_law_take .nil (fun _ => .nil) B.tk rfl (da_cons (dv_v 1) (da_cons (dv_e (de_int)) (da_nil))))) (da_nil)) (dg_name (i := 4) B.nd (by rfl) (by first | exact Or.inl rfl | exact Or.inr rfl)) (dss_one (ds_sub (i := 3) (DL.hu_of B.room) (by rfl) (by first | exact Or.inl rfl | exact Or.inr (Or.inl rfl) | exact Or.inr (Or.inr rfl)) (dv_e (de_call (ms := [.F]) (ok_law_odd T) rfl (B.room.mono (by decide)) T.m_law_odd T.F_law_odd.kp T.b_law_odd .nil (fun _ => .nil) B.tk rfl (da_cons (dv_v 1) (da_nil)))) (dv_e (de_call (ms := [.F, .F]) (ok_law_take T) rfl (B.room.mono (by decide)) T.m_law_take T.F_law_take.kp T.b_law_take .nil (fun _ => .nil) B.tk rfl (da_cons (dv_v 1) (da_cons (dv_e (de_int)) (da_nil)))))))) 
          (dss_cons (ds_set (i := 5) B.nd (by rfl) (by first | exact Or.inl rfl | exact Or.inr rfl) (de_and (de_call (ms := [.F, .F, .F]) (ok_law_is_int T) rfl (B.room.mono (by decide)) T.m_law_is_int T.F_law_is_int.kp T.b_law_is_int .nil (fun _ => .nil) B.tk rfl (da_cons (dv_e (de_ix (o_ix (DL.hu_of B.room)) (dv_v 3) (dv_e (de_int)) (fun _ _ => rfl))) (da_cons (dv_e (de_int)) (da_cons (dv_e (de_int)) (da_nil))))) (de_and (de_call (ms := [.F, .F, .F]) (ok_law_is_int T) rfl (B.room.mono (by decide)) T.m_law_is_int T.F_law_is_int.kp T.b_law_is_int .nil (fun _ => .nil) B.tk rfl (da_cons (dv_e (de_ix (o_ix (DL.hu_of B.room)) (dv_v 3) (dv_e (de_int)) (fun _ _ => rfl))) (da_cons (dv_e (de_int)) (da_cons (dv_e (de_int)) (da_nil))))) (de_one (de_call (ms := [.F, .F, .F]) (ok_law_is_int T) rfl (B.room.mono (by decide)) T.m_law_is_int T.F_law_is_int.kp T.b_law_is_int .nil (fun _ => .nil) B.tk rfl (da_cons (dv_e (de_ix (o_ix (DL.hu_of B.room)) (dv_v 3) (dv_e (de_int)) (fun _ _ => rfl))) (da_cons (dv_e (de_int)) (da_cons (dv_e (de_op o_pow (dv_e (de_int)) (dv_e (de_int)))) (da_nil))))))))) 
          (dss_cons (ds_set (i := 5) B.nd (by rfl) (by first | exact Or.inl rfl | exact Or.inr rfl) (de_and (de_v 5) (de_and (de_call (ms := [.F, .F, .F]) (ok_law_is_int T) rfl (B.room.mono (by decide)) T.m_law_is_int T.F_law_is_int.kp T.b_law_is_int .nil (fun _ => .nil) B.tk rfl (da_cons (dv_e (de_ix (o_ix (DL.hu_of B.room)) (dv_v 3) (dv_e (de_int)) (fun _ _ => rfl))) (da_cons (dv_e (de_int)) (da_cons (dv_e (de_op o_pow (dv_e (de_int)) (dv_e (de_int)))) (da_nil))))) (de_one (de_call (ms := [.F, .F, .F]) (ok_law_is_int T) rfl (B.room.mono (by decide)) T.m_law_is_int T.F_law_is_int.kp T.b_law_is_int .nil (fun _ => .nil) B.tk rfl (da_cons (dv_e (de_ix (o_ix (DL.hu_of B.room)) (dv_v 3) (dv_e (de_int)) (fun _ _ => rfl))) (da_cons (dv_e (de_un o_neg (dv_e (de_op o_pow (dv_e (de_int)) (dv_e (de_int)))))) (da_cons (dv_e (de_op o_pow (dv_e (de_int)) (dv_e (de_int)))) (da_nil))))))))) 
          (dss_cons (ds_set (i := 6) B.nd (by rfl) (by first | exact Or.inl rfl | exact Or.inr rfl) (de_if (dt_val (de_v 5)) (de_str) (de_str))) 
          (dss_cons (ds_if (dt_cmp (o_ne B.room.units) (dv_e (de_lamG (nt := 0) (k := 3) (i := 2) (j := 1) (q := "law.<locals>.<lambda>") T.m_law_error T.F_law_error sc_law_error T.b_law_error (by rfl) (by rfl) (by rfl) (by rfl) (by rfl) (by decide) (by decide) (by decide) (by first | exact Or.inl rfl | exact Or.inr (Or.inl rfl) | exact Or.inr (Or.inr rfl)) (by first | exact Or.inl rfl | exact Or.inr (Or.inl rfl) | exact Or.inr (Or.inr rfl)) (by first | exact Or.inl rfl | exact Or.inr rfl) (by rfl) (by rfl) T.m_HourError (by decide) (ct_cons T.xm_NoClock_HourError (ct_cons T.xm_NoReading_HourError (ct_cons T.xm_NoSpans_HourError ct_nil))) ((okr_law_error T).mono (by decide)) T.tb_tab_law (by rfl) (by rfl) (B.room.mono (by decide)) B.tk B.nd (LamX.lamS_by (sc := defScope s_law) (by decide +kernel)) (by rfl) (fun _ _ _ _ _ => by rfl) (fun A outer s H E f c' Y hY B => by subst hY; exact (de_makeKM (ms := [.F, .F, .F, .F, .F]) T.k_Shown (ok_Shown_init T) rfl (B.room.mono (by decide)) T.m_Shown T.w0_Shown_init (by decide) B.tk rfl rfl (by decide) rfl (da_cons (dv_e (de_ix (o_ix (DL.hu_of B.room)) (dv_v 3) (dv_e (de_int)) (fun _ _ => rfl))) (da_cons (dv_e (de_ix (o_ix (DL.hu_of B.room)) (dv_v 3) (dv_e (de_int)) (fun _ _ => rfl))) (da_cons (dv_e (de_ix (o_ix (DL.hu_of B.room)) (dv_v 3) (dv_e (de_int)) (fun _ _ => rfl))) (da_nil)))) (dk_cons (dv_e (de_ix (o_ix (DL.hu_of B.room)) (dv_v 3) (dv_e (de_int)) (fun _ _ => rfl))) (dk_cons (dv_e (de_ix (o_ix (DL.hu_of B.room)) (dv_v 3) (dv_e (de_int)) (fun _ _ => rfl))) (dk_nil))))))) (dv_v 6) (by rfl)) (dss_one (ds_ret (de_bl))) (dss_nil)) 
          (dss_cons (ds_set (i := 7) B.nd (by rfl) (by first | exact Or.inl rfl | exact Or.inr rfl) (de_make (ms := [.F, .F, .F, .F, .F]) T.k_Shown (ok_Shown_init T) rfl (B.room.mono (by decide)) T.m_Shown T.b_Shown_init .nil (fun _ => .nil) B.tk rfl (da_cons (dv_e (de_int)) (da_cons (dv_e (de_int)) (da_cons (dv_e (de_int)) (da_cons (dv_e (de_int)) (da_cons (dv_e (de_int)) (da_nil)))))))) 
          (dss_cons (ds_expr (de_meth (ms := [.L, .F, .F]) T.c_Shown T.M_Shown_learn (ok_Shown_learn T) rfl (B.room.mono (by decide)) T.b_Shown_learn .nil (fun _ => .nil) B.tk rfl (dv_v 7) (da_cons (dv_e (de_int)) (da_cons (dv_e (de_tup (da_cons (dv_e (de_tup (da_cons (dv_e (de_int)) (da_cons (dv_e (de_int)) (da_nil))))) (da_cons (dv_e (de_tup (da_cons (dv_e (de_int)) (da_cons (dv_e (de_non)) (da_nil))))) (da_nil))))) (da_nil))))) 
          (dss_cons (ds_parT (i := 8) (j := 9) B.calm B.nd (by rfl) (by rfl) (by first | exact Or.inl rfl | exact Or.inr rfl) (by first | exact Or.inl rfl | exact Or.inr rfl) (da_cons (dv_e (de_call (ms := [.F]) (ok_law_odd T) rfl (B.room.mono (by decide)) T.m_law_odd T.F_law_odd.kp T.b_law_odd .nil (fun _ => .nil) B.tk rfl (da_cons (dv_v 1) (da_nil)))) (da_cons (dv_e (de_tup (da_cons (dv_e (de_prop (am := .R) T.c_Shown T.P_Shown_reading (ok_Shown_reading T) rfl (B.room.mono (by decide)) T.b_Shown_reading (dv_v 7))) (da_cons (dv_e (de_prop (am := .R) T.c_Shown T.P_Shown_value (ok_Shown_value T) rfl (B.room.mono (by decide)) T.b_Shown_value (dv_v 7))) (da_cons (dv_e (de_prop (am := .R) T.c_Shown T.P_Shown_spans (ok_Shown_spans T) rfl (B.room.mono (by decide)) T.b_Shown_spans (dv_v 7))) (da_cons (dv_e (de_meth (ms := [.R, .F]) T.c_Shown T.M_Shown_at (ok_Shown_at T) rfl (B.room.mono (by decide)) T.b_Shown_at .nil (fun _ => .nil) B.tk rfl (dv_v 7) (da_cons (dv_e (de_int)) (da_nil)))) (da_nil))))))) (da_nil)))) 
          (dss_cons (ds_set (i := 10) B.nd (by rfl) (by first | exact Or.inl rfl | exact Or.inr rfl) (de_if (dt_val (de_call (ms := [.F, .F, .F]) (ok_law_is_int T) rfl (B.room.mono (by decide)) T.m_law_is_int T.F_law_is_int.kp T.b_law_is_int .nil (fun _ => .nil) B.tk rfl (da_cons (dv_v 8) (da_cons (dv_e (de_int)) (da_cons (dv_e (de_op o_pow (dv_e (de_int)) (dv_e (de_int)))) (da_nil)))))) (de_str) (de_str))) 
          (dss_cons (ds_if (dt_cmp (o_ne B.room.units) (dv_e (de_lamG (nt := 0) (k := 3) (i := 2) (j := 1) (q := "law.<locals>.<lambda>") T.m_law_error T.F_law_error sc_law_error T.b_law_error (by rfl) (by rfl) (by rfl) (by rfl) (by rfl) (by decide) (by decide) (by decide) (by first | exact Or.inl rfl | exact Or.inr (Or.inl rfl) | exact Or.inr (Or.inr rfl)) (by first | exact Or.inl rfl | exact Or.inr (Or.inl rfl) | exact Or.inr (Or.inr rfl)) (by first | exact Or.inl rfl | exact Or.inr rfl) (by rfl) (by rfl) T.m_HourError (by decide) (ct_cons T.xm_NoClock_HourError (ct_cons T.xm_NoReading_HourError (ct_cons T.xm_NoSpans_HourError ct_nil))) ((okr_law_error T).mono (by decide)) T.tb_tab_law (by rfl) (by rfl) (B.room.mono (by decide)) B.tk B.nd (LamX.lamS_by (sc := defScope s_law) (by decide +kernel)) (by rfl) (fun _ _ _ _ _ => by rfl) (fun A outer s H E f c' Y hY B => by subst hY; exact (de_methK (ms := [.R, .F]) T.c_Shown T.M_Shown_at (ok_Shown_at T) rfl (B.room.mono (by decide)) T.w0_Shown_at (by decide) B.tk rfl rfl (dv_v 7) (dk_cons (dv_v 8) (dk_nil)))))) (dv_v 10) (by rfl)) (dss_one (ds_ret (de_bl))) (dss_nil)) 
          (dss_cons (ds_if (dt_cmp (o_ne B.room.units) (dv_e (de_lamG (nt := 0) (k := 4) (i := 2) (j := 1) (q := "law.<locals>.<lambda>") T.m_law_error T.F_law_error sc_law_error T.b_law_error (by rfl) (by rfl) (by rfl) (by rfl) (by rfl) (by decide) (by decide) (by decide) (by first | exact Or.inl rfl | exact Or.inr (Or.inl rfl) | exact Or.inr (Or.inr rfl)) (by first | exact Or.inl rfl | exact Or.inr (Or.inl rfl) | exact Or.inr (Or.inr rfl)) (by first | exact Or.inl rfl | exact Or.inr rfl) (by rfl) (by rfl) T.m_HourError (by decide) (ct_cons T.xm_NoClock_HourError (ct_cons T.xm_NoReading_HourError (ct_cons T.xm_NoSpans_HourError ct_nil))) ((okr_law_error T).mono (by decide)) T.tb_tab_law (by rfl) (by rfl) (B.room.mono (by decide)) B.tk B.nd (LamX.lamS_by (sc := defScope s_law) (by decide +kernel)) (by rfl) (fun _ _ _ _ _ => by rfl) (fun A outer s H E f c' Y hY B => by subst hY; exact (de_meth (ms := [.R, .F]) T.c_Shown T.M_Shown_distance (ok_Shown_distance T) rfl (B.room.mono (by decide)) T.b_Shown_distance .nil (fun _ => .nil) B.tk rfl (dv_v 7) (da_cons (dv_v 8) (da_nil)))))) (dv_v 10) (by rfl)) (dss_one (ds_ret (de_bl))) (dss_nil)) 
          (dss_cons (ds_set (i := 11) B.nd (by rfl) (by first | exact Or.inl rfl | exact Or.inr rfl) (de_lst (da_cons (dv_e (de_tup (da_cons (dv_e (de_int)) (da_cons (dv_e (de_int)) (da_nil))))) (da_cons (dv_e (de_tup (da_cons (dv_e (de_int)) (da_cons (dv_e (de_int)) (da_nil))))) (da_cons (dv_e (de_tup (da_cons (dv_e (de_int)) (da_cons (dv_e (de_int)) (da_nil))))) (da_cons (dv_e (de_tup (da_cons (dv_e (de_int)) (da_cons (dv_e (de_int)) (da_nil))))) (da_cons (dv_e (de_tup (da_cons (dv_e (de_non)) (da_cons (dv_e (de_int)) (da_nil))))) (da_cons (dv_e (de_tup (da_cons (dv_e (de_int)) (da_cons (dv_e (de_non)) (da_nil))))) (da_cons (dv_e (de_tup (da_cons (dv_e (de_non)) (da_cons (dv_e (de_non)) (da_nil))))) (da_cons (dv_e (de_tup (da_cons (dv_e (de_int)) (da_cons (dv_e (de_bl)) (da_nil))))) (da_cons (dv_e (de_lst (da_cons (dv_e (de_int)) (da_cons (dv_e (de_int)) (da_nil))))) (da_cons (dv_e (de_tup (da_cons (dv_e (de_int)) (da_nil)))) (da_nil))))))))))))) 
          (dss_cons (ds_set (i := 11) B.nd (by rfl) (by first | exact Or.inl rfl | exact Or.inr rfl) (de_op o_add (dv_v 11) (dv_e (de_lst (da_cons (dv_e (de_non)) (da_cons (dv_e (de_tup (da_cons (dv_e (de_int)) (da_cons (dv_e (de_str)) (da_nil))))) (da_nil))))))) 
          (dss_cons (ds_set (i := 12) B.nd (by rfl) (by first | exact Or.inl rfl | exact Or.inr rfl) (de_lc (own := [("_law_k", 4)]) ⟨B, blkOk_by (N := ["_law_script", "_law_draw", "_law_turn", "_law_five", "_law_k", "_law_is_right", "_law_due", "_law_made", "_law_odd_here", "_law_kept", "_law_bad", "_law_spots", "_law_some", "_law_twin"]) (sc := defScope s_law) (own := [("_law_k", 4)]) (by decide +kernel), fun _ _ _ _ _ B => dg_name (i := 4) B.nd (by rfl) (by first | exact Or.inl rfl | exact Or.inr rfl), fun _ _ _ _ _ B => dts_nil, fun _ _ _ _ _ B => dv_e (de_call (ms := [.F, .F]) (ok_law_pick T) rfl (B.room.mono (by decide)) T.m_law_pick T.F_law_pick.kp T.b_law_pick .nil (fun _ => .nil) B.tk rfl (da_cons (dv_v 1) (da_cons (dv_v 11) (da_nil)))), by decide⟩ (di_r1 (by rfl) T.z_range (da_cons (dv_e (de_call (ms := [.F, .F]) (ok_law_take T) rfl (B.room.mono (by decide)) T.m_law_take T.F_law_take.kp T.b_law_take .nil (fun _ => .nil) B.tk rfl (da_cons (dv_v 1) (da_cons (dv_e (de_int)) (da_nil))))) (da_nil))))) 
          (dss_cons (ds_set (i := 12) B.nd (by rfl) (by first | exact Or.inl rfl | exact Or.inr rfl) (de_call (ms := [.F, .F]) (ok_law_pick T) rfl (B.room.mono (by decide)) T.m_law_pick T.F_law_pick.kp T.b_law_pick .nil (fun _ => .nil) B.tk rfl (da_cons (dv_v 1) (da_cons (dv_e (de_lst (da_cons (dv_v 12) (da_cons (dv_v 12) (da_cons (dv_e (de_callTy c_tuple (by rfl) T.z_tuple bt_tuple (da_cons (dv_v 12) (da_nil)))) (da_cons (dv_e (de_non)) (da_cons (dv_e (de_newK)) (da_cons (dv_e (de_str)) (da_nil))))))))) (da_nil))))) 
          (dss_cons (ds_set (i := 6) B.nd (by rfl) (by first | exact Or.inl rfl | exact Or.inr rfl) (de_if (dt_cmp (o_ne B.room.units) (dv_v 10) (dv_e (de_str)) (by rfl)) (de_v 10) (de_if (dt_val (de_call (ms := [.F]) (ok_law_are_spans T) rfl (B.room.mono (by decide)) T.m_law_are_spans T.F_law_are_spans.kp T.b_law_are_spans .nil (fun _ => .nil) B.tk rfl (da_cons (dv_v 12) (da_nil)))) (de_str) (de_str)))) 
          (dss_cons (ds_set (i := 13) B.nd (by rfl) (by first | exact Or.inl rfl | exact Or.inr rfl) (de_meth0 (ms := [.R]) T.c_Shown T.M_Shown_copy (ok_Shown_copy T) rfl (B.room.mono (by decide)) T.b_Shown_copy .nil (fun _ => .nil) B.tk rfl (dv_v 7))) 
          (dss_cons (ds_if (dt_cmp (o_ne B.room.units) (dv_e (de_lamG (nt := 0) (k := 4) (i := 2) (j := 1) (q := "law.<locals>.<lambda>") T.m_law_error T.F_law_error sc_law_error T.b_law_error (by rfl) (by rfl) (by rfl) (by rfl) (by rfl) (by decide) (by decide) (by decide) (by first | exact Or.inl rfl | exact Or.inr (Or.inl rfl) | exact Or.inr (Or.inr rfl)) (by first | exact Or.inl rfl | exact Or.inr (Or.inl rfl) | exact Or.inr (Or.inr rfl)) (by first | exact Or.inl rfl | exact Or.inr rfl) (by rfl) (by rfl) T.m_HourError (by decide) (ct_cons T.xm_NoClock_HourError (ct_cons T.xm_NoReading_HourError (ct_cons T.xm_NoSpans_HourError ct_nil))) ((okr_law_error T).mono (by decide)) T.tb_tab_law (by rfl) (by rfl) (B.room.mono (by decide)) B.tk B.nd (LamX.lamS_by (sc := defScope s_law) (by decide +kernel)) (by rfl) (fun _ _ _ _ _ => by rfl) (fun A outer s H E f c' Y hY B => by subst hY; exact (de_meth (ms := [.L, .F, .F]) T.c_Shown T.M_Shown_learn (ok_Shown_learn T) rfl (B.room.mono (by decide)) T.b_Shown_learn .nil (fun _ => .nil) B.tk rfl (dv_v 7) (da_cons (dv_v 8) (da_cons (dv_v 12) (da_nil))))))) (dv_v 6) (by rfl)) (dss_one (ds_ret (de_bl))) (dss_nil)) 
          (dss_cons (ds_if (DTW.dt (dtw_and (dt_cmp (o_ne B.room.units) (dv_v 6) (dv_e (de_str)) (by rfl)) (dtw_and1 (dt_cmp (o_ne B.room.units) (dv_e (de_tup (da_cons (dv_e (de_prop (am := .R) T.c_Shown T.P_Shown_reading (ok_Shown_reading T) rfl (B.room.mono (by decide)) T.b_Shown_reading (dv_v 7))) (da_cons (dv_e (de_prop (am := .R) T.c_Shown T.P_Shown_value (ok_Shown_value T) rfl (B.room.mono (by decide)) T.b_Shown_value (dv_v 7))) (da_cons (dv_e (de_prop (am := .R) T.c_Shown T.P_Shown_spans (ok_Shown_spans T) rfl (B.room.mono (by decide)) T.b_Shown_spans (dv_v 7))) (da_cons (dv_e (de_meth (ms := [.R, .F]) T.c_Shown T.M_Shown_at (ok_Shown_at T) rfl (B.room.mono (by decide)) T.b_Shown_at .nil (fun _ => .nil) B.tk rfl (dv_v 7) (da_cons (dv_e (de_int)) (da_nil)))) (da_nil))))))) (dv_v 9) (by rfl))))) (dss_one (ds_ret (de_bl))) (dss_nil)) 
          (dss_one (ds_if (dt_cmp (o_ne B.room.units) (dv_e (de_tup (da_cons (dv_e (de_prop (am := .R) T.c_Shown T.P_Shown_reading (ok_Shown_reading T) rfl (B.room.mono (by decide)) T.b_Shown_reading (dv_v 13))) (da_cons (dv_e (de_prop (am := .R) T.c_Shown T.P_Shown_value (ok_Shown_value T) rfl (B.room.mono (by decide)) T.b_Shown_value (dv_v 13))) (da_cons (dv_e (de_prop (am := .R) T.c_Shown T.P_Shown_spans (ok_Shown_spans T) rfl (B.room.mono (by decide)) T.b_Shown_spans (dv_v 13))) (da_cons (dv_e (de_meth (ms := [.R, .F]) T.c_Shown T.M_Shown_at (ok_Shown_at T) rfl (B.room.mono (by decide)) T.b_Shown_at .nil (fun _ => .nil) B.tk rfl (dv_v 13) (da_cons (dv_e (de_int)) (da_nil)))) (da_nil))))))) (dv_v 9) (by rfl)) (dss_one (ds_ret (de_bl))) (dss_nil)))))))))))))))))))))))) 
        (dss_one (ds_ret (de_bl)))
    exact ⟨_, pss_cons (ps_set (i := 1) sc_law.nd rfl (by first | exact Or.inl rfl | exact Or.inr rfl) (DL.pe_callSD (ok_law_begin T) (B.room.mono (by decide)) (by rfl) T.m_law_begin T.F_law_begin.kp T.b_law_begin .nil (fun σ => passAt B.tk σ) (pa_cons (pv 0) pa_nil))) rest, law_runT (cs := [(T.c_tab_law, T.a_tab_law)]) (qs := ["law.<locals>.<lambda>"]) rfl h hm⟩
end
theorem all_mk {l : PySem.W.OpenLaw} {w : World} {K : PySem.W.Frag} {h : Heap} {mg : Str → Option Value} {fa : Addr} {qp : Program} (hm : ∀ (a_Shown : Addr) (a_HourError : Addr) (a_NoClock : Addr) (a_NoReading : Addr) (a_NoSpans : Addr) (a_tab_law : Addr) (nx : [a_HourError, a_NoClock, a_NoReading, a_NoSpans].Nodup) (ns : List Int), ns.length ≤ 63 → ∃ s', F_law a_Shown a_HourError a_NoClock a_NoReading a_NoSpans a_tab_law (lawStT ns 12 [.tab a_tab_law "law.<locals>.<lambda>"]) = .ok (.rt (.fz (.bl true))) s') (X : K.In h) (G : h.Ns mainGlobals mg) (hfa : mg "law" = some (.ref fa)) (TT : TopTabs qp K h)
    {A_Shown A_HourError A_NoClock A_NoReading A_NoSpans A_tab_law C_tab_law A_f_law_begin A_f_law_take A_f_law_pick A_f_law_odd A_f_law_is_int A_f_law_error A_f_is_between A_f_is_integer A_f_Shown_init A_f_Shown_ticks_to A_f_is_list A_f_is_end A_f_are_spans A_f_gaps A_f_way_to A_f_moved A_f_Shown_at A_f_Shown_learn A_f_Shown_reading A_p_Shown_reading A_f_Shown_value A_p_Shown_value A_f_Shown_spans A_p_Shown_spans A_f_widened A_f_Shown_distance A_f_law_are_spans A_f_Shown_copy A_f_law : Addr} {od0 an0 od1 an1 od2 an2 od3 an3 od4 an4 od5 an5 od6 an6 od7 an7 od8 an8 od9 an9 od10 an10 od11 an11 od12 an12 od13 an13 od14 an14 od15 an15 od16 an16 od17 an17 od18 an18 od19 an19 od20 an20 od21 an21 od22 an22 od23 an23 od24 an24 od25 an25 : Option Addr} {sl0 sl1 sl2 sl3 sl4 sl5 sl6 sl7 sl8 sl9 sl10 sl11 sl12 sl13 sl14 sl15 sl16 sl17 sl18 sl19 sl20 sl21 sl22 sl23 sl24 sl25 : Array (Option Value)} {oc0 kV0 dc0 pm0 cd0 ct0 oc1 kV1 dc1 pm1 cd1 ct1 oc2 kV2 dc2 pm2 cd2 ct2 oc3 kV3 dc3 pm3 cd3 ct3 oc4 kV4 dc4 pm4 cd4 ct4 oc5 kV5 dc5 pm5 cd5 ct5 oc6 kV6 dc6 pm6 cd6 ct6 oc7 kV7 dc7 pm7 cd7 ct7 oc8 kV8 dc8 pm8 cd8 ct8 oc9 kV9 dc9 pm9 cd9 ct9 oc10 kV10 dc10 pm10 cd10 ct10 oc11 kV11 dc11 pm11 cd11 ct11 oc12 kV12 dc12 pm12 cd12 ct12 oc13 kV13 dc13 pm13 cd13 ct13 oc14 kV14 dc14 pm14 cd14 ct14 oc15 kV15 dc15 pm15 cd15 ct15 oc16 kV16 dc16 pm16 cd16 ct16 oc17 kV17 dc17 pm17 cd17 ct17 oc18 kV18 dc18 pm18 cd18 ct18 oc19 kV19 dc19 pm19 cd19 ct19 oc20 kV20 dc20 pm20 cd20 ct20 oc21 kV21 dc21 pm21 cd21 ct21 oc22 kV22 dc22 pm22 cd22 ct22 oc23 kV23 dc23 pm23 cd23 ct23 oc24 kV24 dc24 pm24 cd24 ct24 oc25 kV25 dc25 pm25 ct25 : Value} {tk_MOST_SLEW tk_MOST_DRIFT tk_MOST_READING tk_EXACT : Tok} {rest_Shown_reading rest_Shown_value rest_Shown_spans : List Value}
    (zz_abs : PySem.W.nsIn K mainGlobals "abs" = some none)
    (zz_list : PySem.W.nsIn K mainGlobals "list" = some none)
    (zz_range : PySem.W.nsIn K mainGlobals "range" = some none)
    (zz_len : PySem.W.nsIn K mainGlobals "len" = some none)
    (zz_min : PySem.W.nsIn K mainGlobals "min" = some none)
    (zz_int : PySem.W.nsIn K mainGlobals "int" = some none)
    (zz_divmod : PySem.W.nsIn K mainGlobals "divmod" = some none)
    (zz_isinstance : PySem.W.nsIn K mainGlobals "isinstance" = some none)
    (zz_bool : PySem.W.nsIn K mainGlobals "bool" = some none)
    (zz_tuple : PySem.W.nsIn K mainGlobals "tuple" = some none)
    (zz_enumerate : PySem.W.nsIn K mainGlobals "enumerate" = some none)
    (zz_zip : PySem.W.nsIn K mainGlobals "zip" = some none)
    (zz_all : PySem.W.nsIn K mainGlobals "all" = some none)
    (zz_max : PySem.W.nsIn K mainGlobals "max" = some none)
    (hg_MOST_SLEW : PySem.W.nsIn K mainGlobals "MOST_SLEW" = some (some (.int 900 tk_MOST_SLEW)))
    (hg_MOST_DRIFT : PySem.W.nsIn K mainGlobals "MOST_DRIFT" = some (some (.int 500 tk_MOST_DRIFT)))
    (hg_MOST_READING : PySem.W.nsIn K mainGlobals "MOST_READING" = some (some (.int 1000000000 tk_MOST_READING)))
    (hg_EXACT : PySem.W.nsIn K mainGlobals "EXACT" = some (some (.int 1000 tk_EXACT)))
    (hm_Shown : PySem.W.nsIn K mainGlobals "Shown" = some (some (.ref A_Shown)))
    (pg_Shown : PySem.W.plainGet K A_Shown Str.empty = true)
    (hd_Shown : PySem.W.hasDictIn K A_Shown = true)
    (po_Shown : PySem.W.plainOver K A_Shown = true)
    (sa_Shown : PySem.W.findIn K (.ref A_Shown) "__setattr__" = some (some (.builtin "object.__setattr__")))
    (hn_Shown_c_reading : PySem.W.findIn K (.ref A_Shown) "c_reading" = some none)
    (hn_Shown_c_rules : PySem.W.findIn K (.ref A_Shown) "c_rules" = some none)
    (hn_Shown_c_spans : PySem.W.findIn K (.ref A_Shown) "c_spans" = some none)
    (hn_Shown_c_value : PySem.W.findIn K (.ref A_Shown) "c_value" = some none)
    (xsp : PySem.W.specialIn K (.builtin "object.__class__") "__get__" = some (some (.builtin "getset_descriptor.__get__")))
    (xtk : PySem.W.takesIn K (.builtin "object.__class__") = some true)
    (hm_HourError : PySem.W.nsIn K mainGlobals "HourError" = some (some (.ref A_HourError)))
    (xh_HourError : PySem.W.hasDictIn K A_HourError = true)
    (xt_HourError : PySem.W.typeIn K (.ref A_HourError) = some (.type "type"))
    (xb_HourError : PySem.W.subIn K (.ref A_HourError) (.type "BaseException") = some true)
    (xg_HourError : PySem.W.findIn K (.ref A_HourError) "__getattribute__" = some (some (.builtin "BaseException.__getattribute__")))
    (xq_HourError : PySem.W.findIn K (.ref A_HourError) "__getattr__" = some none)
    (xc_HourError : PySem.W.findIn K (.ref A_HourError) "__class__" = some (some (.builtin "object.__class__")))
    (xo_HourError : PySem.W.mroIn K A_HourError (.type "object") = some true)
    (hm_NoClock : PySem.W.nsIn K mainGlobals "NoClock" = some (some (.ref A_NoClock)))
    (xh_NoClock : PySem.W.hasDictIn K A_NoClock = true)
    (xt_NoClock : PySem.W.typeIn K (.ref A_NoClock) = some (.type "type"))
    (xb_NoClock : PySem.W.subIn K (.ref A_NoClock) (.type "BaseException") = some true)
    (xg_NoClock : PySem.W.findIn K (.ref A_NoClock) "__getattribute__" = some (some (.builtin "BaseException.__getattribute__")))
    (xq_NoClock : PySem.W.findIn K (.ref A_NoClock) "__getattr__" = some none)
    (xc_NoClock : PySem.W.findIn K (.ref A_NoClock) "__class__" = some (some (.builtin "object.__class__")))
    (xo_NoClock : PySem.W.mroIn K A_NoClock (.type "object") = some true)
    (hm_NoReading : PySem.W.nsIn K mainGlobals "NoReading" = some (some (.ref A_NoReading)))
    (xh_NoReading : PySem.W.hasDictIn K A_NoReading = true)
    (xt_NoReading : PySem.W.typeIn K (.ref A_NoReading) = some (.type "type"))
    (xb_NoReading : PySem.W.subIn K (.ref A_NoReading) (.type "BaseException") = some true)
    (xg_NoReading : PySem.W.findIn K (.ref A_NoReading) "__getattribute__" = some (some (.builtin "BaseException.__getattribute__")))
    (xq_NoReading : PySem.W.findIn K (.ref A_NoReading) "__getattr__" = some none)
    (xc_NoReading : PySem.W.findIn K (.ref A_NoReading) "__class__" = some (some (.builtin "object.__class__")))
    (xo_NoReading : PySem.W.mroIn K A_NoReading (.type "object") = some true)
    (hm_NoSpans : PySem.W.nsIn K mainGlobals "NoSpans" = some (some (.ref A_NoSpans)))
    (xh_NoSpans : PySem.W.hasDictIn K A_NoSpans = true)
    (xt_NoSpans : PySem.W.typeIn K (.ref A_NoSpans) = some (.type "type"))
    (xb_NoSpans : PySem.W.subIn K (.ref A_NoSpans) (.type "BaseException") = some true)
    (xg_NoSpans : PySem.W.findIn K (.ref A_NoSpans) "__getattribute__" = some (some (.builtin "BaseException.__getattribute__")))
    (xq_NoSpans : PySem.W.findIn K (.ref A_NoSpans) "__getattr__" = some none)
    (xc_NoSpans : PySem.W.findIn K (.ref A_NoSpans) "__class__" = some (some (.builtin "object.__class__")))
    (xo_NoSpans : PySem.W.mroIn K A_NoSpans (.type "object") = some true)
    (xe_NoClock : PySem.W.excIn K A_NoClock [.type "ValueError", .type "Exception", .type "BaseException", .type "object"] "ValueError.__new__" = true)
    (xk_NoClock : PySem.W.keepIn K (.ref A_NoClock) = true)
    (xe_NoReading : PySem.W.excIn K A_NoReading [.type "ValueError", .type "Exception", .type "BaseException", .type "object"] "ValueError.__new__" = true)
    (xk_NoReading : PySem.W.keepIn K (.ref A_NoReading) = true)
    (xe_NoSpans : PySem.W.excIn K A_NoSpans [.type "ValueError", .type "Exception", .type "BaseException", .type "object"] "ValueError.__new__" = true)
    (xk_NoSpans : PySem.W.keepIn K (.ref A_NoSpans) = true)
    (ne_x0_1 : A_HourError ≠ A_NoClock)
    (ne_x0_2 : A_HourError ≠ A_NoReading)
    (ne_x0_3 : A_HourError ≠ A_NoSpans)
    (ne_x1_2 : A_NoClock ≠ A_NoReading)
    (ne_x1_3 : A_NoClock ≠ A_NoSpans)
    (ne_x2_3 : A_NoReading ≠ A_NoSpans)
    (xn_HourError : PySem.W.subIn K (.type "NoneType") (.ref A_HourError) = some false)
    (xs_NoClock_HourError : PySem.W.subIn K (.ref A_NoClock) (.ref A_HourError) = some true)
    (xs_NoReading_HourError : PySem.W.subIn K (.ref A_NoReading) (.ref A_HourError) = some true)
    (xs_NoSpans_HourError : PySem.W.subIn K (.ref A_NoSpans) (.ref A_HourError) = some true)
    (xn_NoClock : PySem.W.subIn K (.type "NoneType") (.ref A_NoClock) = some false)
    (xs_NoClock_NoClock : PySem.W.subIn K (.ref A_NoClock) (.ref A_NoClock) = some true)
    (xs_NoReading_NoClock : PySem.W.subIn K (.ref A_NoReading) (.ref A_NoClock) = some false)
    (xs_NoSpans_NoClock : PySem.W.subIn K (.ref A_NoSpans) (.ref A_NoClock) = some false)
    (xn_NoReading : PySem.W.subIn K (.type "NoneType") (.ref A_NoReading) = some false)
    (xs_NoClock_NoReading : PySem.W.subIn K (.ref A_NoClock) (.ref A_NoReading) = some false)
    (xs_NoReading_NoReading : PySem.W.subIn K (.ref A_NoReading) (.ref A_NoReading) = some true)
    (xs_NoSpans_NoReading : PySem.W.subIn K (.ref A_NoSpans) (.ref A_NoReading) = some false)
    (xn_NoSpans : PySem.W.subIn K (.type "NoneType") (.ref A_NoSpans) = some false)
    (xs_NoClock_NoSpans : PySem.W.subIn K (.ref A_NoClock) (.ref A_NoSpans) = some false)
    (xs_NoReading_NoSpans : PySem.W.subIn K (.ref A_NoReading) (.ref A_NoSpans) = some false)
    (xs_NoSpans_NoSpans : PySem.W.subIn K (.ref A_NoSpans) (.ref A_NoSpans) = some true)
    (tt_law : PySem.W.tabIn K "law" = some (C_tab_law, A_tab_law))
    (nn_law : K.lookup A_tab_law = none)
    (rr_law : ((recsOf qp).find? (fun e => e.name == ("law" : Str))).isSome = true)
    (l_law_begin : K.lookup A_f_law_begin = some ⟨oc0, od0, .func (PySem.W.fnOf "_law_begin" "_law_begin" (defArgs s_law_begin) (defBody s_law_begin) (defScope s_law_begin) .none kV0 dc0 pm0 an0 cd0 ct0), sl0⟩)
    (cc_law_begin : PySem.W.codeIn K cd0 "_law_begin" = true)
    (kp_law_begin : PySem.W.keepIn K (.ref A_f_law_begin) = true)
    (at_law_begin : PySem.W.nsIn K mainGlobals "_law_begin" = some (some (.ref A_f_law_begin)))
    (l_law_take : K.lookup A_f_law_take = some ⟨oc1, od1, .func (PySem.W.fnOf "_law_take" "_law_take" (defArgs s_law_take) (defBody s_law_take) (defScope s_law_take) .none kV1 dc1 pm1 an1 cd1 ct1), sl1⟩)
    (cc_law_take : PySem.W.codeIn K cd1 "_law_take" = true)
    (kp_law_take : PySem.W.keepIn K (.ref A_f_law_take) = true)
    (at_law_take : PySem.W.nsIn K mainGlobals "_law_take" = some (some (.ref A_f_law_take)))
    (l_law_pick : K.lookup A_f_law_pick = some ⟨oc2, od2, .func (PySem.W.fnOf "_law_pick" "_law_pick" (defArgs s_law_pick) (defBody s_law_pick) (defScope s_law_pick) .none kV2 dc2 pm2 an2 cd2 ct2), sl2⟩)
    (cc_law_pick : PySem.W.codeIn K cd2 "_law_pick" = true)
    (kp_law_pick : PySem.W.keepIn K (.ref A_f_law_pick) = true)
    (at_law_pick : PySem.W.nsIn K mainGlobals "_law_pick" = some (some (.ref A_f_law_pick)))
    (l_law_odd : K.lookup A_f_law_odd = some ⟨oc3, od3, .func (PySem.W.fnOf "_law_odd" "_law_odd" (defArgs s_law_odd) (defBody s_law_odd) (defScope s_law_odd) .none kV3 dc3 pm3 an3 cd3 ct3), sl3⟩)
    (cc_law_odd : PySem.W.codeIn K cd3 "_law_odd" = true)
    (kp_law_odd : PySem.W.keepIn K (.ref A_f_law_odd) = true)
    (at_law_odd : PySem.W.nsIn K mainGlobals "_law_odd" = some (some (.ref A_f_law_odd)))
    (l_law_is_int : K.lookup A_f_law_is_int = some ⟨oc4, od4, .func (PySem.W.fnOf "_law_is_int" "_law_is_int" (defArgs s_law_is_int) (defBody s_law_is_int) (defScope s_law_is_int) .none kV4 dc4 pm4 an4 cd4 ct4), sl4⟩)
    (cc_law_is_int : PySem.W.codeIn K cd4 "_law_is_int" = true)
    (kp_law_is_int : PySem.W.keepIn K (.ref A_f_law_is_int) = true)
    (at_law_is_int : PySem.W.nsIn K mainGlobals "_law_is_int" = some (some (.ref A_f_law_is_int)))
    (l_law_error : K.lookup A_f_law_error = some ⟨oc5, od5, .func (PySem.W.fnOf "_law_error" "_law_error" (defArgs s_law_error) (defBody s_law_error) (defScope s_law_error) .none kV5 dc5 pm5 an5 cd5 ct5), sl5⟩)
    (cc_law_error : PySem.W.codeIn K cd5 "_law_error" = true)
    (kp_law_error : PySem.W.keepIn K (.ref A_f_law_error) = true)
    (at_law_error : PySem.W.nsIn K mainGlobals "_law_error" = some (some (.ref A_f_law_error)))
    (l_is_between : K.lookup A_f_is_between = some ⟨oc6, od6, .func (PySem.W.fnOf "is_between" "is_between" (defArgs s_is_between) (defBody s_is_between) (defScope s_is_between) .none kV6 dc6 pm6 an6 cd6 ct6), sl6⟩)
    (cc_is_between : PySem.W.codeIn K cd6 "is_between" = true)
    (kp_is_between : PySem.W.keepIn K (.ref A_f_is_between) = true)
    (at_is_between : PySem.W.nsIn K mainGlobals "is_between" = some (some (.ref A_f_is_between)))
    (l_is_integer : K.lookup A_f_is_integer = some ⟨oc7, od7, .func (PySem.W.fnOf "is_integer" "is_integer" (defArgs s_is_integer) (defBody s_is_integer) (defScope s_is_integer) .none kV7 dc7 pm7 an7 cd7 ct7), sl7⟩)
    (cc_is_integer : PySem.W.codeIn K cd7 "is_integer" = true)
    (kp_is_integer : PySem.W.keepIn K (.ref A_f_is_integer) = true)
    (at_is_integer : PySem.W.nsIn K mainGlobals "is_integer" = some (some (.ref A_f_is_integer)))
    (l_Shown_init : K.lookup A_f_Shown_init = some ⟨oc8, od8, .func (PySem.W.fnOf "__init__" "Shown.__init__" (defArgs s_Shown_init) (defBody s_Shown_init) (defScope s_Shown_init) .none kV8 dc8 pm8 an8 cd8 ct8), sl8⟩)
    (cc_Shown_init : PySem.W.codeIn K cd8 "Shown.__init__" = true)
    (kp_Shown_init : PySem.W.keepIn K (.ref A_f_Shown_init) = true)
    (mk_Shown : PySem.W.makesIn K A_Shown = true)
    (at_Shown_init : PySem.W.findIn K (.ref A_Shown) "__init__" = some (some (.ref A_f_Shown_init)))
    (is_Shown_init : PySem.W.isFn K (.ref A_f_Shown_init) = true)
    (kc_Shown : PySem.W.keepIn K (.ref A_Shown) = true)
    (l_Shown_ticks_to : K.lookup A_f_Shown_ticks_to = some ⟨oc9, od9, .func (PySem.W.fnOf "ticks_to" "Shown.ticks_to" (defArgs s_Shown_ticks_to) (defBody s_Shown_ticks_to) (defScope s_Shown_ticks_to) .none kV9 dc9 pm9 an9 cd9 ct9), sl9⟩)
    (cc_Shown_ticks_to : PySem.W.codeIn K cd9 "Shown.ticks_to" = true)
    (kp_Shown_ticks_to : PySem.W.keepIn K (.ref A_f_Shown_ticks_to) = true)
    (at_Shown_ticks_to : PySem.W.findIn K (.ref A_Shown) "ticks_to" = some (some (.ref A_f_Shown_ticks_to)))
    (is_Shown_ticks_to : PySem.W.isFn K (.ref A_f_Shown_ticks_to) = true)
    (l_is_list : K.lookup A_f_is_list = some ⟨oc10, od10, .func (PySem.W.fnOf "is_list" "is_list" (defArgs s_is_list) (defBody s_is_list) (defScope s_is_list) .none kV10 dc10 pm10 an10 cd10 ct10), sl10⟩)
    (cc_is_list : PySem.W.codeIn K cd10 "is_list" = true)
    (kp_is_list : PySem.W.keepIn K (.ref A_f_is_list) = true)
    (at_is_list : PySem.W.nsIn K mainGlobals "is_list" = some (some (.ref A_f_is_list)))
    (l_is_end : K.lookup A_f_is_end = some ⟨oc11, od11, .func (PySem.W.fnOf "is_end" "is_end" (defArgs s_is_end) (defBody s_is_end) (defScope s_is_end) .none kV11 dc11 pm11 an11 cd11 ct11), sl11⟩)
    (cc_is_end : PySem.W.codeIn K cd11 "is_end" = true)
    (kp_is_end : PySem.W.keepIn K (.ref A_f_is_end) = true)
    (at_is_end : PySem.W.nsIn K mainGlobals "is_end" = some (some (.ref A_f_is_end)))
    (l_are_spans : K.lookup A_f_are_spans = some ⟨oc12, od12, .func (PySem.W.fnOf "are_spans" "are_spans" (defArgs s_are_spans) (defBody s_are_spans) (defScope s_are_spans) .none kV12 dc12 pm12 an12 cd12 ct12), sl12⟩)
    (cc_are_spans : PySem.W.codeIn K cd12 "are_spans" = true)
    (kp_are_spans : PySem.W.keepIn K (.ref A_f_are_spans) = true)
    (at_are_spans : PySem.W.nsIn K mainGlobals "are_spans" = some (some (.ref A_f_are_spans)))
    (l_gaps : K.lookup A_f_gaps = some ⟨oc13, od13, .func (PySem.W.fnOf "gaps" "gaps" (defArgs s_gaps) (defBody s_gaps) (defScope s_gaps) .none kV13 dc13 pm13 an13 cd13 ct13), sl13⟩)
    (cc_gaps : PySem.W.codeIn K cd13 "gaps" = true)
    (kp_gaps : PySem.W.keepIn K (.ref A_f_gaps) = true)
    (at_gaps : PySem.W.nsIn K mainGlobals "gaps" = some (some (.ref A_f_gaps)))
    (l_way_to : K.lookup A_f_way_to = some ⟨oc14, od14, .func (PySem.W.fnOf "way_to" "way_to" (defArgs s_way_to) (defBody s_way_to) (defScope s_way_to) .none kV14 dc14 pm14 an14 cd14 ct14), sl14⟩)
    (cc_way_to : PySem.W.codeIn K cd14 "way_to" = true)
    (kp_way_to : PySem.W.keepIn K (.ref A_f_way_to) = true)
    (at_way_to : PySem.W.nsIn K mainGlobals "way_to" = some (some (.ref A_f_way_to)))
    (l_moved : K.lookup A_f_moved = some ⟨oc15, od15, .func (PySem.W.fnOf "moved" "moved" (defArgs s_moved) (defBody s_moved) (defScope s_moved) .none kV15 dc15 pm15 an15 cd15 ct15), sl15⟩)
    (cc_moved : PySem.W.codeIn K cd15 "moved" = true)
    (kp_moved : PySem.W.keepIn K (.ref A_f_moved) = true)
    (at_moved : PySem.W.nsIn K mainGlobals "moved" = some (some (.ref A_f_moved)))
    (l_Shown_at : K.lookup A_f_Shown_at = some ⟨oc16, od16, .func (PySem.W.fnOf "at" "Shown.at" (defArgs s_Shown_at) (defBody s_Shown_at) (defScope s_Shown_at) .none kV16 dc16 pm16 an16 cd16 ct16), sl16⟩)
    (cc_Shown_at : PySem.W.codeIn K cd16 "Shown.at" = true)
    (kp_Shown_at : PySem.W.keepIn K (.ref A_f_Shown_at) = true)
    (at_Shown_at : PySem.W.findIn K (.ref A_Shown) "at" = some (some (.ref A_f_Shown_at)))
    (is_Shown_at : PySem.W.isFn K (.ref A_f_Shown_at) = true)
    (l_Shown_learn : K.lookup A_f_Shown_learn = some ⟨oc17, od17, .func (PySem.W.fnOf "learn" "Shown.learn" (defArgs s_Shown_learn) (defBody s_Shown_learn) (defScope s_Shown_learn) .none kV17 dc17 pm17 an17 cd17 ct17), sl17⟩)
    (cc_Shown_learn : PySem.W.codeIn K cd17 "Shown.learn" = true)
    (kp_Shown_learn : PySem.W.keepIn K (.ref A_f_Shown_learn) = true)
    (at_Shown_learn : PySem.W.findIn K (.ref A_Shown) "learn" = some (some (.ref A_f_Shown_learn)))
    (is_Shown_learn : PySem.W.isFn K (.ref A_f_Shown_learn) = true)
    (l_Shown_reading : K.lookup A_f_Shown_reading = some ⟨oc18, od18, .func (PySem.W.fnOf "reading" "Shown.reading" (defArgs s_Shown_reading) (defBody s_Shown_reading) (defScope s_Shown_reading) .none kV18 dc18 pm18 an18 cd18 ct18), sl18⟩)
    (cc_Shown_reading : PySem.W.codeIn K cd18 "Shown.reading" = true)
    (kp_Shown_reading : PySem.W.keepIn K (.ref A_f_Shown_reading) = true)
    (at_Shown_reading : PySem.W.findIn K (.ref A_Shown) "reading" = some (some (.ref A_p_Shown_reading)))
    (pget_Shown_reading : PySem.W.specialIn K (.ref A_p_Shown_reading) "__get__" = some (some (.builtin "property.__get__")))
    (ptak_Shown_reading : PySem.W.takesIn K (.ref A_p_Shown_reading) = some true)
    (prec_Shown_reading : PySem.W.recIn K A_p_Shown_reading "property" = some (.ref A_f_Shown_reading :: rest_Shown_reading))
    (l_Shown_value : K.lookup A_f_Shown_value = some ⟨oc19, od19, .func (PySem.W.fnOf "value" "Shown.value" (defArgs s_Shown_value) (defBody s_Shown_value) (defScope s_Shown_value) .none kV19 dc19 pm19 an19 cd19 ct19), sl19⟩)
    (cc_Shown_value : PySem.W.codeIn K cd19 "Shown.value" = true)
    (kp_Shown_value : PySem.W.keepIn K (.ref A_f_Shown_value) = true)
    (at_Shown_value : PySem.W.findIn K (.ref A_Shown) "value" = some (some (.ref A_p_Shown_value)))
    (pget_Shown_value : PySem.W.specialIn K (.ref A_p_Shown_value) "__get__" = some (some (.builtin "property.__get__")))
    (ptak_Shown_value : PySem.W.takesIn K (.ref A_p_Shown_value) = some true)
    (prec_Shown_value : PySem.W.recIn K A_p_Shown_value "property" = some (.ref A_f_Shown_value :: rest_Shown_value))
    (l_Shown_spans : K.lookup A_f_Shown_spans = some ⟨oc20, od20, .func (PySem.W.fnOf "spans" "Shown.spans" (defArgs s_Shown_spans) (defBody s_Shown_spans) (defScope s_Shown_spans) .none kV20 dc20 pm20 an20 cd20 ct20), sl20⟩)
    (cc_Shown_spans : PySem.W.codeIn K cd20 "Shown.spans" = true)
    (kp_Shown_spans : PySem.W.keepIn K (.ref A_f_Shown_spans) = true)
    (at_Shown_spans : PySem.W.findIn K (.ref A_Shown) "spans" = some (some (.ref A_p_Shown_spans)))
    (pget_Shown_spans : PySem.W.specialIn K (.ref A_p_Shown_spans) "__get__" = some (some (.builtin "property.__get__")))
    (ptak_Shown_spans : PySem.W.takesIn K (.ref A_p_Shown_spans) = some true)
    (prec_Shown_spans : PySem.W.recIn K A_p_Shown_spans "property" = some (.ref A_f_Shown_spans :: rest_Shown_spans))
    (l_widened : K.lookup A_f_widened = some ⟨oc21, od21, .func (PySem.W.fnOf "widened" "widened" (defArgs s_widened) (defBody s_widened) (defScope s_widened) .none kV21 dc21 pm21 an21 cd21 ct21), sl21⟩)
    (cc_widened : PySem.W.codeIn K cd21 "widened" = true)
    (kp_widened : PySem.W.keepIn K (.ref A_f_widened) = true)
    (at_widened : PySem.W.nsIn K mainGlobals "widened" = some (some (.ref A_f_widened)))
    (l_Shown_distance : K.lookup A_f_Shown_distance = some ⟨oc22, od22, .func (PySem.W.fnOf "distance" "Shown.distance" (defArgs s_Shown_distance) (defBody s_Shown_distance) (defScope s_Shown_distance) .none kV22 dc22 pm22 an22 cd22 ct22), sl22⟩)
    (cc_Shown_distance : PySem.W.codeIn K cd22 "Shown.distance" = true)
    (kp_Shown_distance : PySem.W.keepIn K (.ref A_f_Shown_distance) = true)
    (at_Shown_distance : PySem.W.findIn K (.ref A_Shown) "distance" = some (some (.ref A_f_Shown_distance)))
    (is_Shown_distance : PySem.W.isFn K (.ref A_f_Shown_distance) = true)
    (l_law_are_spans : K.lookup A_f_law_are_spans = some ⟨oc23, od23, .func (PySem.W.fnOf "_law_are_spans" "_law_are_spans" (defArgs s_law_are_spans) (defBody s_law_are_spans) (defScope s_law_are_spans) .none kV23 dc23 pm23 an23 cd23 ct23), sl23⟩)
    (cc_law_are_spans : PySem.W.codeIn K cd23 "_law_are_spans" = true)
    (kp_law_are_spans : PySem.W.keepIn K (.ref A_f_law_are_spans) = true)
    (at_law_are_spans : PySem.W.nsIn K mainGlobals "_law_are_spans" = some (some (.ref A_f_law_are_spans)))
    (l_Shown_copy : K.lookup A_f_Shown_copy = some ⟨oc24, od24, .func (PySem.W.fnOf "copy" "Shown.copy" (defArgs s_Shown_copy) (defBody s_Shown_copy) (defScope s_Shown_copy) .none kV24 dc24 pm24 an24 cd24 ct24), sl24⟩)
    (cc_Shown_copy : PySem.W.codeIn K cd24 "Shown.copy" = true)
    (kp_Shown_copy : PySem.W.keepIn K (.ref A_f_Shown_copy) = true)
    (at_Shown_copy : PySem.W.findIn K (.ref A_Shown) "copy" = some (some (.ref A_f_Shown_copy)))
    (is_Shown_copy : PySem.W.isFn K (.ref A_f_Shown_copy) = true)
    (l_law : K.lookup A_f_law = some ⟨oc25, od25, .func (PySem.W.fnOf "law" "law" (defArgs s_law) (defBody s_law) (defScope s_law) .none kV25 dc25 pm25 an25 (.ref C_tab_law) ct25), sl25⟩)
    (cc_law : PySem.W.codeIn K (.ref C_tab_law) "law" = true)
    (kp_law : PySem.W.keepIn K (.ref A_f_law) = true)
    (at_law : PySem.W.nsIn K mainGlobals "law" = some (some (.ref A_f_law))) :
    ∃ (fd : FuncData) (cs : List (Addr × Addr)), (∀ p ∈ cs, h.get? p.2 = some { cls := .none, data := .fields #[] }) ∧ (∀ p ∈ cs, K.lookup p.2 = none) ∧ (∀ p ∈ cs, PySem.W.CodeHd h p.1 p.2) ∧ (cs.map Prod.snd).Nodup ∧ (∀ (s : Shared) (v : Value), BindsTo s fd ⟨[v], []⟩ [("_law_script", v)]) ∧
      ∀ base : Heap, K.In base → base.Ns mainGlobals mg → (∀ p ∈ cs, LamX.TabB base mg p.1 p.2) → DL.FnOk l.prog w K mg base (L2.CX l.prog w) 7 fa fd ["_law_script"] (spLawT K cs) := by
  have e := hfa.symm.trans (PySem.W.mg_of X G at_law)
  cases e
  refine ⟨PySem.W.fnOf "law" "law" (defArgs s_law) (defBody s_law) (defScope s_law) .none kV25 dc25 pm25 an25 (.ref C_tab_law) ct25, [(C_tab_law, A_tab_law)], ?_, ?_, ?_, ?_, fun s v => .of_eq rfl, fun base _ _ tb => ?_⟩
  · intro p hp
    simp only [List.mem_cons, List.not_mem_nil, or_false] at hp
    subst hp; exact (TT _ _ _ rr_law tt_law).2
  · intro p hp
    simp only [List.mem_cons, List.not_mem_nil, or_false] at hp
    subst hp; exact nn_law
  · intro p hp
    simp only [List.mem_cons, List.not_mem_nil, or_false] at hp
    subst hp; exact (TT _ _ _ rr_law tt_law).1
  · simp
  · let T : Txt K mg base := Txt.mk (z_abs := PySem.W.mg_none_of X G zz_abs)
        (z_list := PySem.W.mg_none_of X G zz_list)
        (z_range := PySem.W.mg_none_of X G zz_range)
        (z_len := PySem.W.mg_none_of X G zz_len)
        (z_min := PySem.W.mg_none_of X G zz_min)
        (z_int := PySem.W.mg_none_of X G zz_int)
        (z_divmod := PySem.W.mg_none_of X G zz_divmod)
        (z_isinstance := PySem.W.mg_none_of X G zz_isinstance)
        (z_bool := PySem.W.mg_none_of X G zz_bool)
        (z_tuple := PySem.W.mg_none_of X G zz_tuple)
        (z_enumerate := PySem.W.mg_none_of X G zz_enumerate)
        (z_zip := PySem.W.mg_none_of X G zz_zip)
        (z_all := PySem.W.mg_none_of X G zz_all)
        (z_max := PySem.W.mg_none_of X G zz_max)
        (t_MOST_SLEW := tk_MOST_SLEW)
        (g_MOST_SLEW := PySem.W.mg_of X G hg_MOST_SLEW)
        (t_MOST_DRIFT := tk_MOST_DRIFT)
        (g_MOST_DRIFT := PySem.W.mg_of X G hg_MOST_DRIFT)
        (t_MOST_READING := tk_MOST_READING)
        (g_MOST_READING := PySem.W.mg_of X G hg_MOST_READING)
        (t_EXACT := tk_EXACT)
        (g_EXACT := PySem.W.mg_of X G hg_EXACT)
        (a_Shown := A_Shown)
        (m_Shown := PySem.W.mg_of X G hm_Shown)
        (c_Shown := ⟨pg_Shown, hd_Shown, po_Shown, sa_Shown⟩)
        (n_Shown_c_reading := hn_Shown_c_reading)
        (n_Shown_c_rules := hn_Shown_c_rules)
        (n_Shown_c_spans := hn_Shown_c_spans)
        (n_Shown_c_value := hn_Shown_c_value)
        (a_HourError := A_HourError)
        (m_HourError := PySem.W.mg_of X G hm_HourError)
        (x_HourError := (XCls.mk xh_HourError xt_HourError xb_HourError xg_HourError xq_HourError xc_HourError xsp xtk xo_HourError))
        (a_NoClock := A_NoClock)
        (m_NoClock := PySem.W.mg_of X G hm_NoClock)
        (x_NoClock := (XCls.mk xh_NoClock xt_NoClock xb_NoClock xg_NoClock xq_NoClock xc_NoClock xsp xtk xo_NoClock))
        (a_NoReading := A_NoReading)
        (m_NoReading := PySem.W.mg_of X G hm_NoReading)
        (x_NoReading := (XCls.mk xh_NoReading xt_NoReading xb_NoReading xg_NoReading xq_NoReading xc_NoReading xsp xtk xo_NoReading))
        (a_NoSpans := A_NoSpans)
        (m_NoSpans := PySem.W.mg_of X G hm_NoSpans)
        (x_NoSpans := (XCls.mk xh_NoSpans xt_NoSpans xb_NoSpans xg_NoSpans xq_NoSpans xc_NoSpans xsp xtk xo_NoSpans))
        (xe_NoClock := xe_NoClock)
        (xk_NoClock := xk_NoClock)
        (xe_NoReading := xe_NoReading)
        (xk_NoReading := xk_NoReading)
        (xe_NoSpans := xe_NoSpans)
        (xk_NoSpans := xk_NoSpans)
        (xn_HourError := xn_HourError)
        (xi_NoClock_HourError := kit_t (XCls.mk xh_HourError xt_HourError xb_HourError xg_HourError xq_HourError xc_HourError xsp xtk xo_HourError) xs_NoClock_HourError)
        (xm_NoClock_HourError := xm_of (XCls.mk xh_HourError xt_HourError xb_HourError xg_HourError xq_HourError xc_HourError xsp xtk xo_HourError) xs_NoClock_HourError)
        (xi_NoReading_HourError := kit_t (XCls.mk xh_HourError xt_HourError xb_HourError xg_HourError xq_HourError xc_HourError xsp xtk xo_HourError) xs_NoReading_HourError)
        (xm_NoReading_HourError := xm_of (XCls.mk xh_HourError xt_HourError xb_HourError xg_HourError xq_HourError xc_HourError xsp xtk xo_HourError) xs_NoReading_HourError)
        (xi_NoSpans_HourError := kit_t (XCls.mk xh_HourError xt_HourError xb_HourError xg_HourError xq_HourError xc_HourError xsp xtk xo_HourError) xs_NoSpans_HourError)
        (xm_NoSpans_HourError := xm_of (XCls.mk xh_HourError xt_HourError xb_HourError xg_HourError xq_HourError xc_HourError xsp xtk xo_HourError) xs_NoSpans_HourError)
        (xn_NoClock := xn_NoClock)
        (xi_NoClock_NoClock := kit_t (XCls.mk xh_NoClock xt_NoClock xb_NoClock xg_NoClock xq_NoClock xc_NoClock xsp xtk xo_NoClock) xs_NoClock_NoClock)
        (xm_NoClock_NoClock := xm_of (XCls.mk xh_NoClock xt_NoClock xb_NoClock xg_NoClock xq_NoClock xc_NoClock xsp xtk xo_NoClock) xs_NoClock_NoClock)
        (xi_NoReading_NoClock := kit_f (XCls.mk xh_NoClock xt_NoClock xb_NoClock xg_NoClock xq_NoClock xc_NoClock xsp xtk xo_NoClock) xs_NoReading_NoClock (Ne.symm ne_x1_2))
        (xi_NoSpans_NoClock := kit_f (XCls.mk xh_NoClock xt_NoClock xb_NoClock xg_NoClock xq_NoClock xc_NoClock xsp xtk xo_NoClock) xs_NoSpans_NoClock (Ne.symm ne_x1_3))
        (xn_NoReading := xn_NoReading)
        (xi_NoClock_NoReading := kit_f (XCls.mk xh_NoReading xt_NoReading xb_NoReading xg_NoReading xq_NoReading xc_NoReading xsp xtk xo_NoReading) xs_NoClock_NoReading ne_x1_2)
        (xi_NoReading_NoReading := kit_t (XCls.mk xh_NoReading xt_NoReading xb_NoReading xg_NoReading xq_NoReading xc_NoReading xsp xtk xo_NoReading) xs_NoReading_NoReading)
        (xm_NoReading_NoReading := xm_of (XCls.mk xh_NoReading xt_NoReading xb_NoReading xg_NoReading xq_NoReading xc_NoReading xsp xtk xo_NoReading) xs_NoReading_NoReading)
        (xi_NoSpans_NoReading := kit_f (XCls.mk xh_NoReading xt_NoReading xb_NoReading xg_NoReading xq_NoReading xc_NoReading xsp xtk xo_NoReading) xs_NoSpans_NoReading (Ne.symm ne_x2_3))
        (xn_NoSpans := xn_NoSpans)
        (xi_NoClock_NoSpans := kit_f (XCls.mk xh_NoSpans xt_NoSpans xb_NoSpans xg_NoSpans xq_NoSpans xc_NoSpans xsp xtk xo_NoSpans) xs_NoClock_NoSpans ne_x1_3)
        (xi_NoReading_NoSpans := kit_f (XCls.mk xh_NoSpans xt_NoSpans xb_NoSpans xg_NoSpans xq_NoSpans xc_NoSpans xsp xtk xo_NoSpans) xs_NoReading_NoSpans ne_x2_3)
        (xi_NoSpans_NoSpans := kit_t (XCls.mk xh_NoSpans xt_NoSpans xb_NoSpans xg_NoSpans xq_NoSpans xc_NoSpans xsp xtk xo_NoSpans) xs_NoSpans_NoSpans)
        (xm_NoSpans_NoSpans := xm_of (XCls.mk xh_NoSpans xt_NoSpans xb_NoSpans xg_NoSpans xq_NoSpans xc_NoSpans xsp xtk xo_NoSpans) xs_NoSpans_NoSpans)
        (a_tab_law := A_tab_law)
        (c_tab_law := C_tab_law)
        (tb_tab_law := tb (C_tab_law, A_tab_law) (by simp))
        (a_f_law_begin := A_f_law_begin)
        (d_law_begin := PySem.W.fnOf "_law_begin" "_law_begin" (defArgs s_law_begin) (defBody s_law_begin) (defScope s_law_begin) .none kV0 dc0 pm0 an0 cd0 ct0)
        (F_law_begin := fun_mk (st := s_law_begin) l_law_begin cc_law_begin kp_law_begin)
        (b_law_begin := (fun_mk (st := s_law_begin) l_law_begin cc_law_begin kp_law_begin).binds (ps := ["_law_script"]) fun _ _ _ _ _ _ us hl => match us, hl with | [_], _ => rfl)
        (m_law_begin := PySem.W.mg_of X G at_law_begin)
        (a_f_law_take := A_f_law_take)
        (d_law_take := PySem.W.fnOf "_law_take" "_law_take" (defArgs s_law_take) (defBody s_law_take) (defScope s_law_take) .none kV1 dc1 pm1 an1 cd1 ct1)
        (F_law_take := fun_mk (st := s_law_take) l_law_take cc_law_take kp_law_take)
        (b_law_take := (fun_mk (st := s_law_take) l_law_take cc_law_take kp_law_take).binds (ps := ["_law_draw", "_law_size"]) fun _ _ _ _ _ _ us hl => match us, hl with | [_, _], _ => rfl)
        (m_law_take := PySem.W.mg_of X G at_law_take)
        (a_f_law_pick := A_f_law_pick)
        (d_law_pick := PySem.W.fnOf "_law_pick" "_law_pick" (defArgs s_law_pick) (defBody s_law_pick) (defScope s_law_pick) .none kV2 dc2 pm2 an2 cd2 ct2)
        (F_law_pick := fun_mk (st := s_law_pick) l_law_pick cc_law_pick kp_law_pick)
        (b_law_pick := (fun_mk (st := s_law_pick) l_law_pick cc_law_pick kp_law_pick).binds (ps := ["_law_draw", "_law_some"]) fun _ _ _ _ _ _ us hl => match us, hl with | [_, _], _ => rfl)
        (m_law_pick := PySem.W.mg_of X G at_law_pick)
        (a_f_law_odd := A_f_law_odd)
        (d_law_odd := PySem.W.fnOf "_law_odd" "_law_odd" (defArgs s_law_odd) (defBody s_law_odd) (defScope s_law_odd) .none kV3 dc3 pm3 an3 cd3 ct3)
        (F_law_odd := fun_mk (st := s_law_odd) l_law_odd cc_law_odd kp_law_odd)
        (b_law_odd := (fun_mk (st := s_law_odd) l_law_odd cc_law_odd kp_law_odd).binds (ps := ["_law_draw"]) fun _ _ _ _ _ _ us hl => match us, hl with | [_], _ => rfl)
        (m_law_odd := PySem.W.mg_of X G at_law_odd)
        (a_f_law_is_int := A_f_law_is_int)
        (d_law_is_int := PySem.W.fnOf "_law_is_int" "_law_is_int" (defArgs s_law_is_int) (defBody s_law_is_int) (defScope s_law_is_int) .none kV4 dc4 pm4 an4 cd4 ct4)
        (F_law_is_int := fun_mk (st := s_law_is_int) l_law_is_int cc_law_is_int kp_law_is_int)
        (b_law_is_int := (fun_mk (st := s_law_is_int) l_law_is_int cc_law_is_int kp_law_is_int).binds (ps := ["_law_worth", "_law_least", "_law_most"]) fun _ _ _ _ _ _ us hl => match us, hl with | [_, _, _], _ => rfl)
        (m_law_is_int := PySem.W.mg_of X G at_law_is_int)
        (a_f_law_error := A_f_law_error)
        (d_law_error := PySem.W.fnOf "_law_error" "_law_error" (defArgs s_law_error) (defBody s_law_error) (defScope s_law_error) .none kV5 dc5 pm5 an5 cd5 ct5)
        (F_law_error := dfn_mk (st := s_law_error) l_law_error cc_law_error kp_law_error)
        (v_law_error := cd5)
        (b_law_error := (fun_mk (st := s_law_error) l_law_error cc_law_error kp_law_error).binds (ps := ["_law_work"]) fun _ _ _ _ _ _ us hl => match us, hl with | [_], _ => rfl)
        (m_law_error := PySem.W.mg_of X G at_law_error)
        (a_f_is_between := A_f_is_between)
        (d_is_between := PySem.W.fnOf "is_between" "is_between" (defArgs s_is_between) (defBody s_is_between) (defScope s_is_between) .none kV6 dc6 pm6 an6 cd6 ct6)
        (F_is_between := fun_mk (st := s_is_between) l_is_between cc_is_between kp_is_between)
        (b_is_between := (fun_mk (st := s_is_between) l_is_between cc_is_between kp_is_between).binds (ps := ["value", "least", "most"]) fun _ _ _ _ _ _ us hl => match us, hl with | [_, _, _], _ => rfl)
        (m_is_between := PySem.W.mg_of X G at_is_between)
        (a_f_is_integer := A_f_is_integer)
        (d_is_integer := PySem.W.fnOf "is_integer" "is_integer" (defArgs s_is_integer) (defBody s_is_integer) (defScope s_is_integer) .none kV7 dc7 pm7 an7 cd7 ct7)
        (F_is_integer := fun_mk (st := s_is_integer) l_is_integer cc_is_integer kp_is_integer)
        (b_is_integer := (fun_mk (st := s_is_integer) l_is_integer cc_is_integer kp_is_integer).binds (ps := ["value"]) fun _ _ _ _ _ _ us hl => match us, hl with | [_], _ => rfl)
        (m_is_integer := PySem.W.mg_of X G at_is_integer)
        (w0_Shown_init := KwB.mk' (fun_mk (st := s_Shown_init) l_Shown_init cc_Shown_init kp_Shown_init) fun _ _ _ _ _ _ us ws h1 h2 => match us, ws, h1, h2 with | [_, _, _, _], [_, _], _, _ => rfl)
        (a_f_Shown_init := A_f_Shown_init)
        (d_Shown_init := PySem.W.fnOf "__init__" "Shown.__init__" (defArgs s_Shown_init) (defBody s_Shown_init) (defScope s_Shown_init) .none kV8 dc8 pm8 an8 cd8 ct8)
        (F_Shown_init := fun_mk (st := s_Shown_init) l_Shown_init cc_Shown_init kp_Shown_init)
        (b_Shown_init := (fun_mk (st := s_Shown_init) l_Shown_init cc_Shown_init kp_Shown_init).binds (ps := ["self", "drift", "slew", "jump", "reading", "value"]) fun _ _ _ _ _ _ us hl => match us, hl with | [_, _, _, _, _, _], _ => rfl)
        (k_Shown := ⟨mk_Shown, at_Shown_init, is_Shown_init, kc_Shown⟩)
        (a_f_Shown_ticks_to := A_f_Shown_ticks_to)
        (d_Shown_ticks_to := PySem.W.fnOf "ticks_to" "Shown.ticks_to" (defArgs s_Shown_ticks_to) (defBody s_Shown_ticks_to) (defScope s_Shown_ticks_to) .none kV9 dc9 pm9 an9 cd9 ct9)
        (F_Shown_ticks_to := fun_mk (st := s_Shown_ticks_to) l_Shown_ticks_to cc_Shown_ticks_to kp_Shown_ticks_to)
        (b_Shown_ticks_to := (fun_mk (st := s_Shown_ticks_to) l_Shown_ticks_to cc_Shown_ticks_to kp_Shown_ticks_to).binds (ps := ["self", "reading"]) fun _ _ _ _ _ _ us hl => match us, hl with | [_, _], _ => rfl)
        (M_Shown_ticks_to := ⟨at_Shown_ticks_to, is_Shown_ticks_to, kp_Shown_ticks_to⟩)
        (a_f_is_list := A_f_is_list)
        (d_is_list := PySem.W.fnOf "is_list" "is_list" (defArgs s_is_list) (defBody s_is_list) (defScope s_is_list) .none kV10 dc10 pm10 an10 cd10 ct10)
        (F_is_list := fun_mk (st := s_is_list) l_is_list cc_is_list kp_is_list)
        (b_is_list := (fun_mk (st := s_is_list) l_is_list cc_is_list kp_is_list).binds (ps := ["value"]) fun _ _ _ _ _ _ us hl => match us, hl with | [_], _ => rfl)
        (m_is_list := PySem.W.mg_of X G at_is_list)
        (a_f_is_end := A_f_is_end)
        (d_is_end := PySem.W.fnOf "is_end" "is_end" (defArgs s_is_end) (defBody s_is_end) (defScope s_is_end) .none kV11 dc11 pm11 an11 cd11 ct11)
        (F_is_end := fun_mk (st := s_is_end) l_is_end cc_is_end kp_is_end)
        (b_is_end := (fun_mk (st := s_is_end) l_is_end cc_is_end kp_is_end).binds (ps := ["value"]) fun _ _ _ _ _ _ us hl => match us, hl with | [_], _ => rfl)
        (m_is_end := PySem.W.mg_of X G at_is_end)
        (a_f_are_spans := A_f_are_spans)
        (d_are_spans := PySem.W.fnOf "are_spans" "are_spans" (defArgs s_are_spans) (defBody s_are_spans) (defScope s_are_spans) .none kV12 dc12 pm12 an12 cd12 ct12)
        (F_are_spans := fun_mk (st := s_are_spans) l_are_spans cc_are_spans kp_are_spans)
        (b_are_spans := (fun_mk (st := s_are_spans) l_are_spans cc_are_spans kp_are_spans).binds (ps := ["value"]) fun _ _ _ _ _ _ us hl => match us, hl with | [_], _ => rfl)
        (m_are_spans := PySem.W.mg_of X G at_are_spans)
        (a_f_gaps := A_f_gaps)
        (d_gaps := PySem.W.fnOf "gaps" "gaps" (defArgs s_gaps) (defBody s_gaps) (defScope s_gaps) .none kV13 dc13 pm13 an13 cd13 ct13)
        (F_gaps := fun_mk (st := s_gaps) l_gaps cc_gaps kp_gaps)
        (b_gaps := (fun_mk (st := s_gaps) l_gaps cc_gaps kp_gaps).binds (ps := ["spans", "value"]) fun _ _ _ _ _ _ us hl => match us, hl with | [_, _], _ => rfl)
        (m_gaps := PySem.W.mg_of X G at_gaps)
        (a_f_way_to := A_f_way_to)
        (d_way_to := PySem.W.fnOf "way_to" "way_to" (defArgs s_way_to) (defBody s_way_to) (defScope s_way_to) .none kV14 dc14 pm14 an14 cd14 ct14)
        (F_way_to := fun_mk (st := s_way_to) l_way_to cc_way_to kp_way_to)
        (b_way_to := (fun_mk (st := s_way_to) l_way_to cc_way_to kp_way_to).binds (ps := ["spans", "value"]) fun _ _ _ _ _ _ us hl => match us, hl with | [_, _], _ => rfl)
        (m_way_to := PySem.W.mg_of X G at_way_to)
        (a_f_moved := A_f_moved)
        (d_moved := PySem.W.fnOf "moved" "moved" (defArgs s_moved) (defBody s_moved) (defScope s_moved) .none kV15 dc15 pm15 an15 cd15 ct15)
        (F_moved := fun_mk (st := s_moved) l_moved cc_moved kp_moved)
        (b_moved := (fun_mk (st := s_moved) l_moved cc_moved kp_moved).binds (ps := ["way", "drift", "slew", "ticks"]) fun _ _ _ _ _ _ us hl => match us, hl with | [_, _, _, _], _ => rfl)
        (m_moved := PySem.W.mg_of X G at_moved)
        (w0_Shown_at := KwB.mk' (fun_mk (st := s_Shown_at) l_Shown_at cc_Shown_at kp_Shown_at) fun _ _ _ _ _ _ us ws h1 h2 => match us, ws, h1, h2 with | [_], [_], _, _ => rfl)
        (a_f_Shown_at := A_f_Shown_at)
        (d_Shown_at := PySem.W.fnOf "at" "Shown.at" (defArgs s_Shown_at) (defBody s_Shown_at) (defScope s_Shown_at) .none kV16 dc16 pm16 an16 cd16 ct16)
        (F_Shown_at := fun_mk (st := s_Shown_at) l_Shown_at cc_Shown_at kp_Shown_at)
        (b_Shown_at := (fun_mk (st := s_Shown_at) l_Shown_at cc_Shown_at kp_Shown_at).binds (ps := ["self", "reading"]) fun _ _ _ _ _ _ us hl => match us, hl with | [_, _], _ => rfl)
        (M_Shown_at := ⟨at_Shown_at, is_Shown_at, kp_Shown_at⟩)
        (a_f_Shown_learn := A_f_Shown_learn)
        (d_Shown_learn := PySem.W.fnOf "learn" "Shown.learn" (defArgs s_Shown_learn) (defBody s_Shown_learn) (defScope s_Shown_learn) .none kV17 dc17 pm17 an17 cd17 ct17)
        (F_Shown_learn := fun_mk (st := s_Shown_learn) l_Shown_learn cc_Shown_learn kp_Shown_learn)
        (b_Shown_learn := (fun_mk (st := s_Shown_learn) l_Shown_learn cc_Shown_learn kp_Shown_learn).binds (ps := ["self", "reading", "spans"]) fun _ _ _ _ _ _ us hl => match us, hl with | [_, _, _], _ => rfl)
        (M_Shown_learn := ⟨at_Shown_learn, is_Shown_learn, kp_Shown_learn⟩)
        (a_f_Shown_reading := A_f_Shown_reading)
        (d_Shown_reading := PySem.W.fnOf "reading" "Shown.reading" (defArgs s_Shown_reading) (defBody s_Shown_reading) (defScope s_Shown_reading) .none kV18 dc18 pm18 an18 cd18 ct18)
        (F_Shown_reading := fun_mk (st := s_Shown_reading) l_Shown_reading cc_Shown_reading kp_Shown_reading)
        (b_Shown_reading := (fun_mk (st := s_Shown_reading) l_Shown_reading cc_Shown_reading kp_Shown_reading).binds (ps := ["self"]) fun _ _ _ _ _ _ us hl => match us, hl with | [_], _ => rfl)
        (p_Shown_reading := A_p_Shown_reading)
        (P_Shown_reading := ⟨at_Shown_reading, pget_Shown_reading, ptak_Shown_reading, _, prec_Shown_reading⟩)
        (a_f_Shown_value := A_f_Shown_value)
        (d_Shown_value := PySem.W.fnOf "value" "Shown.value" (defArgs s_Shown_value) (defBody s_Shown_value) (defScope s_Shown_value) .none kV19 dc19 pm19 an19 cd19 ct19)
        (F_Shown_value := fun_mk (st := s_Shown_value) l_Shown_value cc_Shown_value kp_Shown_value)
        (b_Shown_value := (fun_mk (st := s_Shown_value) l_Shown_value cc_Shown_value kp_Shown_value).binds (ps := ["self"]) fun _ _ _ _ _ _ us hl => match us, hl with | [_], _ => rfl)
        (p_Shown_value := A_p_Shown_value)
        (P_Shown_value := ⟨at_Shown_value, pget_Shown_value, ptak_Shown_value, _, prec_Shown_value⟩)
        (a_f_Shown_spans := A_f_Shown_spans)
        (d_Shown_spans := PySem.W.fnOf "spans" "Shown.spans" (defArgs s_Shown_spans) (defBody s_Shown_spans) (defScope s_Shown_spans) .none kV20 dc20 pm20 an20 cd20 ct20)
        (F_Shown_spans := fun_mk (st := s_Shown_spans) l_Shown_spans cc_Shown_spans kp_Shown_spans)
        (b_Shown_spans := (fun_mk (st := s_Shown_spans) l_Shown_spans cc_Shown_spans kp_Shown_spans).binds (ps := ["self"]) fun _ _ _ _ _ _ us hl => match us, hl with | [_], _ => rfl)
        (p_Shown_spans := A_p_Shown_spans)
        (P_Shown_spans := ⟨at_Shown_spans, pget_Shown_spans, ptak_Shown_spans, _, prec_Shown_spans⟩)
        (a_f_widened := A_f_widened)
        (d_widened := PySem.W.fnOf "widened" "widened" (defArgs s_widened) (defBody s_widened) (defScope s_widened) .none kV21 dc21 pm21 an21 cd21 ct21)
        (F_widened := fun_mk (st := s_widened) l_widened cc_widened kp_widened)
        (b_widened := (fun_mk (st := s_widened) l_widened cc_widened kp_widened).binds (ps := ["spans", "drift", "ticks"]) fun _ _ _ _ _ _ us hl => match us, hl with | [_, _, _], _ => rfl)
        (m_widened := PySem.W.mg_of X G at_widened)
        (a_f_Shown_distance := A_f_Shown_distance)
        (d_Shown_distance := PySem.W.fnOf "distance" "Shown.distance" (defArgs s_Shown_distance) (defBody s_Shown_distance) (defScope s_Shown_distance) .none kV22 dc22 pm22 an22 cd22 ct22)
        (F_Shown_distance := fun_mk (st := s_Shown_distance) l_Shown_distance cc_Shown_distance kp_Shown_distance)
        (b_Shown_distance := (fun_mk (st := s_Shown_distance) l_Shown_distance cc_Shown_distance kp_Shown_distance).binds (ps := ["self", "reading"]) fun _ _ _ _ _ _ us hl => match us, hl with | [_, _], _ => rfl)
        (M_Shown_distance := ⟨at_Shown_distance, is_Shown_distance, kp_Shown_distance⟩)
        (a_f_law_are_spans := A_f_law_are_spans)
        (d_law_are_spans := PySem.W.fnOf "_law_are_spans" "_law_are_spans" (defArgs s_law_are_spans) (defBody s_law_are_spans) (defScope s_law_are_spans) .none kV23 dc23 pm23 an23 cd23 ct23)
        (F_law_are_spans := fun_mk (st := s_law_are_spans) l_law_are_spans cc_law_are_spans kp_law_are_spans)
        (b_law_are_spans := (fun_mk (st := s_law_are_spans) l_law_are_spans cc_law_are_spans kp_law_are_spans).binds (ps := ["_law_worth"]) fun _ _ _ _ _ _ us hl => match us, hl with | [_], _ => rfl)
        (m_law_are_spans := PySem.W.mg_of X G at_law_are_spans)
        (a_f_Shown_copy := A_f_Shown_copy)
        (d_Shown_copy := PySem.W.fnOf "copy" "Shown.copy" (defArgs s_Shown_copy) (defBody s_Shown_copy) (defScope s_Shown_copy) .none kV24 dc24 pm24 an24 cd24 ct24)
        (F_Shown_copy := fun_mk (st := s_Shown_copy) l_Shown_copy cc_Shown_copy kp_Shown_copy)
        (b_Shown_copy := (fun_mk (st := s_Shown_copy) l_Shown_copy cc_Shown_copy kp_Shown_copy).binds (ps := ["self"]) fun _ _ _ _ _ _ us hl => match us, hl with | [_], _ => rfl)
        (M_Shown_copy := ⟨at_Shown_copy, is_Shown_copy, kp_Shown_copy⟩)
        (a_f_law := fa)
        (d_law := PySem.W.fnOf "law" "law" (defArgs s_law) (defBody s_law) (defScope s_law) .none kV25 dc25 pm25 an25 (.ref C_tab_law) ct25)
        (F_law := dfn_mk (st := s_law) l_law cc_law kp_law)
        (v_law := (.ref C_tab_law))
        (b_law := (fun_mk (st := s_law) l_law cc_law kp_law).binds (ps := ["_law_script"]) fun _ _ _ _ _ _ us hl => match us, hl with | [_], _ => rfl)
        (m_law := PySem.W.mg_of X G at_law)
    exact ok_law T fun ns => hm _ _ _ _ _ _ (show [A_HourError, A_NoClock, A_NoReading, A_NoSpans].Nodup from by simp [ne_x0_1, ne_x0_2, ne_x0_3, ne_x1_2, ne_x1_3, ne_x2_3]) ns
end Law
set_option Elab.async false
set_option linter.all false
set_option maxRecDepth 100000
set_option maxHeartbeats 2000000
namespace Law
open PySem DL
local macro_rules | `(tactic| walk_at "dlt") => `(tactic| repeat' (first | refine ok.and ?_ | refine ok.or ?_ | refine ok.not ?_ | refine yes ?_ | refine no ?_ | refine ok.eq (a := true) rfl ?_ | refine ok.eq (a := false) rfl ?_ | refine ok.dec rfl (fun _ => ?_) (fun _ => ?_)))
abbrev OI := Option Int
def oD : OI → D
  | none => .non
  | some i => .int i
abbrev Sp := OI × OI
def spD (x : Sp) : D := .tup [oD x.1, oD x.2]
def inside (lo hi : OI) (v : Int) : Bool := (match lo with | none => true | some l => decide (l ≤ v)) && (match hi with | none => true | some h => decide (v ≤ h))
def low' (lo : OI) (v : Int) (b : OI) : OI := match lo with
  | none => b
  | some l => if v < l then (match b with | none => some (l - v) | some x => if l - v < x then some (l - v) else b) else b
def high' (hi : OI) (v : Int) (a : OI) : OI := match hi with
  | none => a
  | some h => if h < v then (match a with | none => some (v - h) | some x => if v - h < x then some (v - h) else a) else a
def gapsL : List Sp → Int → OI → OI → Option (OI × OI)
  | [], _, b, a => some (b, a)
  | (lo, hi) :: r, v, b, a => if inside lo hi v = true then none else gapsL r v (low' lo v b) (high' hi v a)
def gapsR (sp : List Sp) (v : Int) : OI × OI := (gapsL sp v none none).getD (some 0, some 0)
theorem gaps_loop (x : D) (v : Int) (sto : List MO) (dr : Option DrawSt) (Nx : State → Prop) (Rt : DL.T → State → Prop) : ∀ (sp : List Sp) (b a : OI) (w4 w5 : Option W), (w4 = none ∨ ∃ d, w4 = some (.fz d)) → (w5 = none ∨ ∃ d, w5 = some (.fz d)) →
    (match gapsL sp v b a with
      | some (b', a') => ∀ w4 w5, Nx { env := [some (.fz x), some (.fz (.int v)), some (.fz (oD b')), some (.fz (oD a')), w4, w5], sto := sto, dr := dr }
      | none => ∀ e', e'.length = 6 → Rt (.fz (.tup [.int 0, .int 0])) { env := e', sto := sto, dr := dr }) →
    okS (dForL (.tup [.name 4, .name 5]) L_gaps_0 (sp.map spD))
      { env := [some (.fz x), some (.fz (.int v)), some (.fz (oD b)), some (.fz (oD a)), w4, w5], sto := sto, dr := dr } Nx Rt
  | [], b, a, w4, w5, _, _, h => okS.nx rfl (h w4 w5)
  | (lo, hi) :: r, b, a, w4, w5, h4, h5, h => by
    have ih := gaps_loop x v sto dr Nx Rt r (low' lo v b) (high' hi v a) (some (.fz (oD lo))) (some (.fz (oD hi))) (.inr ⟨_, rfl⟩) (.inr ⟨_, rfl⟩)
    have e1 : bindP (.tup [.name 4, .name 5]) (spD (lo, hi)) { env := [some (.fz x), some (.fz (.int v)), some (.fz (oD b)), some (.fz (oD a)), w4, w5], sto := sto, dr := dr } = some { env := [some (.fz x), some (.fz (.int v)), some (.fz (oD b)), some (.fz (oD a)), some (.fz (oD lo)), some (.fz (oD hi))], sto := sto, dr := dr } := by
      rcases h4 with rfl | ⟨_, rfl⟩ <;> rcases h5 with rfl | ⟨_, rfl⟩ <;> rfl
    refine okS.turn e1 (okS.seq (okS.ite ?_))
    have t1 : ok (dAnd (dOr (dB (dOp2 isD (dSlot 4) (dV (dC .non)))) (dB (dOp2 leD (dSlot 4) (dSlot 1)))) (dOr (dB (dOp2 isD (dSlot 5) (dV (dC .non)))) (dB (dOp2 leD (dSlot 1) (dSlot 5))))) { env := [some (.fz x), some (.fz (.int v)), some (.fz (oD b)), some (.fz (oD a)), some (.fz (oD lo)), some (.fz (oD hi))], sto := sto, dr := dr } (fun t s => t = inside lo hi v ∧ s = { env := [some (.fz x), some (.fz (.int v)), some (.fz (oD b)), some (.fz (oD a)), some (.fz (oD lo)), some (.fz (oD hi))], sto := sto, dr := dr }) := by
      cases lo <;> cases hi <;> walk_at "dlt" <;> simp_all [inside] <;> omega
    refine t1.mono fun t s' ht => ?_
    obtain ⟨rfl, rfl⟩ := ht
    unfold gapsL at h
    cases hin : inside lo hi v with
    | true =>
      rw [hin, if_pos rfl] at h
      exact yes (okS.rt rfl (h _ rfl))
    | false =>
      rw [hin, if_neg Bool.false_ne_true] at h
      refine no (okS.skip (okS.seq ?_))
      have t2 : okS (dIf (dAnd (dB (dOp2 isNotD (dSlot 4) (dV (dC .non)))) (dAnd (dB (dOp2 ltD (dSlot 1) (dSlot 4))) (dOr (dB (dOp2 isD (dSlot 2) (dV (dC .non)))) (dB (dOp2 ltD (dV (dOp2 subD (dSlot 4) (dSlot 1))) (dSlot 2)))))) (dAsg 2 (dOp2 subD (dSlot 4) (dSlot 1))) (dNx)) { env := [some (.fz x), some (.fz (.int v)), some (.fz (oD b)), some (.fz (oD a)), some (.fz (oD lo)), some (.fz (oD hi))], sto := sto, dr := dr }
          (fun s => s = { env := [some (.fz x), some (.fz (.int v)), some (.fz (oD (low' lo v b))), some (.fz (oD a)), some (.fz (oD lo)), some (.fz (oD hi))], sto := sto, dr := dr }) Rt := by
        cases lo with
        | none => refine okS.ite ?_; walk_at "dlt"; exact okS.skip (Rt := Rt) rfl
        | some l =>
          by_cases h1 : v < l
          · cases b with
            | none =>
              have e : low' (some l) v none = some (l - v) := by simp [low', h1]
              rw [e]
              refine okS.ite ?_
              walk_at "dlt" <;> first | exact okS.nx (s1 := { env := [some (.fz x), some (.fz (.int v)), some (.fz (.int (l - v))), some (.fz (oD a)), some (.fz (.int l)), some (.fz (oD hi))], sto := sto, dr := dr }) rfl rfl | (exfalso; omega)
            | some y =>
              by_cases h2 : l - v < y
              · have e : low' (some l) v (some y) = some (l - v) := by simp [low', h1, h2]
                rw [e]
                refine okS.ite ?_
                walk_at "dlt" <;> first | exact okS.nx (s1 := { env := [some (.fz x), some (.fz (.int v)), some (.fz (.int (l - v))), some (.fz (oD a)), some (.fz (.int l)), some (.fz (oD hi))], sto := sto, dr := dr }) rfl rfl | (exfalso; omega)
              · have e : low' (some l) v (some y) = some y := by simp [low', h1, h2]
                rw [e]
                refine okS.ite ?_
                walk_at "dlt" <;> first | (exfalso; omega) | exact okS.skip (Rt := Rt) rfl
          · have e : low' (some l) v b = b := by simp [low', h1]
            rw [e]
            refine okS.ite ?_
            walk_at "dlt" <;> first | (exfalso; omega) | exact okS.skip (Rt := Rt) rfl
      refine t2.mono (fun s' hs => ?_) fun _ _ q => q
      subst hs
      have t3 : okS (dIf (dAnd (dB (dOp2 isNotD (dSlot 5) (dV (dC .non)))) (dAnd (dB (dOp2 ltD (dSlot 5) (dSlot 1))) (dOr (dB (dOp2 isD (dSlot 3) (dV (dC .non)))) (dB (dOp2 ltD (dV (dOp2 subD (dSlot 1) (dSlot 5))) (dSlot 3)))))) (dAsg 3 (dOp2 subD (dSlot 1) (dSlot 5))) (dNx)) { env := [some (.fz x), some (.fz (.int v)), some (.fz (oD (low' lo v b))), some (.fz (oD a)), some (.fz (oD lo)), some (.fz (oD hi))], sto := sto, dr := dr }
          (fun s => s = { env := [some (.fz x), some (.fz (.int v)), some (.fz (oD (low' lo v b))), some (.fz (oD (high' hi v a))), some (.fz (oD lo)), some (.fz (oD hi))], sto := sto, dr := dr }) Rt := by
        generalize low' lo v b = b2
        cases hi with
        | none => refine okS.ite ?_; walk_at "dlt"; exact okS.skip (Rt := Rt) rfl
        | some l =>
          by_cases h1 : l < v
          · cases a with
            | none =>
              have e : high' (some l) v none = some (v - l) := by simp [high', h1]
              rw [e]
              refine okS.ite ?_
              walk_at "dlt" <;> first | exact okS.nx (s1 := { env := [some (.fz x), some (.fz (.int v)), some (.fz (oD b2)), some (.fz (.int (v - l))), some (.fz (oD lo)), some (.fz (.int l))], sto := sto, dr := dr }) rfl rfl | (exfalso; omega)
            | some y =>
              by_cases h2 : v - l < y
              · have e : high' (some l) v (some y) = some (v - l) := by simp [high', h1, h2]
                rw [e]
                refine okS.ite ?_
                walk_at "dlt" <;> first | exact okS.nx (s1 := { env := [some (.fz x), some (.fz (.int v)), some (.fz (oD b2)), some (.fz (.int (v - l))), some (.fz (oD lo)), some (.fz (.int l))], sto := sto, dr := dr }) rfl rfl | (exfalso; omega)
              · have e : high' (some l) v (some y) = some y := by simp [high', h1, h2]
                rw [e]
                refine okS.ite ?_
                walk_at "dlt" <;> first | (exfalso; omega) | exact okS.skip (Rt := Rt) rfl
          · have e : high' (some l) v a = a := by simp [high', h1]
            rw [e]
            refine okS.ite ?_
            walk_at "dlt" <;> first | (exfalso; omega) | exact okS.skip (Rt := Rt) rfl
      refine t3.mono (fun s' hs => ?_) fun _ _ q => q
      subst hs
      exact ih h
theorem gaps_pureK (k : List D → D) (hk : ∀ ds, itS [k ds] = some ds ∧ noDict (k ds) = true) (sp : List Sp) (v : Int) : pureG F_gaps 6 [.fz (k (sp.map spD)), .fz (.int v)] (.fz (.tup [oD (gapsR sp v).1, oD (gapsR sp v).2])) := .of fun sto dr => by
  unfold F_gaps
  refine okS.seq (okS.nx (s1 := { env := [some (.fz (k (sp.map spD))), some (.fz (.int v)), some (.fz .non), some (.fz .non), none, none], sto := sto, dr := dr }) rfl ?_)
  refine okS.seq (okS.forS (d := k (sp.map spD)) rfl (hk _).2 (hk _).1 (gaps_loop _ v sto dr _ _ sp none none none none (.inl rfl) (.inl rfl) ?_))
  unfold gapsR
  cases q : gapsL sp v none none with
  | none => exact fun e' he => ⟨rfl, by rw [he]; show 2 ≤ 6; decide, rfl, rfl⟩
  | some p =>
    obtain ⟨b, a⟩ := p
    exact fun w4 w5 => okS.rt rfl ⟨rfl, by show 2 ≤ 6; decide, rfl, rfl⟩
def wayR (sp : List Sp) (v : Int) : OI := match gapsR sp v with
  | (none, none) => none
  | (none, some a) => some (-a)
  | (some b, none) => some b
  | (some b, some a) => if b ≤ a then some b else some (-a)
theorem way_pureK (k : List D → D) (hk : ∀ ds, itS [k ds] = some ds ∧ noDict (k ds) = true) (sp : List Sp) (v : Int) : pureG F_way_to 4 [.fz (k (sp.map spD)), .fz (.int v)] (.fz (oD (wayR sp v))) := .of fun sto dr => by
  unfold F_way_to
  have e := call_pure (gaps_pureK k hk sp v) (fl := dCons (dSlot 0) (dCons (dSlot 1) dNil)) (ms := [.F, .F]) (s := { env := [some (.fz (k (sp.map spD))), some (.fz (.int v)), none, none], sto := sto, dr := dr }) rfl rfl rfl rfl rfl
  unfold wayR
  generalize gapsR sp v = ba at e ⊢
  obtain ⟨b, a⟩ := ba
  refine okS.seq (okS.nx (s1 := { env := [some (.fz (k (sp.map spD))), some (.fz (.int v)), some (.fz (oD b)), some (.fz (oD a))], sto := sto, dr := dr }) ?_ ?_)
  · exact dUn_eq (dV_eq e) rfl rfl
  · refine okS.seq (okS.ite ?_)
    cases b with
    | none =>
      walk_at "dlt"
      cases a with
      | none => exact okS.rt rfl ⟨rfl, by show 2 ≤ 4; decide, rfl, rfl⟩
      | some y => exact okS.rt rfl ⟨rfl, by show 2 ≤ 4; decide, rfl, rfl⟩
    | some x =>
      walk_at "dlt"
      refine okS.skip ?_
      cases a with
      | none => exact okS.rt rfl ⟨rfl, by show 2 ≤ 4; decide, rfl, rfl⟩
      | some y =>
        refine okS.ret (ok.ite ?_)
        walk_at "dlt"
        · rename_i h
          exact ok.eq rfl ⟨by show _ = T.fz (oD (if x ≤ y then some x else some (-y))); rw [if_pos h], by show 2 ≤ 4; decide, rfl, rfl⟩
        · rename_i h
          exact ok.eq rfl ⟨by show _ = T.fz (oD (if x ≤ y then some x else some (-y))); rw [if_neg h]; rfl, by show 2 ≤ 4; decide, rfl, rfl⟩
theorem way_pure (sp : List Sp) (v : Int) : pureG F_way_to 4 [.fz (.lst (sp.map spD)), .fz (.int v)] (.fz (oD (wayR sp v))) := way_pureK .lst (fun _ => ⟨rfl, rfl⟩) sp v
def movedR (way d s t : Int) : Int :=
  let far := absI way
  let found := if d + s = 0 ∨ t ≤ far / (d + s) then s * t else max (s * (far / (d + s))) (far - d * (far / (d + s) + 1))
  if 0 < way then found else -found
theorem moved_pure {way d s t : Int} (hd : 0 ≤ d) (hd2 : d ≤ 500) (hs : 0 ≤ s) (hs2 : s ≤ 900) : pureG F_moved 7 [.fz (.int way), .fz (.int d), .fz (.int s), .fz (.int t)] (.fz (.int (movedR way d s t))) := .of fun sto dr => by
  unfold F_moved
  have bs : bnd64 s = true := bnd_of (by omega) (by omega)
  have bd : bnd64 d = true := bnd_of (by omega) (by omega)
  refine okS.seq (okS.nx (s1 := { env := [some (.fz (.int way)), some (.fz (.int d)), some (.fz (.int s)), some (.fz (.int t)), some (.fz (.int (absI way))), none, none], sto := sto, dr := dr }) rfl ?_)
  have fin : ∀ (f : Int) (w : Option W), okS (dRet (dIf (dB (dOp2 gtD (dSlot 0) (dV (dC (.int 0))))) (dVar 5) (dOp1 negD (dSlot 5)))) { env := [some (.fz (.int way)), some (.fz (.int d)), some (.fz (.int s)), some (.fz (.int t)), some (.fz (.int (absI way))), some (.fz (.int f)), w], sto := sto, dr := dr } (fun _ => False) (fun r s' => r = .fz (.int (if 0 < way then f else -f)) ∧ 4 ≤ s'.env.length ∧ s'.sto = sto ∧ s'.dr = dr) := fun f w => by
    refine okS.ret (ok.ite ?_)
    walk_at "dlt"
    · rename_i h
      exact ok.eq rfl ⟨by rw [if_pos h], by show 4 ≤ 7; decide, rfl, rfl⟩
    · rename_i h
      exact ok.eq rfl ⟨by rw [if_neg h], by show 4 ≤ 7; decide, rfl, rfl⟩
  have one : (d + s = 0 ∨ t ≤ absI way / (d + s)) → okS (dAsg 5 (dOp2 mulD (dSlot 2) (dSlot 3))) { env := [some (.fz (.int way)), some (.fz (.int d)), some (.fz (.int s)), some (.fz (.int t)), some (.fz (.int (absI way))), none, none], sto := sto, dr := dr } (fun s1 => okS (dRet (dIf (dB (dOp2 gtD (dSlot 0) (dV (dC (.int 0))))) (dVar 5) (dOp1 negD (dSlot 5)))) s1 (fun _ => False) (fun r s' => r = .fz (.int (movedR way d s t)) ∧ 4 ≤ s'.env.length ∧ s'.sto = sto ∧ s'.dr = dr)) (fun r s' => r = .fz (.int (movedR way d s t)) ∧ 4 ≤ s'.env.length ∧ s'.sto = sto ∧ s'.dr = dr) := fun hc => by
    refine okS.asg (ok.eq (dOp2_eq rfl rfl rfl rfl (mul_l bs)) ⟨rfl, ?_⟩)
    unfold movedR
    simp only
    rw [if_pos hc]
    exact fin (s * t) none
  refine okS.seq (okS.ite (ok.or (ok.dec (P := d + s = 0) rfl (fun h => yes (yes (one (.inl h)))) fun h => no ?_)))
  have h0 : 0 < d + s := by omega
  have e : dOp2 fdivD (dSlot 4) (dV (dOp2 addD (dSlot 1) (dSlot 2))) { env := [some (.fz (.int way)), some (.fz (.int d)), some (.fz (.int s)), some (.fz (.int t)), some (.fz (.int (absI way))), none, none], sto := sto, dr := dr } = .ok (.fz (.int (absI way / (d + s)))) { env := [some (.fz (.int way)), some (.fz (.int d)), some (.fz (.int s)), some (.fz (.int t)), some (.fz (.int (absI way))), none, none], sto := sto, dr := dr } := dOp2_eq rfl rfl rfl rfl (fdiv_pos h0 (by omega))
  have e2 : dB (dOp2 leD (dSlot 3) (dV (dOp2 fdivD (dSlot 4) (dV (dOp2 addD (dSlot 1) (dSlot 2)))))) { env := [some (.fz (.int way)), some (.fz (.int d)), some (.fz (.int s)), some (.fz (.int t)), some (.fz (.int (absI way))), none, none], sto := sto, dr := dr } = .ok (decide (t ≤ absI way / (d + s))) { env := [some (.fz (.int way)), some (.fz (.int d)), some (.fz (.int s)), some (.fz (.int t)), some (.fz (.int (absI way))), none, none], sto := sto, dr := dr } := dB_eq (dOp2_eq rfl (dV_eq e) rfl rfl rfl)
  refine ok.dec (P := t ≤ absI way / (d + s)) e2 (fun h2 => yes (one (.inr h2))) fun h2 => no ?_
  refine okS.seq (okS.asg (ok.eq e ⟨rfl, ?_⟩))
  refine okS.asg (ok.eq (dCallB_eq (dCons_eq (dV_eq (dOp2_eq rfl rfl rfl rfl (mul_l bs))) (dCons_eq (dV_eq (dOp2_eq rfl (dV_eq (dOp2_eq rfl rfl rfl rfl (mul_l bd))) rfl rfl rfl)) rfl)) rfl rfl) ⟨rfl, ?_⟩)
  have hn : ¬ (d + s = 0 ∨ t ≤ absI way / (d + s)) := fun z => z.elim h h2
  unfold movedR
  simp only
  rw [if_neg hn]
  exact fin _ _
def shF (d sl j r v : Int) (sp : List Sp) : List (Str × D) := [("c_rules", .tup [.int d, .int sl, .int j]), ("c_reading", .int r), ("c_value", .int v), ("c_spans", .lst (sp.map spD))]
def isB : D → Int → Int → Bool
  | .int i, a, b => decide (a ≤ i ∧ i ≤ b)
  | _, _, _ => false
def oddK : D → Bool
  | .non => true | .bl _ => true | .int _ => true | .str _ => true | .tup _ => true | .lst _ => true | .dk _ => true
  | _ => false
theorem betweenD {d : D} {a b : Int} (h : oddK d = true) : pureG F_is_between 3 [.fz d, .fz (.int a), .fz (.int b)] (.fz (.bl (isB d a b))) := .of fun sto dr => by
  cases d with
  | int v =>
    unfold F_is_between
    have e : dChain leD leD (dSlot 1) (dSlot 0) (dSlot 2) { env := [some (.fz (.int v)), some (.fz (.int a)), some (.fz (.int b))], sto := sto, dr := dr } = .ok (.fz (.bl (decide (a ≤ v ∧ v ≤ b)))) { env := [some (.fz (.int v)), some (.fz (.int a)), some (.fz (.int b))], sto := sto, dr := dr } := chain_le rfl rfl rfl rfl rfl rfl
    exact okS.ret (ok.eq (s1 := { env := [some (.fz (.int v)), some (.fz (.int a)), some (.fz (.int b))], sto := sto, dr := dr }) e ⟨rfl, by show 3 ≤ 3; decide, rfl, rfl⟩)
  | non => exact okS.rt (s1 := { env := [some (.fz .non), some (.fz (.int a)), some (.fz (.int b))], sto := sto, dr := dr }) rfl ⟨rfl, by show 3 ≤ 3; decide, rfl, rfl⟩
  | bl v => exact okS.rt (s1 := { env := [some (.fz (.bl v)), some (.fz (.int a)), some (.fz (.int b))], sto := sto, dr := dr }) rfl ⟨rfl, by show 3 ≤ 3; decide, rfl, rfl⟩
  | str v => exact okS.rt (s1 := { env := [some (.fz (.str v)), some (.fz (.int a)), some (.fz (.int b))], sto := sto, dr := dr }) rfl ⟨rfl, by show 3 ≤ 3; decide, rfl, rfl⟩
  | tup v => exact okS.rt (s1 := { env := [some (.fz (.tup v)), some (.fz (.int a)), some (.fz (.int b))], sto := sto, dr := dr }) rfl ⟨rfl, by show 3 ≤ 3; decide, rfl, rfl⟩
  | lst v => exact okS.rt (s1 := { env := [some (.fz (.lst v)), some (.fz (.int a)), some (.fz (.int b))], sto := sto, dr := dr }) rfl ⟨rfl, by show 3 ≤ 3; decide, rfl, rfl⟩
  | dk v => exact okS.rt (s1 := { env := [some (.fz (.dk v)), some (.fz (.int a)), some (.fz (.int b))], sto := sto, dr := dr }) rfl ⟨rfl, by show 3 ≤ 3; decide, rfl, rfl⟩
  | _ => cases h
theorem between_pure {v a b : Int} : pureG F_is_between 3 [.fz (.int v), .fz (.int a), .fz (.int b)] (.fz (.bl (decide (a ≤ v ∧ v ≤ b)))) := betweenD (d := .int v) rfl
theorem ticks_pure (C NR : Addr) {d sl j r v t : Int} {sp : List Sp} (h1 : r ≤ t) (h2 : t ≤ 1000000000) : pureG (F_Shown_ticks_to C NR) 2 [.lkl (.obj C (shF d sl j r v sp)), .fz (.int t)] (.fz (.int (t - r))) := .of fun sto dr => by
  unfold F_Shown_ticks_to
  have e1 : dFld C "c_reading" (dSlot 0) { env := [some (.lkl (.obj C (shF d sl j r v sp))), some (.fz (.int t))], sto := sto, dr := dr } = .ok (.fz (.int r)) { env := [some (.lkl (.obj C (shF d sl j r v sp))), some (.fz (.int t))], sto := sto, dr := dr } := dFld_eq rfl (readO_slot rfl rfl) rfl
  have e2 := call_pure (between_pure (v := t) (a := r) (b := 1000000000)) (fl := dCons (dSlot 1) (dCons (dV (dFld C "c_reading" (dSlot 0))) (dCons (dV (dC (.int 1000000000))) dNil))) (ms := [.F, .F, .F]) (s := { env := [some (.lkl (.obj C (shF d sl j r v sp))), some (.fz (.int t))], sto := sto, dr := dr }) (dCons_eq rfl (dCons_eq (dV_eq e1) rfl)) rfl rfl rfl rfl
  have e3 : dB (dCall 3 [.F, .F, .F] [] F_is_between (dCons (dSlot 1) (dCons (dV (dFld C "c_reading" (dSlot 0))) (dCons (dV (dC (.int 1000000000))) dNil)))) { env := [some (.lkl (.obj C (shF d sl j r v sp))), some (.fz (.int t))], sto := sto, dr := dr } = .ok true { env := [some (.lkl (.obj C (shF d sl j r v sp))), some (.fz (.int t))], sto := sto, dr := dr } := by
    rw [dB_eq e2, decide_eq_true ⟨h1, h2⟩]
  refine okS.seq (okS.ite (ok.not (ok.eq e3 (no (okS.skip ?_)))))
  exact okS.ret (ok.eq (dOp2_eq rfl (dV_eq e1) rfl rfl rfl) ⟨rfl, by show 2 ≤ 2; decide, rfl, rfl⟩)
def moreR (d sl v t : Int) (sp : List Sp) : Int := match wayR sp v with
  | none => 0
  | some w => if w = 0 then 0 else movedR w d sl t
theorem at_pure (C NR : Addr) {d sl j r v t : Int} {sp : List Sp} (h1 : r ≤ t) (h2 : t ≤ 1000000000) (hd : 0 ≤ d) (hd2 : d ≤ 500) (hs : 0 ≤ sl) (hs2 : sl ≤ 900) :
    pureG (F_Shown_at C NR) 8 [.lkl (.obj C (shF d sl j r v sp)), .fz (.int t)] (.fz (.int (v + 1000 * (t - r) + moreR d sl v (t - r) sp))) := .of fun sto dr => by
  unfold F_Shown_at
  have fld : ∀ (f : Str) (x : D) (e : List (Option W)), (shF d sl j r v sp).lookup f = some x → dFld C f (dSlot 0) { env := some (.lkl (.obj C (shF d sl j r v sp))) :: e, sto := sto, dr := dr } = .ok (.fz x) { env := some (.lkl (.obj C (shF d sl j r v sp))) :: e, sto := sto, dr := dr } := fun f x e h => dFld_eq rfl (readO_slot rfl rfl) h
  refine okS.seq (okS.asg (ok.eq (meth_pure (ticks_pure C NR h1 h2) rfl (recv_slot rfl rfl rfl) rfl rfl rfl rfl rfl) ⟨rfl, ?_⟩))
  refine okS.seq (okS.nx (s1 := { env := [some (.lkl (.obj C (shF d sl j r v sp))), some (.fz (.int t)), some (.fz (.int (t - r))), some (.fz (.int d)), some (.fz (.int sl)), some (.fz (.int j)), none, none], sto := sto, dr := dr }) (dUn_eq (dV_eq (fld "c_rules" _ _ rfl)) rfl rfl) ?_)
  refine okS.seq (okS.asg (ok.eq (call_pure (way_pure sp v) (dCons_eq (dV_eq (fld "c_spans" _ _ rfl)) (dCons_eq (dV_eq (fld "c_value" _ _ rfl)) rfl)) rfl rfl rfl rfl) ⟨rfl, ?_⟩))
  have fin : ∀ m : Int, okS (dRet (dOp2 addD (dV (dOp2 addD (dV (dFld C "c_value" (dSlot 0))) (dV (dOp2 mulD (dV (dC (.int 1000))) (dSlot 2))))) (dSlot 7))) { env := [some (.lkl (.obj C (shF d sl j r v sp))), some (.fz (.int t)), some (.fz (.int (t - r))), some (.fz (.int d)), some (.fz (.int sl)), some (.fz (.int j)), some (.fz (oD (wayR sp v))), some (.fz (.int m))], sto := sto, dr := dr } (fun _ => False) (fun x s' => x = .fz (.int (v + 1000 * (t - r) + m)) ∧ 2 ≤ s'.env.length ∧ s'.sto = sto ∧ s'.dr = dr) := fun m =>
    okS.ret (ok.eq (dOp2_eq (dV_eq (dOp2_eq (dV_eq (fld "c_value" _ _ rfl)) (dV_eq (dOp2_eq rfl rfl rfl rfl (mul_l rfl))) rfl rfl rfl)) rfl rfl rfl rfl) ⟨rfl, by show 2 ≤ 8; decide, rfl, rfl⟩)
  unfold moreR
  refine okS.seq (okS.asg ?_)
  cases hw : wayR sp v with
  | none =>
    rw [hw] at fin
    refine ok.ite ?_
    walk_at "dlt"
    exact ok.eq rfl ⟨rfl, fin 0⟩
  | some w =>
    rw [hw] at fin
    refine ok.ite (ok.or (ok.eq (a := false) rfl (no (ok.dec (P := w = 0) rfl (fun h => yes ?_) fun h => no ?_))))
    · refine ok.eq rfl ⟨rfl, ?_⟩
      simp only [if_pos h]
      exact fin 0
    · simp only [if_neg h]
      exact ok.eq (call_pure (moved_pure hd hd2 hs hs2) rfl rfl rfl rfl rfl) ⟨rfl, fin _⟩
def wideO (k : Int) : OI → OI
  | none => none
  | some x => some (x + k)
def wideR (d t : Int) (sp : List Sp) : List Sp := sp.map fun x => (wideO (-(d * t)) x.1, wideO (d * t) x.2)
theorem wide_loop (X : D) (d t : Int) (hd : 0 ≤ d) (hd2 : d ≤ 500) (sto : List MO) (dr : Option DrawSt) (Nx : State → Prop) (Rt : DL.T → State → Prop) : ∀ (sp acc : List Sp) (w4 w5 : Option W), (w4 = none ∨ ∃ d, w4 = some (.fz d)) → (w5 = none ∨ ∃ d, w5 = some (.fz d)) → acc.length + sp.length ≤ 1000 →
    (∀ w4 w5, Nx { env := [some (.fz X), some (.fz (.int d)), some (.fz (.int t)), some (.own (.lst ((acc ++ wideR d t sp).map spD))), w4, w5], sto := sto, dr := dr }) →
    okS (dForL (.tup [.name 4, .name 5]) L_widened_0 (sp.map spD)) { env := [some (.fz X), some (.fz (.int d)), some (.fz (.int t)), some (.own (.lst (acc.map spD))), w4, w5], sto := sto, dr := dr } Nx Rt
  | [], acc, w4, w5, _, _, _, h => okS.nx rfl (by have := h w4 w5; unfold wideR at this; rw [List.map_nil, List.append_nil] at this; exact this)
  | (lo, hi) :: sp, acc, w4, w5, h4, h5, hl, h => by
    have e1 : bindP (.tup [.name 4, .name 5]) (spD (lo, hi)) { env := [some (.fz X), some (.fz (.int d)), some (.fz (.int t)), some (.own (.lst (acc.map spD))), w4, w5], sto := sto, dr := dr } = some { env := [some (.fz X), some (.fz (.int d)), some (.fz (.int t)), some (.own (.lst (acc.map spD))), some (.fz (oD lo)), some (.fz (oD hi))], sto := sto, dr := dr } := by
      rcases h4 with rfl | ⟨_, rfl⟩ <;> rcases h5 with rfl | ⟨_, rfl⟩ <;> rfl
    have bd : bnd64 d = true := bnd_of (by omega) (by omega)
    refine okS.turn e1 ?_
    have a1 : ok (dIf (dB (dOp2 isD (dSlot 4) (dV (dC .non)))) (dC .non) (dOp2 subD (dSlot 4) (dV (dOp2 mulD (dSlot 1) (dSlot 2))))) { env := [some (.fz X), some (.fz (.int d)), some (.fz (.int t)), some (.own (.lst (acc.map spD))), some (.fz (oD lo)), some (.fz (oD hi))], sto := sto, dr := dr } (fun r s => r = .fz (oD (wideO (-(d * t)) lo)) ∧ s = { env := [some (.fz X), some (.fz (.int d)), some (.fz (.int t)), some (.own (.lst (acc.map spD))), some (.fz (oD lo)), some (.fz (oD hi))], sto := sto, dr := dr }) := by
      refine ok.ite ?_
      cases lo with
      | none => walk_at "dlt"; exact ok.eq rfl ⟨rfl, rfl⟩
      | some l => walk_at "dlt"; exact ok.eq (dOp2_eq rfl (dV_eq (dOp2_eq rfl rfl rfl rfl (mul_l bd))) rfl rfl rfl) ⟨rfl, rfl⟩
    have a2 : ok (dIf (dB (dOp2 isD (dSlot 5) (dV (dC .non)))) (dC .non) (dOp2 addD (dSlot 5) (dV (dOp2 mulD (dSlot 1) (dSlot 2))))) { env := [some (.fz X), some (.fz (.int d)), some (.fz (.int t)), some (.own (.lst (acc.map spD))), some (.fz (oD lo)), some (.fz (oD hi))], sto := sto, dr := dr } (fun r s => r = .fz (oD (wideO (d * t) hi)) ∧ s = { env := [some (.fz X), some (.fz (.int d)), some (.fz (.int t)), some (.own (.lst (acc.map spD))), some (.fz (oD lo)), some (.fz (oD hi))], sto := sto, dr := dr }) := by
      refine ok.ite ?_
      cases hi with
      | none => walk_at "dlt"; exact ok.eq rfl ⟨rfl, rfl⟩
      | some l => walk_at "dlt"; exact ok.eq (dOp2_eq rfl (dV_eq (dOp2_eq rfl rfl rfl rfl (mul_l bd))) rfl rfl rfl) ⟨rfl, rfl⟩
    obtain ⟨_, _, q1, rfl, rfl⟩ := a1
    obtain ⟨_, _, q2, rfl, rfl⟩ := a2
    have hz : acc.length < sizeLine := Nat.lt_of_lt_of_le (show acc.length < 1001 by rw [List.length_cons] at hl; omega) (by decide)
    have e2 : L_widened_0 { env := [some (.fz X), some (.fz (.int d)), some (.fz (.int t)), some (.own (.lst (acc.map spD))), some (.fz (oD lo)), some (.fz (oD hi))], sto := sto, dr := dr } = .ok .nx { env := [some (.fz X), some (.fz (.int d)), some (.fz (.int t)), some (.own (.lst ((acc ++ [(wideO (-(d * t)) lo, wideO (d * t) hi)]).map spD))), some (.fz (oD lo)), some (.fz (oD hi))], sto := sto, dr := dr } := by
      unfold L_widened_0 dExpr
      have e3 := append_eq (i := 3) (ds := acc.map spD) rfl (dV_eq (dTup_eq (dCons_eq (dV_eq q1) (dCons_eq (dV_eq q2) (k := dNil) rfl)) rfl (by show 2 ≤ sizeLine; decide))) rfl rfl (by rw [List.length_map]; exact hz)
      rw [bind_eq, e3, List.map_append]
      rfl
    refine okS.nx e2 (wide_loop X d t hd hd2 sto dr Nx Rt sp _ _ _ (.inr ⟨_, rfl⟩) (.inr ⟨_, rfl⟩) (by rw [List.length_append]; simp at hl ⊢; omega) fun w4 w5 => ?_)
    have := h w4 w5
    unfold wideR at this ⊢
    rw [List.map_cons] at this
    rw [List.append_assoc]
    exact this
theorem widened_pure {d t : Int} {sp : List Sp} (hd : 0 ≤ d) (hd2 : d ≤ 500) (hl : sp.length ≤ 1000) : pureG F_widened 6 [.fz (.lst (sp.map spD)), .fz (.int d), .fz (.int t)] (.ow (.lst ((wideR d t sp).map spD))) := .of fun sto dr => by
  unfold F_widened
  refine okS.seq (okS.nx (s1 := { env := [some (.fz (.lst (sp.map spD))), some (.fz (.int d)), some (.fz (.int t)), some (.own (.lst [])), none, none], sto := sto, dr := dr }) rfl ?_)
  refine okS.seq (okS.forS (d := .lst (sp.map spD)) rfl rfl rfl (wide_loop _ d t hd hd2 sto dr _ _ sp [] none none (.inl rfl) (.inl rfl) (by simpa using hl) fun w4 w5 => ?_))
  exact okS.rt rfl ⟨rfl, by show 3 ≤ 6; decide, rfl, rfl⟩
def distR (d sl v t : Int) (sp : List Sp) : OI := match wayR (wideR d t sp) (v + 1000 * t + moreR d sl v t sp - 1000 * t) with
  | none => none
  | some w => some (absI w)
theorem dist_pure (C NR : Addr) {d sl j r v t : Int} {sp : List Sp} (h1 : r ≤ t) (h2 : t ≤ 1000000000) (hd : 0 ≤ d) (hd2 : d ≤ 500) (hs : 0 ≤ sl) (hs2 : sl ≤ 900) (hl : sp.length ≤ 1000) :
    pureG (F_Shown_distance C NR) 4 [.lkl (.obj C (shF d sl j r v sp)), .fz (.int t)] (.fz (oD (distR d sl v (t - r) sp))) := .of fun sto dr => by
  unfold F_Shown_distance
  have fld : ∀ (f : Str) (x : D) (e : List (Option W)), (shF d sl j r v sp).lookup f = some x → dFld C f (dSlot 0) { env := some (.lkl (.obj C (shF d sl j r v sp))) :: e, sto := sto, dr := dr } = .ok (.fz x) { env := some (.lkl (.obj C (shF d sl j r v sp))) :: e, sto := sto, dr := dr } := fun f x e h => dFld_eq rfl (readO_slot rfl rfl) h
  refine okS.seq (okS.asg (ok.eq (meth_pure (ticks_pure C NR h1 h2) rfl (recv_slot rfl rfl rfl) rfl rfl rfl rfl rfl) ⟨rfl, ?_⟩))
  have e1 := call_pure (widened_pure (t := t - r) (sp := sp) hd hd2 hl) (ms := [.F, .F, .F]) (fl := dCons (dV (dFld C "c_spans" (dSlot 0))) (dCons (dV (dOp2 ixD (dV (dFld C "c_rules" (dSlot 0))) (dV (dC (.int 0))))) (dCons (dSlot 2) dNil))) (s := { env := [some (.lkl (.obj C (shF d sl j r v sp))), some (.fz (.int t)), some (.fz (.int (t - r))), none], sto := sto, dr := dr }) (dCons_eq (dV_eq (fld "c_spans" _ _ rfl)) (dCons_eq (dV_eq (dOp2_eq (dV_eq (fld "c_rules" _ _ rfl)) rfl rfl rfl rfl)) rfl)) rfl rfl rfl rfl
  have e2 := meth_pure (C := C) (m := "at") (ms := [.R, .F]) (fo := dSlot 0) (fl := dCons (dSlot 1) dNil) (s := { env := [some (.lkl (.obj C (shF d sl j r v sp))), some (.fz (.int t)), some (.fz (.int (t - r))), none], sto := sto, dr := dr }) (at_pure C NR (j := j) (sp := sp) h1 h2 hd hd2 hs hs2) rfl (recv_slot rfl rfl rfl) rfl rfl rfl rfl rfl
  refine okS.seq (okS.asg (ok.eq (call_pure (way_pure (wideR d (t - r) sp) (v + 1000 * (t - r) + moreR d sl v (t - r) sp - 1000 * (t - r))) (dCons_eq (dV_eq e1) (dCons_eq (dV_eq (dOp2_eq (dV_eq e2) (dV_eq (dOp2_eq rfl rfl rfl rfl (mul_l rfl))) rfl rfl rfl)) rfl)) rfl rfl rfl rfl) ⟨rfl, ?_⟩))
  unfold distR
  generalize wayR (wideR d (t - r) sp) (v + 1000 * (t - r) + moreR d sl v (t - r) sp - 1000 * (t - r)) = w
  refine okS.ret (ok.ite ?_)
  cases w with
  | none => walk_at "dlt"; exact ok.eq rfl ⟨rfl, by show 2 ≤ 4; decide, rfl, rfl⟩
  | some w => walk_at "dlt"; exact ok.eq rfl ⟨rfl, by show 2 ≤ 4; decide, rfl, rfl⟩
end Law
set_option Elab.async false
set_option linter.all false
set_option maxRecDepth 100000
set_option maxHeartbeats 2000000
namespace Law
open PySem DL
local macro_rules | `(tactic| walk_at "dlt") => `(tactic| repeat' (first | refine ok.and ?_ | refine ok.or ?_ | refine ok.not ?_ | refine yes ?_ | refine no ?_ | refine ok.eq (a := true) rfl ?_ | refine ok.eq (a := false) rfl ?_ | refine ok.dec rfl (fun _ => ?_) (fun _ => ?_)))
theorem isB_int {x : D} {a b : Int} (h : isB x a b = true) : ∃ t, x = .int t ∧ a ≤ t ∧ t ≤ b := by
  cases x with
  | int t => exact ⟨t, rfl, (of_decide_eq_true h).1, (of_decide_eq_true h).2⟩
  | _ => cases h
def isI : D → Bool
  | .int _ => true
  | _ => false
theorem integerD {x : D} (h : oddK x = true) : pureG F_is_integer 1 [.fz x] (.fz (.bl (isI x))) := .of fun sto dr => by
  cases x with
  | int v => exact okS.rt (s1 := { env := [some (.fz (.int v))], sto := sto, dr := dr }) rfl ⟨rfl, by show 1 ≤ 1; decide, rfl, rfl⟩
  | non => exact okS.rt (s1 := { env := [some (.fz .non)], sto := sto, dr := dr }) rfl ⟨rfl, by show 1 ≤ 1; decide, rfl, rfl⟩
  | bl v => exact okS.rt (s1 := { env := [some (.fz (.bl v))], sto := sto, dr := dr }) rfl ⟨rfl, by show 1 ≤ 1; decide, rfl, rfl⟩
  | str v => exact okS.rt (s1 := { env := [some (.fz (.str v))], sto := sto, dr := dr }) rfl ⟨rfl, by show 1 ≤ 1; decide, rfl, rfl⟩
  | tup v => exact okS.rt (s1 := { env := [some (.fz (.tup v))], sto := sto, dr := dr }) rfl ⟨rfl, by show 1 ≤ 1; decide, rfl, rfl⟩
  | lst v => exact okS.rt (s1 := { env := [some (.fz (.lst v))], sto := sto, dr := dr }) rfl ⟨rfl, by show 1 ≤ 1; decide, rfl, rfl⟩
  | dk v => exact okS.rt (s1 := { env := [some (.fz (.dk v))], sto := sto, dr := dr }) rfl ⟨rfl, by show 1 ≤ 1; decide, rfl, rfl⟩
  | _ => cases h
section
variable {C NR NS NC : Addr} {d sl j r v : Int} {sp : List Sp} {x y : D}
theorem ticks_erW (w : W) (hw : w = .lkl (.obj C (shF d sl j r v sp))) (hk : oddK x = true) (h : isB x r 1000000000 = false) : resG (F_Shown_ticks_to C NR) 2 [w, .fz x] (.error ⟨NR, []⟩) := by
  subst hw
  refine resG.er (e' := [some (.lkl (.obj C (shF d sl j r v sp))), some (.fz x)]) (by show 2 ≤ 2; decide) fun sto dr => ?_
  unfold F_Shown_ticks_to
  have e1 : dFld C "c_reading" (dSlot 0) { env := [some (.lkl (.obj C (shF d sl j r v sp))), some (.fz x)], sto := sto, dr := dr } = .ok (.fz (.int r)) { env := [some (.lkl (.obj C (shF d sl j r v sp))), some (.fz x)], sto := sto, dr := dr } := dFld_eq rfl (readO_slot rfl rfl) rfl
  have e2 := call_pure (betweenD (d := x) (a := r) (b := 1000000000) hk) (fl := dCons (dSlot 1) (dCons (dV (dFld C "c_reading" (dSlot 0))) (dCons (dV (dC (.int 1000000000))) dNil))) (ms := [.F, .F, .F]) (s := { env := [some (.lkl (.obj C (shF d sl j r v sp))), some (.fz x)], sto := sto, dr := dr }) (dCons_eq rfl (dCons_eq (dV_eq e1) rfl)) rfl rfl rfl rfl
  rw [h] at e2
  exact dSeq_er (dIf_t (dNot_eq (dB_eq e2)) rfl)
theorem at_er (hk : oddK x = true) (h : isB x r 1000000000 = false) : resG (F_Shown_at C NR) 8 [.lkl (.obj C (shF d sl j r v sp)), .fz x] (.error ⟨NR, []⟩) := by
  refine resG.er (e' := [some (.lkl (.obj C (shF d sl j r v sp))), some (.fz x), none, none, none, none, none, none]) (by show 2 ≤ 8; decide) fun sto dr => ?_
  unfold F_Shown_at
  exact dSeq_er (dAsg_er (meth_res (ticks_erW _ rfl hk h) rfl (recv_slot rfl rfl rfl) rfl rfl rfl rfl rfl))
theorem dist_er (hk : oddK x = true) (h : isB x r 1000000000 = false) : resG (F_Shown_distance C NR) 4 [.lkl (.obj C (shF d sl j r v sp)), .fz x] (.error ⟨NR, []⟩) := by
  refine resG.er (e' := [some (.lkl (.obj C (shF d sl j r v sp))), some (.fz x), none, none]) (by show 2 ≤ 4; decide) fun sto dr => ?_
  unfold F_Shown_distance
  exact dSeq_er (dAsg_er (meth_res (ticks_erW _ rfl hk h) rfl (recv_slot rfl rfl rfl) rfl rfl rfl rfl rfl))
theorem learn_er1 (hk : oddK x = true) (h : isB x r 1000000000 = false) (sto : List MO) (dr : Option DrawSt) :
    F_Shown_learn C NR NS { env := [some (.lent (.obj C (shF d sl j r v sp))), some (.fz x), some (.fz y), none, none, none], sto := sto, dr := dr } = .err ⟨NR, []⟩ { env := [some (.lent (.obj C (shF d sl j r v sp))), some (.fz x), some (.fz y), none, none, none], sto := sto, dr := dr } := by
  unfold F_Shown_learn
  exact dSeq_er (dExpr_er (meth_res (ticks_erW _ rfl hk h) rfl (recv_slot rfl rfl rfl) rfl rfl rfl rfl rfl))
theorem learn_er2 {t : Int} (h1 : r ≤ t) (h2 : t ≤ 1000000000) (ha : pureG F_are_spans 7 [.fz y] (.fz (.bl false))) (sto : List MO) (dr : Option DrawSt) :
    F_Shown_learn C NR NS { env := [some (.lent (.obj C (shF d sl j r v sp))), some (.fz (.int t)), some (.fz y), none, none, none], sto := sto, dr := dr } = .err ⟨NS, []⟩ { env := [some (.lent (.obj C (shF d sl j r v sp))), some (.fz (.int t)), some (.fz y), none, none, none], sto := sto, dr := dr } := by
  unfold F_Shown_learn
  have m1 := meth_pure (C := C) (m := "ticks_to") (ms := [.R, .F]) (fo := dSlot 0) (fl := dCons (dSlot 1) dNil) (s := { env := [some (.lent (.obj C (shF d sl j r v sp))), some (.fz (.int t)), some (.fz y), none, none, none], sto := sto, dr := dr }) (ticks_pure C NR (d := d) (sl := sl) (j := j) (v := v) (sp := sp) h1 h2) rfl (recv_slot rfl rfl rfl) rfl rfl rfl rfl rfl
  have m2 := call_pure ha (ms := [.F]) (fl := dCons (dSlot 2) dNil) (s := { env := [some (.lent (.obj C (shF d sl j r v sp))), some (.fz (.int t)), some (.fz y), none, none, none], sto := sto, dr := dr }) rfl rfl rfl rfl rfl
  exact dSeq_nx (dExpr_eq m1) (dSeq_er (dIf_t (dNot_eq (dB_eq m2)) rfl))
def goodV (x1 x2 x3 x4 x5 : D) : Bool := isB x1 0 500 && isB x2 0 900 && (match x3 with | .int i => decide (0 ≤ i) | _ => false) && isB x4 0 1000000000 && isI x5
theorem init_er {x1 x2 x3 x4 x5 : D} (k1 : oddK x1 = true) (k2 : oddK x2 = true) (k3 : oddK x3 = true) (k4 : oddK x4 = true) (k5 : oddK x5 = true) (h : goodV x1 x2 x3 x4 x5 = false) (sto : List MO) (dr : Option DrawSt) :
    F_Shown_init C NC { env := [some (.lent (.obj C [])), some (.fz x1), some (.fz x2), some (.fz x3), some (.fz x4), some (.fz x5)], sto := sto, dr := dr } = .err ⟨NC, []⟩ { env := [some (.lent (.obj C [])), some (.fz x1), some (.fz x2), some (.fz x3), some (.fz x4), some (.fz x5)], sto := sto, dr := dr } := by
  unfold F_Shown_init
  have e1 := call_pure (betweenD (d := x1) (a := 0) (b := 500) k1) (ms := [.F, .F, .F]) (fl := dCons (dSlot 1) (dCons (dV (dC (.int 0))) (dCons (dV (dC (.int 500))) dNil))) (s := { env := [some (.lent (.obj C [])), some (.fz x1), some (.fz x2), some (.fz x3), some (.fz x4), some (.fz x5)], sto := sto, dr := dr }) rfl rfl rfl rfl rfl
  have e2 := call_pure (betweenD (d := x2) (a := 0) (b := 900) k2) (ms := [.F, .F, .F]) (fl := dCons (dSlot 2) (dCons (dV (dC (.int 0))) (dCons (dV (dC (.int 900))) dNil))) (s := { env := [some (.lent (.obj C [])), some (.fz x1), some (.fz x2), some (.fz x3), some (.fz x4), some (.fz x5)], sto := sto, dr := dr }) rfl rfl rfl rfl rfl
  have e3 := call_pure (integerD (x := x3) k3) (ms := [.F]) (fl := dCons (dSlot 3) dNil) (s := { env := [some (.lent (.obj C [])), some (.fz x1), some (.fz x2), some (.fz x3), some (.fz x4), some (.fz x5)], sto := sto, dr := dr }) rfl rfl rfl rfl rfl
  have e4 := call_pure (betweenD (d := x4) (a := 0) (b := 1000000000) k4) (ms := [.F, .F, .F]) (fl := dCons (dSlot 4) (dCons (dV (dC (.int 0))) (dCons (dV (dC (.int 1000000000))) dNil))) (s := { env := [some (.lent (.obj C [])), some (.fz x1), some (.fz x2), some (.fz x3), some (.fz x4), some (.fz x5)], sto := sto, dr := dr }) rfl rfl rfl rfl rfl
  have e5 := call_pure (integerD (x := x5) k5) (ms := [.F]) (fl := dCons (dSlot 5) dNil) (s := { env := [some (.lent (.obj C [])), some (.fz x1), some (.fz x2), some (.fz x3), some (.fz x4), some (.fz x5)], sto := sto, dr := dr }) rfl rfl rfl rfl rfl
  cases q1 : isB x1 0 500 with
  | false => rw [q1] at e1; exact dSeq_er (dIf_t (dOr_t (dNot_eq (dB_eq e1))) rfl)
  | true =>
    rw [q1] at e1
    cases q2 : isB x2 0 900 with
    | false => rw [q2] at e2; exact dSeq_er (dIf_t (dOr_f (dNot_eq (dB_eq e1)) (dNot_eq (dB_eq e2))) rfl)
    | true =>
      rw [q2] at e2
      refine dSeq_nx (dIf_f (dOr_f (dNot_eq (dB_eq e1)) (dNot_eq (dB_eq e2))) rfl) ?_
      unfold goodV at h
      rw [q1, q2, Bool.true_and, Bool.true_and] at h
      cases x3 with
      | int i =>
        by_cases hi : 0 ≤ i
        · have h : (decide (0 ≤ i) && isB x4 0 1000000000 && isI x5) = false := h
          rw [decide_eq_true hi, Bool.true_and] at h
          have e6 : dB (dOp2 ltD (dSlot 3) (dV (dC (.int 0)))) { env := [some (.lent (.obj C [])), some (.fz x1), some (.fz x2), some (.fz (.int i)), some (.fz x4), some (.fz x5)], sto := sto, dr := dr } = .ok false { env := [some (.lent (.obj C [])), some (.fz x1), some (.fz x2), some (.fz (.int i)), some (.fz x4), some (.fz x5)], sto := sto, dr := dr } := by
            have z : dB (dOp2 ltD (dSlot 3) (dV (dC (.int 0)))) { env := [some (.lent (.obj C [])), some (.fz x1), some (.fz x2), some (.fz (.int i)), some (.fz x4), some (.fz x5)], sto := sto, dr := dr } = .ok (decide (i < 0)) { env := [some (.lent (.obj C [])), some (.fz x1), some (.fz x2), some (.fz (.int i)), some (.fz x4), some (.fz x5)], sto := sto, dr := dr } := rfl
            rw [z, decide_eq_false (by omega)]
          cases q4 : isB x4 0 1000000000 with
          | false => rw [q4] at e4; exact dSeq_er (dIf_t (dOr_f (dNot_eq (dB_eq e3)) (dOr_f e6 (dOr_t (dNot_eq (dB_eq e4))))) rfl)
          | true =>
            rw [q4] at e4 h
            rw [Bool.true_and] at h
            rw [h] at e5
            exact dSeq_er (dIf_t (dOr_f (dNot_eq (dB_eq e3)) (dOr_f e6 (dOr_f (dNot_eq (dB_eq e4)) (dNot_eq (dB_eq e5))))) rfl)
        · have z : dB (dOp2 ltD (dSlot 3) (dV (dC (.int 0)))) { env := [some (.lent (.obj C [])), some (.fz x1), some (.fz x2), some (.fz (.int i)), some (.fz x4), some (.fz x5)], sto := sto, dr := dr } = .ok (decide (i < 0)) { env := [some (.lent (.obj C [])), some (.fz x1), some (.fz x2), some (.fz (.int i)), some (.fz x4), some (.fz x5)], sto := sto, dr := dr } := rfl
          rw [decide_eq_true (by omega)] at z
          exact dSeq_er (dIf_t (dOr_f (dNot_eq (dB_eq e3)) (dOr_t z)) rfl)
      | non => exact dSeq_er (dIf_t (dOr_t (dNot_eq (dB_eq e3))) rfl)
      | bl _ => exact dSeq_er (dIf_t (dOr_t (dNot_eq (dB_eq e3))) rfl)
      | str _ => exact dSeq_er (dIf_t (dOr_t (dNot_eq (dB_eq e3))) rfl)
      | tup _ => exact dSeq_er (dIf_t (dOr_t (dNot_eq (dB_eq e3))) rfl)
      | lst _ => exact dSeq_er (dIf_t (dOr_t (dNot_eq (dB_eq e3))) rfl)
      | dk _ => exact dSeq_er (dIf_t (dOr_t (dNot_eq (dB_eq e3))) rfl)
      | _ => cases k3
end
section
variable {HE NC NR NS : Addr}
theorem err_non (sto : List MO) (dr : Option DrawSt) : ∃ e', F_law_error HE NC NR NS { env := [none, some (.fz .non), none, none], sto := sto, dr := dr } = .ok (.rt (.fz (.str ""))) { env := e', sto := sto, dr := dr } := ⟨_, rfl⟩
theorem err_is {X : Addr} {b1 b2 b3 : Bool} {w : Str} (h1 : ctL [(NC, true), (NR, false), (NS, false)] X = some b1) (h2 : ctL [(NC, false), (NR, true), (NS, false)] X = some b2) (h3 : ctL [(NC, false), (NR, false), (NS, true)] X = some b3)
    (hw : (b1 = true ∧ w = "clock") ∨ (b1 = false ∧ b2 = true ∧ w = "reading") ∨ (b1 = false ∧ b2 = false ∧ b3 = true ∧ w = "spans")) (sto : List MO) (dr : Option DrawSt) :
    ∃ e', F_law_error HE NC NR NS { env := [none, some (.fz (.exc X [])), none, none], sto := sto, dr := dr } = .ok (.rt (.fz (.str w))) { env := e', sto := sto, dr := dr } := by
  have i1 : ∀ {ct : Addr → Option Bool} {b : Bool}, ct X = some b → dIsX ct (dSlot 1) { env := [none, some (.fz (.exc X [])), none, none], sto := sto, dr := dr } = .ok (.fz (.bl b)) { env := [none, some (.fz (.exc X [])), none, none], sto := sto, dr := dr } := fun h => dIsX_eq rfl rfl (by show Option.map _ _ = _; rw [h]; rfl)
  unfold F_law_error
  rcases hw with ⟨rfl, rfl⟩ | ⟨rfl, rfl, rfl⟩ | ⟨rfl, rfl, rfl, rfl⟩
  · cases b2 <;> cases b3 <;> exact ⟨_, dSeq_nx (dAsg_eq (dLst_eq (dCons_eq (dV_eq (i1 h1)) (dCons_eq (dV_eq (i1 h2)) (dCons_eq (dV_eq (i1 h3)) (k := dNil) rfl))) rfl (by show 3 ≤ sizeLine; decide)) rfl rfl) rfl⟩
  · cases b3 <;> exact ⟨_, dSeq_nx (dAsg_eq (dLst_eq (dCons_eq (dV_eq (i1 h1)) (dCons_eq (dV_eq (i1 h2)) (dCons_eq (dV_eq (i1 h3)) (k := dNil) rfl))) rfl (by show 3 ≤ sizeLine; decide)) rfl rfl) rfl⟩
  · exact ⟨_, dSeq_nx (dAsg_eq (dLst_eq (dCons_eq (dV_eq (i1 h1)) (dCons_eq (dV_eq (i1 h2)) (dCons_eq (dV_eq (i1 h3)) (k := dNil) rfl))) rfl (by show 3 ≤ sizeLine; decide)) rfl rfl) rfl⟩
end
end Law
set_option Elab.async false
set_option linter.all false
set_option maxRecDepth 100000
set_option maxHeartbeats 4000000
namespace Law
open PySem DL
local macro_rules | `(tactic| walk_at "dlt") => `(tactic| repeat' (first | refine ok.and ?_ | refine ok.or ?_ | refine ok.not ?_ | refine yes ?_ | refine no ?_ | refine ok.eq (a := true) rfl ?_ | refine ok.eq (a := false) rfl ?_ | refine ok.dec rfl (fun _ => ?_) (fun _ => ?_)))
theorem integer_pure {v : Int} : pureG F_is_integer 1 [.fz (.int v)] (.fz (.bl true)) := integerD rfl
theorem init_eq (C NC : Addr) {d sl j r v : Int} (hd : 0 ≤ d) (hd2 : d ≤ 500) (hs : 0 ≤ sl) (hs2 : sl ≤ 900) (hj : 0 ≤ j) (hr : 0 ≤ r) (hr2 : r ≤ 1000000000) (sto : List MO) (dr : Option DrawSt) :
    F_Shown_init C NC { env := [some (.lent (.obj C [])), some (.fz (.int d)), some (.fz (.int sl)), some (.fz (.int j)), some (.fz (.int r)), some (.fz (.int v))], sto := sto, dr := dr } = .ok .nx { env := [some (.lent (.obj C (shF d sl j r v []))), some (.fz (.int d)), some (.fz (.int sl)), some (.fz (.int j)), some (.fz (.int r)), some (.fz (.int v))], sto := sto, dr := dr } := okS.toNx (by
  unfold F_Shown_init
  have e1 := call_pure (between_pure (v := d) (a := 0) (b := 500)) (ms := [.F, .F, .F]) (fl := dCons (dSlot 1) (dCons (dV (dC (.int 0))) (dCons (dV (dC (.int 500))) dNil))) (s := { env := [some (.lent (.obj C [])), some (.fz (.int d)), some (.fz (.int sl)), some (.fz (.int j)), some (.fz (.int r)), some (.fz (.int v))], sto := sto, dr := dr }) rfl rfl rfl rfl rfl
  have e2 := call_pure (between_pure (v := sl) (a := 0) (b := 900)) (ms := [.F, .F, .F]) (fl := dCons (dSlot 2) (dCons (dV (dC (.int 0))) (dCons (dV (dC (.int 900))) dNil))) (s := { env := [some (.lent (.obj C [])), some (.fz (.int d)), some (.fz (.int sl)), some (.fz (.int j)), some (.fz (.int r)), some (.fz (.int v))], sto := sto, dr := dr }) rfl rfl rfl rfl rfl
  have e3 := call_pure (between_pure (v := r) (a := 0) (b := 1000000000)) (ms := [.F, .F, .F]) (fl := dCons (dSlot 4) (dCons (dV (dC (.int 0))) (dCons (dV (dC (.int 1000000000))) dNil))) (s := { env := [some (.lent (.obj C [])), some (.fz (.int d)), some (.fz (.int sl)), some (.fz (.int j)), some (.fz (.int r)), some (.fz (.int v))], sto := sto, dr := dr }) rfl rfl rfl rfl rfl
  have e4 := call_pure (integer_pure (v := j)) (ms := [.F]) (fl := dCons (dSlot 3) dNil) (s := { env := [some (.lent (.obj C [])), some (.fz (.int d)), some (.fz (.int sl)), some (.fz (.int j)), some (.fz (.int r)), some (.fz (.int v))], sto := sto, dr := dr }) rfl rfl rfl rfl rfl
  have e5 := call_pure (integer_pure (v := v)) (ms := [.F]) (fl := dCons (dSlot 5) dNil) (s := { env := [some (.lent (.obj C [])), some (.fz (.int d)), some (.fz (.int sl)), some (.fz (.int j)), some (.fz (.int r)), some (.fz (.int v))], sto := sto, dr := dr }) rfl rfl rfl rfl rfl
  rw [decide_eq_true ⟨hd, hd2⟩] at e1
  rw [decide_eq_true ⟨hs, hs2⟩] at e2
  rw [decide_eq_true ⟨hr, hr2⟩] at e3
  refine okS.seq (okS.ite (ok.or (ok.not (ok.eq (dB_eq e1) (no (ok.not (ok.eq (dB_eq e2) (no (okS.skip ?_)))))))))
  refine okS.seq (okS.ite (ok.or (ok.not (ok.eq (dB_eq e4) (no (ok.or (ok.dec (P := j < 0) rfl (fun h => absurd h (by omega)) fun _ => no (ok.or (ok.not (ok.eq (dB_eq e3) (no (ok.not (ok.eq (dB_eq e5) (no (okS.skip ?_)))))))))))))))
  refine okS.seq (okS.nx (setF_eq (fs := []) (d := .tup [.int d, .int sl, .int j]) rfl rfl rfl (by decide)) ?_)
  refine okS.seq (okS.nx (setF_eq (fs := [("c_rules", .tup [.int d, .int sl, .int j])]) (d := .int r) rfl rfl rfl (by show 1 < 1000; decide)) ?_)
  refine okS.seq (okS.nx (setF_eq (fs := [("c_rules", .tup [.int d, .int sl, .int j]), ("c_reading", .int r)]) (d := .int v) rfl rfl rfl (by show 2 < 1000; decide)) ?_)
  exact okS.nx (setF_eq (fs := [("c_rules", .tup [.int d, .int sl, .int j]), ("c_reading", .int r), ("c_value", .int v)]) (d := .lst []) rfl rfl rfl (by show 3 < 1000; decide)) rfl)
theorem prop_pure {C : Addr} {F : M DL.Flow} {n : Nat} {m : AM} {fo : M VR} {r : VR} {fs : List (Str × D)} {hs : List HS} {ws : List W} {v : DL.T} {s s0 s2 : State} (h : pureG F n ws v) (e0 : fo s = .ok r s0) (er : readO C r s0 = .ok fs s0) (ow : isOw r = false) (e2 : toHMs [m] [r] s0 = .ok hs s2) (e3 : ents [m] hs s2 = some ws) (e4 : oneEach hs = true) (e5 : ws.all notLent = true) : dProp C n m F fo s = .ok v s2 := by
  unfold dProp
  simp only [bind_eq, e0, er]
  rw [if_pos ow]
  unfold noErr
  rw [pass_pure e2 e3 e4 e5 h]
theorem setF_own {C : Addr} {f : Str} {j : Nat} {fv : M VR} {r : VR} {d : D} {fs : List (Str × D)} {s s1 s2 : State} (h1 : fv s = .ok r s1) (h2 : frz r s1 = .ok d s2) (h3 : s2.env[j]? = some (some (.own (.obj C fs)))) (hl : fs.length < 1000) : dSetF C f (dSlot j) fv s = .ok .nx (putE s2 j (.own (.obj C (putFD f d fs)))) := by
  unfold dSetF
  have e : dSlot j s2 = .ok (.slot j) s2 := by unfold dSlot; rw [h3]
  simp only [bind_eq, h1, h2, e]
  unfold putO
  simp only [h3]
  rw [if_pos ⟨trivial, hl⟩]
section
variable (C NC : Addr) {d s j r v : Int} {sp : List Sp}
theorem reading_pure : pureG (F_Shown_reading C) 1 [.lkl (.obj C (shF d s j r v sp))] (.fz (.int r)) := .of fun sto dr => by
  unfold F_Shown_reading
  exact okS.ret (ok.eq (s1 := { env := [some (.lkl (.obj C (shF d s j r v sp)))], sto := sto, dr := dr }) (dFld_eq rfl (readO_slot rfl rfl) rfl) ⟨rfl, by show 1 ≤ 1; decide, rfl, rfl⟩)
theorem value_pure : pureG (F_Shown_value C) 1 [.lkl (.obj C (shF d s j r v sp))] (.fz (.int v)) := .of fun sto dr => by
  unfold F_Shown_value
  exact okS.ret (ok.eq (s1 := { env := [some (.lkl (.obj C (shF d s j r v sp)))], sto := sto, dr := dr }) (dFld_eq rfl (readO_slot rfl rfl) rfl) ⟨rfl, by show 1 ≤ 1; decide, rfl, rfl⟩)
theorem spans_pure : pureG (F_Shown_spans C) 1 [.lkl (.obj C (shF d s j r v sp))] (.ow (.lst (sp.map spD))) := .of fun sto dr => by
  unfold F_Shown_spans
  have e : dFld C "c_spans" (dSlot 0) { env := [some (.lkl (.obj C (shF d s j r v sp)))], sto := sto, dr := dr } = .ok (.fz (.lst (sp.map spD))) { env := [some (.lkl (.obj C (shF d s j r v sp)))], sto := sto, dr := dr } := dFld_eq rfl (readO_slot rfl rfl) rfl
  exact okS.ret (ok.eq (dCallB_eq (dCons_eq (dV_eq e) (k := dNil) rfl) rfl rfl) ⟨rfl, by show 1 ≤ 1; decide, rfl, rfl⟩)
theorem copy_pure (hd : 0 ≤ d) (hd2 : d ≤ 500) (hs : 0 ≤ s) (hs2 : s ≤ 900) (hj : 0 ≤ j) (hr : 0 ≤ r) (hr2 : r ≤ 1000000000) : pureG (F_Shown_copy C NC) 5 [.lkl (.obj C (shF d s j r v sp))] (.ow (.obj C (shF d s j r v sp))) := .of fun sto dr => by
  unfold F_Shown_copy
  have fld : ∀ (f : Str) (x : D) (e : List (Option W)), (shF d s j r v sp).lookup f = some x → dFld C f (dSlot 0) { env := some (.lkl (.obj C (shF d s j r v sp))) :: e, sto := sto, dr := dr } = .ok (.fz x) { env := some (.lkl (.obj C (shF d s j r v sp))) :: e, sto := sto, dr := dr } := fun f x e h => dFld_eq rfl (readO_slot rfl rfl) h
  refine okS.seq (okS.nx (s1 := { env := [some (.lkl (.obj C (shF d s j r v sp))), some (.fz (.int d)), some (.fz (.int s)), some (.fz (.int j)), none], sto := sto, dr := dr }) (dUn_eq (dV_eq (fld "c_rules" _ _ rfl)) rfl rfl) ?_)
  have mk1 := make_eq (C := C) (n := 6) (ms := [.F, .F, .F, .F, .F]) (F := F_Shown_init C NC) (fl := dCons (dSlot 1) (dCons (dSlot 2) (dCons (dSlot 3) (dCons (dV (dFld C "c_reading" (dSlot 0))) (dCons (dV (dFld C "c_value" (dSlot 0))) (dNil)))))) (sto := sto) (dr := dr) (e' := [some (.fz (.int d)), some (.fz (.int s)), some (.fz (.int j)), some (.fz (.int r)), some (.fz (.int v))]) (fs := shF d s j r v []) (ds := [.int d, .int s, .int j, .int r, .int v]) (s := { env := [some (.lkl (.obj C (shF d s j r v sp))), some (.fz (.int d)), some (.fz (.int s)), some (.fz (.int j)), none], sto := sto, dr := dr }) (dCons_eq rfl (dCons_eq rfl (dCons_eq rfl (dCons_eq (dV_eq (fld "c_reading" _ _ rfl)) (dCons_eq (dV_eq (fld "c_value" _ _ rfl)) (k := dNil) rfl))))) rfl (init_eq C NC hd hd2 hs hs2 hj hr hr2 sto dr) (by show 5 ≤ 5; decide)
  refine okS.seq (okS.asg (ok.eq mk1 ⟨rfl, ?_⟩))
  refine okS.seq (okS.nx (setF_own (j := 4) (fs := shF d s j r v []) (d := .lst (sp.map spD)) (dV_eq (dCallB_eq (dCons_eq (dV_eq (fld "c_spans" _ _ rfl)) (k := dNil) rfl) rfl rfl)) rfl rfl (by show 4 < 1000; decide)) ?_)
  exact okS.rt (t := .ow (.obj C (shF d s j r v sp))) rfl ⟨rfl, by show 1 ≤ 5; decide, rfl, rfl⟩
end
def stepR (j : Int) (w : OI) : Int := match w with
  | none => 0
  | some w => if j < w then w else 0
def newV (d sl v t : Int) (sp : List Sp) : Int := v + 1000 * t + moreR d sl v t sp
theorem learn_okK (k : List D → D) (hk : ∀ ds, itS [k ds] = some ds ∧ noDict (k ds) = true) (C NR NS : Addr) {d sl j r v t : Int} {sp sp' : List Sp} (ha : pureG F_are_spans 7 [.fz (k (sp'.map spD))] (.fz (.bl true))) (hli : listD [k (sp'.map spD)] = some (.ow (.lst (sp'.map spD)))) (h1 : r ≤ t) (h2 : t ≤ 1000000000) (hd : 0 ≤ d) (hd2 : d ≤ 500) (hs : 0 ≤ sl) (hs2 : sl ≤ 900) (sto : List MO) (dr : Option DrawSt) :
    ∃ e', F_Shown_learn C NR NS { env := [some (.lent (.obj C (shF d sl j r v sp))), some (.fz (.int t)), some (.fz (k (sp'.map spD))), none, none, none], sto := sto, dr := dr } = .ok (.rt (.fz (.int (stepR j (wayR sp' (newV d sl v (t - r) sp)))))) { env := some (.lent (.obj C (shF d sl j t (newV d sl v (t - r) sp + stepR j (wayR sp' (newV d sl v (t - r) sp))) sp'))) :: e', sto := sto, dr := dr } ∧ 2 ≤ e'.length := by
  refine ⟨[some (.fz (.int t)), some (.fz (k (sp'.map spD))), some (.fz (.int (newV d sl v (t - r) sp))), some (.fz (oD (wayR sp' (newV d sl v (t - r) sp)))), some (.fz (.int (stepR j (wayR sp' (newV d sl v (t - r) sp)))))], okS.toRt ?_, by show 2 ≤ 5; decide⟩
  unfold F_Shown_learn
  have m1 := meth_pure (C := C) (m := "ticks_to") (ms := [.R, .F]) (fo := dSlot 0) (fl := dCons (dSlot 1) dNil) (s := { env := [some (.lent (.obj C (shF d sl j r v sp))), some (.fz (.int t)), some (.fz (k (sp'.map spD))), none, none, none], sto := sto, dr := dr }) (ticks_pure C NR (d := d) (sl := sl) (j := j) (v := v) (sp := sp) h1 h2) rfl (recv_slot rfl rfl rfl) rfl rfl rfl rfl rfl
  refine okS.seq (okS.expr (ok.eq m1 ?_))
  have m2 := call_pure ha (ms := [.F]) (fl := dCons (dSlot 2) dNil) (s := { env := [some (.lent (.obj C (shF d sl j r v sp))), some (.fz (.int t)), some (.fz (k (sp'.map spD))), none, none, none], sto := sto, dr := dr }) rfl rfl rfl rfl rfl
  refine okS.seq (okS.ite (ok.not (ok.eq (dB_eq m2) (no (okS.skip ?_)))))
  have m3 := meth_pure (C := C) (m := "at") (ms := [.R, .F]) (fo := dSlot 0) (fl := dCons (dSlot 1) dNil) (s := { env := [some (.lent (.obj C (shF d sl j r v sp))), some (.fz (.int t)), some (.fz (k (sp'.map spD))), none, none, none], sto := sto, dr := dr }) (at_pure C NR (j := j) (v := v) (sp := sp) h1 h2 hd hd2 hs hs2) rfl (recv_slot rfl rfl rfl) rfl rfl rfl rfl rfl
  refine okS.seq (okS.asg (ok.eq m3 ⟨rfl, ?_⟩))
  refine okS.seq (okS.asg (ok.eq (call_pure (way_pureK k hk sp' (newV d sl v (t - r) sp)) rfl rfl rfl rfl rfl) ⟨rfl, ?_⟩))
  have fld : ∀ (f : Str) (x : D) (e : List (Option W)), (shF d sl j r v sp).lookup f = some x → dFld C f (dSlot 0) { env := some (.lent (.obj C (shF d sl j r v sp))) :: e, sto := sto, dr := dr } = .ok (.fz x) { env := some (.lent (.obj C (shF d sl j r v sp))) :: e, sto := sto, dr := dr } := fun f x e h => dFld_eq rfl (readO_slot rfl rfl) h
  generalize wayR sp' (newV d sl v (t - r) sp) = w
  have st : ok (dIf (dAnd (dB (dOp2 isNotD (dSlot 4) (dV (dC .non)))) (dB (dOp2 gtD (dSlot 4) (dV (dOp2 ixD (dV (dFld C "c_rules" (dSlot 0))) (dV (dC (.int 2)))))))) (dVar 4) (dC (.int 0))) { env := [some (.lent (.obj C (shF d sl j r v sp))), some (.fz (.int t)), some (.fz (k (sp'.map spD))), some (.fz (.int (newV d sl v (t - r) sp))), some (.fz (oD w)), none], sto := sto, dr := dr } (fun x s => x = .fz (.int (stepR j w)) ∧ s = { env := [some (.lent (.obj C (shF d sl j r v sp))), some (.fz (.int t)), some (.fz (k (sp'.map spD))), some (.fz (.int (newV d sl v (t - r) sp))), some (.fz (oD w)), none], sto := sto, dr := dr }) := by
    cases w with
    | none =>
      refine ok.ite (ok.and (ok.eq (a := false) rfl (no (no (ok.eq rfl ⟨rfl, rfl⟩)))))
    | some w =>
      have e : dB (dOp2 gtD (dSlot 4) (dV (dOp2 ixD (dV (dFld C "c_rules" (dSlot 0))) (dV (dC (.int 2)))))) { env := [some (.lent (.obj C (shF d sl j r v sp))), some (.fz (.int t)), some (.fz (k (sp'.map spD))), some (.fz (.int (newV d sl v (t - r) sp))), some (.fz (.int w)), none], sto := sto, dr := dr } = .ok (decide (j < w)) { env := [some (.lent (.obj C (shF d sl j r v sp))), some (.fz (.int t)), some (.fz (k (sp'.map spD))), some (.fz (.int (newV d sl v (t - r) sp))), some (.fz (.int w)), none], sto := sto, dr := dr } := dB_eq (dOp2_eq rfl (dV_eq (dOp2_eq (dV_eq (fld "c_rules" _ _ rfl)) rfl rfl rfl rfl)) rfl rfl rfl)
      refine ok.ite (ok.and (ok.eq (a := true) rfl (yes (ok.dec e (fun h => yes (ok.eq rfl ⟨by show T.fz (D.int w) = T.fz (.int (if j < w then w else 0)); rw [if_pos h], rfl⟩)) fun h => no (ok.eq rfl ⟨by show T.fz (D.int 0) = T.fz (.int (if j < w then w else 0)); rw [if_neg h], rfl⟩)))))
  refine okS.seq (okS.asg (st.mono fun x s' hx => ?_))
  obtain ⟨rfl, rfl⟩ := hx
  refine ⟨rfl, ?_⟩
  refine okS.seq (okS.nx (setF_eq (fs := shF d sl j r v sp) (d := .int t) rfl rfl rfl (by show 4 < 1000; decide)) ?_)
  refine okS.seq (okS.nx (setF_eq (fs := shF d sl j t v sp) (d := .int (newV d sl v (t - r) sp + stepR j w)) rfl rfl rfl (by show 4 < 1000; decide)) ?_)
  refine okS.seq (okS.nx (setF_eq (fs := shF d sl j t (newV d sl v (t - r) sp + stepR j w) sp) (d := .lst (sp'.map spD)) (dV_eq (dCallB_eq (dCons_eq rfl (k := dNil) rfl) rfl hli)) rfl rfl (by show 4 < 1000; decide)) ?_)
  exact okS.rt rfl ⟨rfl, rfl⟩
end Law
set_option Elab.async false
set_option linter.all false
set_option maxRecDepth 1000000
set_option maxHeartbeats 0
namespace Law
open PySem DL
def spots : List D := [.tup [.int 5, .int 4], .tup [.int 0, .int 5], .tup [.int 6, .int 9], .tup [.int 7, .int 9], .tup [.non, .int 3], .tup [.int 8, .non], .tup [.non, .non], .tup [.int 0, .bl true], .lst [.int 0, .int 5], .tup [.int 0], .non, .tup [.int 1, .str "2"]]
def lists : Nat → List (List D)
  | 0 => [[]]
  | n + 1 => (lists n).flatMap fun l => spots.map fun x => l ++ [x]
def asE : D → Option OI
  | .non => some none
  | .int i => some (some i)
  | _ => none
def asSp : D → Option Sp
  | .tup [a, b] => match asE a, asE b with
    | some x, some y => some (x, y)
    | _, _ => none
  | _ => none
def spsOk : Bool → OI → List Sp → Bool
  | _, _, [] => true
  | first, last, (lo, hi) :: r => (first || lo.isSome) && (r.isEmpty || hi.isSome) && (match lo, hi with | some l, some h => decide (l ≤ h) | _, _ => true) &&
    (first || (match last, lo with | some h, some l => decide (h + 1 < l) | _, _ => true)) && spsOk false hi r
def areP (l : List D) : Bool := match l.mapM asSp with
  | some sp => spsOk true none sp
  | none => false
def fin1 : Rs DL.Flow → Option (DL.T × Nat × List MO × Option DrawSt)
  | .ok (.rt t) s => some (t, s.env.length, s.sto, s.dr)
  | _ => none
theorem fin1_pure {F : M DL.Flow} {n k : Nat} {ws : List W} {v : DL.T} (hk : ws.length ≤ k) (h : ∀ sto dr, fin1 (F { env := ws.map some ++ List.replicate (n - ws.length) none, sto := sto, dr := dr }) = some (v, k, sto, dr)) : pureG F n ws v := fun sto dr => by
  have h := h sto dr
  cases q : F { env := ws.map some ++ List.replicate (n - ws.length) none, sto := sto, dr := dr } with
  | bad => rw [q] at h; cases h
  | err x s => rw [q] at h; cases h
  | ok f s =>
    rw [q] at h
    cases f with
    | rt t =>
      obtain ⟨e, m, d⟩ := s
      have h : some (t, e.length, m, d) = some (v, k, sto, dr) := h
      injection h with h
      injection h with h1 h
      injection h with h2 h
      injection h with h3 h4
      subst h1; subst h3; subst h4
      exact ⟨e, rfl, by rw [h2]; exact hk⟩
    | _ => cases h
def atA (x : D) (sto : List MO) (dr : Option DrawSt) : State := { env := [some (.fz x), none, none, none, none, none, none], sto := sto, dr := dr }
def atL (x : D) (sto : List MO) (dr : Option DrawSt) : State := { env := [some (.fz x), none, none, none, none], sto := sto, dr := dr }
theorem asE_eq {d : D} {x : OI} (h : asE d = some x) : d = oD x := by
  cases d with
  | non => cases h; rfl
  | int i => cases h; rfl
  | _ => cases h
theorem asSp_eq {d : D} {x : Sp} (h : asSp d = some x) : d = spD x := by
  unfold asSp at h
  split at h
  · rename_i a b
    cases qa : asE a with
    | none => rw [qa] at h; cases h
    | some u =>
      cases qb : asE b with
      | none => rw [qa, qb] at h; cases h
      | some w =>
        rw [qa, qb] at h
        cases h
        rw [asE_eq qa, asE_eq qb]; rfl
  · cases h
theorem mapM_sp : ∀ {l : List D} {sp : List Sp}, l.mapM asSp = some sp → l = sp.map spD
  | [], sp, h => by
    have h : some ([] : List Sp) = some sp := h
    cases h; rfl
  | d :: l, sp, h => by
    rw [List.mapM_cons] at h
    cases q : asSp d with
    | none => rw [q] at h; cases h
    | some x =>
      cases q2 : l.mapM asSp with
      | none => rw [q, q2] at h; cases h
      | some xs =>
        rw [q, q2] at h
        have h : some (x :: xs) = some sp := h
        cases h
        rw [List.map_cons, ← mapM_sp q2, asSp_eq q]
theorem areP_sp {l : List D} (h : areP l = true) : ∃ sp : List Sp, l = sp.map spD := by
  unfold areP at h
  cases q : l.mapM asSp with
  | none => rw [q] at h; cases h
  | some sp => exact ⟨sp, mapM_sp q⟩
theorem mem_lists : ∀ (n : Nat) (l : List D), l.length = n → (∀ d ∈ l, d ∈ spots) → l ∈ lists n
  | 0, l, hl, _ => by
    rw [List.length_eq_zero_iff.mp hl]
    exact List.mem_cons_self
  | n + 1, l, hl, h => by
    have ne : l ≠ [] := fun z => by rw [z] at hl; cases hl
    have e := List.dropLast_concat_getLast ne
    have ih := mem_lists n l.dropLast (by rw [List.length_dropLast, hl]; rfl) fun d m => h d ((List.dropLast_sublist l).subset m)
    unfold lists
    rw [List.mem_flatMap]
    exact ⟨l.dropLast, ih, List.mem_map.mpr ⟨l.getLast ne, h _ (List.getLast_mem ne), e⟩⟩
end Law
set_option Elab.async false
set_option linter.all false
set_option maxRecDepth 100000
set_option maxHeartbeats 4000000
namespace Law
open PySem DL
abbrev qn : Str := "law.<locals>.<lambda>"
def LS (ns : List Int) (P : Addr) (w2 w3 w4 w5 w6 w7 w8 w9 w10 w11 w12 w13 : Option W) (st : DrawSt) : State :=
  { env := [some (.fz (.frl ns)), some (.fz .draw), w2, w3, w4, w5, w6, w7, w8, w9, w10, w11, w12, w13], sto := [.tab P qn], dr := some st }
def free (w : Option W) : Prop := w = none ∨ (∃ d, w = some (.fz d)) ∨ ∃ d, w = some (.own d)
theorem can_free {s : State} {i : Nat} {w : Option W} (e : s.env[i]? = some w) (h : free w) : canSet s i = true := by
  unfold canSet
  rw [e]
  rcases h with rfl | ⟨_, rfl⟩ | ⟨_, rfl⟩ <;> rfl
theorem free_fz {d : D} : free (some (.fz d)) := .inr (.inl ⟨_, rfl⟩)
theorem free_own {d : D} : free (some (.own d)) := .inr (.inr ⟨_, rfl⟩)
theorem tab_is {ns : List Int} {P : Addr} {w2 w3 w4 w5 w6 w7 w8 w9 w10 w11 w12 w13 : Option W} {st : DrawSt} : isTab (LS ns P w2 w3 w4 w5 w6 w7 w8 w9 w10 w11 w12 w13 st) 0 P qn = true := by
  show (decide (P = P) && decide (qn = qn)) = true
  rw [decide_eq_true rfl, decide_eq_true rfl]; rfl
def odds : List D := [.non, .bl true, .bl false, .str "1", .int (-1), .int 0, .int 500, .int 501, .int 900, .int 901, .int 1000000000, .int 1000000001, .tup [], .lst [], .dk [], .int 7]
def vals : List D := [.int 10, .int 20, .int 30, .int 40, .int 50] ++ odds
theorem odd_k {x : D} (h : x ∈ vals) : oddK x = true := by
  have e : vals.all oddK = true := by rfl
  exact List.all_eq_true.mp e x h
theorem odd_vals {x : D} (h : x ∈ odds) : x ∈ vals := List.mem_append_right _ h
theorem odd_call {s : State} {st : DrawSt} (he : s.env[1]? = some (some (.fz .draw))) (hs : s.dr = some st) (hd : DrOk1 st) : ∃ (o : D) (st' : DrawSt), o ∈ odds ∧ DrOk1 st' ∧ dCall 1 [.F] [] F_law_odd (dCons (dSlot 1) dNil) s = .ok (.fz o) { s with dr := some st' } := by
  have e0 : dSlot 1 s = .ok (.slot 1) s := by unfold dSlot; rw [he]
  have e2 : toHMs [.F] [.slot 1] s = .ok ([D.draw].map HS.d) s := by
    have b : toHM .F (.slot 1) s = .ok (.d .draw) s := by
      show (frz (.slot 1) >>= fun d => pure (HS.d d)) s = _
      have : frz (.slot 1) s = .ok .draw s := by simp only [frz, he]
      rw [bind_eq, this]
      rfl
    show (toHM .F (.slot 1) >>= fun h => toHMs [] [] >>= fun hs => pure (h :: hs)) s = _
    rw [bind_eq, b]
    rfl
  have tk : ok (dCall 1 [.F] [] F_law_odd (dCons (dSlot 1) dNil)) s (fun y S => ∃ (o : D) (st' : DrawSt), y = .fz o ∧ o ∈ odds ∧ DrOk1 st' ∧ S = { s with dr := some st' }) :=
    ok.call (ds := [.draw]) (rs := [.slot 1]) (s1 := s) (s2 := s) (dCons_eq e0 (k := dNil) rfl) e2 (.of (by
      obtain ⟨env, sto, dr⟩ := s
      cases hs
      show okS F_law_odd { env := [some (.fz .draw)], sto := sto, dr := some st } _ _
      unfold F_law_odd
      obtain ⟨o, st', m, d', e⟩ := pick_at (s := { env := [some (.fz .draw)], sto := sto, dr := some st }) (s1 := { env := [some (.fz .draw)], sto := sto, dr := some st }) (s2 := { env := [some (.fz .draw)], sto := sto, dr := some st }) (i := 0) (ds := odds) (x := .t (.ow (.lst odds)))
        (f := dV (dLst (dCons (dV (dC .non)) (dCons (dV (dC (.bl true))) (dCons (dV (dC (.bl false))) (dCons (dV (dC (.str "1"))) (dCons (dV (dOp1 negD (dV (dC (.int 1))))) (dCons (dV (dC (.int 0))) (dCons (dV (dC (.int 500))) (dCons (dV (dC (.int 501))) (dCons (dV (dC (.int 900))) (dCons (dV (dC (.int 901))) (dCons (dV (dOp2 powD (dV (dC (.int 10))) (dV (dC (.int 9))))) (dCons (dV (dOp2 addD (dV (dOp2 powD (dV (dC (.int 10))) (dV (dC (.int 9))))) (dV (dC (.int 1))))) (dCons (dV (dTup (dNil))) (dCons (dV (dLst (dNil))) (dCons (dV (dNewK)) (dCons (dV (dC (.int 7))) (dNil)))))))))))))))))))
        hd rfl rfl rfl (by decide) (by decide) (by kernel_rfl) rfl
      exact okS.ret (ok.eq e ⟨by show 1 ≤ 1; decide, o, st', rfl, m, d', rfl⟩)))
  obtain ⟨_, _, e, o, st', rfl, m, d', rfl⟩ := tk
  exact ⟨o, st', m, d', e⟩
structure Five (ds : List D) : Prop where
  len : ds.length = 5
  mem : ∀ x ∈ ds, x ∈ vals
theorem five0 : Five [.int 10, .int 20, .int 30, .int 40, .int 50] := ⟨rfl, fun x h => List.mem_append_left _ h⟩
theorem Five.set {ds : List D} (f : Five ds) (i : Nat) {o : D} (h : o ∈ odds) : Five (ds.set i o) := ⟨by rw [List.length_set]; exact f.len, fun x m => by
  rcases List.mem_or_eq_of_mem_set m with m | rfl
  · exact f.mem x m
  · exact odd_vals h⟩
theorem five_turn {ns : List Int} {P : Addr} {w2 w4 w5 w6 w7 w8 w9 w10 w11 w12 w13 : Option W} {st : DrawSt} {ds : List D} {C HE NC NR NS : Addr} {Rt : DL.T → State → Prop} (f : Five ds) (hd : DrOk1 st) :
    okS (L_law_0 C HE NC NR NS P) (LS ns P w2 (some (.own (.lst ds))) w4 w5 w6 w7 w8 w9 w10 w11 w12 w13 st) (fun s => ∃ ds' st', Five ds' ∧ DrOk1 st' ∧ s = LS ns P w2 (some (.own (.lst ds'))) w4 w5 w6 w7 w8 w9 w10 w11 w12 w13 st') Rt := by
  unfold L_law_0
  obtain ⟨o, st1, om, hd1, e1⟩ := odd_call (s := LS ns P w2 (some (.own (.lst ds))) w4 w5 w6 w7 w8 w9 w10 w11 w12 w13 st) rfl rfl hd
  obtain ⟨r, st2, r0, r1, hd2, e2⟩ := take_at (s := LS ns P w2 (some (.own (.lst ds))) w4 w5 w6 w7 w8 w9 w10 w11 w12 w13 st1) (s1 := LS ns P w2 (some (.own (.lst ds))) w4 w5 w6 w7 w8 w9 w10 w11 w12 w13 st1) (st := st1) (i := 1) (n := 5) (f := dV (dC (.int 5))) (x := .t (.fz (.int 5))) hd1 rfl rfl rfl (by decide) (by decide) rfl rfl
  obtain ⟨j, rfl⟩ : ∃ j : Nat, r = j := ⟨r.toNat, by omega⟩
  have hj : j < 5 := by omega
  refine okS.nx (s1 := LS ns P w2 (some (.own (.lst (ds.set j o)))) w4 w5 w6 w7 w8 w9 w10 w11 w12 w13 st2) (sub_eq (dV_eq e1) rfl (dV_eq e2) rfl rfl ⟨.own (.lst ds), rfl, ?_, rfl⟩) ⟨_, _, f.set j om, hd2, rfl⟩
  have hl := f.len
  match ds, hl with
  | [a, b, c, d, e], _ =>
    match j, hj with
    | 0, _ => rfl
    | 1, _ => rfl
    | 2, _ => rfl
    | 3, _ => rfl
    | 4, _ => rfl
end Law
set_option Elab.async false
set_option linter.all false
set_option maxRecDepth 100000
set_option maxHeartbeats 4000000
namespace Law
open PySem DL
abbrev MT (NC NR NS : Addr) : Addr → Option Bool := ctL [(NC, true), (NR, true), (NS, true)]
section
variable {HE NC NR NS P : Addr} {s s1 : State} {fb : M DL.T} {t : DL.T}
theorem lam_none (ht : isTab s 0 P qn = true) (h : fb s = .ok t s1) : dLamG 0 P qn 4 1 (MT NC NR NS) (F_law_error HE NC NR NS) fb s = .ok (.fz (.str "")) s1 := by
  obtain ⟨e', q⟩ := err_non (HE := HE) (NC := NC) (NR := NR) (NS := NS) s1.sto s1.dr
  show _ = Rs.ok _ { env := s1.env, sto := s1.sto, dr := s1.dr }
  exact lamG_ok (sc := { env := e', sto := s1.sto, dr := s1.dr }) ht h q
theorem lam_is {X : Addr} {b1 b2 b3 : Bool} {w : Str} (ht : isTab s 0 P qn = true) (h : fb s = .err ⟨X, []⟩ s1) (hm : MT NC NR NS X = some true) (h1 : ctL [(NC, true), (NR, false), (NS, false)] X = some b1) (h2 : ctL [(NC, false), (NR, true), (NS, false)] X = some b2) (h3 : ctL [(NC, false), (NR, false), (NS, true)] X = some b3)
    (hw : (b1 = true ∧ w = "clock") ∨ (b1 = false ∧ b2 = true ∧ w = "reading") ∨ (b1 = false ∧ b2 = false ∧ b3 = true ∧ w = "spans")) : dLamG 0 P qn 4 1 (MT NC NR NS) (F_law_error HE NC NR NS) fb s = .ok (.fz (.str w)) s1 := by
  obtain ⟨e', q⟩ := err_is (HE := HE) h1 h2 h3 hw s1.sto s1.dr
  show _ = Rs.ok _ { env := s1.env, sto := s1.sto, dr := s1.dr }
  exact lamG_er (sc := { env := e', sto := s1.sto, dr := s1.dr }) ht h hm q
theorem ct_of {C0 : Addr} {b : Bool} {l : List (Addr × Bool)} : ctL ((C0, b) :: l) C0 = some b := by unfold ctL; rw [List.lookup_cons, beq_self_eq_true]
theorem ct_ne {X C0 : Addr} {b : Bool} {l : List (Addr × Bool)} (h : X ≠ C0) : ctL ((C0, b) :: l) X = ctL l X := by
  unfold ctL
  rw [List.lookup_cons]
  have : (X == C0) = false := by simpa using h
  rw [this]
structure Ap (NC NR NS : Addr) : Prop where
  cr : NC ≠ NR
  cs : NC ≠ NS
  rs : NR ≠ NS
variable (ap : Ap NC NR NS)
include ap
theorem lam_clock (ht : isTab s 0 P qn = true) (h : fb s = .err ⟨NC, []⟩ s1) : dLamG 0 P qn 4 1 (MT NC NR NS) (F_law_error HE NC NR NS) fb s = .ok (.fz (.str "clock")) s1 :=
  lam_is ht h ct_of ct_of ct_of ct_of (.inl ⟨rfl, rfl⟩)
theorem lam_reading (ht : isTab s 0 P qn = true) (h : fb s = .err ⟨NR, []⟩ s1) : dLamG 0 P qn 4 1 (MT NC NR NS) (F_law_error HE NC NR NS) fb s = .ok (.fz (.str "reading")) s1 :=
  lam_is ht h ((ct_ne ap.cr.symm).trans ct_of) ((ct_ne ap.cr.symm).trans ct_of) ((ct_ne ap.cr.symm).trans ct_of) ((ct_ne ap.cr.symm).trans ct_of) (.inr (.inl ⟨rfl, rfl, rfl⟩))
theorem lam_spans (ht : isTab s 0 P qn = true) (h : fb s = .err ⟨NS, []⟩ s1) : dLamG 0 P qn 4 1 (MT NC NR NS) (F_law_error HE NC NR NS) fb s = .ok (.fz (.str "spans")) s1 :=
  lam_is ht h ((ct_ne ap.cs.symm).trans ((ct_ne ap.rs.symm).trans ct_of)) ((ct_ne ap.cs.symm).trans ((ct_ne ap.rs.symm).trans ct_of)) ((ct_ne ap.cs.symm).trans ((ct_ne ap.rs.symm).trans ct_of)) ((ct_ne ap.cs.symm).trans ((ct_ne ap.rs.symm).trans ct_of)) (.inr (.inr ⟨rfl, rfl, rfl, rfl⟩))
end
def told (w : Str) : Prop := w = "" ∨ w = "clock" ∨ w = "reading" ∨ w = "spans"
theorem same_told {s s1 : State} {fl : M DL.T} {i : Nat} {w : Str} (hw : told w) (h : fl s = .ok (.fz (.str w)) s1) (e : s1.env[i]? = some (some (.fz (.str w)))) : dB (dOp2 neT (dV fl) (dSlot i)) s = .ok false s1 := by
  have f0 : dSlot i s1 = .ok (.slot i) s1 := by unfold dSlot; rw [e]
  have f1 : readV (.slot i) s1 = .ok (.str w) s1 := by unfold readV; simp only [e]; rfl
  refine dB_eq (dOp2_eq (dV_eq h) f0 rfl f1 ?_)
  rcases hw with rfl | rfl | rfl | rfl <;> kernel_rfl
theorem lisD {x : D} {a b : Int} (h : oddK x = true) : pureG F_law_is_int 3 [.fz x, .fz (.int a), .fz (.int b)] (.fz (.bl (isB x a b))) := betweenD h
theorem andV_b {f g : M DL.T} {s s1 s2 : State} {a b : Bool} (h1 : f s = .ok (.fz (.bl a)) s1) (h2 : g s1 = .ok (.fz (.bl b)) s2) (h3 : s2 = s1) : dAndV f g s = .ok (.fz (.bl (a && b))) s1 := by
  unfold dAndV
  rw [bind_eq, h1]
  cases a with
  | true => show g s1 = _; rw [h2, h3, Bool.true_and]
  | false => rfl
def fzO (w : Option W) : Prop := w = none ∨ ∃ d, w = some (.fz d)
theorem fzO.free {w : Option W} (h : fzO w) : free w := h.elim .inl fun h => .inr (.inl h)
theorem five_loop {ns : List Int} {P C HE NC NR NS : Addr} {w2 w4 w5 w6 w7 w8 w9 w10 w11 w12 w13 : Option W} {st : DrawSt} {Nx : State → Prop} {Rt : DL.T → State → Prop} (hd : DrOk1 st) (h4 : fzO w4)
    (k : ∀ ds w4 st, Five ds → DrOk1 st → fzO w4 → Nx (LS ns P w2 (some (.own (.lst ds))) w4 w5 w6 w7 w8 w9 w10 w11 w12 w13 st)) :
    okS (dFor itR1 (.name 4) (L_law_0 C HE NC NR NS P) (dCons (dV (dCall 4 [.F, .F] [] F_law_take (dCons (dSlot 1) (dCons (dV (dC (.int 3))) (dNil))))) (dNil))) (LS ns P w2 (some (.own (.lst [.int 10, .int 20, .int 30, .int 40, .int 50]))) w4 w5 w6 w7 w8 w9 w10 w11 w12 w13 st) Nx Rt := by
  obtain ⟨r, st1, r0, r1, hd1, e1⟩ := take_at (s := LS ns P w2 (some (.own (.lst [.int 10, .int 20, .int 30, .int 40, .int 50]))) w4 w5 w6 w7 w8 w9 w10 w11 w12 w13 st) (s1 := LS ns P w2 (some (.own (.lst [.int 10, .int 20, .int 30, .int 40, .int 50]))) w4 w5 w6 w7 w8 w9 w10 w11 w12 w13 st) (st := st) (i := 1) (n := 3) (f := dV (dC (.int 3))) (x := .t (.fz (.int 3))) hd rfl rfl rfl (by decide) (by decide) rfl rfl
  obtain ⟨j, rfl⟩ : ∃ j : Nat, r = j := ⟨r.toNat, by omega⟩
  have hb : itR1 [.int (j : Int)] = some (rangeL 0 j) := by
    have : bnd62 (j : Int) = true := by
      have : j = 0 ∨ j = 1 ∨ j = 2 := by omega
      rcases this with rfl | rfl | rfl <;> rfl
    show (if bnd62 (j : Int) = true then some (rangeL 0 (j : Int).toNat) else none) = _
    rw [if_pos this, Int.toNat_natCast]
  refine okS.forV (rs := [.t (.fz (.int (j : Int)))]) (ds := [.int (j : Int)]) (dCons_eq (dV_eq e1) (k := dNil) rfl) rfl hb (okS.walk (fun _ s => ∃ ds w4 st, Five ds ∧ DrOk1 st ∧ fzO w4 ∧ s = LS ns P w2 (some (.own (.lst ds))) w4 w5 w6 w7 w8 w9 w10 w11 w12 w13 st) ⟨_, _, _, five0, hd1, h4, rfl⟩ ?_ ?_)
  · rintro i d s hi ⟨ds, w4, st, f, hd, h4, rfl⟩
    refine ⟨LS ns P w2 (some (.own (.lst ds))) (some (.fz d)) w5 w6 w7 w8 w9 w10 w11 w12 w13 st, ?_, (five_turn f hd).mono (fun s' ⟨ds', st', f', hd', e⟩ => ⟨ds', _, st', f', hd', .inr ⟨_, rfl⟩, e⟩) fun _ _ h => h⟩
    rcases h4 with rfl | ⟨_, rfl⟩ <;> rfl
  · rintro s ⟨ds, w4, st, f, hd, h4, rfl⟩
    exact k ds w4 st f hd h4
def T60 : Int := 1000000000000000000000000000000000000000000000000000000000000
def nonneg : D → Bool
  | .int i => decide (0 ≤ i)
  | _ => false
theorem big0 {x : D} (h : x ∈ vals) : isB x 0 T60 = nonneg x := by
  have e : vals.all (fun x => isB x 0 T60 == nonneg x) = true := by decide +kernel
  exact eq_of_beq (List.all_eq_true.mp e x h)
theorem big1 {x : D} (h : x ∈ vals) : isB x (-T60) T60 = isI x := by
  have e : vals.all (fun x => isB x (-T60) T60 == isI x) = true := by decide +kernel
  exact eq_of_beq (List.all_eq_true.mp e x h)
section
variable {ns : List Int} {P C HE NC NR NS : Addr} {w2 w4 w5 w6 w7 w8 w9 w10 w11 w12 w13 : Option W} {st : DrawSt} {a b c d e : D}
theorem five_at (i : Nat) (x : D) (h : [a, b, c, d, e][i]? = some x) : dOp2 ixD (dSlot 3) (dV (dC (.int (i : Nat)))) (LS ns P w2 (some (.own (.lst [a, b, c, d, e]))) w4 w5 w6 w7 w8 w9 w10 w11 w12 w13 st) = .ok (.fz x) (LS ns P w2 (some (.own (.lst [a, b, c, d, e]))) w4 w5 w6 w7 w8 w9 w10 w11 w12 w13 st) :=
  dOp2_eq rfl rfl rfl rfl (by show (L2.atI [a, b, c, d, e] (i : Int)).map DL.T.fz = _; rw [L2.atI_nat h]; rfl)
theorem int_at {i : Nat} {x : D} {lo hi : Int} {flo fhi : M DL.T} (h : [a, b, c, d, e][i]? = some x) (k : oddK x = true) (h1 : flo (LS ns P w2 (some (.own (.lst [a, b, c, d, e]))) w4 w5 w6 w7 w8 w9 w10 w11 w12 w13 st) = .ok (.fz (.int lo)) (LS ns P w2 (some (.own (.lst [a, b, c, d, e]))) w4 w5 w6 w7 w8 w9 w10 w11 w12 w13 st)) (h2 : fhi (LS ns P w2 (some (.own (.lst [a, b, c, d, e]))) w4 w5 w6 w7 w8 w9 w10 w11 w12 w13 st) = .ok (.fz (.int hi)) (LS ns P w2 (some (.own (.lst [a, b, c, d, e]))) w4 w5 w6 w7 w8 w9 w10 w11 w12 w13 st)) :
    dCall 3 [.F, .F, .F] [] F_law_is_int (dCons (dV (dOp2 ixD (dSlot 3) (dV (dC (.int (i : Nat)))))) (dCons (dV flo) (dCons (dV fhi) (dNil)))) (LS ns P w2 (some (.own (.lst [a, b, c, d, e]))) w4 w5 w6 w7 w8 w9 w10 w11 w12 w13 st) = .ok (.fz (.bl (isB x lo hi))) (LS ns P w2 (some (.own (.lst [a, b, c, d, e]))) w4 w5 w6 w7 w8 w9 w10 w11 w12 w13 st) :=
  call_pure (lisD k) (dCons_eq (dV_eq (five_at i x h)) (dCons_eq (dV_eq h1) (dCons_eq (dV_eq h2) (k := dNil) rfl))) rfl rfl rfl rfl
end
end Law
set_option Elab.async false
set_option linter.all false
set_option maxRecDepth 100000
set_option maxHeartbeats 4000000
namespace Law
open PySem DL
theorem good_is {a b c d e : D} (h : Five [a, b, c, d, e]) : (isB a 0 500 && (isB b 0 900 && isB d 0 1000000000) && (isB c 0 T60 && isB e (-T60) T60)) = goodV a b c d e := by
  have hc : c ∈ vals := h.mem c (by simp)
  have he : e ∈ vals := h.mem e (by simp)
  have g : goodV a b c d e = (isB a 0 500 && isB b 0 900 && nonneg c && isB d 0 1000000000 && isI e) := by unfold goodV; cases c <;> rfl
  rw [big0 hc, big1 he, g]
  cases isB a 0 500 <;> cases isB b 0 900 <;> cases isB d 0 1000000000 <;> cases isI e <;> cases nonneg c <;> rfl
theorem good_ints {a b c d e : D} (h : goodV a b c d e = true) : ∃ x1 x2 x3 x4 x5 : Int, a = .int x1 ∧ b = .int x2 ∧ c = .int x3 ∧ d = .int x4 ∧ e = .int x5 ∧ 0 ≤ x1 ∧ x1 ≤ 500 ∧ 0 ≤ x2 ∧ x2 ≤ 900 ∧ 0 ≤ x3 ∧ 0 ≤ x4 ∧ x4 ≤ 1000000000 := by
  unfold goodV at h
  simp only [Bool.and_eq_true] at h
  obtain ⟨⟨⟨⟨h1, h2⟩, h3⟩, h4⟩, h5⟩ := h
  obtain ⟨x1, rfl, a1, a2⟩ := isB_int h1
  obtain ⟨x2, rfl, b1, b2⟩ := isB_int h2
  obtain ⟨x4, rfl, d1, d2⟩ := isB_int h4
  cases c with
  | int x3 =>
    cases e with
    | int x5 => exact ⟨x1, x2, x3, x4, x5, rfl, rfl, rfl, rfl, rfl, a1, a2, b1, b2, of_decide_eq_true h3, d1, d2⟩
    | _ => cases h5
  | _ => cases h3
section
variable {ns : List Int} {P C HE NC NR NS : Addr} {w2 w4 w5 w6 w7 w8 w9 w10 w11 w12 w13 : Option W} {st : DrawSt} {a b c d e : D}
theorem make_lam (f : Five [a, b, c, d, e]) :
    (goodV a b c d e = true → ∃ t, dMakeKM C 6 [.F, .F, .F, .F, .F] (F_Shown_init C NC) (dCons (dV (dOp2 ixD (dSlot 3) (dV (dC (.int 0))))) (dCons (dV (dOp2 ixD (dSlot 3) (dV (dC (.int 1))))) (dCons (dV (dOp2 ixD (dSlot 3) (dV (dC (.int 2))))) (dNil)))) [1, 0] (dCons (dV (dOp2 ixD (dSlot 3) (dV (dC (.int 4))))) (dCons (dV (dOp2 ixD (dSlot 3) (dV (dC (.int 3))))) (dNil))) (LS ns P w2 (some (.own (.lst [a, b, c, d, e]))) w4 w5 w6 w7 w8 w9 w10 w11 w12 w13 st) = .ok t (LS ns P w2 (some (.own (.lst [a, b, c, d, e]))) w4 w5 w6 w7 w8 w9 w10 w11 w12 w13 st)) ∧
    (goodV a b c d e = false → dMakeKM C 6 [.F, .F, .F, .F, .F] (F_Shown_init C NC) (dCons (dV (dOp2 ixD (dSlot 3) (dV (dC (.int 0))))) (dCons (dV (dOp2 ixD (dSlot 3) (dV (dC (.int 1))))) (dCons (dV (dOp2 ixD (dSlot 3) (dV (dC (.int 2))))) (dNil)))) [1, 0] (dCons (dV (dOp2 ixD (dSlot 3) (dV (dC (.int 4))))) (dCons (dV (dOp2 ixD (dSlot 3) (dV (dC (.int 3))))) (dNil))) (LS ns P w2 (some (.own (.lst [a, b, c, d, e]))) w4 w5 w6 w7 w8 w9 w10 w11 w12 w13 st) = .err ⟨NC, []⟩ (LS ns P w2 (some (.own (.lst [a, b, c, d, e]))) w4 w5 w6 w7 w8 w9 w10 w11 w12 w13 st)) := by
  have fa := dCons_eq (dV_eq (five_at (ns := ns) (P := P) (w2 := w2) (w4 := w4) (w5 := w5) (w6 := w6) (w7 := w7) (w8 := w8) (w9 := w9) (w10 := w10) (w11 := w11) (w12 := w12) (w13 := w13) (st := st) (a := a) (b := b) (c := c) (d := d) (e := e) 0 a rfl)) (dCons_eq (dV_eq (five_at 1 b rfl)) (dCons_eq (dV_eq (five_at 2 c rfl)) (k := dNil) rfl))
  have fl := dCons_eq (dV_eq (five_at (ns := ns) (P := P) (w2 := w2) (w4 := w4) (w5 := w5) (w6 := w6) (w7 := w7) (w8 := w8) (w9 := w9) (w10 := w10) (w11 := w11) (w12 := w12) (w13 := w13) (st := st) (a := a) (b := b) (c := c) (d := d) (e := e) 4 e rfl)) (dCons_eq (dV_eq (five_at 3 d rfl)) (k := dNil) rfl)
  refine ⟨fun h => ?_, fun h => ?_⟩
  · obtain ⟨x1, x2, x3, x4, x5, rfl, rfl, rfl, rfl, rfl, a1, a2, b1, b2, c1, d1, d2⟩ := good_ints h
    exact ⟨_, makeKM_is (ds := [.int x1, .int x2, .int x3, .int x4, .int x5]) fa fl rfl rfl fun lm => make2_ok lm (init_eq C NC (v := x5) a1 a2 b1 b2 c1 d1 d2 _ _) (by show 5 ≤ 5; decide)⟩
  · have k := fun x (m : x ∈ [a, b, c, d, e]) => odd_k (f.mem x m)
    exact makeKM_is (ds := [a, b, c, d, e]) fa fl rfl rfl fun lm => make2_er lm (init_er (k a (by simp)) (k b (by simp)) (k c (by simp)) (k d (by simp)) (k e (by simp)) h _ _) (by show 5 ≤ 5; decide)
end
end Law
set_option Elab.async false
set_option linter.all false
set_option maxRecDepth 100000
set_option maxHeartbeats 4000000
namespace Law
open PySem DL
def sp2 : List Sp := [(some 0, some 5), (some 7, none)]
def SH : List (Str × D) := shF 10 20 30 60 20050 sp2
def kept : D := .tup [.int 60, .int 20050, .lst (sp2.map spD), .int 59050]
theorem more_is : (20050 : Int) + 1000 * (99 - 60) + moreR 10 20 20050 (99 - 60) sp2 = 59050 := by decide +kernel
theorem at99 (C NR : Addr) : pureG (F_Shown_at C NR) 8 [.lkl (.obj C SH), .fz (.int 99)] (.fz (.int 59050)) := by
  have h := at_pure C NR (d := 10) (sl := 20) (j := 30) (r := 60) (v := 20050) (t := 99) (sp := sp2) (by decide) (by decide) (by decide) (by decide) (by decide) (by decide)
  rw [more_is] at h
  exact h
section
variable {ns : List Int} {P C HE NC NR NS : Addr} {w2 w3 w4 w5 w6 w7 w8 w9 w10 w11 w12 w13 : Option W} {st : DrawSt}
theorem tri7 : dTup (dCons (dV (dProp C 1 .R (F_Shown_reading C) (dSlot 7))) (dCons (dV (dProp C 1 .R (F_Shown_value C) (dSlot 7))) (dCons (dV (dProp C 1 .R (F_Shown_spans C) (dSlot 7))) (dCons (dV (dMeth C "at" 8 [.R, .F] [] (F_Shown_at C NR) (dSlot 7) (dCons (dV (dC (.int 99))) (dNil)))) (dNil))))) (LS ns P w2 w3 w4 w5 w6 (some (.own (.obj C SH))) w8 w9 w10 w11 w12 w13 st) = .ok (.fz kept) (LS ns P w2 w3 w4 w5 w6 (some (.own (.obj C SH))) w8 w9 w10 w11 w12 w13 st) := by
  have p1 := prop_pure (C := C) (m := .R) (fo := dSlot 7) (fs := SH) (s := (LS ns P w2 w3 w4 w5 w6 (some (.own (.obj C SH))) w8 w9 w10 w11 w12 w13 st)) (reading_pure C (d := 10) (s := 20) (j := 30) (r := 60) (v := 20050) (sp := sp2)) rfl (readO_slot rfl rfl) rfl rfl rfl rfl rfl
  have p2 := prop_pure (C := C) (m := .R) (fo := dSlot 7) (fs := SH) (s := (LS ns P w2 w3 w4 w5 w6 (some (.own (.obj C SH))) w8 w9 w10 w11 w12 w13 st)) (value_pure C (d := 10) (s := 20) (j := 30) (r := 60) (v := 20050) (sp := sp2)) rfl (readO_slot rfl rfl) rfl rfl rfl rfl rfl
  have p3 := prop_pure (C := C) (m := .R) (fo := dSlot 7) (fs := SH) (s := (LS ns P w2 w3 w4 w5 w6 (some (.own (.obj C SH))) w8 w9 w10 w11 w12 w13 st)) (spans_pure C (d := 10) (s := 20) (j := 30) (r := 60) (v := 20050) (sp := sp2)) rfl (readO_slot rfl rfl) rfl rfl rfl rfl rfl
  have p4 := meth_pure (C := C) (m := "at") (ms := [.R, .F]) (fo := dSlot 7) (fl := dCons (dV (dC (.int 99))) dNil) (s := (LS ns P w2 w3 w4 w5 w6 (some (.own (.obj C SH))) w8 w9 w10 w11 w12 w13 st)) (at99 C NR) rfl (recv_slot rfl rfl rfl) rfl rfl rfl rfl rfl
  exact dTup_eq (dCons_eq (dV_eq p1) (dCons_eq (dV_eq p2) (dCons_eq (dV_eq p3) (dCons_eq (dV_eq p4) (k := dNil) rfl)))) rfl (by show 4 ≤ sizeLine; decide)
theorem tri13 : dTup (dCons (dV (dProp C 1 .R (F_Shown_reading C) (dSlot 13))) (dCons (dV (dProp C 1 .R (F_Shown_value C) (dSlot 13))) (dCons (dV (dProp C 1 .R (F_Shown_spans C) (dSlot 13))) (dCons (dV (dMeth C "at" 8 [.R, .F] [] (F_Shown_at C NR) (dSlot 13) (dCons (dV (dC (.int 99))) (dNil)))) (dNil))))) (LS ns P w2 w3 w4 w5 w6 w7 w8 w9 w10 w11 w12 (some (.own (.obj C SH))) st) = .ok (.fz kept) (LS ns P w2 w3 w4 w5 w6 w7 w8 w9 w10 w11 w12 (some (.own (.obj C SH))) st) := by
  have p1 := prop_pure (C := C) (m := .R) (fo := dSlot 13) (fs := SH) (s := (LS ns P w2 w3 w4 w5 w6 w7 w8 w9 w10 w11 w12 (some (.own (.obj C SH))) st)) (reading_pure C (d := 10) (s := 20) (j := 30) (r := 60) (v := 20050) (sp := sp2)) rfl (readO_slot rfl rfl) rfl rfl rfl rfl rfl
  have p2 := prop_pure (C := C) (m := .R) (fo := dSlot 13) (fs := SH) (s := (LS ns P w2 w3 w4 w5 w6 w7 w8 w9 w10 w11 w12 (some (.own (.obj C SH))) st)) (value_pure C (d := 10) (s := 20) (j := 30) (r := 60) (v := 20050) (sp := sp2)) rfl (readO_slot rfl rfl) rfl rfl rfl rfl rfl
  have p3 := prop_pure (C := C) (m := .R) (fo := dSlot 13) (fs := SH) (s := (LS ns P w2 w3 w4 w5 w6 w7 w8 w9 w10 w11 w12 (some (.own (.obj C SH))) st)) (spans_pure C (d := 10) (s := 20) (j := 30) (r := 60) (v := 20050) (sp := sp2)) rfl (readO_slot rfl rfl) rfl rfl rfl rfl rfl
  have p4 := meth_pure (C := C) (m := "at") (ms := [.R, .F]) (fo := dSlot 13) (fl := dCons (dV (dC (.int 99))) dNil) (s := (LS ns P w2 w3 w4 w5 w6 w7 w8 w9 w10 w11 w12 (some (.own (.obj C SH))) st)) (at99 C NR) rfl (recv_slot rfl rfl rfl) rfl rfl rfl rfl rfl
  exact dTup_eq (dCons_eq (dV_eq p1) (dCons_eq (dV_eq p2) (dCons_eq (dV_eq p3) (dCons_eq (dV_eq p4) (k := dNil) rfl)))) rfl (by show 4 ≤ sizeLine; decide)
theorem made_ok : dMake C 6 [.F, .F, .F, .F, .F] [] (F_Shown_init C NC) (dCons (dV (dC (.int 10))) (dCons (dV (dC (.int 20))) (dCons (dV (dC (.int 30))) (dCons (dV (dC (.int 40))) (dCons (dV (dC (.int 50))) (dNil)))))) (LS ns P w2 w3 w4 w5 w6 w7 w8 w9 w10 w11 w12 w13 st) = .ok (.ow (.obj C (shF 10 20 30 40 50 []))) (LS ns P w2 w3 w4 w5 w6 w7 w8 w9 w10 w11 w12 w13 st) :=
  make_eq (ds := [.int 10, .int 20, .int 30, .int 40, .int 50]) (fs := shF 10 20 30 40 50 []) (s1 := (LS ns P w2 w3 w4 w5 w6 w7 w8 w9 w10 w11 w12 w13 st)) (s2 := (LS ns P w2 w3 w4 w5 w6 w7 w8 w9 w10 w11 w12 w13 st)) (e' := [some (.fz (.int 10)), some (.fz (.int 20)), some (.fz (.int 30)), some (.fz (.int 40)), some (.fz (.int 50))]) (sto := [.tab P qn]) (dr := some st) rfl rfl (init_eq C NC (d := 10) (sl := 20) (j := 30) (r := 40) (v := 50) (by decide) (by decide) (by decide) (by decide) (by decide) (by decide) (by decide) _ _) (by show 5 ≤ 5; decide)
theorem sp2_ok : pureG F_are_spans 7 [.fz (.tup (sp2.map spD))] (.fz (.bl true)) := fin1_pure (k := 7) (by show 1 ≤ 7; decide) fun sto dr => by kernel_rfl
theorem newV_is : newV 10 20 50 (60 - 40) [] + stepR 30 (wayR sp2 (newV 10 20 50 (60 - 40) [])) = 20050 := by decide +kernel
theorem learn_made : ∃ t, dMeth C "learn" 6 [.L, .F, .F] [] (F_Shown_learn C NR NS) (dSlot 7) (dCons (dV (dC (.int 60))) (dCons (dV (dTup (dCons (dV (dTup (dCons (dV (dC (.int 0))) (dCons (dV (dC (.int 5))) (dNil))))) (dCons (dV (dTup (dCons (dV (dC (.int 7))) (dCons (dV (dC .non)) (dNil))))) (dNil))))) (dNil))) (LS ns P w2 w3 w4 w5 w6 (some (.own (.obj C (shF 10 20 30 40 50 [])))) w8 w9 w10 w11 w12 w13 st) = .ok t (LS ns P w2 w3 w4 w5 w6 (some (.own (.obj C SH))) w8 w9 w10 w11 w12 w13 st) := by
  obtain ⟨e', h, hl⟩ := learn_okK .tup (fun _ => ⟨rfl, rfl⟩) C NR NS (d := 10) (sl := 20) (j := 30) (r := 40) (v := 50) (t := 60) (sp := []) (sp' := sp2) sp2_ok rfl (by decide) (by decide) (by decide) (by decide) (by decide) (by decide) [.tab P qn] (some st)
  rw [newV_is] at h
  refine ⟨.fz (.int (stepR 30 (wayR sp2 (newV 10 20 50 (60 - 40) [])))), ?_⟩
  exact meth_lend (s1 := (LS ns P w2 w3 w4 w5 w6 (some (.own (.obj C (shF 10 20 30 40 50 [])))) w8 w9 w10 w11 w12 w13 st)) (s2 := (LS ns P w2 w3 w4 w5 w6 (some (.own (.obj C (shF 10 20 30 40 50 [])))) w8 w9 w10 w11 w12 w13 st)) (ds := [.int 60, .tup (sp2.map spD)]) (fs := shF 10 20 30 40 50 []) (fs1 := SH) (e' := e') (sto := [.tab P qn]) (dr := some st) rfl rfl rfl rfl rfl rfl h hl
theorem copy_ok : dMeth C "copy" 5 [.R] [] (F_Shown_copy C NC) (dSlot 7) dNil' (LS ns P w2 w3 w4 w5 w6 (some (.own (.obj C SH))) w8 w9 w10 w11 w12 w13 st) = .ok (.ow (.obj C SH)) (LS ns P w2 w3 w4 w5 w6 (some (.own (.obj C SH))) w8 w9 w10 w11 w12 w13 st) :=
  meth_pure (C := C) (m := "copy") (ms := [.R]) (fo := dSlot 7) (fl := dNil') (copy_pure C NC (d := 10) (s := 20) (j := 30) (r := 60) (v := 20050) (sp := sp2) (by decide) (by decide) (by decide) (by decide) (by decide) (by decide) (by decide)) rfl (recv_slot rfl rfl rfl) rfl rfl rfl rfl rfl
def badW (o : D) : Str := if isB o 60 1000000000 = true then "" else "reading"
theorem at_lam {o : D} (k : oddK o = true) : (isB o 60 1000000000 = true → ∃ t, dMeth C "at" 8 [.R, .F] [] (F_Shown_at C NR) (dSlot 7) (dPick [0] (dCons (dSlot 8) (dNil))) (LS ns P w2 w3 w4 w5 w6 (some (.own (.obj C SH))) (some (.fz o)) w9 w10 w11 w12 w13 st) = .ok t (LS ns P w2 w3 w4 w5 w6 (some (.own (.obj C SH))) (some (.fz o)) w9 w10 w11 w12 w13 st)) ∧ (isB o 60 1000000000 = false → dMeth C "at" 8 [.R, .F] [] (F_Shown_at C NR) (dSlot 7) (dPick [0] (dCons (dSlot 8) (dNil))) (LS ns P w2 w3 w4 w5 w6 (some (.own (.obj C SH))) (some (.fz o)) w9 w10 w11 w12 w13 st) = .err ⟨NR, []⟩ (LS ns P w2 w3 w4 w5 w6 (some (.own (.obj C SH))) (some (.fz o)) w9 w10 w11 w12 w13 st)) := by
  refine ⟨fun h => ?_, fun h => ?_⟩
  · obtain ⟨t, rfl, h1, h2⟩ := isB_int h
    exact ⟨_, meth_pure (C := C) (m := "at") (ms := [.R, .F]) (fo := dSlot 7) (fl := dPick [0] (dCons (dSlot 8) dNil)) (at_pure C NR (d := 10) (sl := 20) (j := 30) (r := 60) (v := 20050) (t := t) (sp := sp2) h1 h2 (by decide) (by decide) (by decide) (by decide)) rfl (recv_slot rfl rfl rfl) rfl rfl rfl rfl rfl⟩
  · exact meth_res (C := C) (m := "at") (ms := [.R, .F]) (fo := dSlot 7) (fl := dPick [0] (dCons (dSlot 8) dNil)) (at_er (C := C) (NR := NR) (d := 10) (sl := 20) (j := 30) (r := 60) (v := 20050) (sp := sp2) k h) rfl (recv_slot rfl rfl rfl) rfl rfl rfl rfl rfl
theorem dist_lam {o : D} (k : oddK o = true) : (isB o 60 1000000000 = true → ∃ t, dMeth C "distance" 4 [.R, .F] [] (F_Shown_distance C NR) (dSlot 7) (dCons (dSlot 8) (dNil)) (LS ns P w2 w3 w4 w5 w6 (some (.own (.obj C SH))) (some (.fz o)) w9 w10 w11 w12 w13 st) = .ok t (LS ns P w2 w3 w4 w5 w6 (some (.own (.obj C SH))) (some (.fz o)) w9 w10 w11 w12 w13 st)) ∧ (isB o 60 1000000000 = false → dMeth C "distance" 4 [.R, .F] [] (F_Shown_distance C NR) (dSlot 7) (dCons (dSlot 8) (dNil)) (LS ns P w2 w3 w4 w5 w6 (some (.own (.obj C SH))) (some (.fz o)) w9 w10 w11 w12 w13 st) = .err ⟨NR, []⟩ (LS ns P w2 w3 w4 w5 w6 (some (.own (.obj C SH))) (some (.fz o)) w9 w10 w11 w12 w13 st)) := by
  refine ⟨fun h => ?_, fun h => ?_⟩
  · obtain ⟨t, rfl, h1, h2⟩ := isB_int h
    exact ⟨_, meth_pure (C := C) (m := "distance") (ms := [.R, .F]) (fo := dSlot 7) (fl := dCons (dSlot 8) dNil) (dist_pure C NR (d := 10) (sl := 20) (j := 30) (r := 60) (v := 20050) (t := t) (sp := sp2) h1 h2 (by decide) (by decide) (by decide) (by decide) (by decide)) rfl (recv_slot rfl rfl rfl) rfl rfl rfl rfl rfl⟩
  · exact meth_res (C := C) (m := "distance") (ms := [.R, .F]) (fo := dSlot 7) (fl := dCons (dSlot 8) dNil) (dist_er (C := C) (NR := NR) (d := 10) (sl := 20) (j := 30) (r := 60) (v := 20050) (sp := sp2) k h) rfl (recv_slot rfl rfl rfl) rfl rfl rfl rfl rfl
theorem learn_lam1 {o y : D} (k : oddK o = true) (h : isB o 60 1000000000 = false) : dMeth C "learn" 6 [.L, .F, .F] [] (F_Shown_learn C NR NS) (dSlot 7) (dCons (dSlot 8) (dCons (dSlot 12) (dNil))) (LS ns P w2 w3 w4 w5 w6 (some (.own (.obj C SH))) (some (.fz o)) w9 w10 w11 (some (.fz y)) w13 st) = .err ⟨NR, []⟩ (LS ns P w2 w3 w4 w5 w6 (some (.own (.obj C SH))) (some (.fz o)) w9 w10 w11 (some (.fz y)) w13 st) :=
  lend_res (r := .error ⟨NR, []⟩) (s1 := (LS ns P w2 w3 w4 w5 w6 (some (.own (.obj C SH))) (some (.fz o)) w9 w10 w11 (some (.fz y)) w13 st)) (s2 := (LS ns P w2 w3 w4 w5 w6 (some (.own (.obj C SH))) (some (.fz o)) w9 w10 w11 (some (.fz y)) w13 st)) (e' := [some (.fz o), some (.fz y), none, none, none]) (sto := [.tab P qn]) (dr := some st) (ds := [o, y]) (fs := SH) (fs1 := SH) rfl rfl rfl rfl rfl rfl (learn_er1 (C := C) (NR := NR) (NS := NS) (d := 10) (sl := 20) (j := 30) (r := 60) (v := 20050) (sp := sp2) (y := y) k h _ _) (by show 2 ≤ 5; decide)
theorem learn_lam2 {o y : D} (h : isB o 60 1000000000 = true) (ha : pureG F_are_spans 7 [.fz y] (.fz (.bl false))) : dMeth C "learn" 6 [.L, .F, .F] [] (F_Shown_learn C NR NS) (dSlot 7) (dCons (dSlot 8) (dCons (dSlot 12) (dNil))) (LS ns P w2 w3 w4 w5 w6 (some (.own (.obj C SH))) (some (.fz o)) w9 w10 w11 (some (.fz y)) w13 st) = .err ⟨NS, []⟩ (LS ns P w2 w3 w4 w5 w6 (some (.own (.obj C SH))) (some (.fz o)) w9 w10 w11 (some (.fz y)) w13 st) := by
  obtain ⟨t, rfl, h1, h2⟩ := isB_int h
  exact lend_res (r := .error ⟨NS, []⟩) (s1 := (LS ns P w2 w3 w4 w5 w6 (some (.own (.obj C SH))) (some (.fz (.int t))) w9 w10 w11 (some (.fz y)) w13 st)) (s2 := (LS ns P w2 w3 w4 w5 w6 (some (.own (.obj C SH))) (some (.fz (.int t))) w9 w10 w11 (some (.fz y)) w13 st)) (e' := [some (.fz (.int t)), some (.fz y), none, none, none]) (sto := [.tab P qn]) (dr := some st) (ds := [.int t, y]) (fs := SH) (fs1 := SH) rfl rfl rfl rfl rfl rfl (learn_er2 (C := C) (NR := NR) (NS := NS) (d := 10) (sl := 20) (j := 30) (r := 60) (v := 20050) (sp := sp2) h1 h2 ha _ _) (by show 2 ≤ 5; decide)
theorem learn_lam3 {o y : D} {sp' : List Sp} (h : isB o 60 1000000000 = true) (hy : y = .lst (sp'.map spD) ∨ y = .tup (sp'.map spD)) (hz : sp'.length ≤ 100) (ha : pureG F_are_spans 7 [.fz y] (.fz (.bl true))) : ∃ t fs, dMeth C "learn" 6 [.L, .F, .F] [] (F_Shown_learn C NR NS) (dSlot 7) (dCons (dSlot 8) (dCons (dSlot 12) (dNil))) (LS ns P w2 w3 w4 w5 w6 (some (.own (.obj C SH))) (some (.fz o)) w9 w10 w11 (some (.fz y)) w13 st) = .ok t (LS ns P w2 w3 w4 w5 w6 (some (.own (.obj C fs))) (some (.fz o)) w9 w10 w11 (some (.fz y)) w13 st) := by
  obtain ⟨t, rfl, h1, h2⟩ := isB_int h
  have hl : ∀ y, (y = .lst (sp'.map spD) ∨ y = .tup (sp'.map spD)) → listD [y] = some (.ow (.lst (sp'.map spD))) := fun y hy => by
    rcases hy with rfl | rfl <;> rfl
  have li := hl y hy
  rcases hy with rfl | rfl
  · obtain ⟨e', q, l⟩ := learn_okK .lst (fun _ => ⟨rfl, rfl⟩) C NR NS (d := 10) (sl := 20) (j := 30) (r := 60) (v := 20050) (t := t) (sp := sp2) (sp' := sp') ha li h1 h2 (by decide) (by decide) (by decide) (by decide) [.tab P qn] (some st)
    refine ⟨.fz (.int (stepR 30 (wayR sp' (newV 10 20 20050 (t - 60) sp2)))), shF 10 20 30 t (newV 10 20 20050 (t - 60) sp2 + stepR 30 (wayR sp' (newV 10 20 20050 (t - 60) sp2))) sp', ?_⟩
    exact meth_lend (s1 := (LS ns P w2 w3 w4 w5 w6 (some (.own (.obj C SH))) (some (.fz (.int t))) w9 w10 w11 (some (.fz (.lst (sp'.map spD)))) w13 st)) (s2 := (LS ns P w2 w3 w4 w5 w6 (some (.own (.obj C SH))) (some (.fz (.int t))) w9 w10 w11 (some (.fz (.lst (sp'.map spD)))) w13 st)) (ds := [.int t, .lst (sp'.map spD)]) (fs := SH) (e' := e') (sto := [.tab P qn]) (dr := some st) rfl rfl rfl rfl rfl rfl q l
  · obtain ⟨e', q, l⟩ := learn_okK .tup (fun _ => ⟨rfl, rfl⟩) C NR NS (d := 10) (sl := 20) (j := 30) (r := 60) (v := 20050) (t := t) (sp := sp2) (sp' := sp') ha li h1 h2 (by decide) (by decide) (by decide) (by decide) [.tab P qn] (some st)
    refine ⟨.fz (.int (stepR 30 (wayR sp' (newV 10 20 20050 (t - 60) sp2)))), shF 10 20 30 t (newV 10 20 20050 (t - 60) sp2 + stepR 30 (wayR sp' (newV 10 20 20050 (t - 60) sp2))) sp', ?_⟩
    exact meth_lend (s1 := (LS ns P w2 w3 w4 w5 w6 (some (.own (.obj C SH))) (some (.fz (.int t))) w9 w10 w11 (some (.fz (.tup (sp'.map spD)))) w13 st)) (s2 := (LS ns P w2 w3 w4 w5 w6 (some (.own (.obj C SH))) (some (.fz (.int t))) w9 w10 w11 (some (.fz (.tup (sp'.map spD)))) w13 st)) (ds := [.int t, .tup (sp'.map spD)]) (fs := SH) (e' := e') (sto := [.tab P qn]) (dr := some st) rfl rfl rfl rfl rfl rfl q l
end
end Law
set_option Elab.async false
set_option linter.all false
set_option maxRecDepth 1000000
set_option maxHeartbeats 0
namespace Law
open PySem DL
section
variable (sto : List MO) (dr : Option DrawSt)
theorem a0lst : (lists 0).map (fun l => fin1 (F_are_spans (atA (.lst l) sto dr))) = (lists 0).map (fun l => some (.fz (.bl (areP l)), 7, sto, dr)) := by kernel_rfl
theorem b0lst : (lists 0).map (fun l => fin1 (F_law_are_spans (atL (.lst l) sto dr))) = (lists 0).map (fun l => some (.fz (.bl (areP l)), 5, sto, dr)) := by kernel_rfl
theorem a0tup : (lists 0).map (fun l => fin1 (F_are_spans (atA (.tup l) sto dr))) = (lists 0).map (fun l => some (.fz (.bl (areP l)), 7, sto, dr)) := by kernel_rfl
theorem b0tup : (lists 0).map (fun l => fin1 (F_law_are_spans (atL (.tup l) sto dr))) = (lists 0).map (fun l => some (.fz (.bl (areP l)), 5, sto, dr)) := by kernel_rfl
theorem a1lst : (lists 1).map (fun l => fin1 (F_are_spans (atA (.lst l) sto dr))) = (lists 1).map (fun l => some (.fz (.bl (areP l)), 7, sto, dr)) := by kernel_rfl
theorem b1lst : (lists 1).map (fun l => fin1 (F_law_are_spans (atL (.lst l) sto dr))) = (lists 1).map (fun l => some (.fz (.bl (areP l)), 5, sto, dr)) := by kernel_rfl
theorem a1tup : (lists 1).map (fun l => fin1 (F_are_spans (atA (.tup l) sto dr))) = (lists 1).map (fun l => some (.fz (.bl (areP l)), 7, sto, dr)) := by kernel_rfl
theorem b1tup : (lists 1).map (fun l => fin1 (F_law_are_spans (atL (.tup l) sto dr))) = (lists 1).map (fun l => some (.fz (.bl (areP l)), 5, sto, dr)) := by kernel_rfl
theorem a2lst : (lists 2).map (fun l => fin1 (F_are_spans (atA (.lst l) sto dr))) = (lists 2).map (fun l => some (.fz (.bl (areP l)), 7, sto, dr)) := by kernel_rfl
theorem b2lst : (lists 2).map (fun l => fin1 (F_law_are_spans (atL (.lst l) sto dr))) = (lists 2).map (fun l => some (.fz (.bl (areP l)), 5, sto, dr)) := by kernel_rfl
theorem a2tup : (lists 2).map (fun l => fin1 (F_are_spans (atA (.tup l) sto dr))) = (lists 2).map (fun l => some (.fz (.bl (areP l)), 7, sto, dr)) := by kernel_rfl
theorem b2tup : (lists 2).map (fun l => fin1 (F_law_are_spans (atL (.tup l) sto dr))) = (lists 2).map (fun l => some (.fz (.bl (areP l)), 5, sto, dr)) := by kernel_rfl
theorem a3lst : (lists 3).map (fun l => fin1 (F_are_spans (atA (.lst l) sto dr))) = (lists 3).map (fun l => some (.fz (.bl (areP l)), 7, sto, dr)) := by kernel_rfl
theorem b3lst : (lists 3).map (fun l => fin1 (F_law_are_spans (atL (.lst l) sto dr))) = (lists 3).map (fun l => some (.fz (.bl (areP l)), 5, sto, dr)) := by kernel_rfl
theorem a3tup : (lists 3).map (fun l => fin1 (F_are_spans (atA (.tup l) sto dr))) = (lists 3).map (fun l => some (.fz (.bl (areP l)), 7, sto, dr)) := by kernel_rfl
theorem b3tup : (lists 3).map (fun l => fin1 (F_law_are_spans (atL (.tup l) sto dr))) = (lists 3).map (fun l => some (.fz (.bl (areP l)), 5, sto, dr)) := by kernel_rfl
end
theorem of_map {α β : Type} {f g : α → β} {l : List α} (h : l.map f = l.map g) {x : α} (m : x ∈ l) : f x = g x := List.map_eq_map_iff.mp h x m
theorem are_lst {l : List D} {n : Nat} (hn : n ≤ 3) (m : l ∈ lists n) : pureG F_are_spans 7 [.fz (.lst l)] (.fz (.bl (areP l))) := fin1_pure (k := 7) (by show 1 ≤ 7; decide) fun sto dr => by
  match n, hn, m with
  | 0, _, m => exact of_map (a0lst sto dr) m
  | 1, _, m => exact of_map (a1lst sto dr) m
  | 2, _, m => exact of_map (a2lst sto dr) m
  | 3, _, m => exact of_map (a3lst sto dr) m
theorem lare_lst {l : List D} {n : Nat} (hn : n ≤ 3) (m : l ∈ lists n) : pureG F_law_are_spans 5 [.fz (.lst l)] (.fz (.bl (areP l))) := fin1_pure (k := 5) (by show 1 ≤ 5; decide) fun sto dr => by
  match n, hn, m with
  | 0, _, m => exact of_map (b0lst sto dr) m
  | 1, _, m => exact of_map (b1lst sto dr) m
  | 2, _, m => exact of_map (b2lst sto dr) m
  | 3, _, m => exact of_map (b3lst sto dr) m
theorem are_tup {l : List D} {n : Nat} (hn : n ≤ 3) (m : l ∈ lists n) : pureG F_are_spans 7 [.fz (.tup l)] (.fz (.bl (areP l))) := fin1_pure (k := 7) (by show 1 ≤ 7; decide) fun sto dr => by
  match n, hn, m with
  | 0, _, m => exact of_map (a0tup sto dr) m
  | 1, _, m => exact of_map (a1tup sto dr) m
  | 2, _, m => exact of_map (a2tup sto dr) m
  | 3, _, m => exact of_map (a3tup sto dr) m
theorem lare_tup {l : List D} {n : Nat} (hn : n ≤ 3) (m : l ∈ lists n) : pureG F_law_are_spans 5 [.fz (.tup l)] (.fz (.bl (areP l))) := fin1_pure (k := 5) (by show 1 ≤ 5; decide) fun sto dr => by
  match n, hn, m with
  | 0, _, m => exact of_map (b0tup sto dr) m
  | 1, _, m => exact of_map (b1tup sto dr) m
  | 2, _, m => exact of_map (b2tup sto dr) m
  | 3, _, m => exact of_map (b3tup sto dr) m
end Law
set_option Elab.async false
set_option linter.all false
set_option maxRecDepth 100000
set_option maxHeartbeats 4000000
namespace Law
open PySem DL
section
variable {ns : List Int} {P C HE NC NR NS : Addr} {w2 w3 w4 w5 w6 w7 w8 w9 w10 w11 w12 w13 : Option W} {st : DrawSt}
def isSpots (w : Option W) : Prop := w = some (.own (.lst spots)) ∨ w = some (.fz (.lst spots))
theorem pick_spot (h11 : isSpots w11) (hd : DrOk1 st) : ∃ (d : D) (st' : DrawSt), d ∈ spots ∧ DrOk1 st' ∧ dCall 2 [.F, .F] [] F_law_pick (dCons (dSlot 1) (dCons (dSlot 11) (dNil))) (LS ns P w2 w3 w4 w5 w6 w7 w8 w9 w10 w11 w12 w13 st) = .ok (.fz d) (LS ns P w2 w3 w4 w5 w6 w7 w8 w9 w10 (some (.fz (.lst spots))) w12 w13 st') := by
  rcases h11 with rfl | rfl
  · exact pick_at (s := (LS ns P w2 w3 w4 w5 w6 w7 w8 w9 w10 (some (.own (.lst spots))) w12 w13 st)) (s1 := (LS ns P w2 w3 w4 w5 w6 w7 w8 w9 w10 (some (.own (.lst spots))) w12 w13 st)) (s2 := (LS ns P w2 w3 w4 w5 w6 w7 w8 w9 w10 (some (.fz (.lst spots))) w12 w13 st)) (st := st) (i := 1) (ds := spots) (f := dSlot 11) (x := .slot 11) hd rfl rfl rfl (by decide) (by decide) rfl rfl
  · exact pick_at (s := (LS ns P w2 w3 w4 w5 w6 w7 w8 w9 w10 (some (.fz (.lst spots))) w12 w13 st)) (s1 := (LS ns P w2 w3 w4 w5 w6 w7 w8 w9 w10 (some (.fz (.lst spots))) w12 w13 st)) (s2 := (LS ns P w2 w3 w4 w5 w6 w7 w8 w9 w10 (some (.fz (.lst spots))) w12 w13 st)) (st := st) (i := 1) (ds := spots) (f := dSlot 11) (x := .slot 11) hd rfl rfl rfl (by decide) (by decide) rfl rfl
theorem some_loop : ∀ (items acc : List D) (w11 : Option W) (st : DrawSt), isSpots w11 → DrOk1 st → ∃ (out : List D) (st' : DrawSt) (w11' : Option W), out.length = items.length ∧ (∀ d ∈ out, d ∈ spots) ∧ DrOk1 st' ∧ isSpots w11' ∧
    loopC (.name 4) [4] (dYes) (dV (dCall 2 [.F, .F] [] F_law_pick (dCons (dSlot 1) (dCons (dSlot 11) (dNil))))) items acc (LS ns P w2 w3 none w5 w6 w7 w8 w9 w10 w11 w12 w13 st) = .ok (acc ++ out) (LS ns P w2 w3 none w5 w6 w7 w8 w9 w10 w11' w12 w13 st')
  | [], acc, w11, st, h11, hd => ⟨[], st, w11, rfl, fun _ m => (List.not_mem_nil m).elim, hd, h11, by rw [List.append_nil]; exact loopC_nil⟩
  | d :: items, acc, w11, st, h11, hd => by
    obtain ⟨x, st1, mx, hd1, e⟩ := pick_spot (ns := ns) (P := P) (w2 := w2) (w3 := w3) (w4 := some (.fz d)) (w5 := w5) (w6 := w6) (w7 := w7) (w8 := w8) (w9 := w9) (w10 := w10) (w12 := w12) (w13 := w13) h11 hd
    obtain ⟨out, st', w11', hl, hm, hd', h', q⟩ := some_loop items (acc ++ [x]) (some (.fz (.lst spots))) st1 (.inr rfl) hd1
    refine ⟨x :: out, st', w11', by rw [List.length_cons, hl, List.length_cons], fun y m => ?_, hd', h', ?_⟩
    · rcases List.mem_cons.mp m with rfl | m
      · exact mx
      · exact hm y m
    · refine loopC_step (s1 := (LS ns P w2 w3 (some (.fz d)) w5 w6 w7 w8 w9 w10 w11 w12 w13 st)) (s2 := (LS ns P w2 w3 (some (.fz d)) w5 w6 w7 w8 w9 w10 w11 w12 w13 st)) (s3 := (LS ns P w2 w3 (some (.fz d)) w5 w6 w7 w8 w9 w10 (some (.fz (.lst spots))) w12 w13 st1)) (s4 := (LS ns P w2 w3 none w5 w6 w7 w8 w9 w10 (some (.fz (.lst spots))) w12 w13 st1)) rfl rfl (frzV_fz e) rfl ?_
      rw [q, List.append_assoc]
      rfl
theorem some_comp (h4 : fzO w4) (h11 : isSpots w11) (hd : DrOk1 st) : ∃ (l : List D) (st' : DrawSt) (w11' : Option W), l.length ≤ 3 ∧ (∀ d ∈ l, d ∈ spots) ∧ DrOk1 st' ∧ isSpots w11' ∧
    dComp itR1 (.name 4) [4] (dYes) (dV (dCall 2 [.F, .F] [] F_law_pick (dCons (dSlot 1) (dCons (dSlot 11) (dNil))))) (dCons (dV (dCall 4 [.F, .F] [] F_law_take (dCons (dSlot 1) (dCons (dV (dC (.int 4))) (dNil))))) (dNil)) (LS ns P w2 w3 w4 w5 w6 w7 w8 w9 w10 w11 w12 w13 st) = .ok (.ow (.lst l)) (LS ns P w2 w3 w4 w5 w6 w7 w8 w9 w10 w11' w12 w13 st') := by
  obtain ⟨r, st1, r0, r1, hd1, e1⟩ := take_at (s := (LS ns P w2 w3 w4 w5 w6 w7 w8 w9 w10 w11 w12 w13 st)) (s1 := (LS ns P w2 w3 w4 w5 w6 w7 w8 w9 w10 w11 w12 w13 st)) (st := st) (i := 1) (n := 4) (f := dV (dC (.int 4))) (x := .t (.fz (.int 4))) hd rfl rfl rfl (by decide) (by decide) rfl rfl
  obtain ⟨j, rfl⟩ : ∃ j : Nat, r = j := ⟨r.toNat, by omega⟩
  have hj : j ≤ 3 := by omega
  have hb : itR1 [.int (j : Int)] = some (rangeL 0 j) := by
    have : bnd62 (j : Int) = true := by
      have : j = 0 ∨ j = 1 ∨ j = 2 ∨ j = 3 := by omega
      rcases this with rfl | rfl | rfl | rfl <;> rfl
    show (if bnd62 (j : Int) = true then some (rangeL 0 (j : Int).toNat) else none) = _
    rw [if_pos this, Int.toNat_natCast]
  have lr : (rangeL 0 j).length = j := by
    have : j = 0 ∨ j = 1 ∨ j = 2 ∨ j = 3 := by omega
    rcases this with rfl | rfl | rfl | rfl <;> rfl
  obtain ⟨out, st', w11', hl, hm, hd', h', q⟩ := some_loop (ns := ns) (P := P) (w2 := w2) (w3 := w3) (w5 := w5) (w6 := w6) (w7 := w7) (w8 := w8) (w9 := w9) (w10 := w10) (w12 := w12) (w13 := w13) (rangeL 0 j) [] w11 st1 h11 hd1
  refine ⟨out, st', w11', by rw [hl, lr]; exact hj, hm, hd', h', ?_⟩
  refine comp_eq (s1 := (LS ns P w2 w3 w4 w5 w6 w7 w8 w9 w10 w11 w12 w13 st1)) (s2 := (LS ns P w2 w3 w4 w5 w6 w7 w8 w9 w10 w11 w12 w13 st1)) (s3 := (LS ns P w2 w3 none w5 w6 w7 w8 w9 w10 w11' w12 w13 st')) (rs := [.t (.fz (.int (j : Int)))]) (ds := [.int (j : Int)]) (dCons_eq (dV_eq e1) (k := dNil) rfl) rfl hb ?_ (by rw [lr]; exact Nat.lt_of_le_of_lt hj (by decide)) q ?_
  · rcases h4 with rfl | ⟨_, rfl⟩ <;> rfl
  · rfl
theorem y_ok {l : List D} {y : D} (hl : l.length ≤ 3) (hm : ∀ d ∈ l, d ∈ spots) (h : y ∈ [D.lst l, .lst l, .tup l, .non, .dk [], .str "a"]) :
    ∃ b : Bool, pureG F_are_spans 7 [.fz y] (.fz (.bl b)) ∧ pureG F_law_are_spans 5 [.fz y] (.fz (.bl b)) ∧ (b = true → ∃ sp' : List Sp, (y = .lst (sp'.map spD) ∨ y = .tup (sp'.map spD)) ∧ sp'.length ≤ 100) := by
  have ml := mem_lists l.length l rfl hm
  have big : areP l = true → ∃ sp' : List Sp, l = sp'.map spD ∧ sp'.length ≤ 100 := fun h => by
    obtain ⟨sp', e⟩ := areP_sp h
    refine ⟨sp', e, ?_⟩
    have := congrArg List.length e
    rw [List.length_map] at this
    omega
  have isL : y = .lst l → _ := fun e => by
    subst e
    exact (⟨areP l, are_lst hl ml, lare_lst hl ml, fun h => by obtain ⟨sp', e, q⟩ := big h; exact ⟨sp', .inl (by rw [e]), q⟩⟩ : ∃ b : Bool, pureG F_are_spans 7 [.fz (D.lst l)] (.fz (.bl b)) ∧ pureG F_law_are_spans 5 [.fz (D.lst l)] (.fz (.bl b)) ∧ (b = true → ∃ sp' : List Sp, (D.lst l = .lst (sp'.map spD) ∨ D.lst l = .tup (sp'.map spD)) ∧ sp'.length ≤ 100))
  have no : ∀ z : D, (z = .non ∨ z = .dk [] ∨ z = .str "a") → pureG F_are_spans 7 [.fz z] (.fz (.bl false)) ∧ pureG F_law_are_spans 5 [.fz z] (.fz (.bl false)) := fun z hz => by
    rcases hz with rfl | rfl | rfl
    · exact ⟨fin1_pure (k := 7) (by show 1 ≤ 7; decide) fun sto dr => by kernel_rfl, fin1_pure (k := 5) (by show 1 ≤ 5; decide) fun sto dr => by kernel_rfl⟩
    · exact ⟨fin1_pure (k := 7) (by show 1 ≤ 7; decide) fun sto dr => by kernel_rfl, fin1_pure (k := 5) (by show 1 ≤ 5; decide) fun sto dr => by kernel_rfl⟩
    · exact ⟨fin1_pure (k := 7) (by show 1 ≤ 7; decide) fun sto dr => by kernel_rfl, fin1_pure (k := 5) (by show 1 ≤ 5; decide) fun sto dr => by kernel_rfl⟩
  simp only [List.mem_cons, List.not_mem_nil, or_false] at h
  rcases h with e | e | e | e | e | e
  · subst e; exact isL rfl
  · subst e; exact isL rfl
  · subst e
    exact ⟨areP l, are_tup hl ml, lare_tup hl ml, fun h => by obtain ⟨sp', e, q⟩ := big h; exact ⟨sp', .inr (by rw [e]), q⟩⟩
  · exact ⟨false, (no y (.inl e)).1, (no y (.inl e)).2, fun z => by cases z⟩
  · exact ⟨false, (no y (.inr (.inl e))).1, (no y (.inr (.inl e))).2, fun z => by cases z⟩
  · exact ⟨false, (no y (.inr (.inr e))).1, (no y (.inr (.inr e))).2, fun z => by cases z⟩
theorem pick_some {l : List D} (hl : l.length ≤ 3) (hd : DrOk1 st) : ∃ (y : D) (st' : DrawSt), y ∈ [D.lst l, .lst l, .tup l, .non, .dk [], .str "a"] ∧ DrOk1 st' ∧ dCall 2 [.F, .F] [] F_law_pick (dCons (dSlot 1) (dCons (dV (dLst (dCons (dSlot 12) (dCons (dSlot 12) (dCons (dV (dCallB tupleD (dCons (dSlot 12) (dNil)))) (dCons (dV (dC .non)) (dCons (dV (dNewK)) (dCons (dV (dC (.str "a"))) (dNil))))))))) (dNil))) (LS ns P w2 w3 w4 w5 w6 w7 w8 w9 w10 w11 (some (.own (.lst l))) w13 st) = .ok (.fz y) (LS ns P w2 w3 w4 w5 w6 w7 w8 w9 w10 w11 (some (.fz (.lst l))) w13 st') := by
  have hz : l.length ≤ sizeLine := Nat.le_trans hl (by decide)
  have tp : dCallB tupleD (dCons (dSlot 12) (dNil)) (LS ns P w2 w3 w4 w5 w6 w7 w8 w9 w10 w11 (some (.own (.lst l))) w13 st) = .ok (.fz (.tup l)) (LS ns P w2 w3 w4 w5 w6 w7 w8 w9 w10 w11 (some (.own (.lst l))) w13 st) := dCallB_eq (dCons_eq rfl (k := dNil) rfl) rfl rfl
  refine pick_at (s := (LS ns P w2 w3 w4 w5 w6 w7 w8 w9 w10 w11 (some (.own (.lst l))) w13 st)) (s1 := (LS ns P w2 w3 w4 w5 w6 w7 w8 w9 w10 w11 (some (.fz (.lst l))) w13 st)) (s2 := (LS ns P w2 w3 w4 w5 w6 w7 w8 w9 w10 w11 (some (.fz (.lst l))) w13 st)) (st := st) (i := 1) (ds := [D.lst l, .lst l, .tup l, .non, .dk [], .str "a"]) (x := .t (.ow (.lst [D.lst l, .lst l, .tup l, .non, .dk [], .str "a"]))) hd rfl rfl rfl (by show 0 < 6; decide) (by show 6 < 18446744073709551616; decide) (dV_eq (dLst_eq (dCons_eq rfl (dCons_eq rfl (dCons_eq (dV_eq tp) (dCons_eq rfl (dCons_eq rfl (dCons_eq rfl (k := dNil) rfl)))))) rfl (by show 6 ≤ sizeLine; decide))) rfl
end
end Law
set_option Elab.async false
set_option linter.all false
set_option maxRecDepth 100000
set_option maxHeartbeats 8000000
namespace Law
open PySem DL
def Inv (ns : List Int) (P : Addr) (s : State) : Prop := ∃ (w2 w3 w4 w5 w6 w7 w8 w9 w10 w11 w12 w13 : Option W) (st : DrawSt), free w2 ∧ free w3 ∧ fzO w4 ∧ free w5 ∧ free w6 ∧ free w7 ∧ free w8 ∧ free w9 ∧ free w10 ∧ free w11 ∧ free w12 ∧ free w13 ∧ DrOk1 st ∧ s = LS ns P w2 w3 w4 w5 w6 w7 w8 w9 w10 w11 w12 w13 st
theorem pow9 (s : State) : dOp2 powD (dV (dC (.int 10))) (dV (dC (.int 9))) s = .ok (.fz (.int 1000000000)) s := by kernel_rfl
theorem kept_same : neT kept kept = some (.fz (.bl false)) := by kernel_rfl
theorem turn_ok {ns : List Int} {P C HE NC NR NS : Addr} {w2 w3 w4 w5 w6 w7 w8 w9 w10 w11 w12 w13 : Option W} {st : DrawSt} {Rt : DL.T → State → Prop} (ap : Ap NC NR NS) (h2 : free w2) (h3 : free w3) (h4 : fzO w4) (h5 : free w5) (h6 : free w6) (h7 : free w7) (h8 : free w8) (h9 : free w9) (h10 : free w10) (h11 : free w11) (h12 : free w12) (h13 : free w13) (hd : DrOk1 st) :
    okS (L_law_1 C HE NC NR NS P) (LS ns P w2 w3 w4 w5 w6 w7 w8 w9 w10 w11 w12 w13 st) (Inv ns P) Rt := by
  unfold L_law_1
  refine okS.seq (okS.asg (ok.eq (a := .ow (.lst [.int 10, .int 20, .int 30, .int 40, .int 50])) (s1 := (LS ns P w2 w3 w4 w5 w6 w7 w8 w9 w10 w11 w12 w13 st)) rfl ⟨can_free rfl h3, ?_⟩))
  show okS _ (LS ns P w2 (some (.own (.lst [.int 10, .int 20, .int 30, .int 40, .int 50]))) w4 w5 w6 w7 w8 w9 w10 w11 w12 w13 st) _ _
  refine okS.seq (five_loop hd h4 fun ds w4 st f hd h4 => ?_)
  have hl := f.len
  obtain ⟨a, b, c, d, e, rfl⟩ : ∃ a b c d e, ds = [a, b, c, d, e] := by
    match ds, hl with
    | [a, b, c, d, e], _ => exact ⟨a, b, c, d, e, rfl⟩
  have k : ∀ x ∈ [a, b, c, d, e], oddK x = true := fun x m => odd_k (f.mem x m)
  refine okS.seq (okS.asg (ok.eq (s1 := (LS ns P w2 (some (.own (.lst [a, b, c, d, e]))) w4 w5 w6 w7 w8 w9 w10 w11 w12 w13 st)) (andV_b (int_at (i := 0) (x := a) (lo := 0) (hi := 500) rfl (k a (by simp)) rfl rfl) (andV_b (int_at (i := 1) (x := b) (lo := 0) (hi := 900) rfl (k b (by simp)) rfl rfl) (int_at (i := 3) (x := d) (lo := 0) (hi := 1000000000) rfl (k d (by simp)) rfl (by kernel_rfl)) rfl) rfl) ⟨can_free rfl h5, ?_⟩))
  show okS _ (LS ns P w2 (some (.own (.lst [a, b, c, d, e]))) w4 (some (.fz (.bl (isB a 0 500 && (isB b 0 900 && isB d 0 1000000000))))) w6 w7 w8 w9 w10 w11 w12 w13 st) _ _
  refine okS.seq (okS.asg (ok.eq (s1 := (LS ns P w2 (some (.own (.lst [a, b, c, d, e]))) w4 (some (.fz (.bl (isB a 0 500 && (isB b 0 900 && isB d 0 1000000000))))) w6 w7 w8 w9 w10 w11 w12 w13 st)) (andV_b (a := isB a 0 500 && (isB b 0 900 && isB d 0 1000000000)) rfl (andV_b (int_at (i := 2) (x := c) (lo := 0) (hi := T60) rfl (k c (by simp)) rfl (by kernel_rfl)) (int_at (i := 4) (x := e) (lo := -T60) (hi := T60) rfl (k e (by simp)) (by kernel_rfl) (by kernel_rfl)) rfl) rfl) ⟨rfl, ?_⟩))
  rw [good_is f]
  show okS _ (LS ns P w2 (some (.own (.lst [a, b, c, d, e]))) w4 (some (.fz (.bl (goodV a b c d e)))) w6 w7 w8 w9 w10 w11 w12 w13 st) _ _
  have e6 : dIf (dB (dVar 5)) (dC (.str "")) (dC (.str "clock")) (LS ns P w2 (some (.own (.lst [a, b, c, d, e]))) w4 (some (.fz (.bl (goodV a b c d e)))) w6 w7 w8 w9 w10 w11 w12 w13 st) = .ok (.fz (.str (if goodV a b c d e = true then "" else "clock"))) (LS ns P w2 (some (.own (.lst [a, b, c, d, e]))) w4 (some (.fz (.bl (goodV a b c d e)))) w6 w7 w8 w9 w10 w11 w12 w13 st) := by
    cases goodV a b c d e <;> rfl
  refine okS.seq (okS.asg (ok.eq e6 ⟨can_free rfl h6, ?_⟩))
  show okS _ (LS ns P w2 (some (.own (.lst [a, b, c, d, e]))) w4 (some (.fz (.bl (goodV a b c d e)))) (some (.fz (.str (if goodV a b c d e = true then "" else "clock")))) w7 w8 w9 w10 w11 w12 w13 st) _ _
  have m := make_lam (ns := ns) (P := P) (C := C) (NC := NC) (w2 := w2) (w4 := w4) (w5 := some (.fz (.bl (goodV a b c d e)))) (w6 := some (.fz (.str (if goodV a b c d e = true then "" else "clock")))) (w7 := w7) (w8 := w8) (w9 := w9) (w10 := w10) (w11 := w11) (w12 := w12) (w13 := w13) (st := st) f
  have tl : told (if goodV a b c d e = true then "" else "clock") := by
    cases goodV a b c d e
    · exact .inr (.inl rfl)
    · exact .inl rfl
  have lam := same_told (s := (LS ns P w2 (some (.own (.lst [a, b, c, d, e]))) w4 (some (.fz (.bl (goodV a b c d e)))) (some (.fz (.str (if goodV a b c d e = true then "" else "clock")))) w7 w8 w9 w10 w11 w12 w13 st)) (s1 := (LS ns P w2 (some (.own (.lst [a, b, c, d, e]))) w4 (some (.fz (.bl (goodV a b c d e)))) (some (.fz (.str (if goodV a b c d e = true then "" else "clock")))) w7 w8 w9 w10 w11 w12 w13 st)) (i := 6) tl (fl := dLamG 0 P qn 4 1 (MT NC NR NS) (F_law_error HE NC NR NS) (dMakeKM C 6 [.F, .F, .F, .F, .F] (F_Shown_init C NC) (dCons (dV (dOp2 ixD (dSlot 3) (dV (dC (.int 0))))) (dCons (dV (dOp2 ixD (dSlot 3) (dV (dC (.int 1))))) (dCons (dV (dOp2 ixD (dSlot 3) (dV (dC (.int 2))))) (dNil)))) [1, 0] (dCons (dV (dOp2 ixD (dSlot 3) (dV (dC (.int 4))))) (dCons (dV (dOp2 ixD (dSlot 3) (dV (dC (.int 3))))) (dNil))))) (by
    cases q : goodV a b c d e with
    | true =>
      rw [q] at m
      obtain ⟨t, mt⟩ := m.1 rfl
      exact lam_none tab_is mt
    | false =>
      rw [q] at m
      exact lam_clock ap tab_is (m.2 rfl)) rfl
  refine okS.seq (okS.ite (ok.eq lam (no (okS.skip ?_))))
  clear lam m
  refine okS.seq (okS.asg (ok.eq (made_ok (C := C) (NC := NC)) ⟨can_free rfl h7, ?_⟩))
  show okS _ (LS ns P w2 (some (.own (.lst [a, b, c, d, e]))) w4 (some (.fz (.bl (goodV a b c d e)))) (some (.fz (.str (if goodV a b c d e = true then "" else "clock")))) (some (.own (.obj C (shF 10 20 30 40 50 [])))) w8 w9 w10 w11 w12 w13 st) _ _
  obtain ⟨t7, lm⟩ := learn_made (ns := ns) (P := P) (C := C) (NR := NR) (NS := NS) (w2 := w2) (w3 := (some (.own (.lst [a, b, c, d, e])))) (w4 := w4) (w5 := (some (.fz (.bl (goodV a b c d e))))) (w6 := (some (.fz (.str (if goodV a b c d e = true then "" else "clock"))))) (w8 := w8) (w9 := w9) (w10 := w10) (w11 := w11) (w12 := w12) (w13 := w13) (st := st)
  refine okS.seq (okS.expr (ok.eq lm ?_))
  obtain ⟨o, st1, om, hd1, eo⟩ := odd_call (s := (LS ns P w2 (some (.own (.lst [a, b, c, d, e]))) w4 (some (.fz (.bl (goodV a b c d e)))) (some (.fz (.str (if goodV a b c d e = true then "" else "clock")))) (some (.own (.obj C SH))) w8 w9 w10 w11 w12 w13 st)) rfl rfl hd
  have ko := odd_k (odd_vals om)
  refine okS.seq (okS.par (ok.eq eo (ok.eq (tri7 (C := C) (NR := NR)) ⟨can_free rfl h8, can_free rfl h9, ?_⟩)))
  show okS _ (LS ns P w2 (some (.own (.lst [a, b, c, d, e]))) w4 (some (.fz (.bl (goodV a b c d e)))) (some (.fz (.str (if goodV a b c d e = true then "" else "clock")))) (some (.own (.obj C SH))) (some (.fz o)) (some (.fz kept)) w10 w11 w12 w13 st1) _ _
  have e10 : dIf (dB (dCall 3 [.F, .F, .F] [] F_law_is_int (dCons (dSlot 8) (dCons (dV (dC (.int 60))) (dCons (dV (dOp2 powD (dV (dC (.int 10))) (dV (dC (.int 9))))) (dNil)))))) (dC (.str "")) (dC (.str "reading")) (LS ns P w2 (some (.own (.lst [a, b, c, d, e]))) w4 (some (.fz (.bl (goodV a b c d e)))) (some (.fz (.str (if goodV a b c d e = true then "" else "clock")))) (some (.own (.obj C SH))) (some (.fz o)) (some (.fz kept)) w10 w11 w12 w13 st1) = .ok (.fz (.str (badW o))) (LS ns P w2 (some (.own (.lst [a, b, c, d, e]))) w4 (some (.fz (.bl (goodV a b c d e)))) (some (.fz (.str (if goodV a b c d e = true then "" else "clock")))) (some (.own (.obj C SH))) (some (.fz o)) (some (.fz kept)) w10 w11 w12 w13 st1) := by
    have q := call_pure (lisD (x := o) (a := 60) (b := 1000000000) ko) (ms := [.F, .F, .F]) (fl := dCons (dSlot 8) (dCons (dV (dC (.int 60))) (dCons (dV (dOp2 powD (dV (dC (.int 10))) (dV (dC (.int 9))))) (dNil)))) (s := (LS ns P w2 (some (.own (.lst [a, b, c, d, e]))) w4 (some (.fz (.bl (goodV a b c d e)))) (some (.fz (.str (if goodV a b c d e = true then "" else "clock")))) (some (.own (.obj C SH))) (some (.fz o)) (some (.fz kept)) w10 w11 w12 w13 st1)) (dCons_eq rfl (dCons_eq rfl (dCons_eq (dV_eq (pow9 _)) (k := dNil) rfl))) rfl rfl rfl rfl
    unfold badW
    cases z : isB o 60 1000000000 with
    | true => rw [z] at q; exact dIf_t (dB_eq q) rfl
    | false => rw [z] at q; exact dIf_f (dB_eq q) rfl
  refine okS.seq (okS.asg (ok.eq e10 ⟨can_free rfl h10, ?_⟩))
  show okS _ (LS ns P w2 (some (.own (.lst [a, b, c, d, e]))) w4 (some (.fz (.bl (goodV a b c d e)))) (some (.fz (.str (if goodV a b c d e = true then "" else "clock")))) (some (.own (.obj C SH))) (some (.fz o)) (some (.fz kept)) (some (.fz (.str (badW o)))) w11 w12 w13 st1) _ _
  have tb : told (badW o) := by
    unfold badW
    cases isB o 60 1000000000
    · exact .inr (.inr (.inl rfl))
    · exact .inl rfl
  have m := at_lam (ns := ns) (P := P) (C := C) (NR := NR) (w2 := w2) (w3 := (some (.own (.lst [a, b, c, d, e])))) (w4 := w4) (w5 := (some (.fz (.bl (goodV a b c d e))))) (w6 := (some (.fz (.str (if goodV a b c d e = true then "" else "clock"))))) (w9 := (some (.fz kept))) (w10 := (some (.fz (.str (badW o))))) (w11 := w11) (w12 := w12) (w13 := w13) (st := st1) ko
  have lam := same_told (s := (LS ns P w2 (some (.own (.lst [a, b, c, d, e]))) w4 (some (.fz (.bl (goodV a b c d e)))) (some (.fz (.str (if goodV a b c d e = true then "" else "clock")))) (some (.own (.obj C SH))) (some (.fz o)) (some (.fz kept)) (some (.fz (.str (badW o)))) w11 w12 w13 st1)) (s1 := (LS ns P w2 (some (.own (.lst [a, b, c, d, e]))) w4 (some (.fz (.bl (goodV a b c d e)))) (some (.fz (.str (if goodV a b c d e = true then "" else "clock")))) (some (.own (.obj C SH))) (some (.fz o)) (some (.fz kept)) (some (.fz (.str (badW o)))) w11 w12 w13 st1)) (i := 10) tb (fl := dLamG 0 P qn 4 1 (MT NC NR NS) (F_law_error HE NC NR NS) (dMeth C "at" 8 [.R, .F] [] (F_Shown_at C NR) (dSlot 7) (dPick [0] (dCons (dSlot 8) (dNil))))) (by
    cases q : isB o 60 1000000000 with
    | true =>
      obtain ⟨t, mt⟩ := m.1 q
      have eb : badW o = "" := by unfold badW; rw [q]; rfl
      have mt2 := lam_none (HE := HE) (NC := NC) (NR := NR) (NS := NS) tab_is mt
      rw [mt2, eb]
    | false =>
      have eb : badW o = "reading" := by unfold badW; rw [q]; rfl
      have mt2 := lam_reading (HE := HE) ap tab_is (m.2 q)
      rw [mt2, eb]) rfl
  refine okS.seq (okS.ite (ok.eq lam (no (okS.skip ?_))))
  clear lam m
  have m := dist_lam (ns := ns) (P := P) (C := C) (NR := NR) (w2 := w2) (w3 := (some (.own (.lst [a, b, c, d, e])))) (w4 := w4) (w5 := (some (.fz (.bl (goodV a b c d e))))) (w6 := (some (.fz (.str (if goodV a b c d e = true then "" else "clock"))))) (w9 := (some (.fz kept))) (w10 := (some (.fz (.str (badW o))))) (w11 := w11) (w12 := w12) (w13 := w13) (st := st1) ko
  have lam := same_told (s := (LS ns P w2 (some (.own (.lst [a, b, c, d, e]))) w4 (some (.fz (.bl (goodV a b c d e)))) (some (.fz (.str (if goodV a b c d e = true then "" else "clock")))) (some (.own (.obj C SH))) (some (.fz o)) (some (.fz kept)) (some (.fz (.str (badW o)))) w11 w12 w13 st1)) (s1 := (LS ns P w2 (some (.own (.lst [a, b, c, d, e]))) w4 (some (.fz (.bl (goodV a b c d e)))) (some (.fz (.str (if goodV a b c d e = true then "" else "clock")))) (some (.own (.obj C SH))) (some (.fz o)) (some (.fz kept)) (some (.fz (.str (badW o)))) w11 w12 w13 st1)) (i := 10) tb (fl := dLamG 0 P qn 4 1 (MT NC NR NS) (F_law_error HE NC NR NS) (dMeth C "distance" 4 [.R, .F] [] (F_Shown_distance C NR) (dSlot 7) (dCons (dSlot 8) (dNil)))) (by
    cases q : isB o 60 1000000000 with
    | true =>
      obtain ⟨t, mt⟩ := m.1 q
      have eb : badW o = "" := by unfold badW; rw [q]; rfl
      have mt2 := lam_none (HE := HE) (NC := NC) (NR := NR) (NS := NS) tab_is mt
      rw [mt2, eb]
    | false =>
      have eb : badW o = "reading" := by unfold badW; rw [q]; rfl
      have mt2 := lam_reading (HE := HE) ap tab_is (m.2 q)
      rw [mt2, eb]) rfl
  refine okS.seq (okS.ite (ok.eq lam (no (okS.skip ?_))))
  clear lam m
  refine okS.seq (okS.asg (ok.eq (a := .ow (.lst [.tup [.int 5, .int 4], .tup [.int 0, .int 5], .tup [.int 6, .int 9], .tup [.int 7, .int 9], .tup [.non, .int 3], .tup [.int 8, .non], .tup [.non, .non], .tup [.int 0, .bl true], .lst [.int 0, .int 5], .tup [.int 0]])) (s1 := (LS ns P w2 (some (.own (.lst [a, b, c, d, e]))) w4 (some (.fz (.bl (goodV a b c d e)))) (some (.fz (.str (if goodV a b c d e = true then "" else "clock")))) (some (.own (.obj C SH))) (some (.fz o)) (some (.fz kept)) (some (.fz (.str (badW o)))) w11 w12 w13 st1)) rfl ⟨can_free rfl h11, ?_⟩))
  show okS _ (LS ns P w2 (some (.own (.lst [a, b, c, d, e]))) w4 (some (.fz (.bl (goodV a b c d e)))) (some (.fz (.str (if goodV a b c d e = true then "" else "clock")))) (some (.own (.obj C SH))) (some (.fz o)) (some (.fz kept)) (some (.fz (.str (badW o)))) (some (.own (.lst [.tup [.int 5, .int 4], .tup [.int 0, .int 5], .tup [.int 6, .int 9], .tup [.int 7, .int 9], .tup [.non, .int 3], .tup [.int 8, .non], .tup [.non, .non], .tup [.int 0, .bl true], .lst [.int 0, .int 5], .tup [.int 0]]))) w12 w13 st1) _ _
  refine okS.seq (okS.asg (ok.eq (a := .ow (.lst spots)) (s1 := (LS ns P w2 (some (.own (.lst [a, b, c, d, e]))) w4 (some (.fz (.bl (goodV a b c d e)))) (some (.fz (.str (if goodV a b c d e = true then "" else "clock")))) (some (.own (.obj C SH))) (some (.fz o)) (some (.fz kept)) (some (.fz (.str (badW o)))) (some (.own (.lst [.tup [.int 5, .int 4], .tup [.int 0, .int 5], .tup [.int 6, .int 9], .tup [.int 7, .int 9], .tup [.non, .int 3], .tup [.int 8, .non], .tup [.non, .non], .tup [.int 0, .bl true], .lst [.int 0, .int 5], .tup [.int 0]]))) w12 w13 st1)) rfl ⟨rfl, ?_⟩))
  show okS _ (LS ns P w2 (some (.own (.lst [a, b, c, d, e]))) w4 (some (.fz (.bl (goodV a b c d e)))) (some (.fz (.str (if goodV a b c d e = true then "" else "clock")))) (some (.own (.obj C SH))) (some (.fz o)) (some (.fz kept)) (some (.fz (.str (badW o)))) (some (.own (.lst spots))) w12 w13 st1) _ _
  obtain ⟨l, st2, w11', ll, lm, hd2, h11', ec⟩ := some_comp (ns := ns) (P := P) (w2 := w2) (w3 := (some (.own (.lst [a, b, c, d, e])))) (w4 := w4) (w5 := (some (.fz (.bl (goodV a b c d e))))) (w6 := (some (.fz (.str (if goodV a b c d e = true then "" else "clock"))))) (w7 := (some (.own (.obj C SH)))) (w8 := (some (.fz o))) (w9 := (some (.fz kept))) (w10 := (some (.fz (.str (badW o))))) (w11 := (some (.own (.lst spots)))) (w12 := w12) (w13 := w13) (st := st1) h4 (.inl rfl) hd1
  refine okS.seq (okS.asg (ok.eq ec ⟨can_free rfl h12, ?_⟩))
  show okS _ (LS ns P w2 (some (.own (.lst [a, b, c, d, e]))) w4 (some (.fz (.bl (goodV a b c d e)))) (some (.fz (.str (if goodV a b c d e = true then "" else "clock")))) (some (.own (.obj C SH))) (some (.fz o)) (some (.fz kept)) (some (.fz (.str (badW o)))) w11' (some (.own (.lst l))) w13 st2) _ _
  obtain ⟨y, st3, my, hd3, ey⟩ := pick_some (ns := ns) (P := P) (w2 := w2) (w3 := (some (.own (.lst [a, b, c, d, e])))) (w4 := w4) (w5 := (some (.fz (.bl (goodV a b c d e))))) (w6 := (some (.fz (.str (if goodV a b c d e = true then "" else "clock"))))) (w7 := (some (.own (.obj C SH)))) (w8 := (some (.fz o))) (w9 := (some (.fz kept))) (w10 := (some (.fz (.str (badW o))))) (w11 := w11') (w13 := w13) (st := st2) ll hd2
  refine okS.seq (okS.asg (ok.eq ey ⟨rfl, ?_⟩))
  show okS _ (LS ns P w2 (some (.own (.lst [a, b, c, d, e]))) w4 (some (.fz (.bl (goodV a b c d e)))) (some (.fz (.str (if goodV a b c d e = true then "" else "clock")))) (some (.own (.obj C SH))) (some (.fz o)) (some (.fz kept)) (some (.fz (.str (badW o)))) w11' (some (.fz y)) w13 st3) _ _
  obtain ⟨bb, y1, y2, y3⟩ := y_ok ll lm my
  have e6 : dIf (dB (dOp2 neT (dSlot 10) (dV (dC (.str ""))))) (dVar 10) (dIf (dB (dCall 5 [.F] [] F_law_are_spans (dCons (dSlot 12) (dNil)))) (dC (.str "")) (dC (.str "spans"))) (LS ns P w2 (some (.own (.lst [a, b, c, d, e]))) w4 (some (.fz (.bl (goodV a b c d e)))) (some (.fz (.str (if goodV a b c d e = true then "" else "clock")))) (some (.own (.obj C SH))) (some (.fz o)) (some (.fz kept)) (some (.fz (.str (badW o)))) w11' (some (.fz y)) w13 st3) = .ok (.fz (.str (if isB o 60 1000000000 = true then (if bb = true then "" else "spans") else "reading"))) (LS ns P w2 (some (.own (.lst [a, b, c, d, e]))) w4 (some (.fz (.bl (goodV a b c d e)))) (some (.fz (.str (if goodV a b c d e = true then "" else "clock")))) (some (.own (.obj C SH))) (some (.fz o)) (some (.fz kept)) (some (.fz (.str (badW o)))) w11' (some (.fz y)) w13 st3) := by
    have q := call_pure y2 (ms := [.F]) (fl := dCons (dSlot 12) dNil) (s := (LS ns P w2 (some (.own (.lst [a, b, c, d, e]))) w4 (some (.fz (.bl (goodV a b c d e)))) (some (.fz (.str (if goodV a b c d e = true then "" else "clock")))) (some (.own (.obj C SH))) (some (.fz o)) (some (.fz kept)) (some (.fz (.str (badW o)))) w11' (some (.fz y)) w13 st3)) rfl rfl rfl rfl rfl
    cases z : isB o 60 1000000000 with
    | true =>
      have eb : badW o = "" := by unfold badW; rw [z]; rfl
      rw [eb] at q ⊢
      refine dIf_f (dB_eq (b := false) (dOp2_eq rfl rfl rfl rfl (by kernel_rfl))) ?_
      cases bb with
      | true => exact dIf_t (dB_eq q) rfl
      | false => exact dIf_f (dB_eq q) rfl
    | false =>
      have eb : badW o = "reading" := by unfold badW; rw [z]; rfl
      rw [eb]
      exact dIf_t (dB_eq (b := true) (dOp2_eq rfl rfl rfl rfl (by kernel_rfl))) rfl
  refine okS.seq (okS.asg (ok.eq e6 ⟨rfl, ?_⟩))
  show okS _ (LS ns P w2 (some (.own (.lst [a, b, c, d, e]))) w4 (some (.fz (.bl (goodV a b c d e)))) (some (.fz (.str (if isB o 60 1000000000 = true then (if bb = true then "" else "spans") else "reading")))) (some (.own (.obj C SH))) (some (.fz o)) (some (.fz kept)) (some (.fz (.str (badW o)))) w11' (some (.fz y)) w13 st3) _ _
  refine okS.seq (okS.asg (ok.eq (copy_ok (C := C) (NC := NC)) ⟨can_free rfl h13, ?_⟩))
  show okS _ (LS ns P w2 (some (.own (.lst [a, b, c, d, e]))) w4 (some (.fz (.bl (goodV a b c d e)))) (some (.fz (.str (if isB o 60 1000000000 = true then (if bb = true then "" else "spans") else "reading")))) (some (.own (.obj C SH))) (some (.fz o)) (some (.fz kept)) (some (.fz (.str (badW o)))) w11' (some (.fz y)) (some (.own (.obj C SH))) st3) _ _
  have td : told (if isB o 60 1000000000 = true then (if bb = true then "" else "spans") else "reading") := by
    cases isB o 60 1000000000
    · exact .inr (.inr (.inl rfl))
    · cases bb
      · exact .inr (.inr (.inr rfl))
      · exact .inl rfl
  have fin : ∃ fs : List (Str × D), dB (dOp2 neT (dV (dLamG 0 P qn 4 1 (MT NC NR NS) (F_law_error HE NC NR NS) (dMeth C "learn" 6 [.L, .F, .F] [] (F_Shown_learn C NR NS) (dSlot 7) (dCons (dSlot 8) (dCons (dSlot 12) (dNil)))))) (dSlot 6)) (LS ns P w2 (some (.own (.lst [a, b, c, d, e]))) w4 (some (.fz (.bl (goodV a b c d e)))) (some (.fz (.str (if isB o 60 1000000000 = true then (if bb = true then "" else "spans") else "reading")))) (some (.own (.obj C SH))) (some (.fz o)) (some (.fz kept)) (some (.fz (.str (badW o)))) w11' (some (.fz y)) (some (.own (.obj C SH))) st3) = .ok false (LS ns P w2 (some (.own (.lst [a, b, c, d, e]))) w4 (some (.fz (.bl (goodV a b c d e)))) (some (.fz (.str (if isB o 60 1000000000 = true then (if bb = true then "" else "spans") else "reading")))) (some (.own (.obj C fs))) (some (.fz o)) (some (.fz kept)) (some (.fz (.str (badW o)))) w11' (some (.fz y)) (some (.own (.obj C SH))) st3) ∧ (((if isB o 60 1000000000 = true then (if bb = true then "" else "spans") else "reading") : Str) ≠ "" → fs = SH) := by
    cases z : isB o 60 1000000000 with
    | false =>
      refine ⟨SH, ?_, fun _ => rfl⟩
      rw [z] at td
      exact same_told (i := 6) td (lam_reading (HE := HE) ap tab_is (learn_lam1 ko z)) rfl
    | true =>
      rw [z] at td
      cases bb with
      | false =>
        refine ⟨SH, ?_, fun _ => rfl⟩
        exact same_told (i := 6) td (lam_spans (HE := HE) ap tab_is (learn_lam2 z y1)) rfl
      | true =>
        obtain ⟨sp', hy, hz⟩ := y3 rfl
        obtain ⟨t, fs, el⟩ := learn_lam3 (ns := ns) (P := P) (C := C) (NR := NR) (NS := NS) (w2 := w2) (w3 := (some (.own (.lst [a, b, c, d, e])))) (w4 := w4) (w5 := (some (.fz (.bl (goodV a b c d e))))) (w6 := (some (.fz (.str (if true = true then (if true = true then "" else "spans") else "reading"))))) (w9 := (some (.fz kept))) (w10 := (some (.fz (.str (badW o))))) (w11 := w11') (w13 := (some (.own (.obj C SH)))) (st := st3) z hy hz y1
        refine ⟨fs, ?_, fun n => absurd rfl n⟩
        exact same_told (i := 6) td (lam_none (HE := HE) (NC := NC) (NR := NR) (NS := NS) tab_is el) rfl
  obtain ⟨fs, el, hf⟩ := fin
  refine okS.seq (okS.ite (ok.eq el (no (okS.skip ?_))))
  have stay : dAnd (dB (dOp2 neT (dSlot 6) (dV (dC (.str ""))))) (dB (dOp2 neT (dV (dTup (dCons (dV (dProp C 1 .R (F_Shown_reading C) (dSlot 7))) (dCons (dV (dProp C 1 .R (F_Shown_value C) (dSlot 7))) (dCons (dV (dProp C 1 .R (F_Shown_spans C) (dSlot 7))) (dCons (dV (dMeth C "at" 8 [.R, .F] [] (F_Shown_at C NR) (dSlot 7) (dCons (dV (dC (.int 99))) (dNil)))) (dNil))))))) (dSlot 9))) (LS ns P w2 (some (.own (.lst [a, b, c, d, e]))) w4 (some (.fz (.bl (goodV a b c d e)))) (some (.fz (.str (if isB o 60 1000000000 = true then (if bb = true then "" else "spans") else "reading")))) (some (.own (.obj C fs))) (some (.fz o)) (some (.fz kept)) (some (.fz (.str (badW o)))) w11' (some (.fz y)) (some (.own (.obj C SH))) st3) = .ok false (LS ns P w2 (some (.own (.lst [a, b, c, d, e]))) w4 (some (.fz (.bl (goodV a b c d e)))) (some (.fz (.str (if isB o 60 1000000000 = true then (if bb = true then "" else "spans") else "reading")))) (some (.own (.obj C fs))) (some (.fz o)) (some (.fz kept)) (some (.fz (.str (badW o)))) w11' (some (.fz y)) (some (.own (.obj C SH))) st3) := by
    by_cases n : ((if isB o 60 1000000000 = true then (if bb = true then "" else "spans") else "reading") : Str) = ""
    · refine dAnd_f (dB_eq (b := false) (dOp2_eq rfl rfl rfl rfl ?_))
      show neT (.str (if isB o 60 1000000000 = true then (if bb = true then "" else "spans") else "reading")) (.str "") = _
      rw [n]
      kernel_rfl
    · have e := hf n
      subst e
      have t1 : dB (dOp2 neT (dSlot 6) (dV (dC (.str "")))) (LS ns P w2 (some (.own (.lst [a, b, c, d, e]))) w4 (some (.fz (.bl (goodV a b c d e)))) (some (.fz (.str (if isB o 60 1000000000 = true then (if bb = true then "" else "spans") else "reading")))) (some (.own (.obj C SH))) (some (.fz o)) (some (.fz kept)) (some (.fz (.str (badW o)))) w11' (some (.fz y)) (some (.own (.obj C SH))) st3) = .ok true (LS ns P w2 (some (.own (.lst [a, b, c, d, e]))) w4 (some (.fz (.bl (goodV a b c d e)))) (some (.fz (.str (if isB o 60 1000000000 = true then (if bb = true then "" else "spans") else "reading")))) (some (.own (.obj C SH))) (some (.fz o)) (some (.fz kept)) (some (.fz (.str (badW o)))) w11' (some (.fz y)) (some (.own (.obj C SH))) st3) := by
        refine dB_eq (b := true) (dOp2_eq rfl rfl rfl rfl ?_)
        show neT (.str (if isB o 60 1000000000 = true then (if bb = true then "" else "spans") else "reading")) (.str "") = _
        rcases td with q | q | q | q
        · exact absurd q n
        · rw [q]; kernel_rfl
        · rw [q]; kernel_rfl
        · rw [q]; kernel_rfl
      refine dAnd_t t1 (dB_eq (b := false) (dOp2_eq (dV_eq (tri7 (C := C) (NR := NR))) rfl rfl rfl kept_same))
  refine okS.seq (okS.ite (ok.eq stay (no (okS.skip ?_))))
  have twin : dB (dOp2 neT (dV (dTup (dCons (dV (dProp C 1 .R (F_Shown_reading C) (dSlot 13))) (dCons (dV (dProp C 1 .R (F_Shown_value C) (dSlot 13))) (dCons (dV (dProp C 1 .R (F_Shown_spans C) (dSlot 13))) (dCons (dV (dMeth C "at" 8 [.R, .F] [] (F_Shown_at C NR) (dSlot 13) (dCons (dV (dC (.int 99))) (dNil)))) (dNil))))))) (dSlot 9)) (LS ns P w2 (some (.own (.lst [a, b, c, d, e]))) w4 (some (.fz (.bl (goodV a b c d e)))) (some (.fz (.str (if isB o 60 1000000000 = true then (if bb = true then "" else "spans") else "reading")))) (some (.own (.obj C fs))) (some (.fz o)) (some (.fz kept)) (some (.fz (.str (badW o)))) w11' (some (.fz y)) (some (.own (.obj C SH))) st3) = .ok false (LS ns P w2 (some (.own (.lst [a, b, c, d, e]))) w4 (some (.fz (.bl (goodV a b c d e)))) (some (.fz (.str (if isB o 60 1000000000 = true then (if bb = true then "" else "spans") else "reading")))) (some (.own (.obj C fs))) (some (.fz o)) (some (.fz kept)) (some (.fz (.str (badW o)))) w11' (some (.fz y)) (some (.own (.obj C SH))) st3) := dB_eq (b := false) (dOp2_eq (dV_eq (tri13 (C := C) (NR := NR))) rfl rfl rfl kept_same)
  refine okS.ite (ok.eq twin (no (okS.skip ?_)))
  exact ⟨_, _, _, _, _, _, _, _, _, _, _, _, _, h2, free_own, h4, free_fz, free_fz, free_own, free_fz, free_fz, free_fz, (by rcases h11' with rfl | rfl; exact free_own; exact free_fz), free_fz, free_own, hd3, rfl⟩
end Law
set_option Elab.async false
set_option linter.all false
set_option maxRecDepth 100000
set_option maxHeartbeats 4000000
namespace Law
open PySem DL
theorem begin_ok {ns : List Int} (h : ns.length ≤ 63) : DrOk1 (beginSt ns) := by
  refine ⟨?_, ?_, ?_, ?_⟩
  · show (0 : Int) ≤ 7; decide
  · show (7 : Int) < 2147483629; decide
  · show (largeOf ns).length ≤ 63
    unfold largeOf
    rw [List.length_map]
    exact Nat.le_trans (List.length_filter_le _ _) h
  · exact h
theorem math (a_Shown a_HourError a_NoClock a_NoReading a_NoSpans a_tab_law : Addr) (nx : [a_HourError, a_NoClock, a_NoReading, a_NoSpans].Nodup) (ns : List Int) (h : ns.length ≤ 63) :
   ∃ s', F_law a_Shown a_HourError a_NoClock a_NoReading a_NoSpans a_tab_law (lawStT ns 12 [.tab a_tab_law "law.<locals>.<lambda>"]) = .ok (.rt (.fz (.bl true))) s' := by
  have ap : Ap a_NoClock a_NoReading a_NoSpans := by
    simp only [List.nodup_cons, List.mem_cons, List.not_mem_nil, or_false, not_or] at nx
    exact ⟨nx.2.1.1, nx.2.1.2, nx.2.2.1⟩
  have k : okS (F_law a_Shown a_HourError a_NoClock a_NoReading a_NoSpans a_tab_law) (lawStT ns 12 [.tab a_tab_law "law.<locals>.<lambda>"]) (fun _ => False) (fun t s' => t = .fz (.bl true)) := by
    unfold F_law
    refine okS.seq (okS.forV (ds := [.int (8 + min (ns.length : Int) 24)]) (items := rangeL 0 (8 + min (ns.length : Int) 24).toNat) (s2 := lawStT ns 12 [.tab a_tab_law "law.<locals>.<lambda>"]) rfl rfl (if_pos ?_) (okS.walk (fun _ S => Inv ns a_tab_law S) ?_ ?_ ?_))
    · unfold bnd62
      rw [Bool.and_eq_true, decide_eq_true_eq, decide_eq_true_eq]
      omega
    · exact ⟨none, none, none, none, none, none, none, none, none, none, none, none, beginSt ns, .inl rfl, .inl rfl, .inl rfl, .inl rfl, .inl rfl, .inl rfl, .inl rfl, .inl rfl, .inl rfl, .inl rfl, .inl rfl, .inl rfl, begin_ok h, rfl⟩
    · rintro i x S hi ⟨w2, w3, w4, w5, w6, w7, w8, w9, w10, w11, w12, w13, st, f2, f3, f4, f5, f6, f7, f8, f9, f10, f11, f12, f13, hd, rfl⟩
      refine ⟨LS ns a_tab_law (some (.fz x)) w3 w4 w5 w6 w7 w8 w9 w10 w11 w12 w13 st, ?_, turn_ok ap free_fz f3 f4 f5 f6 f7 f8 f9 f10 f11 f12 f13 hd⟩
      rcases f2 with rfl | ⟨_, rfl⟩ | ⟨_, rfl⟩ <;> rfl
    · rintro S h
      exact okS.rt rfl rfl
  unfold okS at k
  cases q : F_law a_Shown a_HourError a_NoClock a_NoReading a_NoSpans a_tab_law (lawStT ns 12 [.tab a_tab_law "law.<locals>.<lambda>"]) with
  | bad => rw [q] at k; exact k.elim
  | err x s' => rw [q] at k; exact k.elim
  | ok f s' =>
    rw [q] at k
    cases f with
    | nx => exact k.elim
    | bk => exact k.elim
    | ct => exact k.elim
    | rt t => cases k; exact ⟨s', rfl⟩
end Law
open PySem PySem.W PyProof.Rows
set_option Elab.async false
set_option maxRecDepth 100000 in
set_option maxHeartbeats 0 in
theorem PySem.Challenge.cw_surehour_k45_shown_clocks_refused_holds : PySem.Challenge.rw_surehour_k45_shown_clocks_refused.Holds := by
  w_on; o_law; k_head; (case hw => w_witness2)
  k_fill
  refine DL.walk_ofGT (l := PySem.Challenge.rw_surehour_k45_shown_clocks_refused) (most := 63) (n := 7) (nm := "_law_script") (cx := fun w => L2.CX PySem.Challenge.rw_surehour_k45_shown_clocks_refused.prog w) (pr := fun w cs => DL.spLawT _ cs) rfl (by decide) rfl ⟨⟨rfl, by decide, by decide⟩, rfl⟩ (fun w h Y => by first | exact PySem.W.kIn_of Y | exact PySem.W.km_in_of Y) ?F (fun _ _ _ a ns hl hT nT nd hS => ⟨a, ns, rfl, hS, hl, hT, nT, nd, fun _ => rfl⟩) (fun w H s e s' z => DL.cx_none z)
  case F =>
    intro w mg fa h KX G hmg TT
    refine' Law.all_mk Law.math KX G hmg TT ?zz_abs ?zz_list ?zz_range ?zz_len ?zz_min ?zz_int ?zz_divmod ?zz_isinstance ?zz_bool ?zz_tuple ?zz_enumerate ?zz_zip ?zz_all ?zz_max ?hg_MOST_SLEW ?hg_MOST_DRIFT ?hg_MOST_READING ?hg_EXACT ?hm_Shown ?pg_Shown ?hd_Shown ?po_Shown ?sa_Shown ?hn_Shown_c_reading ?hn_Shown_c_rules ?hn_Shown_c_spans ?hn_Shown_c_value ?xsp ?xtk ?hm_HourError ?xh_HourError ?xt_HourError ?xb_HourError ?xg_HourError ?xq_HourError ?xc_HourError ?xo_HourError ?hm_NoClock ?xh_NoClock ?xt_NoClock ?xb_NoClock ?xg_NoClock ?xq_NoClock ?xc_NoClock ?xo_NoClock ?hm_NoReading ?xh_NoReading ?xt_NoReading ?xb_NoReading ?xg_NoReading ?xq_NoReading ?xc_NoReading ?xo_NoReading ?hm_NoSpans ?xh_NoSpans ?xt_NoSpans ?xb_NoSpans ?xg_NoSpans ?xq_NoSpans ?xc_NoSpans ?xo_NoSpans ?xe_NoClock ?xk_NoClock ?xe_NoReading ?xk_NoReading ?xe_NoSpans ?xk_NoSpans ?ne_x0_1 ?ne_x0_2 ?ne_x0_3 ?ne_x1_2 ?ne_x1_3 ?ne_x2_3 ?xn_HourError ?xs_NoClock_HourError ?xs_NoReading_HourError ?xs_NoSpans_HourError ?xn_NoClock ?xs_NoClock_NoClock ?xs_NoReading_NoClock ?xs_NoSpans_NoClock ?xn_NoReading ?xs_NoClock_NoReading ?xs_NoReading_NoReading ?xs_NoSpans_NoReading ?xn_NoSpans ?xs_NoClock_NoSpans ?xs_NoReading_NoSpans ?xs_NoSpans_NoSpans ?tt_law ?nn_law ?rr_law ?l_law_begin ?cc_law_begin ?kp_law_begin ?at_law_begin ?l_law_take ?cc_law_take ?kp_law_take ?at_law_take ?l_law_pick ?cc_law_pick ?kp_law_pick ?at_law_pick ?l_law_odd ?cc_law_odd ?kp_law_odd ?at_law_odd ?l_law_is_int ?cc_law_is_int ?kp_law_is_int ?at_law_is_int ?l_law_error ?cc_law_error ?kp_law_error ?at_law_error ?l_is_between ?cc_is_between ?kp_is_between ?at_is_between ?l_is_integer ?cc_is_integer ?kp_is_integer ?at_is_integer ?l_Shown_init ?cc_Shown_init ?kp_Shown_init ?mk_Shown ?at_Shown_init ?is_Shown_init ?kc_Shown ?l_Shown_ticks_to ?cc_Shown_ticks_to ?kp_Shown_ticks_to ?at_Shown_ticks_to ?is_Shown_ticks_to ?l_is_list ?cc_is_list ?kp_is_list ?at_is_list ?l_is_end ?cc_is_end ?kp_is_end ?at_is_end ?l_are_spans ?cc_are_spans ?kp_are_spans ?at_are_spans ?l_gaps ?cc_gaps ?kp_gaps ?at_gaps ?l_way_to ?cc_way_to ?kp_way_to ?at_way_to ?l_moved ?cc_moved ?kp_moved ?at_moved ?l_Shown_at ?cc_Shown_at ?kp_Shown_at ?at_Shown_at ?is_Shown_at ?l_Shown_learn ?cc_Shown_learn ?kp_Shown_learn ?at_Shown_learn ?is_Shown_learn ?l_Shown_reading ?cc_Shown_reading ?kp_Shown_reading ?at_Shown_reading ?pget_Shown_reading ?ptak_Shown_reading ?prec_Shown_reading ?l_Shown_value ?cc_Shown_value ?kp_Shown_value ?at_Shown_value ?pget_Shown_value ?ptak_Shown_value ?prec_Shown_value ?l_Shown_spans ?cc_Shown_spans ?kp_Shown_spans ?at_Shown_spans ?pget_Shown_spans ?ptak_Shown_spans ?prec_Shown_spans ?l_widened ?cc_widened ?kp_widened ?at_widened ?l_Shown_distance ?cc_Shown_distance ?kp_Shown_distance ?at_Shown_distance ?is_Shown_distance ?l_law_are_spans ?cc_law_are_spans ?kp_law_are_spans ?at_law_are_spans ?l_Shown_copy ?cc_Shown_copy ?kp_Shown_copy ?at_Shown_copy ?is_Shown_copy ?l_law ?cc_law ?kp_law ?at_law
    (case zz_abs => k_is)
    (case zz_list => k_is)
    (case zz_range => k_is)
    (case zz_len => k_is)
    (case zz_min => k_is)
    (case zz_int => k_is)
    (case zz_divmod => k_is)
    (case zz_isinstance => k_is)
    (case zz_bool => k_is)
    (case zz_tuple => k_is)
    (case zz_enumerate => k_is)
    (case zz_zip => k_is)
    (case zz_all => k_is)
    (case zz_max => k_is)
    (case hg_MOST_SLEW => k_is)
    (case hg_MOST_DRIFT => k_is)
    (case hg_MOST_READING => k_is)
    (case hg_EXACT => k_is)
    (case hm_Shown => k_is)
    (case hm_HourError => k_is)
    (case hm_NoClock => k_is)
    (case hm_NoReading => k_is)
    (case hm_NoSpans => k_is)
    (case pg_Shown => k_is)
    (case hd_Shown => k_is)
    (case po_Shown => k_is)
    (case sa_Shown => k_is)
    (case hn_Shown_c_reading => k_is)
    (case hn_Shown_c_rules => k_is)
    (case hn_Shown_c_spans => k_is)
    (case hn_Shown_c_value => k_is)
    (case xsp => k_is)
    (case xtk => k_is)
    (case xh_HourError => k_is)
    (case xt_HourError => k_is)
    (case xb_HourError => k_is)
    (case xg_HourError => k_is)
    (case xq_HourError => k_is)
    (case xc_HourError => k_is)
    (case xo_HourError => k_is)
    (case xh_NoClock => k_is)
    (case xt_NoClock => k_is)
    (case xb_NoClock => k_is)
    (case xg_NoClock => k_is)
    (case xq_NoClock => k_is)
    (case xc_NoClock => k_is)
    (case xo_NoClock => k_is)
    (case xh_NoReading => k_is)
    (case xt_NoReading => k_is)
    (case xb_NoReading => k_is)
    (case xg_NoReading => k_is)
    (case xq_NoReading => k_is)
    (case xc_NoReading => k_is)
    (case xo_NoReading => k_is)
    (case xh_NoSpans => k_is)
    (case xt_NoSpans => k_is)
    (case xb_NoSpans => k_is)
    (case xg_NoSpans => k_is)
    (case xq_NoSpans => k_is)
    (case xc_NoSpans => k_is)
    (case xo_NoSpans => k_is)
    (case xe_NoClock => k_exc)
    (case xk_NoClock => k_is)
    (case xe_NoReading => k_exc)
    (case xk_NoReading => k_is)
    (case xe_NoSpans => k_exc)
    (case xk_NoSpans => k_is)
    (case xn_HourError => k_is)
    (case xs_NoClock_HourError => k_is)
    (case xs_NoReading_HourError => k_is)
    (case xs_NoSpans_HourError => k_is)
    (case xn_NoClock => k_is)
    (case xs_NoClock_NoClock => k_is)
    (case xs_NoReading_NoClock => k_is)
    (case xs_NoSpans_NoClock => k_is)
    (case xn_NoReading => k_is)
    (case xs_NoClock_NoReading => k_is)
    (case xs_NoReading_NoReading => k_is)
    (case xs_NoSpans_NoReading => k_is)
    (case xn_NoSpans => k_is)
    (case xs_NoClock_NoSpans => k_is)
    (case xs_NoReading_NoSpans => k_is)
    (case xs_NoSpans_NoSpans => k_is)
    (case tt_law => exact DL.tabIn_by (by k_is) (by k_is) (by rfl) (by k_is) (by rfl))
    (case nn_law => kernel_rfl)
    (case rr_law => decide +kernel)
    (case at_law_begin => k_is)
    (case at_law_take => k_is)
    (case at_law_pick => k_is)
    (case at_law_odd => k_is)
    (case at_law_is_int => k_is)
    (case at_law_error => k_is)
    (case at_is_between => k_is)
    (case at_is_integer => k_is)
    (case mk_Shown => k_is)
    (case at_Shown_init => k_is)
    (case kc_Shown => k_is)
    (case at_Shown_ticks_to => k_is)
    (case at_is_list => k_is)
    (case at_is_end => k_is)
    (case at_are_spans => k_is)
    (case at_gaps => k_is)
    (case at_way_to => k_is)
    (case at_moved => k_is)
    (case at_Shown_at => k_is)
    (case at_Shown_learn => k_is)
    (case at_Shown_reading => k_is)
    (case pget_Shown_reading => k_is)
    (case ptak_Shown_reading => k_is)
    (case prec_Shown_reading => k_is)
    (case at_Shown_value => k_is)
    (case pget_Shown_value => k_is)
    (case ptak_Shown_value => k_is)
    (case prec_Shown_value => k_is)
    (case at_Shown_spans => k_is)
    (case pget_Shown_spans => k_is)
    (case ptak_Shown_spans => k_is)
    (case prec_Shown_spans => k_is)
    (case at_widened => k_is)
    (case at_Shown_distance => k_is)
    (case at_law_are_spans => k_is)
    (case at_Shown_copy => k_is)
    (case at_law => k_is)
    (case l_law_begin => k_is)
    (case l_law_take => k_is)
    (case l_law_pick => k_is)
    (case l_law_odd => k_is)
    (case l_law_is_int => k_is)
    (case l_law_error => k_is)
    (case l_is_between => k_is)
    (case l_is_integer => k_is)
    (case l_Shown_init => k_is)
    (case l_Shown_ticks_to => k_is)
    (case l_is_list => k_is)
    (case l_is_end => k_is)
    (case l_are_spans => k_is)
    (case l_gaps => k_is)
    (case l_way_to => k_is)
    (case l_moved => k_is)
    (case l_Shown_at => k_is)
    (case l_Shown_learn => k_is)
    (case l_Shown_reading => k_is)
    (case l_Shown_value => k_is)
    (case l_Shown_spans => k_is)
    (case l_widened => k_is)
    (case l_Shown_distance => k_is)
    (case l_law_are_spans => k_is)
    (case l_Shown_copy => k_is)
    (case l_law => k_is)
    (case ne_x0_1 => decide)
    (case ne_x0_2 => decide)
    (case ne_x0_3 => decide)
    (case ne_x1_2 => decide)
    (case ne_x1_3 => decide)
    (case ne_x2_3 => decide)
    (case cc_law_begin => k_is)
    (case kp_law_begin => k_is)
    (case cc_law_take => k_is)
    (case kp_law_take => k_is)
    (case cc_law_pick => k_is)
    (case kp_law_pick => k_is)
    (case cc_law_odd => k_is)
    (case kp_law_odd => k_is)
    (case cc_law_is_int => k_is)
    (case kp_law_is_int => k_is)
    (case cc_law_error => k_is)
    (case kp_law_error => k_is)
    (case cc_is_between => k_is)
    (case kp_is_between => k_is)
    (case cc_is_integer => k_is)
    (case kp_is_integer => k_is)
    (case cc_Shown_init => k_is)
    (case kp_Shown_init => k_is)
    (case is_Shown_init => k_is)
    (case cc_Shown_ticks_to => k_is)
    (case kp_Shown_ticks_to => k_is)
    (case is_Shown_ticks_to => k_is)
    (case cc_is_list => k_is)
    (case kp_is_list => k_is)
    (case cc_is_end => k_is)
    (case kp_is_end => k_is)
    (case cc_are_spans => k_is)
    (case kp_are_spans => k_is)
    (case cc_gaps => k_is)
    (case kp_gaps => k_is)
    (case cc_way_to => k_is)
    (case kp_way_to => k_is)
    (case cc_moved => k_is)
    (case kp_moved => k_is)
    (case cc_Shown_at => k_is)
    (case kp_Shown_at => k_is)
    (case is_Shown_at => k_is)
    (case cc_Shown_learn => k_is)
    (case kp_Shown_learn => k_is)
    (case is_Shown_learn => k_is)
    (case cc_Shown_reading => k_is)
    (case kp_Shown_reading => k_is)
    (case cc_Shown_value => k_is)
    (case kp_Shown_value => k_is)
    (case cc_Shown_spans => k_is)
    (case kp_Shown_spans => k_is)
    (case cc_widened => k_is)
    (case kp_widened => k_is)
    (case cc_Shown_distance => k_is)
    (case kp_Shown_distance => k_is)
    (case is_Shown_distance => k_is)
    (case cc_law_are_spans => k_is)
    (case kp_law_are_spans => k_is)
    (case cc_Shown_copy => k_is)
    (case kp_Shown_copy => k_is)
    (case is_Shown_copy => k_is)
    (case cc_law => k_is)
    (case kp_law => k_is)
