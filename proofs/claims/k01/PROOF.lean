import PyProof.Rows.All
import Wide.All
import OpenK.AllK
import Wide.FinOn
import HandS.ForMost
import HandS.ForExc
import HandS.CallSlots
import HandS.Property
import HandS.Lambda
import HandS.TupAny
import HandS.Wide
import HandS.IsInst
import HandS.Text
import HandS.TupLe
import PyProof.MaxThree
import HandS.TupLen
import HandS.Style
import HandS.Zip
import HandS.WideBits
import HandS.SortInts
import HandS.SortRule
import HandS.Iter
import HandS.DictTup
import HandS.DictComp
import KE.KDictZip
import HandS.Conv
import HandS.Strs
import KE.SortKeyHeap
import HandS.Defaults
import KE.GoesMore
import HandS.Deep
import HandS.SetFor
import HandS.ListItems
import HandS.RaiseMore
import HandS.Flow
import KE.DataMinMax
import KE.GoesZip
import HandS.TryOnly
import HandS.SetKeys
import PyProof.TupleIter
import PyProof.WalksMore
import HandS.ExcValue
import HandS.ExcCtx
import KE.KExcIs
import HandS.ExcField
import HandS.ExcIs
import KE.KExcSuper
import HandS.ExcInit
import PySem.Challenge.RW_surehour_k01_errors_by_class
set_option Elab.async false
set_option linter.all false
set_option maxRecDepth 100000
set_option maxHeartbeats 1000000
namespace DL
open PySem PySem.Spec PyProof.Rows L2
inductive D where
  | non | bl (b : Bool) | int (i : Int) | str (x : Str) | tup (xs : List D) | lst (xs : List D) | frl (ns : List Int)
  | dk (kvs : List (Key × D)) | dt (kvs : List (List Key × D)) | obj (C : Addr) (fs : List (Str × D)) | ptr (i : Nat) | draw
  | exc (C : Addr) (fs : List (Str × D))
  deriving Inhabited
structure Gh where
  G : Hp
  η : List Addr
  dr : Option (Addr × Addr)
def exk (a C : Addr) (dx : Option Addr) : HO := .ext fun h => ∃ o vs, h.get? a = some o ∧ o.cls = .ref C ∧ o.dict = dx ∧ o.data = .fields vs
def XdAt (G : Hp) (dx : Option Addr) (fs : List (Str × V)) : Prop := (dx = none ∧ fs = []) ∨ ∃ dd, dx = some dd ∧ G dd = some (.xd fs)
theorem XdAt.le {G G' : Hp} {dx : Option Addr} {fs : List (Str × V)} (s : ∀ a o, G a = some o → G' a = some o) (h : XdAt G dx fs) : XdAt G' dx fs := by
  rcases h with h | ⟨dd, e, h⟩
  · exact .inl h
  · exact .inr ⟨dd, e, s _ _ h⟩
mutual
inductive Rep (K : PySem.W.Frag) (g : Gh) : V → D → Prop
  | non : Rep K g .non .non
  | bl (b : Bool) : Rep K g (.bl b) (.bl b)
  | int (i : Int) : Rep K g (.int i) (.int i)
  | str (x : Str) : Rep K g (.str x) (.str x)
  | tup {a : Addr} {xs : List V} {ds : List D} : g.G a = some (.tup xs) → Reps K g xs ds → Rep K g (.ref a) (.tup ds)
  | tup0 {a : Addr} : SqT K g.G a [] → Rep K g (.ref a) (.tup [])
  | lst {a : Addr} {xs : List V} {ds : List D} : g.G a = some (.lst xs) → Reps K g xs ds → Rep K g (.ref a) (.lst ds)
  | frl {a : Addr} {ns : List Int} : SqL K g.G a (ns.map V.int) → Rep K g (.ref a) (.frl ns)
  | dk {a : Addr} {kvs : List (Key × V)} {ds : List (Key × D)} : g.G a = some (.dK kvs) → kvs.map Prod.fst = ds.map Prod.fst → Reps K g (kvs.map Prod.snd) (ds.map Prod.snd) → Rep K g (.ref a) (.dk ds)
  | dt {a : Addr} {kvs : List (List Key × V)} {ds : List (List Key × D)} : g.G a = some (.dT kvs) → kvs.map Prod.fst = ds.map Prod.fst → Reps K g (kvs.map Prod.snd) (ds.map Prod.snd) → Rep K g (.ref a) (.dt ds)
  | obj {a C dx : Addr} {fs : List (Str × V)} {ds : List (Str × D)} : g.G a = some (.ins C dx fs) → fs.map Prod.fst = ds.map Prod.fst → Reps K g (fs.map Prod.snd) (ds.map Prod.snd) → Rep K g (.ref a) (.obj C ds)
  | ptr {a : Addr} {i : Nat} : g.η[i]? = some a → Rep K g (.ref a) (.ptr i)
  | draw {a l : Addr} : g.dr = some (a, l) → Rep K g (.ref a) .draw
  | exc {a C : Addr} {dx : Option Addr} {fs : List (Str × V)} {ds : List (Str × D)} : g.G a = some (exk a C dx) → XdAt g.G dx fs → fs.map Prod.fst = ds.map Prod.fst → Reps K g (fs.map Prod.snd) (ds.map Prod.snd) → Rep K g (.ref a) (.exc C ds)
inductive Reps (K : PySem.W.Frag) (g : Gh) : List V → List D → Prop
  | nil : Reps K g [] []
  | cons {v : V} {vs : List V} {d : D} {ds : List D} : Rep K g v d → Reps K g vs ds → Reps K g (v :: vs) (d :: ds)
end
structure Le (g g' : Gh) : Prop where
  G : ∀ a o, g.G a = some o → g'.G a = some o
  η : ∀ (i : Nat) (a : Addr), g.η[i]? = some a → g'.η[i]? = some a
  dr : g'.dr = g.dr
theorem Le.refl (g : Gh) : Le g g := ⟨fun _ _ h => h, fun _ _ h => h, rfl⟩
theorem Le.trans {g1 g2 g3 : Gh} (a : Le g1 g2) (b : Le g2 g3) : Le g1 g3 := ⟨fun _ _ h => b.G _ _ (a.G _ _ h), fun _ _ h => b.η _ _ (a.η _ _ h), b.dr.trans a.dr⟩
theorem SqT.le {K : PySem.W.Frag} {H H' : Hp} {a : Addr} {xs : List V} (s : ∀ a o, H a = some o → H' a = some o) (h : SqT K H a xs) : SqT K H' a xs := by
  rcases h with (h | ⟨o, h⟩) | h
  · exact .inl (.inl (s _ _ h))
  · exact .inl (.inr ⟨o, s _ _ h⟩)
  · exact .inr h
theorem SqL.le {K : PySem.W.Frag} {H H' : Hp} {a : Addr} {xs : List V} (s : ∀ a o, H a = some o → H' a = some o) (h : SqL K H a xs) : SqL K H' a xs := by
  rcases h with (h | ⟨o, h⟩) | h
  · exact .inl (.inl (s _ _ h))
  · exact .inl (.inr ⟨o, s _ _ h⟩)
  · exact .inr h
section
variable {K : PySem.W.Frag} {g g' : Gh}
mutual
theorem Rep.mono (h : Le g g') : ∀ {v : V} {d : D}, Rep K g v d → Rep K g' v d
  | _, _, .non => .non
  | _, _, .bl b => .bl b
  | _, _, .int i => .int i
  | _, _, .str x => .str x
  | _, _, .tup a r => .tup (h.G _ _ a) (Reps.mono h r)
  | _, _, .tup0 a => .tup0 (SqT.le h.G a)
  | _, _, .lst a r => .lst (h.G _ _ a) (Reps.mono h r)
  | _, _, .frl a => .frl (SqL.le h.G a)
  | _, _, .dk a e r => .dk (h.G _ _ a) e (Reps.mono h r)
  | _, _, .dt a e r => .dt (h.G _ _ a) e (Reps.mono h r)
  | _, _, .obj a e r => .obj (h.G _ _ a) e (Reps.mono h r)
  | _, _, .ptr e => .ptr (h.η _ _ e)
  | _, _, .draw e => .draw (h.dr.trans e)
  | _, _, .exc a x e r => .exc (h.G _ _ a) (x.le h.G) e (Reps.mono h r)
theorem Reps.mono (h : Le g g') : ∀ {v : List V} {d : List D}, Reps K g v d → Reps K g' v d
  | _, _, .nil => .nil
  | _, _, .cons a r => .cons (Rep.mono h a) (Reps.mono h r)
end
theorem Reps.length : ∀ {vs : List V} {ds : List D}, Reps K g vs ds → vs.length = ds.length
  | _, _, .nil => rfl
  | _, _, .cons _ r => by rw [List.length_cons, List.length_cons, Reps.length r]
theorem Reps.get : ∀ {vs : List V} {ds : List D} {i : Nat} {d : D}, Reps K g vs ds → ds[i]? = some d → ∃ v, vs[i]? = some v ∧ Rep K g v d
  | _, _, _, _, .nil, e => by simp at e
  | _, _, 0, _, .cons a r, e => by simp at e; subst e; exact ⟨_, rfl, a⟩
  | _, _, i + 1, d, .cons a r, e => by
    obtain ⟨v, h1, h2⟩ := Reps.get (i := i) (d := d) r (by simpa using e)
    exact ⟨v, by simpa using h1, h2⟩
theorem Reps.append : ∀ {vs ws : List V} {ds es : List D}, Reps K g vs ds → Reps K g ws es → Reps K g (vs ++ ws) (ds ++ es)
  | _, _, _, _, .nil, s => s
  | _, _, _, _, .cons a r, s => .cons a (Reps.append r s)
theorem Reps.one {v : V} {d : D} (h : Rep K g v d) : Reps K g [v] [d] := .cons h .nil
theorem Reps.take : ∀ (n : Nat) {vs : List V} {ds : List D}, Reps K g vs ds → Reps K g (vs.take n) (ds.take n)
  | 0, _, _, _ => by simp; exact .nil
  | n + 1, _, _, .nil => .nil
  | n + 1, _, _, .cons a r => .cons a (Reps.take n r)
theorem Reps.drop : ∀ (n : Nat) {vs : List V} {ds : List D}, Reps K g vs ds → Reps K g (vs.drop n) (ds.drop n)
  | 0, _, _, r => by simpa using r
  | n + 1, _, _, .nil => .nil
  | n + 1, _, _, .cons a r => Reps.drop n r
theorem Reps.set : ∀ {vs : List V} {ds : List D} (i : Nat) {v : V} {d : D}, Reps K g vs ds → Rep K g v d → Reps K g (vs.set i v) (ds.set i d)
  | _, _, _, _, _, .nil, _ => .nil
  | _, _, 0, _, _, .cons a r, h => .cons h r
  | _, _, i + 1, _, _, .cons a r, h => .cons a (Reps.set i r h)
theorem Reps.ints : ∀ (ns : List Int), Reps K g (ns.map V.int) (ns.map D.int)
  | [] => .nil
  | n :: r => .cons (.int n) (Reps.ints r)
end
structure DrawSt where
  large : List Int
  cells : List Int
  rest : Int
  turn : Int
  mix : Int
inductive MO where
  | ins (C : Addr) (fs : List (Str × D)) | lst (ds : List D) | tab (P : Addr) (q : Str)
inductive W where
  | fz (d : D) | own (d : D) | lent (d : D) | lk (d : D) | lkl (d : D)
structure State where
  env : List (Option W)
  sto : List MO
  dr : Option DrawSt
structure Ex where
  cls : Addr
  fs : List (Str × D)
inductive Rs (α : Type) where
  | ok (a : α) (s : State) | err (x : Ex) (s : State) | bad
abbrev M (α : Type) := State → Rs α
def M.pure {α : Type} (a : α) : M α := fun s => .ok a s
def M.bind {α β : Type} (m : M α) (k : α → M β) : M β := fun s => match m s with
  | .ok a s' => k a s'
  | .err x s' => .err x s'
  | .bad => .bad
instance : Monad M where
  pure := M.pure
  bind := M.bind
def M.bad {α : Type} : M α := fun _ => .bad
abbrev Slots := List (Option V)
inductive T where
  | fz (d : D) | ow (d : D)
def IsDr (g : Gh) (a : Addr) : Prop := ∃ x l, g.dr = some (x, l) ∧ (a = x ∨ a = l)
def lockable : HO → Bool
  | .dK _ => true
  | .dT _ => true
  | _ => false
def RdO (H : Hp) (a : Addr) (o : HO) : Prop := H a = some o ∨ (lockable o = true ∧ ∃ ob, H a = some (.frz ob o))
theorem RdO.live {H : Hp} {a : Addr} {o : HO} (h : RdO H a o) : H a ≠ none := by
  rcases h with h | ⟨_, ob, h⟩ <;> rw [h] <;> simp
theorem RdO.keep {H H' : Hp} {a : Addr} {o : HO} (k : ∀ u, H a = some u → H' a = some u) (h : RdO H a o) : RdO H' a o := by
  rcases h with h | ⟨l, ob, h⟩
  · exact .inl (k _ h)
  · exact .inr ⟨l, ob, k _ h⟩
theorem RdO.rd {H : Hp} {a : Addr} {o : HO} (h : RdO H a o) : Rd H a o := by
  rcases h with h | ⟨_, ob, h⟩
  · exact .inl h
  · exact .inr ⟨ob, h⟩
theorem RdO.exact {H : Hp} {a : Addr} {o : HO} (h : RdO H a o) (l : lockable o = false) : H a = some o := by
  rcases h with h | ⟨l', _⟩
  · exact h
  · rw [l] at l'; cases l'
section
variable (K : PySem.W.Frag)
def ObAt (g : Gh) (o : HO) : D → Prop
  | .lst ds => ∃ xs, o = .lst xs ∧ Reps K g xs ds
  | .dk ds => ∃ kvs, o = .dK kvs ∧ kvs.map Prod.fst = ds.map Prod.fst ∧ Reps K g (kvs.map Prod.snd) (ds.map Prod.snd)
  | .dt ds => ∃ kvs, o = .dT kvs ∧ kvs.map Prod.fst = ds.map Prod.fst ∧ Reps K g (kvs.map Prod.snd) (ds.map Prod.snd)
  | .obj C ds => ∃ dx fs, o = .ins C dx fs ∧ fs.map Prod.fst = ds.map Prod.fst ∧ Reps K g (fs.map Prod.snd) (ds.map Prod.snd)
  | _ => False
def MObAt (g : Gh) (a : Addr) (o : HO) : MO → Prop
  | .ins C ds => ∃ dx fs, o = .ins C dx fs ∧ fs.map Prod.fst = ds.map Prod.fst ∧ Reps K g (fs.map Prod.snd) (ds.map Prod.snd)
  | .lst ds => ∃ xs, o = .lst xs ∧ Reps K g xs ds
  | .tab P q => a = P ∧ ∃ ps : Array Value, o = .tbl ps ∧ TriplesOk ps.toList ∧ ∀ (pos : Pos) (cv : Value), codeAmong pos ps.toList = some cv → ∃ c, cv = .ref c ∧ g.G c = some (LamX.CodeO c q)
def drKvs (l c : Addr) (s : DrawSt) : List (Key × V) := [(.inr "large", .ref l), (.inr "cells", .ref c), (.inr "rest", .int s.rest), (.inr "turn", .int s.turn), (.inr "mix", .int s.mix)]
structure DrAt (g : Gh) (H : Hp) (a l : Addr) (s : DrawSt) : Prop where
  dict : ∃ c, H a = some (.dK (drKvs l c s)) ∧ g.G c = some (.lst (s.cells.map V.int))
  list : H l = some (.lst (s.large.map V.int))
  ne : a ≠ l
  ga : g.G a = none
  gl : g.G l = none
def DrOk (g : Gh) (H : Hp) : Option (Addr × Addr) → Option DrawSt → Prop
  | some (a, l), some x => DrAt g H a l x
  | none, none => True
  | _, _ => False
theorem DrOk.map {g g' : Gh} {H H' : Hp} : ∀ {p : Option (Addr × Addr)} {q : Option DrawSt}, (∀ a l x, p = some (a, l) → DrAt g H a l x → DrAt g' H' a l x) → DrOk g H p q → DrOk g' H' p q
  | some (a, l), some x, h, d => h a l x rfl d
  | none, none, _, _ => trivial
  | some _, none, _, d => d.elim
  | none, some _, _, d => d.elim
def Free1 (g : Gh) (a : Addr) : Prop := g.G a = none ∧ a ∉ g.η ∧ ¬ IsDr g a
def WAt (g : Gh) (H : Hp) (v : V) : W → Prop
  | .fz d => Rep K g v d
  | .own d => ∃ a o, v = .ref a ∧ Free1 g a ∧ H a = some o ∧ ObAt K g o d
  | .lent d => ∃ a o, v = .ref a ∧ Free1 g a ∧ H a = some o ∧ ObAt K g o d
  | .lk d => ∃ a o, v = .ref a ∧ Free1 g a ∧ RdO H a o ∧ ObAt K g o d
  | .lkl d => ∃ a o, v = .ref a ∧ Free1 g a ∧ RdO H a o ∧ ObAt K g o d
end
def W.held : W → Bool
  | .fz _ => false
  | _ => true
def W.mut : W → Bool
  | .own _ => true
  | .lent _ => true
  | _ => false
structure SD (K : PySem.W.Frag) (g : Gh) (H : Hp) (σ : Slots) (s : State) : Prop where
  gh : ∀ a o, g.G a = some o → RdO H a o
  len : s.env.length = σ.length
  slot : ∀ (i : Nat) (w : W), s.env[i]? = some (some w) → ∃ v, σ[i]? = some (some v) ∧ WAt K g H v w
  inj : ∀ (i j : Nat) (w u : W) (a : Addr), s.env[i]? = some (some w) → s.env[j]? = some (some u) → w.held = true → u.held = true → σ[i]? = some (some (V.ref a)) → σ[j]? = some (some (V.ref a)) → i = j
  stl : s.sto.length = g.η.length
  sto : ∀ (i : Nat) (m : MO) (a : Addr), s.sto[i]? = some m → g.η[i]? = some a → ∃ o, H a = some o ∧ MObAt K g a o m
  nd : g.η.Nodup
  ng : ∀ a ∈ g.η, g.G a = none ∧ ¬ IsDr g a
  dr : DrOk g H g.dr s.dr
def Hd (σ : Slots) (s : State) (a : Addr) : Prop := ∃ (i : Nat) (w : W), s.env[i]? = some (some w) ∧ w.held = true ∧ σ[i]? = some (some (V.ref a))
def OwnA (σ : Slots) (s : State) (a : Addr) : Prop := ∃ (i : Nat) (d : D), (s.env[i]? = some (some (.own d)) ∨ s.env[i]? = some (some (.lk d))) ∧ σ[i]? = some (some (V.ref a))
def Mu (g : Gh) (σ : Slots) (s : State) (a : Addr) : Prop :=
  (∃ (i : Nat) (w : W), s.env[i]? = some (some w) ∧ w.mut = true ∧ σ[i]? = some (some (V.ref a))) ∨ a ∈ g.η ∨ IsDr g a
def IsTup (H : Hp) (a : Addr) : Prop := ∃ o, H a = some o ∧ ((∃ xs, o = HO.tup xs) ∨ ∃ fs, o = HO.xd fs)
structure Ev (g : Gh) (H : Hp) (σ : Slots) (s : State) (g' : Gh) (H' : Hp) (σ' : Slots) (s' : State) : Prop where
  le : Le g g'
  keep : ∀ a o, H a = some o → ¬ Mu g σ s a → H' a = some o
  live : ∀ a, H a ≠ none → H' a ≠ none
  frz : ∀ a, H a ≠ none → g'.G a ≠ none → g.G a ≠ none ∨ Mu g σ s a ∨ IsTup H a
  eta : ∀ a, H a ≠ none → a ∈ g'.η → a ∈ g.η
  mu : ∀ a, Mu g' σ' s' a → Mu g σ s a ∨ H a = none
  hd : ∀ a, Hd σ' s' a → Hd σ s a ∨ H a = none
  ow : ∀ a, OwnA σ' s' a → OwnA σ s a ∨ H a = none
  fix : ∀ (i : Nat) (d : D), s.env[i]? = some (some (.lent d)) → σ'[i]? = σ[i]? ∧ ∃ d', s'.env[i]? = some (some (.lent d')) ∨ s'.env[i]? = some (some (.lkl d'))
  lk : ∀ (i : Nat) (d : D), s.env[i]? = some (some (.lk d)) → σ'[i]? = σ[i]? ∧ s'.env[i]? = some (some (.lk d))
  lkl : ∀ (i : Nat) (d : D), s.env[i]? = some (some (.lkl d)) → σ'[i]? = σ[i]? ∧ s'.env[i]? = some (some (.lkl d))
section
variable {g g' g1 g2 g3 : Gh} {H H' H1 H2 H3 : Hp} {σ σ' σ1 σ2 σ3 : Slots} {s s' s1 s2 s3 : State}
theorem Ev.refl : Ev g H σ s g H σ s := ⟨.refl g, fun _ _ h _ => h, fun _ h => h, fun _ _ h => .inl h, fun _ _ h => h, fun _ h => .inl h, fun _ h => .inl h, fun _ h => .inl h, fun _ d h => ⟨rfl, d, .inl h⟩, fun _ _ h => ⟨rfl, h⟩, fun _ _ h => ⟨rfl, h⟩⟩
theorem Ev.trans (a : Ev g1 H1 σ1 s1 g2 H2 σ2 s2) (b : Ev g2 H2 σ2 s2 g3 H3 σ3 s3) : Ev g1 H1 σ1 s1 g3 H3 σ3 s3 where
  le := a.le.trans b.le
  keep := fun x o h n => b.keep x o (a.keep x o h n) fun z => (a.mu x z).elim n fun q => by rw [h] at q; cases q
  live := fun x h => b.live x (a.live x h)
  frz := fun x h q => by
    rcases b.frz x (a.live x h) q with z | z | ⟨o', z, k⟩
    · exact a.frz x h z
    · rcases a.mu x z with y | y
      · exact .inr (.inl y)
      · exact absurd y h
    · by_cases m : Mu g1 σ1 s1 x
      · exact .inr (.inl m)
      · cases y : H1 x with
        | none => exact absurd y h
        | some o =>
          have y2 := a.keep x o y m
          rw [z] at y2; cases y2
          exact .inr (.inr ⟨_, y, k⟩)
  eta := fun x h q => a.eta x h (b.eta x (a.live x h) q)
  mu := fun x q => by
    rcases b.mu x q with z | z
    · exact a.mu x z
    · by_cases y : H1 x = none
      · exact .inr y
      · exact absurd z (a.live x y)
  hd := fun x q => by
    rcases b.hd x q with z | z
    · exact a.hd x z
    · by_cases y : H1 x = none
      · exact .inr y
      · exact absurd z (a.live x y)
  ow := fun x q => by
    rcases b.ow x q with z | z
    · exact a.ow x z
    · by_cases y : H1 x = none
      · exact .inr y
      · exact absurd z (a.live x y)
  fix := fun i d h => by
    obtain ⟨e1, d1, h1⟩ := a.fix i d h
    rcases h1 with h1 | h1
    · obtain ⟨e2, d2, h2⟩ := b.fix i d1 h1
      exact ⟨e2.trans e1, d2, h2⟩
    · obtain ⟨e2, h2⟩ := b.lkl i d1 h1
      exact ⟨e2.trans e1, d1, .inr h2⟩
  lk := fun i d h => by
    obtain ⟨e1, h1⟩ := a.lk i d h
    obtain ⟨e2, h2⟩ := b.lk i d h1
    exact ⟨e2.trans e1, h2⟩
  lkl := fun i d h => by
    obtain ⟨e1, h1⟩ := a.lkl i d h
    obtain ⟨e2, h2⟩ := b.lkl i d h1
    exact ⟨e2.trans e1, h2⟩
theorem Mu.hd {a : Addr} (h : Mu g σ s a) : Hd σ s a ∨ a ∈ g.η ∨ IsDr g a := by
  rcases h with ⟨i, w, e, m, x⟩ | h
  · refine .inl ⟨i, w, e, ?_, x⟩
    cases w <;> first | rfl | cases m
  · exact .inr h
variable {K : PySem.W.Frag}
theorem ObAt.mono {o : HO} (h : Le g g') : ∀ {d : D}, ObAt K g o d → ObAt K g' o d
  | .lst _, ⟨xs, e, r⟩ => ⟨xs, e, r.mono h⟩
  | .dk _, ⟨xs, e, k, r⟩ => ⟨xs, e, k, r.mono h⟩
  | .dt _, ⟨xs, e, k, r⟩ => ⟨xs, e, k, r.mono h⟩
  | .obj _ _, ⟨dx, xs, e, k, r⟩ => ⟨dx, xs, e, k, r.mono h⟩
  | .non, z => z.elim
  | .bl _, z => z.elim
  | .int _, z => z.elim
  | .str _, z => z.elim
  | .tup _, z => z.elim
  | .frl _, z => z.elim
  | .ptr _, z => z.elim
  | .draw, z => z.elim
  | .exc _ _, z => z.elim
theorem MObAt.mono {a : Addr} {o : HO} (h : Le g g') : ∀ {m : MO}, MObAt K g a o m → MObAt K g' a o m
  | .ins _ _, ⟨dx, xs, e, k, r⟩ => ⟨dx, xs, e, k, r.mono h⟩
  | .lst _, ⟨xs, e, r⟩ => ⟨xs, e, r.mono h⟩
  | .tab _ _, ⟨z, ps, e, t, r⟩ => ⟨z, ps, e, t, fun pos cv hc => let ⟨c, e1, e2⟩ := r pos cv hc; ⟨c, e1, h.G _ _ e2⟩⟩
theorem IsDr.eq {a : Addr} (h : g'.dr = g.dr) (x : IsDr g' a) : IsDr g a := by
  obtain ⟨p, q, e, z⟩ := x
  exact ⟨p, q, h ▸ e, z⟩
def TAt (K : PySem.W.Frag) (g : Gh) (H : Hp) (v : V) : T → Prop
  | .fz d => Rep K g v d
  | .ow d => ∃ a o, v = .ref a ∧ Free1 g a ∧ H a = some o ∧ ObAt K g o d
theorem ObAt.noTup {o : HO} {d : D} (h : ObAt K g o d) (e : (∃ xs, o = HO.tup xs) ∨ ∃ fs, o = HO.xd fs) : False := by
  rcases e with ⟨xs, rfl⟩ | ⟨xs, rfl⟩
  all_goals
    cases d with
    | lst _ => obtain ⟨_, z, _⟩ := h; cases z
    | dk _ => obtain ⟨_, z, _⟩ := h; cases z
    | dt _ => obtain ⟨_, z, _⟩ := h; cases z
    | obj _ _ => obtain ⟨_, _, z, _⟩ := h; cases z
    | _ => exact h
theorem WAt.noTup {v : V} {w : W} (h : WAt K g H v w) (hw : w.held = true) {b : Addr} (e : v = .ref b) : ¬ IsTup H b := fun ⟨o', q, k⟩ => by
  cases w with
  | fz d => cases hw
  | own d => obtain ⟨a, o, z, _, q1, ob⟩ := h; rw [z] at e; cases e; rw [q] at q1; cases q1; exact ob.noTup k
  | lent d => obtain ⟨a, o, z, _, q1, ob⟩ := h; rw [z] at e; cases e; rw [q] at q1; cases q1; exact ob.noTup k
  | lk d =>
    obtain ⟨a, o, z, _, q1, ob⟩ := h; rw [z] at e; cases e
    rcases q1 with q1 | ⟨_, _, q1⟩
    · rw [q] at q1; cases q1; exact ob.noTup k
    · rw [q] at q1; cases q1; rcases k with ⟨_, z⟩ | ⟨_, z⟩ <;> cases z
  | lkl d =>
    obtain ⟨a, o, z, _, q1, ob⟩ := h; rw [z] at e; cases e
    rcases q1 with q1 | ⟨_, _, q1⟩
    · rw [q] at q1; cases q1; exact ob.noTup k
    · rw [q] at q1; cases q1; rcases k with ⟨_, z⟩ | ⟨_, z⟩ <;> cases z
structure RT (K : PySem.W.Frag) (H0 : Hp) (g : Gh) (H : Hp) (σ : Slots) (s : State) (v : V) (t : T) : Prop where
  at_ : TAt K g H v t
  new : ∀ d a, t = .ow d → v = .ref a → H0 a = none ∧ ¬ Hd σ s a
theorem Free1.ev {a : Addr} (e : Ev g H σ s g' H' σ' s') (l : H a ≠ none) (nt : ¬ IsTup H a) (nh : ¬ Hd σ s a) (f : Free1 g a) : Free1 g' a ∧ ¬ Hd σ' s' a := by
  have nm : ¬ Mu g σ s a := fun m => by
    rcases m.hd with z | z | z
    · exact nh z
    · exact f.2.1 z
    · exact f.2.2 z
  refine ⟨⟨?_, fun z => f.2.1 (e.eta a l z), fun z => f.2.2 (z.eq e.le.dr)⟩, fun z => (e.hd a z).elim nh l⟩
  cases q : g'.G a with
  | none => rfl
  | some o => exact ((e.frz a l (by rw [q]; simp)).elim (fun z => z f.1) fun z => z.elim nm nt).elim
theorem RT.ev {H0 : Hp} {v : V} {t : T} (e : Ev g H σ s g' H' σ' s') (r : RT K H0 g H σ s v t) : RT K H0 g' H' σ' s' v t := by
  cases t with
  | fz d => exact ⟨Rep.mono e.le r.at_, fun _ _ z => nomatch z⟩
  | ow d =>
    obtain ⟨a, o, ev, f, ho, ob⟩ := r.at_
    obtain ⟨n1, n2⟩ := r.new d a rfl ev
    have l : H a ≠ none := by rw [ho]; simp
    obtain ⟨f', n'⟩ := f.ev e l (fun ⟨o', z, k⟩ => by rw [ho] at z; cases z; exact ob.noTup k) n2
    have nm : ¬ Mu g σ s a := fun m => by
      rcases m.hd with z | z | z
      · exact n2 z
      · exact f.2.1 z
      · exact f.2.2 z
    refine ⟨⟨a, o, ev, f', e.keep a o ho nm, ob.mono e.le⟩, fun d' a' _ ea => ?_⟩
    rw [ev] at ea
    cases ea
    exact ⟨n1, n'⟩
theorem RT.past {H0 : Hp} {v : V} {t : T} (l : ∀ a, H0 a ≠ none → H1 a ≠ none) (r : RT K H1 g H σ s v t) : RT K H0 g H σ s v t :=
  ⟨r.at_, fun d a e1 e2 => ⟨by
    cases q : H0 a with
    | none => rfl
    | some o => exact absurd (r.new d a e1 e2).1 (l a (by rw [q]; simp)), (r.new d a e1 e2).2⟩⟩
end
end DL
set_option Elab.async false
set_option linter.all false
set_option maxRecDepth 100000
set_option maxHeartbeats 1000000
namespace DL
open PySem PySem.Spec PyProof.Rows L2
section
variable {K : PySem.W.Frag} {g g' : Gh} {H H' : Hp} {σ σ' : Slots} {s s' : State} {a p : Addr} {o : HO}
theorem SD.here (sd : SD K g H σ s) (h : g.G a = some o) (l : lockable o = false) : H a = some o := by
  rcases sd.gh a o h with z | ⟨z, _⟩
  · exact z
  · rw [l] at z; cases z
theorem SD.gNone (sd : SD K g H σ s) (h : H p = none) : g.G p = none := by
  cases q : g.G p with
  | none => rfl
  | some o =>
    rcases sd.gh p o q with z | ⟨_, ob, z⟩ <;> rw [h] at z <;> cases z
theorem SD.tup (sd : SD K g H σ s) {xs : List V} (h : SqT K g.G a xs) : SqT K H a xs := by
  rcases h with (h | ⟨o, h⟩) | h
  · exact .inl (.inl (sd.here h rfl))
  · exact .inl (.inr ⟨o, sd.here h rfl⟩)
  · exact .inr h
theorem SD.seq (sd : SD K g H σ s) {xs : List V} (h : SqL K g.G a xs) : SqL K H a xs := by
  rcases h with (h | ⟨o, h⟩) | h
  · exact .inl (.inl (sd.here h rfl))
  · exact .inl (.inr ⟨o, sd.here h rfl⟩)
  · exact .inr h
theorem SD.rd (sd : SD K g H σ s) (h : g.G a = some o) : Rd H a o := by
  rcases sd.gh a o h with z | ⟨_, ob, z⟩
  · exact .inl z
  · exact .inr ⟨ob, z⟩
theorem SD.etaLive (sd : SD K g H σ s) (h : a ∈ g.η) : H a ≠ none := by
  obtain ⟨i, hi, e⟩ := List.getElem_of_mem h
  have e' : g.η[i]? = some a := by rw [List.getElem?_eq_getElem hi, e]
  have hs : i < s.sto.length := by rw [sd.stl]; exact hi
  obtain ⟨o, q, _⟩ := sd.sto i s.sto[i] a (List.getElem?_eq_getElem hs) e'
  rw [q]; simp
theorem SD.drLive (sd : SD K g H σ s) (h : IsDr g a) : H a ≠ none := by
  obtain ⟨x, l, e, z⟩ := h
  have q := sd.dr
  rw [e] at q
  cases r : s.dr with
  | none => rw [r] at q; exact False.elim q
  | some d =>
    rw [r] at q
    have q : DrAt g H x l d := q
    rcases z with rfl | rfl
    · obtain ⟨c, q, _⟩ := q.dict; rw [q]; simp
    · rw [q.list]; simp
theorem SD.hdLive (sd : SD K g H σ s) (h : Hd σ s a) : H a ≠ none := by
  obtain ⟨i, w, e, hw, es⟩ := h
  obtain ⟨v, ev, wa⟩ := sd.slot i w e
  rw [es] at ev
  cases ev
  cases w with
  | fz d => cases hw
  | own d => obtain ⟨b, o, eb, _, q, _⟩ := wa; cases eb; rw [q]; simp
  | lent d => obtain ⟨b, o, eb, _, q, _⟩ := wa; cases eb; rw [q]; simp
  | lk d => obtain ⟨b, o, eb, _, q, _⟩ := wa; cases eb; exact q.live
  | lkl d => obtain ⟨b, o, eb, _, q, _⟩ := wa; cases eb; exact q.live
theorem SD.free1 (sd : SD K g H σ s) (h : H p = none) : Free1 g p := ⟨sd.gNone h, fun z => sd.etaLive z h, fun z => sd.drLive z h⟩
theorem SD.noHd (sd : SD K g H σ s) (h : H p = none) : ¬ Hd σ s p := fun z => sd.hdLive z h
theorem WAt.keep {v : V} {w : W} (le : Le g g') (k : ∀ b u, v = .ref b → w.held = true → H b = some u → H' b = some u) (f : ∀ b, v = .ref b → w.held = true → Free1 g b → Free1 g' b) (h : WAt K g H v w) : WAt K g' H' v w := by
  cases w with
  | fz d => exact Rep.mono le h
  | own d => obtain ⟨b, u, e, f1, q, ob⟩ := h; exact ⟨b, u, e, f b e rfl f1, k b u e rfl q, ObAt.mono le ob⟩
  | lent d => obtain ⟨b, u, e, f1, q, ob⟩ := h; exact ⟨b, u, e, f b e rfl f1, k b u e rfl q, ObAt.mono le ob⟩
  | lk d => obtain ⟨b, u, e, f1, q, ob⟩ := h; exact ⟨b, u, e, f b e rfl f1, q.keep fun u h => k b u e rfl h, ObAt.mono le ob⟩
  | lkl d => obtain ⟨b, u, e, f1, q, ob⟩ := h; exact ⟨b, u, e, f b e rfl f1, q.keep fun u h => k b u e rfl h, ObAt.mono le ob⟩
theorem SD.alloc (sd : SD K g H σ s) (h : H p = none) : SD K g (upd H p o) σ s where
  gh := fun b u e => by
    have ne : b ≠ p := fun z => by subst z; rw [sd.gNone h] at e; cases e
    exact (sd.gh b u e).keep fun w q => by rw [upd_ne ne]; exact q
  len := sd.len
  slot := fun i w e => by
    obtain ⟨v, ev, wa⟩ := sd.slot i w e
    refine ⟨v, ev, wa.keep (.refl g) (fun b u eb hw q => ?_) fun _ _ _ x => x⟩
    rw [upd_ne (ne_of_none q h)]; exact q
  inj := sd.inj
  stl := sd.stl
  sto := fun i m b e1 e2 => by
    obtain ⟨u, q, m1⟩ := sd.sto i m b e1 e2
    exact ⟨u, by rw [upd_ne (ne_of_none q h)]; exact q, m1⟩
  nd := sd.nd
  ng := sd.ng
  dr := sd.dr.map fun x l d _ q => by
    obtain ⟨c, q1, q2⟩ := q.dict
    exact ⟨⟨c, by rw [upd_ne (ne_of_none q1 h)]; exact q1, q2⟩, by rw [upd_ne (ne_of_none q.list h)]; exact q.list, q.ne, q.ga, q.gl⟩
theorem SD.allocEv (sd : SD K g H σ s) (h : H p = none) : Ev g H σ s g (upd H p o) σ s where
  le := .refl g
  keep := fun b u e _ => by rw [upd_ne (ne_of_none e h)]; exact e
  live := fun b e => by
    by_cases z : b = p
    · subst z; rw [upd_same]; simp
    · rw [upd_ne z]; exact e
  frz := fun _ _ z => .inl z
  eta := fun _ _ z => z
  mu := fun _ z => .inl z
  hd := fun _ z => .inl z
  ow := fun _ z => .inl z
  fix := fun _ d z => ⟨rfl, d, .inl z⟩
  lk := fun _ _ z => ⟨rfl, z⟩
  lkl := fun _ _ z => ⟨rfl, z⟩
def Gh.frz (g : Gh) (a : Addr) (o : HO) : Gh := { g with G := upd g.G a o }
theorem Gh.frz_le (h : g.G a = none) : Le g (g.frz a o) := ⟨fun b u e => by show upd g.G a o b = _; rw [upd_ne (ne_of_none e h)]; exact e, fun _ _ e => e, rfl⟩
theorem Free1.frz {b : Addr} (f : Free1 g b) (ne : b ≠ a) : Free1 (g.frz a o) b := ⟨by show upd g.G a o b = _; rw [upd_ne ne]; exact f.1, f.2.1, f.2.2⟩
theorem DrOk.frz {s : State} (f : Free1 g a) (d : DrOk g H g.dr s.dr) : DrOk (g.frz a o) H (g.frz a o).dr s.dr := d.map fun x l d e q => by
  obtain ⟨c, q1, q2⟩ := q.dict
  have n1 : x ≠ a := fun z => f.2.2 ⟨x, l, e, .inl z.symm⟩
  have n2 : l ≠ a := fun z => f.2.2 ⟨x, l, e, .inr z.symm⟩
  exact ⟨⟨c, q1, (Gh.frz_le f.1).G _ _ q2⟩, q.list, q.ne, by show upd g.G a o x = _; rw [upd_ne n1]; exact q.ga, by show upd g.G a o l = _; rw [upd_ne n2]; exact q.gl⟩
theorem SD.freeze (sd : SD K g H σ s) (f : Free1 g a) (nh : ¬ Hd σ s a) (h : H a = some o) : SD K (g.frz a o) H σ s where
  gh := fun b u e => by
    by_cases z : b = a
    · subst z
      have e' : upd g.G b o b = some u := e
      rw [upd_same] at e'; cases e'
      exact .inl h
    · have e' : upd g.G a o b = some u := e
      rw [upd_ne z] at e'
      exact sd.gh b u e'
  len := sd.len
  slot := fun i w e => by
    obtain ⟨v, ev, wa⟩ := sd.slot i w e
    refine ⟨v, ev, wa.keep (Gh.frz_le f.1) (fun _ _ _ _ q => q) fun b eb hw x => x.frz fun z => nh ⟨i, w, e, hw, ?_⟩⟩
    rw [ev, eb, z]
  inj := sd.inj
  stl := sd.stl
  sto := fun i m b e1 e2 => by
    obtain ⟨u, q, m1⟩ := sd.sto i m b e1 e2
    exact ⟨u, q, m1.mono (Gh.frz_le f.1)⟩
  nd := sd.nd
  ng := fun b hb => by
    have ne : b ≠ a := fun z => f.2.1 (z ▸ hb)
    exact ⟨by show upd g.G a o b = _; rw [upd_ne ne]; exact (sd.ng b hb).1, (sd.ng b hb).2⟩
  dr := DrOk.frz f sd.dr
theorem Ev.freeze {g0 : Gh} {H0 : Hp} {σ0 : Slots} {s0 : State} (e : Ev g0 H0 σ0 s0 g H σ s) (f : Free1 g a) (h0 : H0 a = none) : Ev g0 H0 σ0 s0 (g.frz a o) H σ s where
  le := e.le.trans (Gh.frz_le f.1)
  keep := e.keep
  live := e.live
  frz := fun b l q => by
    by_cases z : b = a
    · subst z; exact absurd h0 l
    · have q' : upd g.G a o b ≠ none := q
      rw [upd_ne z] at q'
      exact e.frz b l q'
  eta := e.eta
  mu := e.mu
  hd := e.hd
  ow := e.ow
  fix := e.fix
  lk := e.lk
  lkl := e.lkl
theorem ObAt.rep {d : D} (h : ObAt K g o d) (fr : Le g g') (e : g'.G a = some o) : Rep K g' (.ref a) d := by
  cases d with
  | lst ds => obtain ⟨xs, rfl, r⟩ := h; exact .lst e (r.mono fr)
  | dk ds => obtain ⟨xs, rfl, k, r⟩ := h; exact .dk e k (r.mono fr)
  | dt ds => obtain ⟨xs, rfl, k, r⟩ := h; exact .dt e k (r.mono fr)
  | obj C ds => obtain ⟨dx, xs, rfl, k, r⟩ := h; exact .obj e k (r.mono fr)
  | _ => exact h.elim
theorem Gh.frz_at : (g.frz a o).G a = some o := upd_same
def putE (s : State) (i : Nat) (w : W) : State := { s with env := s.env.set i (some w) }
def canSet (s : State) (i : Nat) : Bool := match s.env[i]? with
  | some none => true
  | some (some (.fz _)) => true
  | some (some (.own _)) => true
  | _ => false
theorem getE_set {i j : Nat} {l : List (Option W)} {w : W} {u : W} (h : (l.set i (some w))[j]? = some (some u)) : (j = i ∧ u = w) ∨ (j ≠ i ∧ l[j]? = some (some u)) := by
  by_cases z : i = j
  · subst z
    by_cases hl : i < l.length
    · rw [List.getElem?_set_self hl] at h
      cases h
      exact .inl ⟨rfl, rfl⟩
    · rw [List.getElem?_eq_none (by simpa using hl)] at h; cases h
  · rw [List.getElem?_set_ne z] at h
    exact .inr ⟨fun q => z q.symm, h⟩
theorem SD.set (sd : SD K g H σ s) {i : Nat} (c : canSet s i = true) {v : V} {w : W} (wa : WAt K g H v w) (nh : ∀ b, w.held = true → v = .ref b → ¬ Hd σ s b) : SD K g H (σ.set i (some v)) (putE s i w) where
  gh := sd.gh
  len := by show (s.env.set i _).length = _; rw [List.length_set, List.length_set]; exact sd.len
  slot := fun j u e => by
    have hl : i < s.env.length := by
      unfold canSet at c
      cases q : s.env[i]? with
      | none => rw [q] at c; cases c
      | some _ => exact (List.getElem?_eq_some_iff.mp q).1
    rcases getE_set e with ⟨rfl, rfl⟩ | ⟨ne, e⟩
    · exact ⟨v, List.getElem?_set_self (by rw [← sd.len]; exact hl), wa⟩
    · obtain ⟨v', ev, wa'⟩ := sd.slot j u e
      exact ⟨v', by rw [List.getElem?_set_ne (Ne.symm ne)]; exact ev, wa'⟩
  inj := fun j k u1 u2 b e1 e2 h1 h2 x1 x2 => by
    have hl : i < s.env.length := by
      unfold canSet at c
      cases q : s.env[i]? with
      | none => rw [q] at c; cases c
      | some _ => exact (List.getElem?_eq_some_iff.mp q).1
    have hs : (σ.set i (some v))[i]? = some (some v) := List.getElem?_set_self (by rw [← sd.len]; exact hl)
    rcases getE_set e1 with ⟨z1, y1⟩ | ⟨n1, e1'⟩
    · rcases getE_set e2 with ⟨z2, _⟩ | ⟨n2, e2'⟩
      · rw [z1, z2]
      · rw [z1, hs] at x1; cases x1
        rw [List.getElem?_set_ne (Ne.symm n2)] at x2
        exact absurd ⟨k, u2, e2', h2, x2⟩ (nh b (y1 ▸ h1) rfl)
    · rcases getE_set e2 with ⟨z2, y2⟩ | ⟨n2, e2'⟩
      · rw [z2, hs] at x2; cases x2
        rw [List.getElem?_set_ne (Ne.symm n1)] at x1
        exact absurd ⟨j, u1, e1', h1, x1⟩ (nh b (y2 ▸ h2) rfl)
      · rw [List.getElem?_set_ne (Ne.symm n1)] at x1
        rw [List.getElem?_set_ne (Ne.symm n2)] at x2
        exact sd.inj j k u1 u2 b e1' e2' h1 h2 x1 x2
  stl := sd.stl
  sto := sd.sto
  nd := sd.nd
  ng := sd.ng
  dr := sd.dr
theorem Ev.set {g0 : Gh} {H0 : Hp} {σ0 : Slots} {s0 : State} (e : Ev g0 H0 σ0 s0 g H σ s) (sd : SD K g H σ s) {i : Nat} (c : canSet s i = true) {v : V} {w : W} (wn : ∀ b, w.held = true → v = .ref b → H0 b = none) : Ev g0 H0 σ0 s0 g H (σ.set i (some v)) (putE s i w) where
  le := e.le
  keep := e.keep
  live := e.live
  frz := e.frz
  eta := e.eta
  mu := fun b m => by
    rcases m with ⟨j, u, e1, m1, x⟩ | m
    · rcases getE_set e1 with ⟨rfl, rfl⟩ | ⟨n1, e1⟩
      · have hl : j < s.env.length := by
          have := (List.getElem?_eq_some_iff.mp (show (s.env.set j _)[j]? = _ from e1)).1
          simpa using this
        rw [List.getElem?_set_self (by rw [← sd.len]; exact hl)] at x
        cases x
        exact .inr (wn b (by cases u <;> first | rfl | cases m1) rfl)
      · rw [List.getElem?_set_ne (Ne.symm n1)] at x
        exact e.mu b (.inl ⟨j, u, e1, m1, x⟩)
    · exact e.mu b (.inr m)
  hd := fun b m => by
    obtain ⟨j, u, e1, m1, x⟩ := m
    rcases getE_set e1 with ⟨rfl, rfl⟩ | ⟨n1, e1⟩
    · have hl : j < s.env.length := by
        have := (List.getElem?_eq_some_iff.mp (show (s.env.set j _)[j]? = _ from e1)).1
        simpa using this
      rw [List.getElem?_set_self (by rw [← sd.len]; exact hl)] at x
      cases x
      exact .inr (wn b m1 rfl)
    · rw [List.getElem?_set_ne (Ne.symm n1)] at x
      exact e.hd b ⟨j, u, e1, m1, x⟩
  ow := fun b m => by
    obtain ⟨j, d, e1, x⟩ := m
    have key : ∀ u : W, (s.env.set i (some w))[j]? = some (some u) → u.held = true → (∀ (h : s.env[j]? = some (some u)), σ[j]? = some (some (V.ref b)) → OwnA σ s b) → OwnA σ0 s0 b ∨ H0 b = none := fun u e1 hu k => by
      rcases getE_set e1 with ⟨z, z2⟩ | ⟨n1, e1⟩
      · subst z
        have hl : j < s.env.length := by
          have := (List.getElem?_eq_some_iff.mp (show (s.env.set j _)[j]? = _ from e1)).1
          simpa using this
        rw [List.getElem?_set_self (by rw [← sd.len]; exact hl)] at x
        cases x
        exact .inr (wn b (z2 ▸ hu) rfl)
      · rw [List.getElem?_set_ne (Ne.symm n1)] at x
        exact e.ow b (k e1 x)
    rcases e1 with e1 | e1
    · exact key _ e1 rfl fun h hx => ⟨j, d, .inl h, hx⟩
    · exact key _ e1 rfl fun h hx => ⟨j, d, .inr h, hx⟩
  fix := fun j d h => by
    obtain ⟨e1, d1, h1⟩ := e.fix j d h
    have ne : j ≠ i := fun z => by subst z; unfold canSet at c; rcases h1 with h1 | h1 <;> rw [h1] at c <;> cases c
    refine ⟨by rw [List.getElem?_set_ne (Ne.symm ne)]; exact e1, d1, ?_⟩
    show (s.env.set i _)[j]? = _ ∨ (s.env.set i _)[j]? = _
    rw [List.getElem?_set_ne (Ne.symm ne)]
    exact h1
  lk := fun j d h => by
    obtain ⟨e1, h1⟩ := e.lk j d h
    have ne : j ≠ i := fun z => by subst z; unfold canSet at c; rw [h1] at c; cases c
    exact ⟨by rw [List.getElem?_set_ne (Ne.symm ne)]; exact e1, by show (s.env.set i _)[j]? = _; rw [List.getElem?_set_ne (Ne.symm ne)]; exact h1⟩
  lkl := fun j d h => by
    obtain ⟨e1, h1⟩ := e.lkl j d h
    have ne : j ≠ i := fun z => by subst z; unfold canSet at c; rw [h1] at c; cases c
    exact ⟨by rw [List.getElem?_set_ne (Ne.symm ne)]; exact e1, by show (s.env.set i _)[j]? = _; rw [List.getElem?_set_ne (Ne.symm ne)]; exact h1⟩
theorem SD.freezeSlot (sd : SD K g H σ s) {i : Nat} {d : D} (e : s.env[i]? = some (some (.own d))) : ∃ a o, σ[i]? = some (some (V.ref a)) ∧ H a = some o ∧ SD K (g.frz a o) H σ (putE s i (.fz d)) ∧ Ev g H σ s (g.frz a o) H σ (putE s i (.fz d)) ∧ Rep K (g.frz a o) (.ref a) d := by
  obtain ⟨v, ev, a, o, rfl, f, q, ob⟩ := sd.slot i _ e
  have rp : Rep K (g.frz a o) (.ref a) d := ob.rep (Gh.frz_le f.1) Gh.frz_at
  have nh : ¬ Hd σ (putE s i (.fz d)) a := fun ⟨j, u, e1, h1, x⟩ => by
    rcases getE_set e1 with ⟨_, rfl⟩ | ⟨n1, e1⟩
    · cases h1
    · exact n1 (sd.inj j i u _ a e1 e h1 rfl x ev)
  -- first the slot without its holding, then the freezing
  refine ⟨a, o, ev, q, ?_, ?_, rp⟩
  · refine ⟨fun b u eb => ?_, by show (s.env.set i _).length = _; rw [List.length_set]; exact sd.len, fun j u e1 => ?_, fun j k u1 u2 b e1 e2 h1 h2 x1 x2 => ?_, sd.stl, fun j m b e1 e2 => ?_, sd.nd, fun b hb => ?_, ?_⟩
    · by_cases z : b = a
      · subst z
        have e' : upd g.G b o b = some u := eb
        rw [upd_same] at e'; cases e'
        exact .inl q
      · have e' : upd g.G a o b = some u := eb
        rw [upd_ne z] at e'
        exact sd.gh b u e'
    · rcases getE_set e1 with ⟨rfl, rfl⟩ | ⟨n1, e1⟩
      · exact ⟨_, ev, rp⟩
      · obtain ⟨v', ev', wa'⟩ := sd.slot j u e1
        refine ⟨v', ev', wa'.keep (Gh.frz_le f.1) (fun _ _ _ _ q => q) fun b eb hw x => x.frz fun z => n1 (sd.inj j i u _ a e1 e hw rfl ?_ ev)⟩
        rw [ev', eb, z]
    · rcases getE_set e1 with ⟨_, rfl⟩ | ⟨n1, e1⟩
      · cases h1
      · rcases getE_set e2 with ⟨_, rfl⟩ | ⟨n2, e2⟩
        · cases h2
        · exact sd.inj j k u1 u2 b e1 e2 h1 h2 x1 x2
    · obtain ⟨u, q1, m1⟩ := sd.sto j m b e1 e2
      exact ⟨u, q1, m1.mono (Gh.frz_le f.1)⟩
    · have ne : b ≠ a := fun z => f.2.1 (z ▸ hb)
      exact ⟨by show upd g.G a o b = _; rw [upd_ne ne]; exact (sd.ng b hb).1, (sd.ng b hb).2⟩
    · exact DrOk.frz f sd.dr
  · have low : ∀ {w u : W} {j : Nat}, (s.env.set i (some (.fz d)))[j]? = some (some u) → u.held = true → s.env[j]? = some (some u) := fun {w u j} e1 hu => by
      rcases getE_set e1 with ⟨_, rfl⟩ | ⟨_, e1⟩
      · cases hu
      · exact e1
    refine ⟨Gh.frz_le f.1, fun _ _ h _ => h, fun _ h => h, fun b l q' => ?_, fun _ _ z => z, fun b m => ?_, fun b m => ?_, fun b m => ?_, fun j d' h => ?_, fun j d' h => ?_, fun j d' h => ?_⟩
    · by_cases z : b = a
      · subst z; exact .inr (.inl (.inl ⟨i, _, e, rfl, ev⟩))
      · have q2 : upd g.G a o b ≠ none := q'
        rw [upd_ne z] at q2
        exact .inl q2
    · rcases m with ⟨j, u, e1, m1, x⟩ | m
      · exact .inl (.inl ⟨j, u, low (w := u) e1 (by cases u <;> first | rfl | cases m1), m1, x⟩)
      · exact .inl (.inr m)
    · obtain ⟨j, u, e1, m1, x⟩ := m
      exact .inl ⟨j, u, low (w := u) e1 m1, m1, x⟩
    · obtain ⟨j, d', e1, x⟩ := m
      rcases e1 with e1 | e1
      · exact .inl ⟨j, d', .inl (low (w := .own d') e1 rfl), x⟩
      · exact .inl ⟨j, d', .inr (low (w := .own d') e1 rfl), x⟩
    · have ne : j ≠ i := fun z => by subst z; rw [e] at h; cases h
      exact ⟨rfl, d', .inl (by show (s.env.set i _)[j]? = _; rw [List.getElem?_set_ne (Ne.symm ne)]; exact h)⟩
    · have ne : j ≠ i := fun z => by subst z; rw [e] at h; cases h
      exact ⟨rfl, by show (s.env.set i _)[j]? = _; rw [List.getElem?_set_ne (Ne.symm ne)]; exact h⟩
    · have ne : j ≠ i := fun z => by subst z; rw [e] at h; cases h
      exact ⟨rfl, by show (s.env.set i _)[j]? = _; rw [List.getElem?_set_ne (Ne.symm ne)]; exact h⟩
end
end DL
set_option Elab.async false
set_option linter.all false
set_option maxRecDepth 100000
set_option maxHeartbeats 1000000
namespace DL
open PySem PySem.Spec PyProof.Rows L2
def ErrAt (K : PySem.W.Frag) (g : Gh) (H : Hp) (cls : Value) (d : Option Addr) (x : Ex) : Prop :=
  cls = .ref x.cls ∧ ((x.fs = [] ∧ d = none) ∨ ∃ dd fs, d = some dd ∧ H dd = some (.xd fs) ∧ fs.map Prod.fst = x.fs.map Prod.fst ∧ Reps K g (fs.map Prod.snd) (x.fs.map Prod.snd))
section
variable {α β γ δ : Type}
def Post (K : PySem.W.Frag) (Wx : WX) (σ : Slots) (R : Gh → Hp → State → β → α → Prop) (Q : β → Hp → Prop) (g0 : Gh) (H0 : Hp) (s0 : State) : Rs α → Prop
  | .ok a s' => ∀ b g' H', SD K g' H' σ s' → Ev g0 H0 σ s0 g' H' σ s' → R g' H' s' b a → Q b H'
  | .err x s' => ∀ cls d g' H', SD K g' H' σ s' → Ev g0 H0 σ s0 g' H' σ s' → ErrAt K g' H' cls d x → Wx cls d σ H'
  | .bad => False
abbrev Rel (α β : Type) := Slots → Hp → Gh → Hp → State → β → α → Prop
def tM (K : PySem.W.Frag) (Wx : WX) (R : Rel α β) (f : M α) : Slots → Hp → (β → Hp → Prop) → Prop :=
  fun σ H Q => ∃ g s, SD K g H σ s ∧ Post K Wx σ (R σ H) Q g H s (f s)
structure Cur (K : PySem.W.Frag) (Wx : WX) (σ : Slots) (R : Gh → Hp → State → β → α → Prop) (Q : β → Hp → Prop) (g0 : Gh) (H0 : Hp) (s0 : State) (m : Rs α) (g1 : Gh) (H1 : Hp) (s1 : State) : Prop where
  ev : Ev g0 H0 σ s0 g1 H1 σ s1
  sd : SD K g1 H1 σ s1
  post : Post K Wx σ R Q g0 H0 s0 m
variable {K : PySem.W.Frag} {Wx : WX} {σ : Slots} {R : Gh → Hp → State → β → α → Prop} {Q : β → Hp → Prop} {g0 g1 g g' : Gh} {H0 H1 H H' : Hp} {s0 s1 s s' : State}
theorem tM.start {R : Rel α β} {f : M α} (h : tM K Wx R f σ H Q) : ∃ g s, Cur K Wx σ (R σ H) Q g H s (f s) g H s := by
  obtain ⟨g, s, sd, p⟩ := h
  exact ⟨g, s, .refl, sd, p⟩
theorem Cur.bind {R1 : Rel γ δ} {f : M γ} {k : γ → M α} (c : Cur K Wx σ R Q g0 H0 s0 ((f >>= k) s1) g1 H1 s1) :
    tM K Wx R1 f σ H1 (fun b H2 => ∃ a g2 s2, Cur K Wx σ R Q g0 H0 s0 (k a s2) g2 H2 s2 ∧ R1 σ H1 g2 H2 s2 b a ∧ Ev g1 H1 σ s1 g2 H2 σ s2) := by
  refine ⟨g1, s1, c.sd, ?_⟩
  have p := c.post
  have e : (f >>= k) s1 = (match f s1 with | .ok a s' => k a s' | .err x s' => .err x s' | .bad => .bad) := rfl
  rw [e] at p
  cases q : f s1 with
  | ok a s2 =>
    rw [q] at p
    intro b g2 H2 sd ev r
    exact ⟨a, g2, s2, ⟨c.ev.trans ev, sd, p⟩, r, ev⟩
  | err x s2 =>
    rw [q] at p
    intro cls d g2 H2 sd ev er
    exact p cls d g2 H2 sd (c.ev.trans ev) er
  | bad =>
    rw [q] at p
    exact p
theorem Cur.last {R1 : Rel α β} {f : M α} (c : Cur K Wx σ R Q g0 H0 s0 (f s1) g1 H1 s1) (h : ∀ b a g2 H2 s2, Ev g0 H0 σ s0 g1 H1 σ s1 → R1 σ H1 g2 H2 s2 b a → R g2 H2 s2 b a) : tM K Wx R1 f σ H1 Q := by
  refine ⟨g1, s1, c.sd, ?_⟩
  have p := c.post
  cases q : f s1 with
  | ok a s2 =>
    rw [q] at p
    exact fun b g2 H2 sd ev r => p b g2 H2 sd (c.ev.trans ev) (h b a g2 H2 s2 c.ev r)
  | err x s2 =>
    rw [q] at p
    exact fun cls d g2 H2 sd ev er => p cls d g2 H2 sd (c.ev.trans ev) er
  | bad => rw [q] at p; exact p
theorem Cur.done {a : α} {b : β} {m : Rs α} (c : Cur K Wx σ R Q g0 H0 s0 m g1 H1 s1) (e : m = .ok a s1) (r : R g1 H1 s1 b a) : Q b H1 := by
  have p := c.post
  rw [e] at p
  exact p b g1 H1 c.sd c.ev r
theorem Cur.done' {a : α} {b : β} {m : Rs α} {g2 : Gh} {H2 : Hp} {s2 : State} (c : Cur K Wx σ R Q g0 H0 s0 m g1 H1 s1) (e : m = .ok a s2) (sd : SD K g2 H2 σ s2) (ev : Ev g1 H1 σ s1 g2 H2 σ s2) (r : R g2 H2 s2 b a) : Q b H2 := by
  have p := c.post
  rw [e] at p
  exact p b g2 H2 sd (c.ev.trans ev) r
theorem Cur.notBad {m : Rs α} (c : Cur K Wx σ R Q g0 H0 s0 m g1 H1 s1) (e : m = .bad) : False := by
  have p := c.post
  rw [e] at p
  exact p
theorem tM.mono {R : Rel α β} {f : M α} {Q Q' : β → Hp → Prop} (h : tM K Wx R f σ H Q) (m : ∀ b H', Q b H' → Q' b H') : tM K Wx R f σ H Q' := by
  obtain ⟨g, s, sd, p⟩ := h
  refine ⟨g, s, sd, ?_⟩
  cases q : f s with
  | ok a s2 => rw [q] at p; exact fun b g2 H2 sd ev r => m _ _ (p b g2 H2 sd ev r)
  | err x s2 => rw [q] at p; exact p
  | bad => rw [q] at p; exact p
end
inductive VR where
  | slot (i : Nat) | t (t : T)
def RVR (K : PySem.W.Frag) : Rel VR V := fun σ H0 g H s v r => match r with
  | .slot i => σ[i]? = some (some v)
  | .t t => RT K H0 g H σ s v t
def RTt (K : PySem.W.Frag) : Rel T V := fun σ H0 g H s v t => RT K H0 g H σ s v t
abbrev tE (K : PySem.W.Frag) (Wx : WX) (f : M T) : TE := tM K Wx (RTt K) f
abbrev tV (K : PySem.W.Frag) (Wx : WX) (f : M VR) : TE := tM K Wx (RVR K) f
def DE (X : Cx) (Wx : WX) (e : Expr) (f : M T) : Prop := PE X e (tE X.K Wx f)
def DV (X : Cx) (Wx : WX) (e : Expr) (f : M VR) : Prop := PE X e (tV X.K Wx f)
def RB : Rel Bool Bool := fun _ _ _ _ _ b c => b = c
def DT (X : Cx) (Wx : WX) (e : Expr) (f : M Bool) : Prop := PT X e (tM X.K Wx RB f)
def DTW (X : Cx) (Wx : WX) (e : Expr) (f : M Bool) : Prop := PW X e (tM X.K Wx RB f)
def W.data : W → D
  | .fz d => d | .own d => d | .lent d => d | .lk d => d | .lkl d => d
def T.data : T → D
  | .fz d => d | .ow d => d
def readV : VR → M D
  | .slot i => fun s => match s.env[i]? with
    | some (some w) => .ok w.data s
    | _ => .bad
  | .t t => fun s => .ok t.data s
def VAt (K : PySem.W.Frag) (g : Gh) (H : Hp) (v : V) (d : D) : Prop := Rep K g v d ∨ ∃ a o, v = .ref a ∧ RdO H a o ∧ ObAt K g o d
section
variable {K : PySem.W.Frag} {Wx : WX} {σ : Slots} {g g' : Gh} {H0 H H' : Hp} {s s' : State} {v : V} {w : W}
theorem WAt.view (h : WAt K g H v w) : VAt K g H v w.data := by
  cases w with
  | fz d => exact .inl h
  | own d => obtain ⟨a, o, e, _, q, ob⟩ := h; exact .inr ⟨a, o, e, .inl q, ob⟩
  | lent d => obtain ⟨a, o, e, _, q, ob⟩ := h; exact .inr ⟨a, o, e, .inl q, ob⟩
  | lk d => obtain ⟨a, o, e, _, q, ob⟩ := h; exact .inr ⟨a, o, e, q, ob⟩
  | lkl d => obtain ⟨a, o, e, _, q, ob⟩ := h; exact .inr ⟨a, o, e, q, ob⟩
theorem TAt.view {t : T} (h : TAt K g H v t) : VAt K g H v t.data := by
  cases t with
  | fz d => exact .inl h
  | ow d => obtain ⟨a, o, e, _, q, ob⟩ := h; exact .inr ⟨a, o, e, .inl q, ob⟩
theorem RVR.read {r : VR} {d : D} (sd : SD K g H σ s) (h : RVR K σ H0 g H s v r) (e : readV r s = .ok d s') : s' = s ∧ VAt K g H v d := by
  cases r with
  | slot i =>
    unfold readV at e
    cases e2 : s.env[i]? with
    | none => simp only [e2] at e; cases e
    | some w =>
      cases w with
      | none => simp only [e2] at e; cases e
      | some w =>
        simp only [e2] at e
        cases e
        obtain ⟨v', ev, wa⟩ := sd.slot i w e2
        have h : σ[i]? = some (some v) := h
        rw [h] at ev; cases ev
        exact ⟨rfl, wa.view⟩
  | t t =>
    unfold readV at e
    cases e
    exact ⟨rfl, TAt.view h.at_⟩
theorem RVR.ev {r : VR} (e : Ev g H σ s g' H' σ s') (h : RVR K σ H0 g H s v r) : RVR K σ H0 g' H' s' v r := by
  cases r with
  | slot i => exact h
  | t t => exact RT.ev e h
theorem RVR.past {r : VR} {H1 : Hp} (l : ∀ a, H0 a ≠ none → H1 a ≠ none) (h : RVR K σ H1 g H s v r) : RVR K σ H0 g H s v r := by
  cases r with
  | slot i => exact h
  | t t => exact RT.past l h
theorem VAt.sc {d : D} (h : VAt K g H v d) (n : ∀ o, ¬ ObAt K g o d) : Rep K g v d := by
  rcases h with h | ⟨a, o, _, _, ob⟩
  · exact h
  · exact (n o ob).elim
theorem VAt.le {d : D} (h : Le g g') (x : VAt K g H v d) : VAt K g' H v d := by
  rcases x with x | ⟨a, o, e, q, ob⟩
  · exact .inl (x.mono h)
  · exact .inr ⟨a, o, e, q, ob.mono h⟩
theorem VAt.int {i : Int} (h : VAt K g H v (.int i)) : v = .int i := by cases h.sc (fun _ z => z); rfl
theorem VAt.bl {i : Bool} (h : VAt K g H v (.bl i)) : v = .bl i := by cases h.sc (fun _ z => z); rfl
theorem VAt.str {i : Str} (h : VAt K g H v (.str i)) : v = .str i := by cases h.sc (fun _ z => z); rfl
theorem VAt.non (h : VAt K g H v .non) : v = .non := by cases h.sc (fun _ z => z); rfl
theorem VAt.tup {ds : List D} (sd : SD K g H σ s) (h : VAt K g H v (.tup ds)) : ∃ a xs, v = .ref a ∧ SqT K H a xs ∧ Reps K g xs ds := by
  cases h.sc (fun _ z => z) with
  | tup q r => exact ⟨_, _, rfl, .of (sd.here q rfl), r⟩
  | tup0 q => exact ⟨_, _, rfl, sd.tup q, .nil⟩
theorem VAt.tupH {d : D} {ds : List D} (sd : SD K g H σ s) (h : VAt K g H v (.tup (d :: ds))) : ∃ a xs, v = .ref a ∧ H a = some (.tup xs) ∧ Reps K g xs (d :: ds) := by
  cases h.sc (fun _ z => z) with
  | tup q r => exact ⟨_, _, rfl, sd.here q rfl, r⟩
theorem VAt.lst {ds : List D} (sd : SD K g H σ s) (h : VAt K g H v (.lst ds)) : ∃ a xs, v = .ref a ∧ H a = some (.lst xs) ∧ Reps K g xs ds := by
  rcases h with h | ⟨a, o, e, q, ob⟩
  · cases h with
    | lst q r => exact ⟨_, _, rfl, sd.here q rfl, r⟩
  · obtain ⟨xs, rfl, r⟩ := ob
    exact ⟨a, xs, e, q.exact rfl, r⟩
theorem VAt.dk {ds : List (Key × D)} (sd : SD K g H σ s) (h : VAt K g H v (.dk ds)) : ∃ a kvs, v = .ref a ∧ RdO H a (.dK kvs) ∧ kvs.map Prod.fst = ds.map Prod.fst ∧ Reps K g (kvs.map Prod.snd) (ds.map Prod.snd) := by
  rcases h with h | ⟨a, o, e, q, ob⟩
  · cases h with
    | dk q k r => exact ⟨_, _, rfl, sd.gh _ _ q, k, r⟩
  · obtain ⟨xs, rfl, k, r⟩ := ob
    exact ⟨a, xs, e, q, k, r⟩
theorem VAt.dt {ds : List (List Key × D)} (sd : SD K g H σ s) (h : VAt K g H v (.dt ds)) : ∃ a kvs, v = .ref a ∧ RdO H a (.dT kvs) ∧ kvs.map Prod.fst = ds.map Prod.fst ∧ Reps K g (kvs.map Prod.snd) (ds.map Prod.snd) := by
  rcases h with h | ⟨a, o, e, q, ob⟩
  · cases h with
    | dt q k r => exact ⟨_, _, rfl, sd.gh _ _ q, k, r⟩
  · obtain ⟨xs, rfl, k, r⟩ := ob
    exact ⟨a, xs, e, q, k, r⟩
theorem VAt.obj {C : Addr} {ds : List (Str × D)} (sd : SD K g H σ s) (h : VAt K g H v (.obj C ds)) : ∃ a dx fs, v = .ref a ∧ H a = some (.ins C dx fs) ∧ fs.map Prod.fst = ds.map Prod.fst ∧ Reps K g (fs.map Prod.snd) (ds.map Prod.snd) := by
  rcases h with h | ⟨a, o, e, q, ob⟩
  · cases h with
    | obj q k r => exact ⟨_, _, _, rfl, sd.here q rfl, k, r⟩
  · obtain ⟨dx, xs, rfl, k, r⟩ := ob
    exact ⟨a, dx, xs, e, q.exact rfl, k, r⟩
end
end DL
set_option Elab.async false
set_option linter.all false
set_option maxRecDepth 100000
set_option maxHeartbeats 1000000
namespace DL
open PySem PySem.Spec PyProof.Rows L2
section
variable {K : PySem.W.Frag} {Wx : WX} {σ : Slots} {g g1 : Gh} {H H0 H1 : Hp} {s s0 s1 : State} {Q : V → Hp → Prop} {R : Gh → Hp → State → V → T → Prop}
def Fin (K : PySem.W.Frag) (g : Gh) (H : Hp) (σ : Slots) (s : State) (t : T) (Q : V → Hp → Prop) : Prop :=
  ∀ v g' H', SD K g' H' σ s → Ev g H σ s g' H' σ s → RT K H g' H' σ s v t → Q v H'
theorem Fin.fz {v : V} {d : D} (sd : SD K g H σ s) (r : Rep K g v d) (f : Fin K g H σ s (.fz d) Q) : Q v H := f v g H sd .refl ⟨r, fun _ _ z => nomatch z⟩
theorem Fin.ow {p : Addr} {o : HO} {d : D} (sd : SD K g H σ s) (hp : H p = none) (ob : ObAt K g o d) (f : Fin K g H σ s (.ow d) Q) : Q (.ref p) (upd H p o) := by
  refine f _ g _ (sd.alloc hp) (sd.allocEv hp) ⟨⟨p, o, rfl, sd.free1 hp, upd_same, ob⟩, fun d' a e1 e2 => ?_⟩
  cases e2
  exact ⟨hp, sd.noHd hp⟩
theorem ObAt.lst {xs : List V} {ds : List D} (r : Reps K g xs ds) : ObAt K g (.lst xs) (.lst ds) := ⟨xs, rfl, r⟩
theorem ObAt.dk {xs : List (Key × V)} {ds : List (Key × D)} (e : xs.map Prod.fst = ds.map Prod.fst) (r : Reps K g (xs.map Prod.snd) (ds.map Prod.snd)) : ObAt K g (.dK xs) (.dk ds) := ⟨xs, rfl, e, r⟩
theorem ObAt.dt {xs : List (List Key × V)} {ds : List (List Key × D)} (e : xs.map Prod.fst = ds.map Prod.fst) (r : Reps K g (xs.map Prod.snd) (ds.map Prod.snd)) : ObAt K g (.dT xs) (.dt ds) := ⟨xs, rfl, e, r⟩
theorem Fin.tup {p : Addr} {xs : List V} {ds : List D} (sd : SD K g H σ s) (hp : H p = none) (r : Reps K g xs ds) (f : Fin K g H σ s (.fz (.tup ds)) Q) : Q (.ref p) (upd H p (.tup xs)) := by
  have f1 := sd.free1 hp
  have sd1 := (sd.alloc (o := .tup xs) hp).freeze f1 (sd.noHd hp) upd_same
  refine f _ (g.frz p (.tup xs)) _ sd1 ((sd.allocEv hp).freeze f1 hp) ⟨?_, fun _ _ z => nomatch z⟩
  exact .tup Gh.frz_at (r.mono (Gh.frz_le f1.1))
theorem Cur.fin {t : T} {m : Rs T} (c : Cur K Wx σ (fun g' H' s' v t => RT K H0 g' H' σ s' v t) Q g H0 s0 m g1 H1 s1) (e : m = .ok t s1) : Fin K g1 H1 σ s1 t Q := fun v g2 H2 sd ev r =>
  c.done' e sd ev (r.past c.ev.live)
end
def OpD (X : Cx) (f : Value → Value → Sem Value) (h : D → D → Option T) : Prop :=
  ∃ r, OpR X f r ∧ ∀ (g : Gh) (H : Hp) (σ : Slots) (s : State) (x y : V) (d e : D) (t : T) (Q : V → Hp → Prop), SD X.K g H σ s → VAt X.K g H x d → VAt X.K g H y e → h d e = some t → Fin X.K g H σ s t Q → r x y H Q
def opt (o : Option T) : M T := fun s => match o with
  | some t => .ok t s
  | none => .bad
def dOp2 (h : D → D → Option T) (fa fb : M VR) : M T := fa >>= fun x => fb >>= fun y => readV x >>= fun d => readV y >>= fun e => opt (h d e)
section
variable {α β γ : Type}
theorem bind_eq {f : M α} {k : α → M β} {s : State} : (f >>= k) s = (match f s with | .ok a s' => k a s' | .err x s' => .err x s' | .bad => .bad) := rfl
theorem readV_res (r : VR) (s : State) : (∃ d, readV r s = .ok d s) ∨ readV r s = .bad := by
  cases r with
  | slot i =>
    cases e : s.env[i]? with
    | none => exact .inr (by simp only [readV, e])
    | some w =>
      cases w with
      | none => exact .inr (by simp only [readV, e])
      | some w => exact .inl ⟨w.data, by simp only [readV, e]⟩
  | t t => exact .inl ⟨_, rfl⟩
variable {K : PySem.W.Frag} {Wx : WX} {σ : Slots} {R : Gh → Hp → State → β → α → Prop} {Q : β → Hp → Prop} {g0 g1 g g' : Gh} {H0 H1 H H' : Hp} {s0 s1 s s' : State}
theorem Cur.read {x : VR} {v : V} {k : D → M α} {Hq : Hp} (c : Cur K Wx σ R Q g0 H0 s0 ((readV x >>= k) s1) g1 H1 s1) (h : RVR K σ Hq g1 H1 s1 v x) :
    ∃ d, Cur K Wx σ R Q g0 H0 s0 (k d s1) g1 H1 s1 ∧ VAt K g1 H1 v d := by
  rw [bind_eq] at c
  rcases readV_res x s1 with ⟨d, e⟩ | e
  · rw [e] at c
    exact ⟨d, c, (h.read c.sd e).2⟩
  · rw [e] at c
    exact (c.notBad rfl).elim
end
section
variable {X : Cx} {Wx : WX} {a b c : Expr} {fa fb fc : M VR} {pos : Pos}
theorem op2_run {f : Value → Value → Sem Value} {h : D → D → Option T} {r : R2} (hr : ∀ (g : Gh) (H : Hp) (σ : Slots) (s : State) (x y : V) (d e : D) (t : T) (Q : V → Hp → Prop), SD X.K g H σ s → VAt X.K g H x d → VAt X.K g H y e → h d e = some t → Fin X.K g H σ s t Q → r x y H Q)
    {σ : Slots} {H : Hp} {Q : V → Hp → Prop} (q : tE X.K Wx (dOp2 h fa fb) σ H Q) : tOp r (tV X.K Wx fa) (tV X.K Wx fb) σ H Q := by
  obtain ⟨g, s, c⟩ := q.start
  refine c.bind.mono fun x H1 ⟨x', g1, s1, c1, r1, e1⟩ => ?_
  refine c1.bind.mono fun y H2 ⟨y', g2, s2, c2, r2, e2⟩ => ?_
  obtain ⟨d, c3, v1⟩ := c2.read (r1.ev e2)
  obtain ⟨e, c4, v2⟩ := c3.read r2
  cases q : h d e with
  | none => exact (c4.notBad (by rw [q]; rfl)).elim
  | some t => exact hr g2 H2 σ s2 x y d e t Q c2.sd v1 v2 q (c4.fin (by rw [q]; rfl))
theorem de_op {op : Operator} {h : D → D → Option T} (ho : OpD X (binaryOp op) h) (ha : DV X Wx a fa) (hb : DV X Wx b fb) : DE X Wx (.BinOp a op b pos) (dOp2 h fa fb) := by
  obtain ⟨r, hr, k⟩ := ho
  exact ⟨fun pins s σ H Q I q => (pe_op hr ha hb).run pins s σ H Q I (op2_run (f := binaryOp op) k q)⟩
def dB (f : M T) : M Bool := f >>= fun t s => match t with
  | .fz (.bl b) => .ok b s
  | _ => .bad
theorem dB_run {f : M T} {σ : Slots} {H : Hp} {Q : Bool → Hp → Prop} (q : tM X.K Wx RB (dB f) σ H Q) : tE X.K Wx f σ H fun x H' => ∃ k, x = .bl k ∧ Q k H' := by
  obtain ⟨g, s, c⟩ := q.start
  refine c.bind.mono fun x H1 ⟨t, g1, s1, c1, r1, e1⟩ => ?_
  cases t with
  | ow d => exact (c1.notBad rfl).elim
  | fz d =>
    cases d with
    | bl k =>
      have r := RT.at_ r1
      cases r
      exact ⟨k, rfl, c1.done rfl rfl⟩
    | _ => exact (c1.notBad rfl).elim
theorem dt_val {e : Expr} {f : M T} (h : DE X Wx e f) (he : ∀ whole, isTrue e X.env whole = (do let v ← whole; standAt e.pos; holding [v] (truthy v)) := by intro _; rfl) : DT X Wx e (dB f) :=
  ⟨fun pins s σ H Q I q => (pt_val h he).run pins s σ H Q I (dB_run q)⟩
theorem dt_cmp {op : CmpOp} {h : D → D → Option T} (ho : OpD X (compareOp op) h) (ha : DV X Wx a fa) (hb : DV X Wx b fb) (hm : behindInMarks op b = false) : DT X Wx (.Compare a [op] [b] pos) (dB (dOp2 h fa fb)) := by
  obtain ⟨r, hr, k⟩ := ho
  exact ⟨fun pins s σ H Q I q => (pt_cmpR hr ha hb hm).run pins s σ H Q I (op2_run (f := compareOp op) k (dB_run q))⟩
def dVar (i : Nat) : M T := fun s => match s.env[i]? with
  | some (some (.fz d)) => .ok (.fz d) s
  | some (some (.own d)) => .ok (.fz d) (putE s i (.fz d))
  | _ => .bad
theorem dVar_run {i : Nat} {σ : Slots} {H : Hp} {Q : V → Hp → Prop} (q : tE X.K Wx (dVar i) σ H Q) : tVar i σ H Q := by
  obtain ⟨g, s, sd, p⟩ := q
  unfold dVar at p
  cases e : s.env[i]? with
  | none => simp only [e] at p; exact False.elim p
  | some w =>
    cases w with
    | none => simp only [e] at p; exact False.elim p
    | some w =>
      obtain ⟨v, ev, wa⟩ := sd.slot i w e
      cases w with
      | fz d =>
        simp only [e] at p
        exact ⟨v, ev, p v g H sd .refl ⟨wa, fun _ _ z => nomatch z⟩⟩
      | own d =>
        simp only [e] at p
        obtain ⟨a, o, ea, q, sd1, ev1, rp⟩ := sd.freezeSlot e
        exact ⟨.ref a, ea, p _ _ _ sd1 ev1 ⟨rp, fun _ _ z => nomatch z⟩⟩
      | lent d => simp only [e] at p; exact False.elim p
      | lk d => simp only [e] at p; exact False.elim p
      | lkl d => simp only [e] at p; exact False.elim p
theorem de_v (i : Nat) {x : Str} {pos : Pos} (hN : X.N[i]? = some x := by rfl) (hv : Vis X.env.scope x := by first | exact Or.inl rfl | exact Or.inr (Or.inl rfl) | exact Or.inr (Or.inr rfl)) (hd : (x == ("__debug__" : Str)) = false := by decide)
    (hcd : (x == ("__classdict__" : Str)) = false := by decide) : DE X Wx (.Name x pos) (dVar i) := ⟨fun pins s σ H Q I q => (pe_var hN hv hd hcd).run pins s σ H Q I (dVar_run q)⟩
def dSlot (i : Nat) : M VR := fun s => match s.env[i]? with
  | some (some _) => .ok (.slot i) s
  | _ => .bad
theorem dSlot_run {i : Nat} {σ : Slots} {H : Hp} {Q : V → Hp → Prop} (q : tV X.K Wx (dSlot i) σ H Q) : tVar i σ H Q := by
  obtain ⟨g, s, sd, p⟩ := q
  unfold dSlot at p
  cases e : s.env[i]? with
  | none => simp only [e] at p; exact False.elim p
  | some w =>
    cases w with
    | none => simp only [e] at p; exact False.elim p
    | some w =>
      obtain ⟨v, ev, wa⟩ := sd.slot i w e
      simp only [e] at p
      exact ⟨v, ev, p v g H sd .refl ev⟩
theorem dv_v (i : Nat) {x : Str} {pos : Pos} (hN : X.N[i]? = some x := by rfl) (hv : Vis X.env.scope x := by first | exact Or.inl rfl | exact Or.inr (Or.inl rfl) | exact Or.inr (Or.inr rfl)) (hd : (x == ("__debug__" : Str)) = false := by decide)
    (hcd : (x == ("__classdict__" : Str)) = false := by decide) : DV X Wx (.Name x pos) (dSlot i) := ⟨fun pins s σ H Q I q => (pe_var hN hv hd hcd).run pins s σ H Q I (dSlot_run q)⟩
def dV (f : M T) : M VR := f >>= fun t => pure (.t t)
theorem dv_e {e : Expr} {f : M T} (h : DE X Wx e f) : DV X Wx e (dV f) := ⟨fun pins s σ H Q I q => PE.run h pins s σ H Q I (by
  obtain ⟨g, s, c⟩ := q.start
  exact c.bind.mono fun x H1 ⟨t, g1, s1, c1, r1, e1⟩ => c1.done (a := .t t) rfl (show RVR X.K σ H g1 H1 s1 x (.t t) from r1))⟩
def dC (d : D) : M T := fun s => .ok (.fz d) s
theorem dC_run {v : V} {d : D} {σ : Slots} {H : Hp} {Q : V → Hp → Prop} (h : ∀ g, Rep X.K g v d) (q : tE X.K Wx (dC d) σ H Q) : Q v H := by
  obtain ⟨g, s, sd, p⟩ := q
  exact p v g H sd .refl ⟨h g, fun _ _ z => nomatch z⟩
theorem de_int {i j pos} : DE X Wx (.Constant (.int i) j pos) (dC (.int i)) := ⟨fun pins s σ H Q I q => pe_int.run pins s σ H Q I (dC_run (fun _ => .int i) q)⟩
theorem de_bl {i j pos} : DE X Wx (.Constant (.bool i) j pos) (dC (.bl i)) := ⟨fun pins s σ H Q I q => pe_bl.run pins s σ H Q I (dC_run (fun _ => .bl i) q)⟩
theorem de_non {j pos} : DE X Wx (.Constant .none j pos) (dC .non) := ⟨fun pins s σ H Q I q => pe_non.run pins s σ H Q I (dC_run (fun _ => .non) q)⟩
theorem de_str {i j pos} : DE X Wx (.Constant (.str i) j pos) (dC (.str i)) := ⟨fun pins s σ H Q I q => pe_str.run pins s σ H Q I (dC_run (fun _ => .str i) q)⟩
def dAnd (f k : M Bool) : M Bool := f >>= fun b => if b = true then k else pure false
def dOr (f k : M Bool) : M Bool := f >>= fun b => if b = true then pure true else k
def dNot (f : M Bool) : M Bool := f >>= fun b => pure (!b)
variable {f k : M Bool} {ft fe : M T} {rest : List Expr}
theorem dtw_and1 (h : DT X Wx a f) : DTW X Wx (.BoolOp .And [a] pos) f := pw_and1 h
theorem dtw_or1 (h : DT X Wx a f) : DTW X Wx (.BoolOp .Or [a] pos) f := pw_or1 h
theorem dtw_and (ha : DT X Wx a f) (hb : DTW X Wx (.BoolOp .And (b :: rest) pos) k) : DTW X Wx (.BoolOp .And (a :: b :: rest) pos) (dAnd f k) :=
  ⟨fun whole pins s σ H Q I q => (pw_and ha hb).run whole pins s σ H Q I (by
    obtain ⟨g, s, c⟩ := q.start
    refine c.bind.mono fun x H1 ⟨t, g1, s1, c1, r1, e1⟩ => ?_
    cases (show x = t from r1)
    cases x with
    | true => rw [if_pos rfl] at c1 ⊢; exact c1.last fun b a g2 H2 s2 _ r => r
    | false => rw [if_neg Bool.false_ne_true] at c1 ⊢; exact c1.done rfl rfl)⟩
theorem dtw_or (ha : DT X Wx a f) (hb : DTW X Wx (.BoolOp .Or (b :: rest) pos) k) : DTW X Wx (.BoolOp .Or (a :: b :: rest) pos) (dOr f k) :=
  ⟨fun whole pins s σ H Q I q => (pw_or ha hb).run whole pins s σ H Q I (by
    obtain ⟨g, s, c⟩ := q.start
    refine c.bind.mono fun x H1 ⟨t, g1, s1, c1, r1, e1⟩ => ?_
    cases (show x = t from r1)
    cases x with
    | true => rw [if_pos rfl] at c1 ⊢; exact c1.done rfl rfl
    | false => rw [if_neg Bool.false_ne_true] at c1 ⊢; exact c1.last fun b a g2 H2 s2 _ r => r)⟩
theorem DTW.dt {e : Expr} (h : DTW X Wx e f) : DT X Wx e f := PW.pt h
theorem dt_not (ha : DT X Wx a f) : DT X Wx (.UnaryOp .Not a pos) (dNot f) :=
  ⟨fun pins s σ H Q I q => (pt_not ha).run pins s σ H Q I (by
    obtain ⟨g, s, c⟩ := q.start
    refine c.bind.mono fun x H1 ⟨t, g1, s1, c1, r1, e1⟩ => ?_
    cases (show x = t from r1)
    exact c1.done rfl rfl)⟩
def dIf {α : Type} (c : M Bool) (t e : M α) : M α := c >>= fun b => if b = true then t else e
theorem de_if (hc : DT X Wx c f) (ha : DE X Wx a ft) (hb : DE X Wx b fe) : DE X Wx (.IfExp c a b pos) (dIf f ft fe) :=
  ⟨fun pins s σ H Q I q => (pe_ifExp hc ha hb).run pins s σ H Q I (by
    obtain ⟨g, s, c⟩ := q.start
    refine c.bind.mono fun x H1 ⟨t, g1, s1, c1, r1, e1⟩ => ?_
    cases (show x = t from r1)
    cases x with
    | true => rw [if_pos rfl] at c1 ⊢; exact c1.last fun b a g2 H2 s2 ev r => RT.past ev.live r
    | false => rw [if_neg Bool.false_ne_true] at c1 ⊢; exact c1.last fun b a g2 H2 s2 ev r => RT.past ev.live r)⟩
def UnD (X : Cx) (f : Value → Sem Value) (h : D → Option T) : Prop :=
  ∃ r, UnR X f r ∧ ∀ (g : Gh) (H : Hp) (σ : Slots) (s : State) (x : V) (d : D) (t : T) (Q : V → Hp → Prop), SD X.K g H σ s → VAt X.K g H x d → h d = some t → Fin X.K g H σ s t Q → r x H Q
def dOp1 (h : D → Option T) (fa : M VR) : M T := fa >>= fun x => readV x >>= fun d => opt (h d)
theorem de_un {op : UnaryOp} {h : D → Option T} (ho : UnD X (unaryOp op) h) (ha : DV X Wx a fa) : DE X Wx (.UnaryOp op a pos) (dOp1 h fa) := by
  obtain ⟨r, hr, k⟩ := ho
  refine ⟨fun pins s σ H Q I q => (pe_un hr ha).run pins s σ H Q I ?_⟩
  obtain ⟨g, s, c⟩ := q.start
  refine c.bind.mono fun x H1 ⟨x', g1, s1, c1, r1, e1⟩ => ?_
  obtain ⟨d, c3, v1⟩ := c1.read r1
  cases q : h d with
  | none => exact (c3.notBad (by rw [q]; rfl)).elim
  | some t => exact k g1 H1 σ s1 x d t Q c1.sd v1 q (c3.fin (by rw [q]; rfl))
end
def Apart (v : V) (r : VR) (vs : List V) (rs : List VR) : Prop := ∀ a d, r = .t (.ow d) → v = .ref a → ∀ p ∈ vs.zip rs, ∀ d', p.2 = .t (.ow d') → p.1 ≠ .ref a
inductive RVRs (K : PySem.W.Frag) (σ : Slots) (H0 : Hp) (g : Gh) (H : Hp) (s : State) : List V → List VR → Prop where
  | nil : RVRs K σ H0 g H s [] []
  | cons {v : V} {r : VR} {vs : List V} {rs : List VR} : RVR K σ H0 g H s v r → RVRs K σ H0 g H s vs rs → Apart v r vs rs → RVRs K σ H0 g H s (v :: vs) (r :: rs)
def RVL (K : PySem.W.Frag) : Rel (List VR) (List V) := fun σ H0 g H s vs rs => RVRs K σ H0 g H s vs rs
section
variable {K : PySem.W.Frag} {Wx : WX} {σ : Slots} {g g' : Gh} {H0 H H' : Hp} {s s' : State} {v : V}
theorem RVRs.ev (e : Ev g H σ s g' H' σ s') : ∀ {vs : List V} {rs : List VR}, RVRs K σ H0 g H s vs rs → RVRs K σ H0 g' H' s' vs rs
  | _, _, .nil => .nil
  | _, _, .cons a r p => .cons (RVR.ev e a) (RVRs.ev e r) p
theorem RVRs.past {H1 : Hp} (l : ∀ a, H0 a ≠ none → H1 a ≠ none) : ∀ {vs : List V} {rs : List VR}, RVRs K σ H1 g H s vs rs → RVRs K σ H0 g H s vs rs
  | _, _, .nil => .nil
  | _, _, .cons a r p => .cons (RVR.past l a) (RVRs.past l r) p
theorem RVRs.mem : ∀ {vs : List V} {rs : List VR}, RVRs K σ H0 g H s vs rs → ∀ p ∈ vs.zip rs, RVR K σ H0 g H s p.1 p.2
  | _, _, .nil, _, h => by simp at h
  | _, _, .cons a r _, p, h => by
    rw [List.zip_cons_cons] at h
    rcases List.mem_cons.mp h with rfl | h
    · exact a
    · exact RVRs.mem r p h
theorem RVRs.length : ∀ {vs : List V} {rs : List VR}, RVRs K σ H0 g H s vs rs → vs.length = rs.length
  | _, _, .nil => rfl
  | _, _, .cons _ r _ => by rw [List.length_cons, List.length_cons, RVRs.length r]
end
abbrev tL (K : PySem.W.Frag) (Wx : WX) (f : M (List VR)) : TA := tM K Wx (RVL K) f
def DA (X : Cx) (Wx : WX) (es : List Expr) (f : M (List VR)) : Prop := PA X es (tL X.K Wx f)
def dNil : M (List VR) := fun s => .ok [] s
def dCons (f : M VR) (k : M (List VR)) : M (List VR) := f >>= fun x => k >>= fun xs => pure (x :: xs)
section
variable {X : Cx} {Wx : WX} {e : Expr} {es : List Expr} {f : M VR} {k : M (List VR)} {pos : Pos}
theorem da_nil : DA X Wx [] dNil := ⟨fun pos pins s σ H Q I q => pa_nil.run pos pins s σ H Q I (by
  obtain ⟨g, s, sd, p⟩ := q
  exact p [] g H sd .refl .nil)⟩
theorem da_cons (ha : DV X Wx e f) (hr : DA X Wx es k) (hs : starEach (e :: es) X.env = (false, eval e X.env) :: starEach es X.env := by rfl) : DA X Wx (e :: es) (dCons f k) :=
  ⟨fun pos pins s σ H Q I q => (pa_cons ha hr hs).run pos pins s σ H Q I (by
    obtain ⟨g, s, c⟩ := q.start
    refine c.bind.mono fun x H1 ⟨x', g1, s1, c1, r1, e1⟩ => ?_
    refine c1.bind.mono fun xs H2 ⟨xs', g2, s2, c2, r2, e2⟩ => ?_
    refine c2.done (a := x' :: xs') rfl (.cons (r1.ev e2) (RVRs.past e1.live r2) fun a d er ev p hp d' e' ep => ?_)
    subst er
    obtain ⟨b, o, eb, _, ho, _⟩ := RT.at_ r1
    rw [ev] at eb
    cases eb
    have r := RVRs.mem r2 p hp
    rw [e', ep] at r
    have z := (RT.new r d' a rfl rfl).1
    rw [ho] at z
    cases z)⟩
def frz : VR → M D
  | .slot i => fun s => match s.env[i]? with
    | some (some (.fz d)) => .ok d s
    | some (some (.own d)) => .ok d (putE s i (.fz d))
    | _ => .bad
  | .t t => fun s => .ok t.data s
def frzs : List VR → M (List D)
  | [] => pure []
  | r :: rs => frz r >>= fun d => frzs rs >>= fun ds => pure (d :: ds)
variable {K : PySem.W.Frag} {σ σ0 : Slots} {g g' g0 : Gh} {H0 H H' Hq : Hp} {s s' s0 : State} {v : V}
theorem frz_run {r : VR} {d : D} (e : frz r s = .ok d s') (e0 : Ev g0 H0 σ0 s0 g H σ s) (sd : SD K g H σ s) (h : RVR K σ H0 g H s v r) :
    ∃ g', SD K g' H σ s' ∧ Ev g0 H0 σ0 s0 g' H σ s' ∧ Rep K g' v d ∧ (∀ v' r', RVR K σ H0 g H s v' r' → (∀ a d d2, r' = .t (.ow d) → v' = .ref a → r = .t (.ow d2) → v ≠ .ref a) → RVR K σ H0 g' H s' v' r') ∧ Le g g' := by
  cases r with
  | slot i =>
    unfold frz at e
    cases e2 : s.env[i]? with
    | none => simp only [e2] at e; cases e
    | some w =>
      cases w with
      | none => simp only [e2] at e; cases e
      | some w =>
        cases w with
        | fz d' =>
          simp only [e2] at e
          cases e
          obtain ⟨v', ev, wa⟩ := sd.slot i _ e2
          have h : σ[i]? = some (some v) := h
          rw [h] at ev; cases ev
          exact ⟨g, sd, e0, wa, fun _ _ z _ => z, .refl g⟩
        | own d' =>
          simp only [e2] at e
          cases e
          obtain ⟨a, o, ea, q, sd1, ev1, rp⟩ := sd.freezeSlot e2
          have h : σ[i]? = some (some v) := h
          rw [h] at ea; cases ea
          exact ⟨_, sd1, e0.trans ev1, rp, fun v' r' z _ => z.ev ev1, ev1.le⟩
        | lent d' => simp only [e2] at e; cases e
        | lk d' => simp only [e2] at e; cases e
        | lkl d' => simp only [e2] at e; cases e
  | t t =>
    unfold frz at e
    cases e
    cases t with
    | fz d' => exact ⟨g, sd, e0, RT.at_ h, fun _ _ z _ => z, .refl g⟩
    | ow d' =>
      obtain ⟨a, o, rfl, f, ho, ob⟩ := RT.at_ h
      obtain ⟨n1, n2⟩ := RT.new h d' a rfl rfl
      refine ⟨g.frz a o, sd.freeze f n2 ho, e0.freeze f n1, ob.rep (Gh.frz_le f.1) Gh.frz_at, fun v' r' z ne => ?_, Gh.frz_le f.1⟩
      cases r' with
      | slot i => exact z
      | t t =>
        cases t with
        | fz d => exact ⟨Rep.mono (Gh.frz_le f.1) z.at_, fun _ _ z => nomatch z⟩
        | ow d =>
          obtain ⟨b, u, rfl, fb, hb, ob2⟩ := z.at_
          refine ⟨⟨b, u, rfl, fb.frz fun q => ne b d d' rfl rfl rfl (by rw [q]), hb, ob2.mono (Gh.frz_le f.1)⟩, z.new⟩
theorem frzs_run : ∀ {rs : List VR} {vs : List V} {ds : List D} {s s' : State} {g : Gh}, frzs rs s = .ok ds s' → Ev g0 H0 σ0 s0 g H σ s → SD K g H σ s → RVRs K σ H0 g H s vs rs →
    ∃ g', SD K g' H σ s' ∧ Ev g0 H0 σ0 s0 g' H σ s' ∧ Reps K g' vs ds ∧ Le g g'
  | [], _, _, _, _, g, e, e0, sd, h => by
    cases h
    cases e
    exact ⟨g, sd, e0, .nil, .refl g⟩
  | r :: rs, _, ds, s, s', g, e, e0, sd, h => by
    cases h with
    | @cons v _ vs _ h1 h2 ap =>
      unfold frzs at e
      rw [bind_eq] at e
      cases q : frz r s with
      | bad => rw [q] at e; cases e
      | err x s1 => rw [q] at e; cases e
      | ok d s1 =>
        rw [q] at e
        have e : (frzs rs >>= fun ds => pure (d :: ds)) s1 = .ok ds s' := e
        rw [bind_eq] at e
        obtain ⟨g1, sd1, e1, rp, tr, le1⟩ := frz_run q e0 sd h1
        have h3 : ∀ {us : List V} {ts : List VR}, RVRs K σ H0 g H s us ts → (∀ p ∈ us.zip ts, p ∈ vs.zip rs) → RVRs K σ H0 g1 H s1 us ts := by
          intro us ts hh
          induction hh with
          | nil => exact fun _ => .nil
          | cons a b c ih =>
            intro hm
            exact .cons (tr _ _ a fun b' d' d2 e1 e2 e3 => fun e4 => ap b' d2 e3 e4 _ (hm _ List.mem_cons_self) d' e1 e2) (ih fun p hp => hm p (List.mem_cons_of_mem _ hp)) c
        cases q2 : frzs rs s1 with
        | bad => rw [q2] at e; cases e
        | err x s2 => rw [q2] at e; cases e
        | ok ds2 s2 =>
          rw [q2] at e
          cases e
          obtain ⟨g2, sd2, e2, rp2, le2⟩ := frzs_run q2 e1 sd1 (h3 h2 fun _ h => h)
          exact ⟨g2, sd2, e2, .cons (rp.mono le2) rp2, le1.trans le2⟩
end
end DL
set_option Elab.async false
set_option linter.all false
set_option maxRecDepth 100000
set_option maxHeartbeats 1000000
namespace DL
open PySem PySem.Spec PyProof.Rows L2
section
variable {X : Cx} {K : PySem.W.Frag} {g : Gh} {H : Hp} {σ : Slots} {s : State}
def addD : D → D → Option T
  | .int i, .int j => some (.fz (.int (i + j)))
  | .str x, .str y => if x.length + y.length ≤ sizeLine then some (.fz (.str (x ++ y))) else none
  | .lst xs, .lst ys => if xs.length + ys.length ≤ sizeLine then some (.ow (.lst (xs ++ ys))) else none
  | .tup xs, .tup ys => if xs.length + ys.length ≤ sizeLine then some (.fz (.tup (xs ++ ys))) else none
  | _, _ => none
theorem o_add : OpD X (binaryOp .Add) addD := by
  refine ⟨_, op_add.or (op_add_str.or (op_cat.or op_catA)), fun g H σ s x y d e t Q sd hx hy hh f => ?_⟩
  unfold addD at hh
  split at hh
  · cases hh; cases hx.int; cases hy.int
    exact .inl ⟨_, _, rfl, rfl, f.fz sd (.int _)⟩
  · rename_i z u
    by_cases hz : z.length + u.length ≤ sizeLine
    · rw [if_pos hz] at hh; cases hh; cases hx.str; cases hy.str
      exact .inr (.inl ⟨_, _, rfl, rfl, hz, f.fz sd (.str _)⟩)
    · rw [if_neg hz] at hh; cases hh
  · rename_i ds es
    by_cases hz : ds.length + es.length ≤ sizeLine
    · rw [if_pos hz] at hh; cases hh
      obtain ⟨a, xs, rfl, ha, ra⟩ := hx.lst sd
      obtain ⟨b, ys, rfl, hb, rb⟩ := hy.lst sd
      refine .inr (.inr (.inl ⟨a, b, xs, ys, rfl, rfl, ha, hb, by rw [ra.length, rb.length]; exact hz, fun p hp => f.ow sd hp (.lst (ra.append rb))⟩))
    · rw [if_neg hz] at hh; cases hh
  · rename_i ds es
    by_cases hz : ds.length + es.length ≤ sizeLine
    · rw [if_pos hz] at hh; cases hh
      obtain ⟨a, xs, rfl, ha, ra⟩ := hx.tup sd
      obtain ⟨b, ys, rfl, hb, rb⟩ := hy.tup sd
      refine .inr (.inr (.inr ⟨a, b, xs, ys, rfl, rfl, ha, hb, by rw [ra.length, rb.length]; exact hz, fun e => ?_, fun n e => ?_, fun _ _ p hp => f.tup sd hp (ra.append rb)⟩))
      · subst e
        cases ra
        exact f.fz sd (hy.sc fun _ z => z)
      · subst e
        cases rb
        rw [List.append_nil] at f
        exact f.fz sd (hx.sc fun _ z => z)
    · rw [if_neg hz] at hh; cases hh
  · cases hh
def bnd64 (i : Int) : Bool := decide (-(2 ^ 64) < i) && decide (i < 2 ^ 64)
theorem bnd64_of {i : Int} (h : bnd64 i = true) : -(2 ^ 64) < i ∧ i < 2 ^ 64 := by
  unfold bnd64 at h
  rw [Bool.and_eq_true, decide_eq_true_eq, decide_eq_true_eq] at h
  exact h
theorem Reps.flatRep {K : PySem.W.Frag} {g : Gh} {xs : List V} {ds : List D} (r : Reps K g xs ds) : ∀ n : Nat, Reps K g (List.replicate n xs).flatten (List.replicate n ds).flatten
  | 0 => .nil
  | n + 1 => by
    rw [List.replicate_succ, List.replicate_succ, List.flatten_cons, List.flatten_cons]
    exact r.append (Reps.flatRep r n)
def mulD : D → D → Option T
  | .int i, .int j => if bnd64 i || bnd64 j then some (.fz (.int (i * j))) else none
  | .lst xs, .int k => if bnd64 (k * 2) && decide (xs.length * k.toNat ≤ sizeLine) then some (.ow (.lst (List.replicate k.toNat xs).flatten)) else none
  | _, _ => none
theorem o_mul : OpD X (binaryOp .Mult) mulD := by
  refine ⟨_, op_mul.or op_rep, fun g H σ s x y d e t Q sd hx hy hh f => ?_⟩
  unfold mulD at hh
  split at hh
  · rename_i i j
    cases hb : (bnd64 i || bnd64 j) with
    | false => rw [hb] at hh; cases hh
    | true =>
      rw [hb] at hh; cases hh; cases hx.int; cases hy.int
      refine .inl ⟨_, _, rfl, rfl, ?_, f.fz sd (.int _)⟩
      rcases (Bool.or_eq_true _ _).mp hb with h | h
      · exact .inl (bnd64_of h)
      · exact .inr (bnd64_of h)
  · rename_i ds k
    cases hb : (bnd64 (k * 2) && decide (ds.length * k.toNat ≤ sizeLine)) with
    | false => rw [hb] at hh; cases hh
    | true =>
      rw [hb] at hh; cases hh
      obtain ⟨h1, h2⟩ := (Bool.and_eq_true _ _).mp hb
      have h1 := bnd64_of h1
      obtain ⟨a, xs, rfl, ha, ra⟩ := hx.lst sd
      cases hy.int
      refine .inr ⟨a, k, xs, rfl, rfl, ha, by omega, by omega, by rw [ra.length]; exact of_decide_eq_true h2, fun p hp => f.ow sd hp (.lst (ra.flatRep _))⟩
  · cases hh
def modD : D → D → Option T
  | .int i, .int j => if 0 < j then some (.fz (.int (i % j))) else none
  | _, _ => none
theorem o_mod : OpD X (binaryOp .Mod) modD := by
  refine ⟨_, op_mod, fun g H σ s x y d e t Q sd hx hy hh f => ?_⟩
  unfold modD at hh
  split at hh
  · rename_i i j
    by_cases hb : 0 < j
    · rw [if_pos hb] at hh; cases hh; cases hx.int; cases hy.int
      exact ⟨_, _, rfl, rfl, hb, f.fz sd (.int _)⟩
    · rw [if_neg hb] at hh; cases hh
  · cases hh
def powD : D → D → Option T
  | .int i, .int j => if 0 ≤ j ∧ j ≤ 1000000 ∧ i.natAbs < 2 ^ 64 then some (.fz (.int (i ^ j.toNat))) else none
  | _, _ => none
theorem o_pow : OpD X (binaryOp .Pow) powD := by
  refine ⟨_, op_pow, fun g H σ s x y d e t Q sd hx hy hh f => ?_⟩
  unfold powD at hh
  split at hh
  · rename_i i j
    by_cases hb : 0 ≤ j ∧ j ≤ 1000000 ∧ i.natAbs < 2 ^ 64
    · rw [if_pos hb] at hh; cases hh; cases hx.int; cases hy.int
      exact ⟨_, _, rfl, rfl, hb, f.fz sd (.int _)⟩
    · rw [if_neg hb] at hh; cases hh
  · cases hh
def negD : D → Option T
  | .int i => some (.fz (.int (-i)))
  | _ => none
theorem o_neg : UnD X (unaryOp .USub) negD := by
  refine ⟨_, un_neg, fun g H σ s x d t Q sd hx hh f => ?_⟩
  unfold negD at hh
  split at hh
  · cases hh; cases hx.int
    exact ⟨_, rfl, f.fz sd (.int _)⟩
  · cases hh
def cmpD (p : Int → Int → Bool) : D → D → Option T
  | .int i, .int j => some (.fz (.bl (p i j)))
  | _, _ => none
theorem o_cmp {f : Value → Value → Sem Value} {p : Int → Int → Bool} (h : OpR X f (rI0 fun i j => .bl (p i j))) : OpD X f (cmpD p) := by
  refine ⟨_, h, fun g H σ s x y d e t Q sd hx hy hh f => ?_⟩
  unfold cmpD at hh
  split at hh
  · cases hh; cases hx.int; cases hy.int
    exact ⟨_, _, rfl, rfl, f.fz sd (.bl _)⟩
  · cases hh
def ltD : D → D → Option T := cmpD fun i j => decide (i < j)
def geD : D → D → Option T := cmpD fun i j => decide (j ≤ i)
theorem o_lt : OpD X (compareOp .Lt) ltD := o_cmp op_lt
theorem o_ge : OpD X (compareOp .GtE) geD := o_cmp op_ge
mutual
def toPy : D → Option PyData
  | .non => some .none
  | .bl b => some (.bool b)
  | .int i => some (.int i)
  | .str x => some (.str x)
  | .tup ds => (toPys ds).map .tuple
  | .lst ds => (toPys ds).map .list
  | _ => none
def toPys : List D → Option (List PyData)
  | [] => some []
  | d :: ds => match toPy d, toPys ds with
    | some p, some ps => some (p :: ps)
    | _, _ => none
end
theorem toPys_cons {d : D} {ds : List D} {ps : List PyData} (h : toPys (d :: ds) = some ps) : ∃ p qs, toPy d = some p ∧ toPys ds = some qs ∧ ps = p :: qs := by
  unfold toPys at h
  cases e1 : toPy d with
  | none => rw [e1] at h; cases h
  | some p =>
    cases e2 : toPys ds with
    | none => rw [e1, e2] at h; cases h
    | some qs => rw [e1, e2] at h; cases h; exact ⟨p, qs, rfl, rfl, rfl⟩
mutual
theorem Rep.dp (sd : SD K g H σ s) : ∀ {v : V} {d : D} {p : PyData}, Rep K g v d → toPy d = some p → Dp K H v p
  | _, _, _, .non, h => by unfold toPy at h; cases h; exact .non
  | _, _, _, .bl b, h => by unfold toPy at h; cases h; exact .bl b
  | _, _, _, .int i, h => by unfold toPy at h; cases h; exact .int i
  | _, _, _, .str x, h => by unfold toPy at h; cases h; exact .str x
  | _, _, _, .tup (ds := ds) q r, h => by
    unfold toPy at h
    cases e : toPys ds with
    | none => rw [e] at h; cases h
    | some ps => rw [e] at h; cases h; exact .tup (.of (sd.here q rfl)) (Reps.dp sd r e)
  | _, _, _, .tup0 q, h => by
    unfold toPy toPys at h
    cases h
    exact .tup (sd.tup q) .nil
  | _, _, _, .lst (ds := ds) q r, h => by
    unfold toPy at h
    cases e : toPys ds with
    | none => rw [e] at h; cases h
    | some ps => rw [e] at h; cases h; exact .lst (.of (sd.here q rfl)) (Reps.dp sd r e)
  | _, _, _, .frl _, h => by unfold toPy at h; cases h
  | _, _, _, .dk _ _ _, h => by unfold toPy at h; cases h
  | _, _, _, .dt _ _ _, h => by unfold toPy at h; cases h
  | _, _, _, .obj _ _ _, h => by unfold toPy at h; cases h
  | _, _, _, .ptr _, h => by unfold toPy at h; cases h
  | _, _, _, .draw _, h => by unfold toPy at h; cases h
theorem Reps.dp (sd : SD K g H σ s) : ∀ {v : List V} {d : List D} {p : List PyData}, Reps K g v d → toPys d = some p → DpAll K H v p
  | _, _, _, .nil, h => by unfold toPys at h; cases h; exact .nil
  | _, _, _, .cons a r, h => by
    obtain ⟨p, qs, e1, e2, rfl⟩ := toPys_cons h
    exact .cons (Rep.dp sd a e1) (Reps.dp sd r e2)
end
theorem VAt.dp (sd : SD K g H σ s) {v : V} {d : D} {p : PyData} (h : VAt K g H v d) (e : toPy d = some p) : Dp K H v p := by
  rcases h with h | ⟨a, o, rfl, q, ob⟩
  · exact h.dp sd e
  · cases d with
    | lst ds =>
      obtain ⟨xs, rfl, r⟩ := ob
      unfold toPy at e
      cases e2 : toPys ds with
      | none => rw [e2] at e; cases e
      | some ps => rw [e2] at e; cases e; exact .lst (.of (q.exact rfl)) (r.dp sd e2)
    | dk ds => unfold toPy at e; cases e
    | dt ds => unfold toPy at e; cases e
    | obj C ds => unfold toPy at e; cases e
    | _ => exact ob.elim
def eqD (d e : D) : Option Bool := match toPy d, toPy e with
  | some p, some q => if SeqAt.shaped p && SeqAt.shaped q then some (PyData.eqv p q) else none
  | _, _ => none
def eqT (d e : D) : Option T := (eqD d e).map fun b => .fz (.bl b)
def neT (d e : D) : Option T := (eqD d e).map fun b => .fz (.bl (!b))
theorem eqD_some {d e : D} {b : Bool} (h : eqD d e = some b) : ∃ p q, toPy d = some p ∧ toPy e = some q ∧ SeqAt.shaped p = true ∧ SeqAt.shaped q = true ∧ b = PyData.eqv p q := by
  unfold eqD at h
  cases e1 : toPy d with
  | none => rw [e1] at h; cases h
  | some p =>
    cases e2 : toPy e with
    | none => rw [e1, e2] at h; cases h
    | some q =>
      rw [e1, e2] at h
      cases hs : (SeqAt.shaped p && SeqAt.shaped q) with
      | false => simp only [hs] at h; cases h
      | true =>
        simp only [hs] at h; cases h
        obtain ⟨s1, s2⟩ := (Bool.and_eq_true _ _).mp hs
        exact ⟨p, q, rfl, rfl, s1, s2, rfl⟩
theorem o_eq (hu : X.A.units + 64 < cLine) : OpD X (compareOp .Eq) eqT := by
  refine ⟨_, op_eqD hu, fun g H σ s x y d e t Q sd hx hy hh f => ?_⟩
  unfold eqT at hh
  cases q : eqD d e with
  | none => rw [q] at hh; cases hh
  | some b =>
    rw [q] at hh; cases hh
    obtain ⟨p1, p2, e1, e2, s1, s2, rfl⟩ := eqD_some q
    exact ⟨p1, p2, hx.dp sd e1, hy.dp sd e2, s1, s2, f.fz sd (.bl _)⟩
theorem o_ne (hu : X.A.units + 64 < cLine) : OpD X (compareOp .NotEq) neT := by
  refine ⟨_, op_neD hu, fun g H σ s x y d e t Q sd hx hy hh f => ?_⟩
  unfold neT at hh
  cases q : eqD d e with
  | none => rw [q] at hh; cases hh
  | some b =>
    rw [q] at hh; cases hh
    obtain ⟨p1, p2, e1, e2, s1, s2, rfl⟩ := eqD_some q
    exact ⟨p1, p2, hx.dp sd e1, hy.dp sd e2, s1, s2, f.fz sd (.bl _)⟩
theorem ixN_at {α β : Type} {xs : List α} {ds : List β} {i : Int} {d : β} (hl : xs.length = ds.length) (h : atI ds i = some d) : ∃ j, ixN xs.length i = some j ∧ ds[j]? = some d := by
  unfold atI at h
  rw [hl]
  cases e : ixN ds.length i with
  | none => rw [e] at h; cases h
  | some j => rw [e] at h; exact ⟨j, rfl, h⟩
theorem Reps.atI {xs : List V} {ds : List D} {i : Int} {d : D} (r : Reps K g xs ds) (h : L2.atI ds i = some d) : ∃ v, L2.atI xs i = some v ∧ Rep K g v d := by
  obtain ⟨j, e, q⟩ := ixN_at r.length h
  obtain ⟨v, hv, rp⟩ := r.get q
  exact ⟨v, by unfold L2.atI; rw [e]; exact hv, rp⟩
def valD {κ : Type} [DecidableEq κ] (kvs : List (κ × D)) (k : κ) : Option D := (kvs.find? fun kv => decide (kv.1 = k)).map (·.2)
theorem valD_rep {κ : Type} [DecidableEq κ] : ∀ {kvs : List (κ × V)} {ds : List (κ × D)} {k : κ}, kvs.map Prod.fst = ds.map Prod.fst → Reps K g (kvs.map Prod.snd) (ds.map Prod.snd) →
    (∀ d, valD ds k = some d → ∃ v, valV kvs k = some v ∧ Rep K g v d) ∧ (valD ds k = none → valV kvs k = none)
  | [], [], _, _, _ => ⟨fun _ z => (by cases z), fun _ => rfl⟩
  | [], _ :: _, _, h, _ => by cases h
  | _ :: _, [], _, h, _ => by cases h
  | (a, v) :: kvs, (b, d) :: ds, k, h, r => by
    have e : a = b := (List.cons.inj h).1
    have h' : kvs.map Prod.fst = ds.map Prod.fst := (List.cons.inj h).2
    subst e
    cases r with
    | cons r1 r2 =>
      have ih := valD_rep (k := k) h' r2
      by_cases z : a = k
      · have e1 : valD ((a, d) :: ds) k = some d := by unfold valD; rw [List.find?_cons_of_pos (by simpa using z)]; rfl
        have e2 : valV ((a, v) :: kvs) k = some v := by unfold valV; rw [List.find?_cons_of_pos (by simpa using z)]; rfl
        exact ⟨fun d' q => by rw [e1] at q; cases q; exact ⟨v, e2, r1⟩, fun q => by rw [e1] at q; cases q⟩
      · have e1 : valD ((a, d) :: ds) k = valD ds k := by unfold valD; rw [List.find?_cons_of_neg (by simpa using z)]
        have e2 : valV ((a, v) :: kvs) k = valV kvs k := by unfold valV; rw [List.find?_cons_of_neg (by simpa using z)]
        rw [e1, e2]
        exact ih
def keyD : D → Option Key
  | .int i => some (.inl i)
  | .str x => some (.inr x)
  | _ => none
def keysD : List D → Option (List Key)
  | [] => some []
  | d :: ds => match keyD d, keysD ds with
    | some k, some ks => some (k :: ks)
    | _, _ => none
theorem keyD_rep {v : V} {d : D} {k : Key} (h : VAt K g H v d) (e : keyD d = some k) : v = kV k := by
  unfold keyD at e
  split at e
  · cases e; exact h.int
  · cases e; exact h.str
  · cases e
theorem keysD_rep : ∀ {xs : List V} {ds : List D} {ks : List Key}, Reps K g xs ds → keysD ds = some ks → xs = ks.map kV
  | _, _, _, .nil, e => by unfold keysD at e; cases e; rfl
  | _, _, _, .cons (d := d) (ds := ds) a r, e => by
    unfold keysD at e
    cases e1 : keyD d with
    | none => rw [e1] at e; cases e
    | some k =>
      cases e2 : keysD ds with
      | none => rw [e1, e2] at e; cases e
      | some ks =>
        rw [e1, e2] at e; cases e
        rw [keysD_rep r e2, keyD_rep (H := fun _ => none) (.inl a) e1]
        rfl
def lookD : D → D → Option (Option D)
  | .dk kvs, d => (keyD d).map fun k => valD kvs k
  | .dt kvs, .tup (k :: ks) => (keysD (k :: ks)).map fun k => valD kvs k
  | _, _ => none
end
end DL
set_option Elab.async false
set_option linter.all false
set_option maxRecDepth 100000
set_option maxHeartbeats 1000000
namespace DL
open PySem PySem.Spec PyProof.Rows L2
section
variable {X : Cx} {Wx : WX} {a b e : Expr} {es : List Expr} {fa fb : M VR} {fl : M (List VR)} {pos : Pos}
theorem lookD_get {K : PySem.W.Frag} {g : Gh} {H : Hp} {σ : Slots} {s : State} {x y : V} {d e : D} {o : Option D} (sd : SD K g H σ s) (hx : VAt K g H x d) (hy : VAt K g H y e) (h : lookD d e = some o) :
    ∃ a r, x = .ref a ∧ DGet H a y r ∧ (∀ z, o = some z → ∃ v, r = some v ∧ Rep K g v z) ∧ (o = none → r = none) ∧ IsD H a := by
  unfold lookD at h
  split at h
  · rename_i kvs
    cases q : keyD e with
    | none => rw [q] at h; cases h
    | some k =>
      rw [q] at h
      cases h
      obtain ⟨a, vs, rfl, ha, hk, r⟩ := hx.dk sd
      have ey := keyD_rep hy q
      obtain ⟨v1, v2⟩ := valD_rep (k := k) hk r
      refine ⟨a, _, rfl, .inl ⟨vs, k, ha.rd, ey, rfl⟩, fun z hz => v1 z hz, v2, .inl ⟨vs, ha.rd⟩⟩
  · rename_i kvs k0 ks
    cases q : keysD (k0 :: ks) with
    | none => rw [q] at h; cases h
    | some k =>
      rw [q] at h
      cases h
      obtain ⟨a, vs, rfl, ha, hk, r⟩ := hx.dt sd
      obtain ⟨b, xs, rfl, hb, rb⟩ := hy.tupH sd
      rw [keysD_rep rb q] at hb
      obtain ⟨v1, v2⟩ := valD_rep (k := k) hk r
      exact ⟨a, _, rfl, .inr ⟨vs, k, b, ha.rd, rfl, hb, rfl⟩, fun z hz => v1 z hz, v2, .inr ⟨vs, ha.rd⟩⟩
  · cases h
def rIxDD : R2 := fun x y H Q => ∃ a v, x = .ref a ∧ DGet H a y (some v) ∧ Q v H
theorem ix_dict (hu : X.A.units + 1 < cLine) : IxR X rIxDD := by
  intro value slice pins s σ H x y v u Q I rx ry h hs
  obtain ⟨a, w, rfl, g, q⟩ := h
  obtain rfl : v = Value.ref a := rx
  exact tail_any (dict_typeIs I g) PySem.F.slot_dict_getitem.lookup (d_getItem hu I g ry fun w' s3 I3 rw' => ⟨w, H, I3, rw', q⟩) hs
def ixD : D → D → Option T
  | .lst ds, .int i => (atI ds i).map .fz
  | .tup ds, .int i => (atI ds i).map .fz
  | .str z, .int i => if z.length ≤ sizeLine then (atI z.cps.toList i).map fun c => .fz (.str ⟨#[c]⟩) else none
  | d, e => match lookD d e with
    | some (some v) => some (.fz v)
    | _ => none
def IxD (X : Cx) (h : D → D → Option T) : Prop :=
  ∃ r, IxR X r ∧ ∀ (g : Gh) (H : Hp) (σ : Slots) (s : State) (x y : V) (d e : D) (t : T) (Q : V → Hp → Prop), SD X.K g H σ s → VAt X.K g H x d → VAt X.K g H y e → h d e = some t → Fin X.K g H σ s t Q → r x y H Q
theorem o_ix (hu : X.A.units + 1 < cLine) : IxD X ixD := by
  refine ⟨_, ix_seq.or (ix_dict hu), fun g H σ s x y d e t Q sd hx hy hh f => ?_⟩
  unfold ixD at hh
  split at hh
  · rename_i ds i
    cases q : L2.atI ds i with
    | none => rw [q] at hh; cases hh
    | some z =>
      rw [q] at hh; cases hh
      obtain ⟨a, xs, rfl, ha, ra⟩ := hx.lst sd
      cases hy.int
      obtain ⟨v, hv, rv⟩ := ra.atI q
      exact .inl (.inl ⟨a, xs, i, v, rfl, rfl, .of ha, hv, f.fz sd rv⟩)
  · rename_i ds i
    cases q : L2.atI ds i with
    | none => rw [q] at hh; cases hh
    | some z =>
      rw [q] at hh; cases hh
      obtain ⟨a, xs, rfl, ha, ra⟩ := hx.tup sd
      cases hy.int
      obtain ⟨v, hv, rv⟩ := ra.atI q
      exact .inl (.inr (.inl ⟨a, xs, i, v, rfl, rfl, ha, hv, f.fz sd rv⟩))
  · rename_i z i
    by_cases hz : z.length ≤ sizeLine
    · rw [if_pos hz] at hh
      cases q : L2.atI z.cps.toList i with
      | none => rw [q] at hh; cases hh
      | some c =>
        rw [q] at hh; cases hh
        cases hx.str; cases hy.int
        exact .inl (.inr (.inr ⟨z, i, c, rfl, rfl, hz, q, f.fz sd (.str _)⟩))
    · rw [if_neg hz] at hh; cases hh
  · cases q : lookD d e with
    | none => rw [q] at hh; cases hh
    | some o =>
      cases o with
      | none => rw [q] at hh; cases hh
      | some z =>
        rw [q] at hh; cases hh
        obtain ⟨a, r, rfl, dg, h1, _, _⟩ := lookD_get sd hx hy q
        obtain ⟨v, rfl, rv⟩ := h1 z rfl
        exact .inr ⟨a, v, rfl, dg, f.fz sd rv⟩
theorem de_ix {h : D → D → Option T} (ho : IxD X h) (ha : DV X Wx a fa) (hb : DV X Wx b fb) (hs : PlainIx b) : DE X Wx (.Subscript a b pos) (dOp2 h fa fb) := by
  obtain ⟨r, hr, k⟩ := ho
  exact ⟨fun pins s σ H Q I q => (pe_ix hr ha hb hs).run pins s σ H Q I (op2_run (f := fun a b => getItem a b) k q)⟩
def flatD : D → Bool
  | .non => true | .bl _ => true | .int _ => true | .str _ => true
  | _ => false
def eqF : D → D → Bool
  | .non, .non => true
  | .bl a, .bl b => a == b
  | .int a, .int b => a == b
  | .str a, .str b => a == b
  | .bl a, .int b => decide ((if a then 1 else 0) = b)
  | .int a, .bl b => decide (a = (if b then 1 else 0))
  | _, _ => false
def inL (x : D) (ds : List D) : Option Bool := if flatD x && ds.all flatD then some (ds.any fun y => eqF y x) else none
def inD : D → D → Option Bool
  | x, .lst ds => inL x ds
  | x, .tup ds => inL x ds
  | .str x, .str z => some (!(Builtin.Str.occurrences z x 0 z.length 1).isEmpty)
  | k, d => (lookD d k).map Option.isSome
def inT (x d : D) : Option T := (inD x d).map fun b => .fz (.bl b)
end
section
variable {K : PySem.W.Frag} {g : Gh} {H : Hp} {σ : Slots} {s : State}
theorem flat_v {v : V} {d : D} (r : VAt K g H v d) (f : flatD d = true) : flatV v = true := by
  cases d with
  | non => cases r.non; rfl
  | bl b => cases r.bl; rfl
  | int b => cases r.int; rfl
  | str b => cases r.str; rfl
  | _ => cases f
theorem eqF_v {v w : V} {d e : D} (r : VAt K g H v d) (q : VAt K g H w e) (f : flatD d = true) (f' : flatD e = true) : eqV v w = eqF d e := by
  cases d with
  | non =>
    cases r.non
    cases e with
    | non => cases q.non; rfl
    | bl b => cases q.bl; rfl
    | int b => cases q.int; rfl
    | str b => cases q.str; rfl
    | _ => cases f'
  | bl b =>
    cases r.bl
    cases e with
    | non => cases q.non; rfl
    | bl b => cases q.bl; rfl
    | int b => cases q.int; rfl
    | str b => cases q.str; rfl
    | _ => cases f'
  | int b =>
    cases r.int
    cases e with
    | non => cases q.non; rfl
    | bl b => cases q.bl; rfl
    | int b => cases q.int; rfl
    | str b => cases q.str; rfl
    | _ => cases f'
  | str b =>
    cases r.str
    cases e with
    | non => cases q.non; rfl
    | bl b => cases q.bl; rfl
    | int b => cases q.int; rfl
    | str b => cases q.str; rfl
    | _ => cases f'
  | _ => cases f
theorem inL_v {x : V} {d : D} {b : Bool} (hx : VAt K g H x d) : ∀ {xs : List V} {ds : List D}, Reps K g xs ds → (flatD d && ds.all flatD) = true → flatV x = true ∧ xs.all flatV = true ∧ inV x xs = ds.any fun y => eqF y d
  | _, _, .nil, f => ⟨flat_v hx (by simpa using f), rfl, rfl⟩
  | _, _, .cons (d := e) (ds := ds) a r, f => by
    rw [List.all_cons, Bool.and_eq_true, Bool.and_eq_true] at f
    obtain ⟨f1, f2, f3⟩ := f
    obtain ⟨h1, h2, h3⟩ := inL_v (b := b) hx r (by rw [Bool.and_eq_true]; exact ⟨f1, f3⟩)
    refine ⟨h1, by rw [List.all_cons, Bool.and_eq_true]; exact ⟨flat_v (H := H) (.inl a) f2, h2⟩, ?_⟩
    unfold inV at h3 ⊢
    rw [List.any_cons, List.any_cons, h3, eqF_v (.inl a) hx f2 f1]
end
section
variable {X : Cx} {Wx : WX} {a b e : Expr} {es : List Expr} {fa fb : M VR} {fl : M (List VR)} {pos : Pos}
def rInDD (neg : Bool) : R2 := fun y x H Q => ∃ a o, x = .ref a ∧ DGet H a y o ∧ Q (.bl (if neg then !o.isSome else o.isSome)) H
theorem op_inDD (hu : X.A.units + 1 < cLine) : OpR X (compareOp .In) (rInDD false) := by
  intro pins s σ H x y v u Q I rx ry h
  obtain ⟨a, o, rfl, g, q⟩ := h
  obtain rfl : u = Value.ref a := ry
  exact d_in hu I g rx fun s3 I3 => ⟨.bl o.isSome, H, I3, rfl, q⟩
theorem in_core {neg : Bool} {g : Gh} {H : Hp} {σ : Slots} {s : State} {x y : V} {d e : D} {k : Bool} {Q : V → Hp → Prop} (sd : SD X.K g H σ s) (hx : VAt X.K g H x d) (hy : VAt X.K g H y e) (hh : inD d e = some k)
    (f : Q (.bl (if neg then !k else k)) H) : rIn X.K neg x y H Q ∨ (∃ i j, x = .str i ∧ y = .str j ∧ Q (.bl (if neg then !(!(Builtin.Str.occurrences j i 0 j.length 1).isEmpty) else (!(Builtin.Str.occurrences j i 0 j.length 1).isEmpty))) H) ∨ rInDD neg x y H Q := by
  unfold inD at hh
  split at hh
  · rename_i ds
    unfold inL at hh
    cases q : (flatD d && ds.all flatD) with
    | false => rw [q] at hh; cases hh
    | true =>
      rw [q] at hh; cases hh
      obtain ⟨a, xs, rfl, ha, ra⟩ := hy.lst sd
      obtain ⟨h1, h2, h3⟩ := inL_v (b := true) hx ra q
      exact .inl ⟨a, xs, rfl, .inl (.of ha), h1, h2, by rw [h3]; exact f⟩
  · rename_i ds
    unfold inL at hh
    cases q : (flatD d && ds.all flatD) with
    | false => rw [q] at hh; cases hh
    | true =>
      rw [q] at hh; cases hh
      obtain ⟨a, xs, rfl, ha, ra⟩ := hy.tup sd
      obtain ⟨h1, h2, h3⟩ := inL_v (b := true) hx ra q
      exact .inl ⟨a, xs, rfl, .inr ha, h1, h2, by rw [h3]; exact f⟩
  · cases hh; cases hx.str; cases hy.str
    exact .inr (.inl ⟨_, _, rfl, rfl, f⟩)
  · cases q : lookD e d with
    | none => rw [q] at hh; cases hh
    | some o =>
      rw [q] at hh; cases hh
      obtain ⟨a, r, rfl, dg, h1, h2, _⟩ := lookD_get sd hy hx q
      have er : r.isSome = o.isSome := by
        cases o with
        | none => rw [h2 rfl]; rfl
        | some z => obtain ⟨v, hv, _⟩ := h1 z rfl; rw [hv]; rfl
      exact .inr (.inr ⟨a, r, rfl, dg, by rw [er]; exact f⟩)
theorem o_in (hu : X.A.units + 1 < cLine) : OpD X (compareOp .In) inT := by
  refine ⟨_, op_in_seq.or (op_in_str.or (op_inDD hu)), fun g H σ s x y d e t Q sd hx hy hh f => ?_⟩
  unfold inT at hh
  cases q : inD d e with
  | none => rw [q] at hh; cases hh
  | some k => rw [q] at hh; cases hh; exact in_core (neg := false) sd hx hy q (f.fz sd (.bl _))
def dTup (fl : M (List VR)) : M T := fl >>= fun rs => frzs rs >>= fun ds => opt (if ds.length ≤ sizeLine then some (.fz (.tup ds)) else none)
def dLst (fl : M (List VR)) : M T := fl >>= fun rs => frzs rs >>= fun ds => opt (if ds.length ≤ sizeLine then some (.ow (.lst ds)) else none)
section
variable {α β : Type} {K : PySem.W.Frag} {σ : Slots} {R : Gh → Hp → State → β → α → Prop} {Q : β → Hp → Prop} {g0 g1 : Gh} {H0 H1 Hq : Hp} {s0 s1 : State}
theorem frz_res (r : VR) (s : State) : (∃ d s', frz r s = .ok d s') ∨ frz r s = .bad := by
  cases r with
  | slot i =>
    cases e : s.env[i]? with
    | none => exact .inr (by simp only [frz, e])
    | some w =>
      cases w with
      | none => exact .inr (by simp only [frz, e])
      | some w =>
        cases w with
        | fz d => exact .inl ⟨d, s, by simp only [frz, e]⟩
        | own d => exact .inl ⟨d, _, by simp only [frz, e]; rfl⟩
        | lent d => exact .inr (by simp only [frz, e])
        | lk d => exact .inr (by simp only [frz, e])
        | lkl d => exact .inr (by simp only [frz, e])
  | t t => exact .inl ⟨_, _, rfl⟩
theorem frzs_res : ∀ (rs : List VR) (s : State), (∃ d s', frzs rs s = .ok d s') ∨ frzs rs s = .bad
  | [], s => .inl ⟨[], s, rfl⟩
  | r :: rs, s => by
    unfold frzs
    rw [bind_eq]
    rcases frz_res r s with ⟨d, s1, e⟩ | e
    · rw [e]
      show (∃ d' s', (frzs rs >>= fun ds => pure (d :: ds)) s1 = .ok d' s') ∨ (frzs rs >>= fun ds => pure (d :: ds)) s1 = .bad
      rw [bind_eq]
      rcases frzs_res rs s1 with ⟨ds, s2, e2⟩ | e2
      · rw [e2]; exact .inl ⟨_, _, rfl⟩
      · rw [e2]; exact .inr rfl
    · rw [e]; exact .inr rfl
theorem Cur.frzs {rs : List VR} {vs : List V} {k : List D → M α} (c : Cur K Wx σ R Q g0 H0 s0 ((frzs rs >>= k) s1) g1 H1 s1) (h : RVRs K σ H0 g1 H1 s1 vs rs) :
    ∃ ds g2 s2, Cur K Wx σ R Q g0 H0 s0 (k ds s2) g2 H1 s2 ∧ Reps K g2 vs ds ∧ Le g1 g2 := by
  rw [bind_eq] at c
  rcases frzs_res rs s1 with ⟨d, s2, e⟩ | e
  · rw [e] at c
    obtain ⟨g2, sd2, ev2, rp, le⟩ := frzs_run e c.ev c.sd h
    exact ⟨d, g2, s2, ⟨ev2, sd2, c.post⟩, rp, le⟩
  · rw [e] at c
    exact (c.notBad rfl).elim
theorem Cur.frz {r : VR} {v : V} {k : D → M α} (c : Cur K Wx σ R Q g0 H0 s0 ((frz r >>= k) s1) g1 H1 s1) (h : RVR K σ H0 g1 H1 s1 v r) :
    ∃ d g2 s2, Cur K Wx σ R Q g0 H0 s0 (k d s2) g2 H1 s2 ∧ Rep K g2 v d ∧ Le g1 g2 := by
  rw [bind_eq] at c
  rcases frz_res r s1 with ⟨d, s2, e⟩ | e
  · rw [e] at c
    obtain ⟨g2, sd2, ev2, rp, _, le⟩ := frz_run e c.ev c.sd h
    exact ⟨d, g2, s2, ⟨ev2, sd2, c.post⟩, rp, le⟩
  · rw [e] at c
    exact (c.notBad rfl).elim
end
theorem de_tup {x1} (h : DA X Wx es fl) : DE X Wx (.Tuple es x1 pos) (dTup fl) := ⟨fun pins s σ H Q I q => (pe_tup h).run pins s σ H Q I (by
  obtain ⟨g, s, c⟩ := q.start
  refine c.bind.mono fun xs H1 ⟨rs, g1, s1, c1, r1, e1⟩ => ?_
  obtain ⟨ds, g2, s2, c2, r2, _⟩ := c1.frzs r1
  by_cases hz : ds.length ≤ sizeLine
  · refine ⟨by rw [r2.length]; exact hz, fun p hp => (c2.fin (by rw [if_pos hz]; rfl)).tup c2.sd hp r2⟩
  · exact (c2.notBad (by rw [if_neg hz]; rfl)).elim)⟩
theorem de_lst (h : DA X Wx es fl) : DE X Wx (.List es pos) (dLst fl) := ⟨fun pins s σ H Q I q => (pe_lst h).run pins s σ H Q I (by
  obtain ⟨g, s, c⟩ := q.start
  refine c.bind.mono fun xs H1 ⟨rs, g1, s1, c1, r1, e1⟩ => ?_
  obtain ⟨ds, g2, s2, c2, r2, _⟩ := c1.frzs r1
  by_cases hz : ds.length ≤ sizeLine
  · refine ⟨by rw [r2.length]; exact hz, fun p hp => (c2.fin (by rw [if_pos hz]; rfl)).ow c2.sd hp (.lst r2)⟩
  · exact (c2.notBad (by rw [if_neg hz]; rfl)).elim)⟩
end
end DL
set_option Elab.async false
set_option linter.all false
set_option maxRecDepth 100000
set_option maxHeartbeats 1000000
namespace DL
open PySem PySem.Spec PyProof.Rows L2
inductive VAts (K : PySem.W.Frag) (g : Gh) (H : Hp) : List V → List D → Prop where
  | nil : VAts K g H [] []
  | cons {v : V} {d : D} {vs : List V} {ds : List D} : VAt K g H v d → VAts K g H vs ds → VAts K g H (v :: vs) (d :: ds)
def readVs : List VR → M (List D)
  | [] => pure []
  | r :: rs => readV r >>= fun d => readVs rs >>= fun ds => pure (d :: ds)
theorem readVs_res : ∀ (rs : List VR) (s : State), (∃ d, readVs rs s = .ok d s) ∨ readVs rs s = .bad
  | [], s => .inl ⟨[], rfl⟩
  | r :: rs, s => by
    unfold readVs
    rw [bind_eq]
    rcases readV_res r s with ⟨d, e⟩ | e
    · rw [e]
      show (∃ d', (readVs rs >>= fun ds => pure (d :: ds)) s = .ok d' s) ∨ (readVs rs >>= fun ds => pure (d :: ds)) s = .bad
      rw [bind_eq]
      rcases readVs_res rs s with ⟨ds, e2⟩ | e2
      · rw [e2]; exact .inl ⟨_, rfl⟩
      · rw [e2]; exact .inr rfl
    · rw [e]; exact .inr rfl
theorem RVRs.reads {K : PySem.W.Frag} {σ : Slots} {g : Gh} {H H0 : Hp} {s s' : State} (sd : SD K g H σ s) : ∀ {vs : List V} {rs : List VR} {ds : List D}, RVRs K σ H0 g H s vs rs → readVs rs s = .ok ds s' → VAts K g H vs ds
  | _, _, _, .nil, e => by cases e; exact .nil
  | _, _, ds, .cons (r := r) (rs := rs) a b _, e => by
    unfold readVs at e
    rw [bind_eq] at e
    rcases readV_res r s with ⟨d, e1⟩ | e1
    · rw [e1] at e
      have e : (readVs rs >>= fun ds => pure (d :: ds)) s = .ok ds s' := e
      rw [bind_eq] at e
      rcases readVs_res rs s with ⟨ds2, e2⟩ | e2
      · rw [e2] at e; cases e; exact .cons (a.read sd e1).2 (RVRs.reads sd b e2)
      · rw [e2] at e; cases e
    · rw [e1] at e; cases e
section
variable {α β : Type} {K : PySem.W.Frag} {Wx : WX} {σ : Slots} {R : Gh → Hp → State → β → α → Prop} {Q : β → Hp → Prop} {g0 g1 : Gh} {H0 H1 Hq : Hp} {s0 s1 : State}
theorem Cur.reads {rs : List VR} {vs : List V} {k : List D → M α} (c : Cur K Wx σ R Q g0 H0 s0 ((readVs rs >>= k) s1) g1 H1 s1) (h : RVRs K σ Hq g1 H1 s1 vs rs) :
    ∃ ds, Cur K Wx σ R Q g0 H0 s0 (k ds s1) g1 H1 s1 ∧ VAts K g1 H1 vs ds := by
  rw [bind_eq] at c
  rcases readVs_res rs s1 with ⟨d, e⟩ | e
  · rw [e] at c
    exact ⟨d, c, h.reads c.sd e⟩
  · rw [e] at c
    exact (c.notBad rfl).elim
end
theorem VAts.one {K : PySem.W.Frag} {g : Gh} {H : Hp} {xs : List V} {d : D} (h : VAts K g H xs [d]) : ∃ x, xs = [x] ∧ VAt K g H x d := by
  cases h with
  | cons a b => cases b; exact ⟨_, rfl, a⟩
theorem VAts.two {K : PySem.W.Frag} {g : Gh} {H : Hp} {xs : List V} {d e : D} (h : VAts K g H xs [d, e]) : ∃ x y, xs = [x, y] ∧ VAt K g H x d ∧ VAt K g H y e := by
  cases h with
  | cons a b =>
    obtain ⟨y, rfl, hy⟩ := b.one
    exact ⟨_, y, rfl, a, hy⟩
theorem VAts.three {K : PySem.W.Frag} {g : Gh} {H : Hp} {xs : List V} {d e f : D} (h : VAts K g H xs [d, e, f]) : ∃ x y z, xs = [x, y, z] ∧ VAt K g H x d ∧ VAt K g H y e ∧ VAt K g H z f := by
  cases h with
  | cons a b =>
    obtain ⟨y, z, rfl, hy, hz⟩ := b.two
    exact ⟨_, y, z, rfl, a, hy, hz⟩
def CallD (X : Cx) (f : Value) (h : List D → Option T) : Prop :=
  ∃ r, CallR X f r ∧ ∀ (g : Gh) (H : Hp) (σ : Slots) (s : State) (xs : List V) (ds : List D) (t : T) (Q : V → Hp → Prop), SD X.K g H σ s → VAts X.K g H xs ds → h ds = some t → Fin X.K g H σ s t Q → r xs H Q
def dCallB (h : List D → Option T) (fl : M (List VR)) : M T := fl >>= fun rs => readVs rs >>= fun ds => opt (h ds)
section
variable {X : Cx} {Wx : WX} {x : Str} {p pos : Pos} {e a : Expr} {es : List Expr} {fl : M (List VR)} {h : List D → Option T} {id T : String} {fa : M VR}
theorem callB_run {f : Value} {r : List V → Hp → VK → Prop} (k : ∀ (g : Gh) (H : Hp) (σ : Slots) (s : State) (xs : List V) (ds : List D) (t : DL.T) (Q : V → Hp → Prop), SD X.K g H σ s → VAts X.K g H xs ds → h ds = some t → Fin X.K g H σ s t Q → r xs H Q)
    {σ : Slots} {H : Hp} {Q : V → Hp → Prop} (q : tE X.K Wx (dCallB h fl) σ H Q) : tCB r (tL X.K Wx fl) σ H Q := by
  obtain ⟨g, s, c⟩ := q.start
  refine c.bind.mono fun xs H1 ⟨rs, g1, s1, c1, r1, e1⟩ => ?_
  obtain ⟨ds, c2, v2⟩ := c1.reads r1
  cases q : h ds with
  | none => exact (c2.notBad (by rw [q]; rfl)).elim
  | some t => exact k g1 H1 σ s1 xs ds t Q c1.sd v2 q (c2.fin (by rw [q]; rfl))
theorem de_callB (hc : CallD X (.builtin id) h) (hg : Gl X x) (hm : X.mg x = none) (hv : bootBuiltins x = some (.builtin id)) (ha : DA X Wx (e :: es) fl) (hn : x ≠ "__name__" := by decide) (hdb : (x == ("__debug__" : Str)) = false := by decide)
    (he : starEach (e :: es) X.env = (false, eval e X.env) :: starEach es X.env := by rfl) (hpl : (backTo pos (starEach es X.env)).any (·.1) = false := by rfl) : DE X Wx (.Call (.Name x p) (e :: es) [] pos) (dCallB h fl) := by
  obtain ⟨r, hr, k⟩ := hc
  exact ⟨fun pins s σ H Q I q => (pe_callB hr hg hm hv ha hn hdb he hpl).run pins s σ H Q I (callB_run (f := .builtin id) k q)⟩
theorem de_callTy (hc : CallD X (.type T) h) (hg : Gl X x) (hm : X.mg x = none) (hv : bootBuiltins x = some (.type T)) (ha : DA X Wx (e :: es) fl) (hn : x ≠ "__name__" := by decide) (hdb : (x == ("__debug__" : Str)) = false := by decide)
    (he : starEach (e :: es) X.env = (false, eval e X.env) :: starEach es X.env := by rfl) (hpl : (backTo pos (starEach es X.env)).any (·.1) = false := by rfl) : DE X Wx (.Call (.Name x p) (e :: es) [] pos) (dCallB h fl) := by
  obtain ⟨r, hr, k⟩ := hc
  exact ⟨fun pins s σ H Q I q => (pe_callTy hr hg hm hv ha hn hdb he hpl).run pins s σ H Q I (callB_run (f := .type T) k q)⟩
def lenD : List D → Option DL.T
  | [.lst ds] => some (.fz (.int ds.length))
  | [.tup ds] => some (.fz (.int ds.length))
  | [.frl ns] => some (.fz (.int ns.length))
  | [.dk ds] => some (.fz (.int ds.length))
  | [.dt ds] => some (.fz (.int ds.length))
  | [.str z] => if z.length ≤ sizeLine then some (.fz (.int z.length)) else none
  | _ => none
theorem CallR.or {f : Value} {r r' : List V → Hp → VK → Prop} (h : CallR X f r) (h' : CallR X f r') : CallR X f (fun xs H Q => r xs H Q ∨ r' xs H Q) := by
  intro pins s σ H xs us Q I rv q
  rcases q with q | q
  · exact h pins s σ H xs us Q I rv q
  · exact h' pins s σ H xs us Q I rv q
theorem call_lenDK : CallR X (.builtin "len") (fun xs H Q => ∃ a kvs, xs = [V.ref a] ∧ Rd H a (.dK kvs) ∧ Q (.int kvs.length) H) := by
  intro pins s σ H xs us Q I r h
  obtain ⟨a, kvs, rfl, ha, q⟩ := h
  obtain ⟨u, rfl, ru⟩ := vals1 r
  cases ru
  exact d_len I ha fun t s' I' => ⟨.int kvs.length, H, I', ⟨t, rfl⟩, q⟩
theorem call_lenDT : CallR X (.builtin "len") (fun xs H Q => ∃ p kvs, xs = [V.ref p] ∧ Rd H p (.dT kvs) ∧ Q (.int ((kvs.length : Nat) : Int)) H) := by
  rintro pins s σ H xs us Q I r ⟨p, kvs, rfl, hp, q⟩
  obtain ⟨u, rfl, rx⟩ := vals1 r
  cases rx
  obtain ⟨z, hd, ys, rel, dd⟩ := dt_rd I.hok hp
  have e : kvs.length = ys.length := rel.length
  have z2 : (ys.length : Int) < 2 ^ 63 := by rw [sizeLine_eq] at z; omega
  exact call_len_dictH hd dd z2 (by rw [← e]; exact ⟨.int _, H, I.tok _, ⟨_, rfl⟩, q⟩)
theorem c_len : CallD X (.builtin "len") lenD := by
  refine ⟨_, CallR.or call_len (CallR.or call_lenDK call_lenDT), fun g H σ s xs ds t Q sd hxs hh f => ?_⟩
  unfold lenD at hh
  split at hh
  · cases hh
    obtain ⟨x, rfl, hx⟩ := hxs.one
    obtain ⟨a, vs, rfl, ha, ra⟩ := hx.lst sd
    exact .inl ⟨_, _, rfl, .inl ⟨vs, .of ha, rfl⟩, by rw [ra.length]; exact f.fz sd (.int _)⟩
  · cases hh
    obtain ⟨x, rfl, hx⟩ := hxs.one
    obtain ⟨a, vs, rfl, ha, ra⟩ := hx.tup sd
    exact .inl ⟨_, _, rfl, .inr ⟨vs, ha, rfl⟩, by rw [ra.length]; exact f.fz sd (.int _)⟩
  · cases hh
    obtain ⟨x, rfl, hx⟩ := hxs.one
    cases hx.sc (fun _ z => z) with
    | frl q => exact .inl ⟨_, _, rfl, .inl ⟨_, sd.seq q, rfl⟩, by rw [List.length_map]; exact f.fz sd (.int _)⟩
  · cases hh
    obtain ⟨x, rfl, hx⟩ := hxs.one
    obtain ⟨a, vs, rfl, ha, hk, ra⟩ := hx.dk sd
    have e := congrArg List.length hk
    rw [List.length_map, List.length_map] at e
    exact .inr (.inl ⟨a, vs, rfl, ha.rd, by rw [e]; exact f.fz sd (.int _)⟩)
  · cases hh
    obtain ⟨x, rfl, hx⟩ := hxs.one
    obtain ⟨a, vs, rfl, ha, hk, ra⟩ := hx.dt sd
    have e := congrArg List.length hk
    rw [List.length_map, List.length_map] at e
    exact .inr (.inr ⟨a, vs, rfl, ha.rd, by rw [e]; exact f.fz sd (.int _)⟩)
  · rename_i z
    by_cases hz : z.length ≤ sizeLine
    · rw [if_pos hz] at hh; cases hh
      obtain ⟨x, rfl, hx⟩ := hxs.one
      cases hx.str
      exact .inl ⟨_, _, rfl, ⟨hz, rfl⟩, f.fz sd (.int _)⟩
    · rw [if_neg hz] at hh; cases hh
  · cases hh
def absD : List D → Option DL.T
  | [.int i] => some (.fz (.int (if i < 0 then -i else i)))
  | _ => none
theorem c_abs : CallD X (.builtin "abs") absD := by
  refine ⟨_, call_abs, fun g H σ s xs ds t Q sd hxs hh f => ?_⟩
  unfold absD at hh
  split at hh
  · cases hh
    obtain ⟨x, rfl, hx⟩ := hxs.one
    cases hx.int
    exact ⟨_, rfl, f.fz sd (.int _)⟩
  · cases hh
theorem call_min3 (hc : X.calm = true) : CallR X (.builtin "min") (fun xs H Q => ∃ i j k, xs = [.int i, .int j, .int k] ∧ Q (.int (min i (min j k))) H) := by
  intro pins s σ H xs us Q I r h
  obtain ⟨i, j, k, rfl, q⟩ := h
  cases r with
  | cons r1 r2 =>
    obtain ⟨u, w', rfl, ⟨t, rfl⟩, ⟨t', rfl⟩⟩ := vals2 r2
    obtain ⟨t0, rfl⟩ := r1
    refine min_three_ints (I.ok.hd hc) fun h' tk hk => ⟨_, H, I.kept hk, ?_, q⟩
    by_cases hba : j < i <;> by_cases hc1 : k < j <;> by_cases hc2 : k < i <;> simp only [hba, hc1, hc2, if_true, if_false] <;> refine ⟨_, congrArg (fun z => Value.int z _) ?_⟩ <;> omega
def intsD : List D → Option (List Int)
  | [] => some []
  | .int i :: ds => (intsD ds).map (i :: ·)
  | _ => none
theorem intsD_rep {K : PySem.W.Frag} {g : Gh} : ∀ {xs : List V} {ds : List D} {ns : List Int}, Reps K g xs ds → intsD ds = some ns → xs = ns.map V.int
  | _, _, _, .nil, e => by cases e; rfl
  | _, _, ns, .cons (d := d) (ds := ds) a r, e => by
    cases d with
    | int i =>
      have e : (intsD ds).map (i :: ·) = some ns := e
      cases q : intsD ds with
      | none => rw [q] at e; cases e
      | some ms =>
        rw [q] at e; cases e
        rw [intsD_rep r q]
        cases a
        rfl
    | _ => cases e
def minL : List Int → Int
  | [] => 0
  | [i] => i
  | i :: is => min i (minL is)
theorem minL_le : ∀ {l : List Int} {i : Int}, i ∈ l → minL l ≤ i
  | [a], i, h => by rw [List.mem_singleton.mp h]; exact Int.le_refl _
  | a :: b :: l, i, h => by
    have ih := minL_le (l := b :: l) (i := i)
    show min a (minL (b :: l)) ≤ i
    rcases List.mem_cons.mp h with rfl | h
    · exact Int.min_le_left _ _
    · exact Int.le_trans (Int.min_le_right _ _) (ih h)
theorem minL_mem : ∀ {l : List Int}, l ≠ [] → minL l ∈ l
  | [a], _ => by simp [minL]
  | a :: b :: l, _ => by
    have ih := minL_mem (l := b :: l) (by simp)
    show min a (minL (b :: l)) ∈ a :: b :: l
    by_cases z : a ≤ minL (b :: l)
    · rw [Int.min_eq_left z]; exact List.mem_cons_self
    · rw [Int.min_eq_right (by omega)]; exact List.mem_cons_of_mem _ ih
def minD : List D → Option DL.T
  | [.int i, .int j] => some (.fz (.int (min i j)))
  | [.int i, .int j, .int k] => some (.fz (.int (min i (min j k))))
  | [.lst ds] => match intsD ds with
    | some (n :: ns) => some (.fz (.int (minL (n :: ns))))
    | _ => none
  | _ => none
theorem c_min (hc : X.calm = true) : CallD X (.builtin "min") minD := by
  refine ⟨_, CallR.or (call_min2 hc) (CallR.or (call_min3 hc) (cr_min hc)), fun g H σ s xs ds t Q sd hxs hh f => ?_⟩
  unfold minD at hh
  split at hh
  · rename_i i j
    cases hh
    obtain ⟨x, y, rfl, hx, hy⟩ := hxs.two
    cases hx.int; cases hy.int
    refine .inl ⟨_, _, rfl, ?_⟩
    rw [show (if j < i then j else i) = min i j by split <;> omega]
    exact f.fz sd (.int _)
  · cases hh
    obtain ⟨x, y, z, rfl, hx, hy, hz⟩ := hxs.three
    cases hx.int; cases hy.int; cases hz.int
    exact .inr (.inl ⟨_, _, _, rfl, f.fz sd (.int _)⟩)
  · rename_i ds
    split at hh
    · rename_i n ns e
      cases hh
      obtain ⟨x, rfl, hx⟩ := hxs.one
      obtain ⟨a, vs, rfl, ha, ra⟩ := hx.lst sd
      rw [intsD_rep ra e] at ha
      refine .inr (.inr ⟨a, n :: ns, rfl, .of ha, by simp, fun m h1 h2 => ?_⟩)
      have e2 : m = minL (n :: ns) := Int.le_antisymm (h2 _ (minL_mem (by simp))) (minL_le h1)
      rw [e2]
      exact f.fz sd (.int _)
    · cases hh
  · cases hh
def intD : List D → Option DL.T
  | [.int i] => some (.fz (.int i))
  | [.bl b] => some (.fz (.int (if b then 1 else 0)))
  | _ => none
theorem c_int : CallD X (.type "int") intD := by
  refine ⟨_, call_int1, fun g H σ s xs ds t Q sd hxs hh f => ?_⟩
  unfold intD at hh
  split at hh
  · cases hh
    obtain ⟨x, rfl, hx⟩ := hxs.one
    cases hx.int
    exact .inl ⟨_, rfl, f.fz sd (.int _)⟩
  · cases hh
    obtain ⟨x, rfl, hx⟩ := hxs.one
    cases hx.bl
    exact .inr ⟨_, rfl, f.fz sd (.int _)⟩
  · cases hh
end
end DL
set_option Elab.async false
set_option linter.all false
set_option maxRecDepth 100000
set_option maxHeartbeats 1000000
namespace DL
open PySem PySem.Spec PyProof.Rows L2
inductive Ty where
  | non | bool | int | str | tuple | list | dict
  deriving DecidableEq
def Ty.name : Ty → String
  | .non => "NoneType" | .bool => "bool" | .int => "int" | .str => "str" | .tuple => "tuple" | .list => "list" | .dict => "dict"
def Ty.sub : Ty → Ty → Bool
  | .bool, .int => true
  | a, b => decide (a = b)
def tyD : D → Option Ty
  | .non => some .non | .bl _ => some .bool | .int _ => some .int | .str _ => some .str | .tup _ => some .tuple | .lst _ => some .list | .frl _ => some .list | .dk _ => some .dict
  | _ => none
section
variable {K : PySem.W.Frag} {g : Gh} {H : Hp} {σ : Slots} {s : State}
theorem VAt.ty (sd : SD K g H σ s) {v : V} {d : D} {t : Ty} (h : VAt K g H v d) (e : tyD d = some t) : TyX K H v (.type t.name) := by
  cases d with
  | non => cases e; cases h.non; exact .base .non
  | bl b => cases e; cases h.bl; exact .base (.bl b)
  | int i => cases e; cases h.int; exact .base (.int i)
  | str z => cases e; cases h.str; exact .base (.str z)
  | tup ds =>
    cases e
    obtain ⟨a, xs, rfl, (q | ⟨o, q⟩) | ⟨o, its, n, hk, hc, _⟩, _⟩ := h.tup sd
    · exact .base (.tup q)
    · exact .fTuple q
    · exact .kTuple hk hc
  | lst ds =>
    cases e
    obtain ⟨a, xs, rfl, q, _⟩ := h.lst sd
    exact .base (.lst q)
  | frl ns =>
    cases e
    cases h.sc (fun _ z => z) with
    | frl q =>
      rcases sd.seq q with (q | ⟨o, q⟩) | ⟨o, its, n, hk, hc, _⟩
      · exact .base (.lst q)
      · exact .base (.frz q)
      · exact .kList hk hc
  | dk ds =>
    cases e
    obtain ⟨a, xs, rfl, q | ⟨_, o, q⟩, _⟩ := h.dk sd
    · exact .base (.dK q)
    · exact .fDict q
  | _ => cases e
end
section
variable {X : Cx} {Wx : WX} {e : Expr} {fa : M VR} {p p1 p2 p3 p4 pos : Pos} {x1 : Str}
def isDict : D → Bool
  | .dk _ => true
  | .dt _ => true
  | _ => false
def chk (b : Bool) : M Unit := fun s => if b then .ok () s else .bad
variable {α β : Type} {K : PySem.W.Frag} {σ : Slots} {R : Gh → Hp → State → β → α → Prop} {Q : β → Hp → Prop} {g0 g1 : Gh} {H0 H1 : Hp} {s0 s1 : State}
theorem Cur.chk {b : Bool} {k : Unit → M α} (c : Cur K Wx σ R Q g0 H0 s0 ((chk b >>= k) s1) g1 H1 s1) : b = true ∧ Cur K Wx σ R Q g0 H0 s0 (k () s1) g1 H1 s1 := by
  rw [bind_eq] at c
  cases b with
  | true => exact ⟨rfl, c⟩
  | false => exact (c.notBad rfl).elim
end
end DL
set_option Elab.async false
set_option linter.all false
set_option maxRecDepth 100000
set_option maxHeartbeats 1000000
namespace DL
open PySem PySem.Spec PyProof.Rows L2
section
variable {K : PySem.W.Frag} {g g' : Gh} {H H' : Hp} {σ σ' : Slots} {s s' : State} {a : Addr} {o o' : HO} {i : Nat} {d d' : D} {w : W}
def W.re : W → D → W
  | .fz _, d => .fz d | .own _, d => .own d | .lent _, d => .lent d | .lk _, d => .lk d | .lkl _, d => .lkl d
theorem SD.write (sd : SD K g H σ s) (e : s.env[i]? = some (some w)) (m : w.mut = true) (ea : σ[i]? = some (some (V.ref a))) (ob : ObAt K g o' d') :
    SD K g (upd H a o') σ (putE s i (w.re d')) ∧ Ev g H σ s g (upd H a o') σ (putE s i (w.re d')) := by
  have hw : w.held = true := by cases w <;> first | rfl | cases m
  have hwr : ∀ {x : D}, (w.re x).held = true := fun {x} => by cases w <;> first | rfl | cases m
  have hmr : ∀ {x : D}, (w.re x).mut = true := fun {x} => by cases w <;> first | rfl | cases m
  obtain ⟨v, ev, wa⟩ := sd.slot i w e
  rw [ea] at ev; cases ev
  have hfree : Free1 g a ∧ H a ≠ none := by
    cases w with
    | own d => obtain ⟨b, u, eb, f, q, _⟩ := wa; cases eb; exact ⟨f, by rw [q]; simp⟩
    | lent d => obtain ⟨b, u, eb, f, q, _⟩ := wa; cases eb; exact ⟨f, by rw [q]; simp⟩
    | _ => cases m
  obtain ⟨f, live⟩ := hfree
  have il : i < s.env.length := (List.getElem?_eq_some_iff.mp e).1
  have other : ∀ {j : Nat} {u : W} {b : Addr}, j ≠ i → s.env[j]? = some (some u) → u.held = true → σ[j]? = some (some (V.ref b)) → b ≠ a := fun {j u b} nj e1 h1 x z => by
    subst z; exact nj (sd.inj j i u w b e1 e h1 hw x ea)
  refine ⟨⟨fun b u eb => ?_, by show (s.env.set i _).length = _; rw [List.length_set]; exact sd.len, fun j u e1 => ?_, fun j k u1 u2 b e1 e2 h1 h2 x1 x2 => ?_, sd.stl, fun j mo b e1 e2 => ?_, sd.nd, sd.ng, ?_⟩, ⟨.refl g, fun b u eb nm => ?_, fun b l => ?_, fun b _ z => .inl z, fun _ _ z => z, fun b mm => ?_, fun b mm => ?_, fun b mm => ?_, fun j x h => ?_, fun j x h => ?_, fun j x h => ?_⟩⟩
  · have ne : b ≠ a := fun z => by subst z; rw [f.1] at eb; cases eb
    exact (sd.gh b u eb).keep fun _ q => by rw [upd_ne ne]; exact q
  · rcases getE_set e1 with ⟨rfl, rfl⟩ | ⟨n1, e1⟩
    · refine ⟨_, ea, ?_⟩
      cases w with
      | own d => exact ⟨a, o', rfl, f, upd_same, ob⟩
      | lent d => exact ⟨a, o', rfl, f, upd_same, ob⟩
      | _ => cases m
    · obtain ⟨v', ev', wa'⟩ := sd.slot j u e1
      exact ⟨v', ev', wa'.keep (.refl g) (fun b u' eb hu q => by rw [upd_ne (other n1 e1 hu (by rw [ev', eb]))]; exact q) fun _ _ _ z => z⟩
  · rcases getE_set e1 with ⟨z1, y1⟩ | ⟨n1, e1'⟩
    · rcases getE_set e2 with ⟨z2, _⟩ | ⟨n2, e2'⟩
      · rw [z1, z2]
      · rw [z1, ea] at x1; cases x1
        exact absurd rfl (other n2 e2' h2 x2)
    · rcases getE_set e2 with ⟨z2, y2⟩ | ⟨n2, e2'⟩
      · rw [z2, ea] at x2; cases x2
        exact absurd rfl (other n1 e1' h1 x1)
      · exact sd.inj j k u1 u2 b e1' e2' h1 h2 x1 x2
  · obtain ⟨u, q, mm⟩ := sd.sto j mo b e1 e2
    have ne : b ≠ a := fun z => f.2.1 (z ▸ List.mem_of_getElem? e2)
    exact ⟨u, by rw [upd_ne ne]; exact q, mm⟩
  · have dd : DrOk g H g.dr s.dr := sd.dr
    refine (show DrOk g (upd H a o') g.dr s.dr from dd.map fun x l y eq q => ?_)
    obtain ⟨c, q1, q2⟩ := q.dict
    have n1 : x ≠ a := fun z => f.2.2 ⟨x, l, eq, .inl z.symm⟩
    have n2 : l ≠ a := fun z => f.2.2 ⟨x, l, eq, .inr z.symm⟩
    exact ⟨⟨c, by rw [upd_ne n1]; exact q1, q2⟩, by rw [upd_ne n2]; exact q.list, q.ne, q.ga, q.gl⟩
  · have ne : b ≠ a := fun z => nm (.inl ⟨i, w, e, m, by rw [z]; exact ea⟩)
    rw [upd_ne ne]; exact eb
  · by_cases z : b = a
    · subst z; rw [upd_same]; simp
    · rw [upd_ne z]; exact l
  · rcases mm with ⟨j, u, e1, m1, x⟩ | mm
    · rcases getE_set e1 with ⟨rfl, _⟩ | ⟨_, e1⟩
      · exact .inl (.inl ⟨j, w, e, m, x⟩)
      · exact .inl (.inl ⟨j, u, e1, m1, x⟩)
    · exact .inl (.inr mm)
  · obtain ⟨j, u, e1, m1, x⟩ := mm
    rcases getE_set e1 with ⟨rfl, _⟩ | ⟨_, e1⟩
    · exact .inl ⟨j, w, e, hw, x⟩
    · exact .inl ⟨j, u, e1, m1, x⟩
  · obtain ⟨j, x, e1, q⟩ := mm
    rcases e1 with e1 | e1
    · rcases getE_set e1 with ⟨rfl, z⟩ | ⟨_, e1⟩
      · cases w with
        | own d => exact .inl ⟨j, d, .inl e, q⟩
        | lent d => cases z
        | _ => cases m
      · exact .inl ⟨j, x, .inl e1, q⟩
    · rcases getE_set e1 with ⟨rfl, z⟩ | ⟨_, e1⟩
      · cases w with
        | own d => cases z
        | lent d => cases z
        | _ => cases m
      · exact .inl ⟨j, x, .inr e1, q⟩
  · by_cases z : j = i
    · subst z
      rw [e] at h; cases h
      exact ⟨rfl, d', .inl (List.getElem?_set_self il)⟩
    · exact ⟨rfl, x, .inl (by show (s.env.set i _)[j]? = _; rw [List.getElem?_set_ne (Ne.symm z)]; exact h)⟩
  · have z : j ≠ i := fun z => by subst z; rw [e] at h; cases h; cases m
    exact ⟨rfl, by show (s.env.set i _)[j]? = _; rw [List.getElem?_set_ne (Ne.symm z)]; exact h⟩
  · have z : j ≠ i := fun z => by subst z; rw [e] at h; cases h; cases m
    exact ⟨rfl, by show (s.env.set i _)[j]? = _; rw [List.getElem?_set_ne (Ne.symm z)]; exact h⟩
end
inductive Flow where
  | nx | bk | ct | rt (t : T)
structure RR (K : PySem.W.Frag) (H0 : Hp) (σ0 : Slots) (s0 : State) (g : Gh) (H : Hp) (σ : Slots) (s : State) (v : V) (t : T) : Prop where
  at_ : TAt K g H v t
  new : ∀ d a, t = .ow d → v = .ref a → (H0 a = none ∨ OwnA σ0 s0 a) ∧ ¬ Hd σ s a
def PostS (K : PySem.W.Frag) (Wx : WX) (D : Ends) (g0 : Gh) (H0 : Hp) (σ0 : Slots) (s0 : State) : Rs Flow → Prop
  | .ok .nx s' => ∀ σ' g' H', SD K g' H' σ' s' → Ev g0 H0 σ0 s0 g' H' σ' s' → D.nx σ' H'
  | .ok .bk s' => ∀ σ' g' H', SD K g' H' σ' s' → Ev g0 H0 σ0 s0 g' H' σ' s' → D.bk σ' H'
  | .ok .ct s' => ∀ σ' g' H', SD K g' H' σ' s' → Ev g0 H0 σ0 s0 g' H' σ' s' → D.ct σ' H'
  | .ok (.rt t) s' => ∀ v σ' g' H', SD K g' H' σ' s' → Ev g0 H0 σ0 s0 g' H' σ' s' → RR K H0 σ0 s0 g' H' σ' s' v t → D.rt v H'
  | .err x s' => ∀ cls d σ' g' H', SD K g' H' σ' s' → Ev g0 H0 σ0 s0 g' H' σ' s' → ErrAt K g' H' cls d x → Wx cls d σ' H'
  | .bad => False
def tS (K : PySem.W.Frag) (Wx : WX) (f : M Flow) : TS := fun D σ H => ∃ g s, SD K g H σ s ∧ PostS K Wx D g H σ s (f s)
def DS (X : Cx) (Wx : WX) (st : Stmt) (f : M Flow) : Prop := PS X st (tS X.K Wx f)
def DSs (X : Cx) (Wx : WX) (st : List Stmt) (f : M Flow) : Prop := PSs X st (tS X.K Wx f)
section
variable {K : PySem.W.Frag} {Wx : WX} {D : Ends} {g0 g1 g2 : Gh} {H0 H1 H2 : Hp} {σ0 σ1 σ2 : Slots} {s0 s1 s2 : State} {r : Rs Flow}
theorem RR.past {g : Gh} {H : Hp} {σ : Slots} {s : State} {v : V} {t : T} (e : Ev g0 H0 σ0 s0 g1 H1 σ1 s1) (h : RR K H1 σ1 s1 g H σ s v t) : RR K H0 σ0 s0 g H σ s v t :=
  ⟨h.at_, fun d a e1 e2 => ⟨by
    rcases (h.new d a e1 e2).1 with z | z
    · cases q : H0 a with
      | none => exact .inl rfl
      | some o => exact absurd z (e.live a (by rw [q]; simp))
    · exact (e.ow a z).symm, (h.new d a e1 e2).2⟩⟩
theorem RT.rr {g : Gh} {H : Hp} {σ : Slots} {s : State} {v : V} {t : T} (h : RT K H0 g H σ s v t) : RR K H0 σ0 s0 g H σ s v t := ⟨h.at_, fun d a e1 e2 => ⟨.inl (h.new d a e1 e2).1, (h.new d a e1 e2).2⟩⟩
theorem PostS.shift (e : Ev g0 H0 σ0 s0 g1 H1 σ1 s1) (p : PostS K Wx D g0 H0 σ0 s0 r) : PostS K Wx D g1 H1 σ1 s1 r := by
  cases r with
  | ok fl s' =>
    cases fl with
    | nx => exact fun σ' g' H' sd ev => p σ' g' H' sd (e.trans ev)
    | bk => exact fun σ' g' H' sd ev => p σ' g' H' sd (e.trans ev)
    | ct => exact fun σ' g' H' sd ev => p σ' g' H' sd (e.trans ev)
    | rt t => exact fun v σ' g' H' sd ev rr => p v σ' g' H' sd (e.trans ev) (rr.past e)
  | err x s' => exact fun cls d σ' g' H' sd ev er => p cls d σ' g' H' sd (e.trans ev) er
  | bad => exact p
structure CurS (K : PySem.W.Frag) (Wx : WX) (D : Ends) (g0 : Gh) (H0 : Hp) (σ0 : Slots) (s0 : State) (m : Rs Flow) (g1 : Gh) (H1 : Hp) (σ1 : Slots) (s1 : State) : Prop where
  ev : Ev g0 H0 σ0 s0 g1 H1 σ1 s1
  sd : SD K g1 H1 σ1 s1
  post : PostS K Wx D g0 H0 σ0 s0 m
theorem tS.start {f : M Flow} {σ : Slots} {H : Hp} (h : tS K Wx f D σ H) : ∃ g s, CurS K Wx D g H σ s (f s) g H σ s := by
  obtain ⟨g, s, sd, p⟩ := h
  exact ⟨g, s, .refl, sd, p⟩
theorem CurS.bind {γ δ : Type} {R1 : Rel γ δ} {f : M γ} {k : γ → M Flow} (c : CurS K Wx D g0 H0 σ0 s0 ((f >>= k) s1) g1 H1 σ1 s1) :
    tM K Wx R1 f σ1 H1 (fun b H2 => ∃ a g2 s2, CurS K Wx D g0 H0 σ0 s0 (k a s2) g2 H2 σ1 s2 ∧ R1 σ1 H1 g2 H2 s2 b a ∧ Ev g1 H1 σ1 s1 g2 H2 σ1 s2) := by
  refine ⟨g1, s1, c.sd, ?_⟩
  have p := c.post
  rw [bind_eq] at p
  cases q : f s1 with
  | ok a s2 =>
    rw [q] at p
    exact fun b g2 H2 sd ev r => ⟨a, g2, s2, ⟨c.ev.trans ev, sd, p⟩, r, ev⟩
  | err x s2 =>
    rw [q] at p
    exact fun cls d g2 H2 sd ev er => p cls d σ1 g2 H2 sd (c.ev.trans ev) er
  | bad => rw [q] at p; exact p
theorem CurS.notBad {m : Rs Flow} (c : CurS K Wx D g0 H0 σ0 s0 m g1 H1 σ1 s1) (e : m = .bad) : False := by
  have p := c.post
  rw [e] at p
  exact p
theorem CurS.next {m : Rs Flow} (c : CurS K Wx D g0 H0 σ0 s0 m g1 H1 σ1 s1) (e : m = .ok .nx s2) (sd : SD K g2 H2 σ2 s2) (ev : Ev g1 H1 σ1 s1 g2 H2 σ2 s2) : D.nx σ2 H2 := by
  have p := c.post
  rw [e] at p
  exact p σ2 g2 H2 sd (c.ev.trans ev)
theorem CurS.go {f : M Flow} (c : CurS K Wx D g0 H0 σ0 s0 (f s1) g1 H1 σ1 s1) : tS K Wx f D σ1 H1 := ⟨g1, s1, c.sd, c.post.shift c.ev⟩
end
def dSeq (f k : M Flow) : M Flow := fun s => match f s with
  | .ok .nx s1 => k s1
  | r => r
def dNx : M Flow := fun s => .ok .nx s
section
variable {X : Cx} {Wx : WX} {st : Stmt} {rest a b : List Stmt} {f k : M Flow} {e : Expr} {ft : M T} {fc : M Bool} {pos : Pos}
theorem dss_nil : DSs X Wx [] dNx := ⟨fun pins s σ H D I h => pss_nil.run pins s σ H D I (by
  obtain ⟨g, s, c⟩ := h.start
  exact c.next rfl c.sd .refl)⟩
theorem dss_cons (h1 : DS X Wx st f) (h2 : DSs X Wx rest k) : DSs X Wx (st :: rest) (dSeq f k) := ⟨fun pins s σ H D I h => (pss_cons h1 h2).run pins s σ H D I (by
  obtain ⟨g, s, sd, p⟩ := h
  refine ⟨g, s, sd, ?_⟩
  unfold dSeq at p
  cases q : f s with
  | ok fl s1 =>
    rw [q] at p
    cases fl with
    | nx => exact fun σ1 g1 H1 sd1 ev1 => ⟨g1, s1, sd1, PostS.shift ev1 p⟩
    | bk => exact p
    | ct => exact p
    | rt t => exact p
  | err x s1 => rw [q] at p; exact p
  | bad => rw [q] at p; exact p)⟩
theorem dss_one (h1 : DS X Wx st f) : DSs X Wx [st] f := pss_one h1
def dExpr (f : M T) : M Flow := f >>= fun _ => dNx
theorem ds_expr (he : DE X Wx e ft) (hs : swapsWith e none pos.line X.env = pure false := by rfl) : DS X Wx (.Expr e pos) (dExpr ft) := ⟨fun pins s σ H D I h => (ps_expr he hs).run pins s σ H D I (by
  obtain ⟨g, s, c⟩ := h.start
  exact c.bind.mono fun x H1 ⟨t, g1, s1, c1, r1, e1⟩ => c1.next rfl c1.sd .refl)⟩
def dRet (f : M T) : M Flow := f >>= fun t s => .ok (.rt t) s
theorem ds_ret (he : DE X Wx e ft) : DS X Wx (.Return (some e) pos) (dRet ft) := ⟨fun pins s σ H D I h => (ps_ret he).run pins s σ H D I (by
  obtain ⟨g, s, c⟩ := h.start
  refine c.bind.mono fun x H1 ⟨t, g1, s1, c1, r1, e1⟩ => ?_
  exact c1.post x σ g1 H1 c1.sd c1.ev r1.rr)⟩
def dRetV (i : Nat) : M Flow := fun s => match s.env[i]? with
  | some (some (.fz d)) => .ok (.rt (.fz d)) s
  | some (some (.own d)) => .ok (.rt (.ow d)) { s with env := s.env.set i none }
  | _ => .bad
theorem SD.drop {K : PySem.W.Frag} {g : Gh} {H : Hp} {σ : Slots} {s : State} {i : Nat} (sd : SD K g H σ s) (c : canSet s i = true) :
    SD K g H σ { s with env := s.env.set i none } ∧ Ev g H σ s g H σ { s with env := s.env.set i none } ∧ ∀ b, Hd σ { s with env := s.env.set i none } b → ∃ j, j ≠ i ∧ ∃ w, s.env[j]? = some (some w) ∧ w.held = true ∧ σ[j]? = some (some (V.ref b)) := by
  have low : ∀ {j : Nat} {u : W}, (s.env.set i none)[j]? = some (some u) → j ≠ i ∧ s.env[j]? = some (some u) := fun {j u} h => by
    by_cases z : i = j
    · subst z
      by_cases hl : i < s.env.length
      · rw [List.getElem?_set_self hl] at h; cases h
      · rw [List.getElem?_eq_none (by simpa using hl)] at h; cases h
    · rw [List.getElem?_set_ne z] at h
      exact ⟨fun q => z q.symm, h⟩
  have ne : ∀ {j : Nat} {w : W}, s.env[j]? = some (some w) → (w = .lent w.data ∨ w = .lk w.data ∨ w = .lkl w.data) → (s.env.set i none)[j]? = some (some w) := fun {j w} h z => by
    have n : i ≠ j := fun q => by
      subst q
      unfold canSet at c
      rcases z with z | z | z <;> rw [h, z] at c <;> cases c
    rw [List.getElem?_set_ne n]; exact h
  refine ⟨⟨sd.gh, by show (s.env.set i none).length = _; rw [List.length_set]; exact sd.len, fun j u e => sd.slot j u (low e).2, fun j k u1 u2 b e1 e2 => sd.inj j k u1 u2 b (low e1).2 (low e2).2, sd.stl, sd.sto, sd.nd, sd.ng, sd.dr⟩,
    ⟨.refl g, fun _ _ h _ => h, fun _ h => h, fun _ _ z => .inl z, fun _ _ z => z, fun b m => ?_, fun b m => ?_, fun b m => ?_, fun j d h => ⟨rfl, d, .inl (ne h (.inl rfl))⟩, fun j d h => ⟨rfl, ne h (.inr (.inl rfl))⟩, fun j d h => ⟨rfl, ne h (.inr (.inr rfl))⟩⟩, fun b m => ?_⟩
  · rcases m with ⟨j, u, e1, m1, x⟩ | m
    · exact .inl (.inl ⟨j, u, (low e1).2, m1, x⟩)
    · exact .inl (.inr m)
  · obtain ⟨j, u, e1, m1, x⟩ := m
    exact .inl ⟨j, u, (low e1).2, m1, x⟩
  · obtain ⟨j, d, e1, x⟩ := m
    rcases e1 with e1 | e1
    · exact .inl ⟨j, d, .inl (low e1).2, x⟩
    · exact .inl ⟨j, d, .inr (low e1).2, x⟩
  · obtain ⟨j, u, e1, m1, x⟩ := m
    exact ⟨j, (low e1).1, u, (low e1).2, m1, x⟩
theorem ds_retV (i : Nat) {x : Str} {p : Pos} (hN : X.N[i]? = some x := by rfl) (hv : Vis X.env.scope x := by first | exact Or.inl rfl | exact Or.inr (Or.inl rfl) | exact Or.inr (Or.inr rfl)) (hd : (x == ("__debug__" : Str)) = false := by decide)
    (hcd : (x == ("__classdict__" : Str)) = false := by decide) : DS X Wx (.Return (some (.Name x p)) pos) (dRetV i) := ⟨fun pins s σ H D I h => (ps_ret (pe_var hN hv hd hcd)).run pins s σ H D I (by
  obtain ⟨g, s, sd, p⟩ := h
  unfold dRetV at p
  cases e : s.env[i]? with
  | none => simp only [e] at p; exact False.elim p
  | some w =>
    cases w with
    | none => simp only [e] at p; exact False.elim p
    | some w =>
      obtain ⟨v, ev, wa⟩ := sd.slot i w e
      cases w with
      | fz d =>
        simp only [e] at p
        exact ⟨v, ev, p v σ g H sd .refl ⟨wa, fun _ _ z => nomatch z⟩⟩
      | own d =>
        simp only [e] at p
        obtain ⟨sd1, ev1, nh⟩ := sd.drop (i := i) (by unfold canSet; rw [e])
        refine ⟨v, ev, p v σ g H sd1 ev1 ⟨wa, fun d' a e1 e2 => ⟨.inr ⟨i, d, .inl e, by rw [ev, e2]⟩, fun hh => ?_⟩⟩⟩
        obtain ⟨j, nj, u, e3, h3, x3⟩ := nh a hh
        exact nj (sd.inj j i u _ a e3 e h3 rfl x3 (by rw [ev, e2]))
      | lent d => simp only [e] at p; exact False.elim p
      | lk d => simp only [e] at p; exact False.elim p
      | lkl d => simp only [e] at p; exact False.elim p)⟩
theorem ds_if {c : Expr} (hc : DT X Wx c fc) (ha : DSs X Wx a f) (hb : DSs X Wx b k) : DS X Wx (.If c a b pos) (dIf fc f k) := ⟨fun pins s σ H D I h => (ps_if hc ha hb).run pins s σ H D I (by
  obtain ⟨g, s, c⟩ := h.start
  refine c.bind.mono fun x H1 ⟨t, g1, s1, c1, r1, e1⟩ => ?_
  cases (show x = t from r1)
  cases x with
  | true => rw [if_pos rfl] at c1 ⊢; exact c1.go
  | false => rw [if_neg Bool.false_ne_true] at c1 ⊢; exact c1.go)⟩
def T.w : T → W
  | .fz d => .fz d
  | .ow d => .own d
def setT (i : Nat) (t : T) : M Unit := fun s => if canSet s i = true then .ok () (putE s i t.w) else .bad
theorem setT_run {K : PySem.W.Frag} {g0 g : Gh} {H0 H : Hp} {σ0 σ : Slots} {s0 s s' : State} {i : Nat} {t : T} {v : V} (h : setT i t s = .ok () s') (e0 : Ev g0 H0 σ0 s0 g H σ s) (sd : SD K g H σ s) (r : RT K H0 g H σ s v t) :
    SD K g H (σ.set i (some v)) s' ∧ Ev g0 H0 σ0 s0 g H (σ.set i (some v)) s' := by
  unfold setT at h
  by_cases c : canSet s i = true
  · rw [if_pos c] at h
    cases h
    have hh : ∀ b, t.w.held = true → v = .ref b → ∃ d, t = .ow d := fun b h1 h2 => by
      cases t with
      | fz d => cases h1
      | ow d => exact ⟨d, rfl⟩
    refine ⟨sd.set c ?_ fun b h1 h2 => ?_, e0.set sd c fun b h1 h2 => ?_⟩
    · cases t with
      | fz d => exact r.at_
      | ow d => exact r.at_
    · obtain ⟨d, ed⟩ := hh b h1 h2
      exact (r.new d b ed h2).2
    · obtain ⟨d, ed⟩ := hh b h1 h2
      exact (r.new d b ed h2).1
  · rw [if_neg c] at h; cases h
theorem setT_res (i : Nat) (t : T) (s : State) : (∃ s', setT i t s = .ok () s') ∨ setT i t s = .bad := by
  unfold setT
  by_cases c : canSet s i = true
  · rw [if_pos c]; exact .inl ⟨_, rfl⟩
  · rw [if_neg c]; exact .inr rfl
def dAsg (i : Nat) (f : M T) : M Flow := f >>= fun t => setT i t >>= fun _ => dNx
theorem asg_run {K : PySem.W.Frag} {D : Ends} {i : Nat} {f : M T} {σ : Slots} {H : Hp} (h : tS K Wx (dAsg i f) D σ H) : tAsg (tE K Wx f) (gName i) D σ H := by
  obtain ⟨g, s, c⟩ := h.start
  refine c.bind.mono fun x H1 ⟨t, g1, s1, c1, r1, e1⟩ => ?_
  have p := c1.post
  rw [bind_eq] at p
  rcases setT_res i t s1 with ⟨s2, e2⟩ | e2
  · rw [e2] at p
    obtain ⟨sd2, ev2⟩ := setT_run e2 c1.ev c1.sd r1
    exact p _ _ _ sd2 ev2
  · rw [e2] at p; exact p.elim
theorem ds_set {i : Nat} {x : Str} {pos' : Pos} (hN : X.N.Nodup) (hi : X.N[i]? = some x) (hx : Loc X.env.scope x) (he : DE X Wx e ft) (hs : swapsWith e (some (.Name x pos')) pos.line X.env = pure false := by rfl) (hf : X.fn x = true ∨ X.env.scope.names.lookup x = some .local := by first | exact .inl rfl | exact .inr rfl | assumption) :
    DS X Wx (.Assign [.Name x pos'] e pos) (dAsg i ft) := ⟨fun pins s σ H D I h => (ps_set hN hi hx he hs hf).run pins s σ H D I (asg_run h)⟩
inductive Pt where
  | name (i : Nat) | tup (ps : List Pt)
def setO (i : Nat) (t : T) (s : State) : Option State := if canSet s i = true then some (putE s i t.w) else none
mutual
def bindP : Pt → D → State → Option State
  | .name i, d, s => setO i (.fz d) s
  | .tup ps, d, s => match d with
    | .tup ds => if ps.length = ds.length then bindPs ps ds s else none
    | _ => none
def bindPs : List Pt → List D → State → Option State
  | [], _, s => some s
  | p :: ps, ds, s => match ds with
    | [] => none
    | d :: ds => match bindP p d s with
      | some s1 => bindPs ps ds s1
      | none => none
end
mutual
def Pt.vs : Pt → List Nat
  | .name i => [i]
  | .tup ps => Pt.vss ps
def Pt.vss : List Pt → List Nat
  | [] => []
  | p :: ps => p.vs ++ Pt.vss ps
end
def Upto (L : List Nat) (σ σ' : Slots) : Prop := σ'.length = σ.length ∧ ∀ i, i ∉ L → σ'[i]? = σ[i]?
theorem Upto.refl {L : List Nat} {σ : Slots} : Upto L σ σ := ⟨rfl, fun _ _ => rfl⟩
theorem Upto.trans {L L' : List Nat} {σ σ' σ2 : Slots} (a : Upto L σ σ') (b : Upto L' σ' σ2) : Upto (L ++ L') σ σ2 := ⟨b.1.trans a.1, fun i h => (b.2 i fun z => h (List.mem_append_right _ z)).trans (a.2 i fun z => h (List.mem_append_left _ z))⟩
def tP (K : PySem.W.Frag) (p : Pt) : TG := fun v σ H Q => ∃ g s d, SD K g H σ s ∧ Rep K g v d ∧ ∃ s', bindP p d s = some s' ∧ ∀ σ', Upto p.vs σ σ' → SD K g H σ' s' → Ev g H σ s g H σ' s' → Q σ' H
def tPs (K : PySem.W.Frag) (ps : List Pt) : TGs := fun vs σ H Q => ∃ g s ds, SD K g H σ s ∧ Reps K g vs ds ∧ ps.length = ds.length ∧ ∃ s', bindPs ps ds s = some s' ∧ ∀ σ', Upto (Pt.vss ps) σ σ' → SD K g H σ' s' → Ev g H σ s g H σ' s' → Q σ' H
def DG (X : Cx) (tg : Expr) (p : Pt) : Prop := PG X tg (tP X.K p)
def DGs (X : Cx) (tgs : List Expr) (ps : List Pt) : Prop := PGs X tgs (tPs X.K ps)
theorem dg_name {i : Nat} {x : Str} (hN : X.N.Nodup) (hi : X.N[i]? = some x) (hx : Loc X.env.scope x) (hf : X.fn x = true ∨ X.env.scope.names.lookup x = some .local := by first | exact .inl rfl | exact .inr rfl | assumption) : DG X (.Name x pos) (.name i) :=
  ⟨fun pins s σ H v u Q I r h => (pg_name hN hi hx hf).run pins s σ H v u Q I r (by
    obtain ⟨g, s, d, sd, rp, s', e, q⟩ := h
    unfold bindP setO at e
    by_cases c : canSet s i = true
    · rw [if_pos c] at e
      obtain ⟨sd2, ev2⟩ := setT_run (i := i) (t := .fz d) (s' := s') (by unfold setT; rw [if_pos c]; cases e; rfl) .refl sd ⟨rp, fun _ _ z => nomatch z⟩
      exact q _ ⟨List.length_set .., fun j hj => List.getElem?_set_ne fun z => hj (by rw [← z]; exact List.mem_singleton.mpr rfl)⟩ sd2 ev2
    · rw [if_neg c] at e; cases e)⟩
theorem bindPs_cons {p : Pt} {ps : List Pt} {d : D} {ds : List D} {s s' : State} (h : bindPs (p :: ps) (d :: ds) s = some s') : ∃ s1, bindP p d s = some s1 ∧ bindPs ps ds s1 = some s' := by
  unfold bindPs at h
  cases e : bindP p d s with
  | some s1 => simp only [e] at h; exact ⟨s1, rfl, h⟩
  | none => simp only [e] at h; cases h
theorem dgs_nil : DGs X [] [] := ⟨fun pins s σ H vs us Q I r h => pgs_nil.run pins s σ H vs us Q I r (by
  obtain ⟨g, s, ds, sd, rp, hl, s', e, q⟩ := h
  cases ds with
  | nil =>
    cases rp
    unfold bindPs at e
    cases e
    exact ⟨rfl, q σ .refl sd .refl⟩
  | cons d ds => cases hl)⟩
theorem dgs_cons {tg : Expr} {tgs : List Expr} {p : Pt} {ps : List Pt} (h1 : DG X tg p) (h2 : DGs X tgs ps) (hs : (assignEach (tg :: tgs) X.env).map (·.2) = assign tg X.env :: (assignEach tgs X.env).map (·.2) := by rfl) : DGs X (tg :: tgs) (p :: ps) :=
  ⟨fun pins s σ H vs us Q I r h => (pgs_cons h1 h2 hs).run pins s σ H vs us Q I r (by
    obtain ⟨g, s, ds, sd, rp, hl, s', e, q⟩ := h
    cases rp with
    | nil => cases hl
    | @cons v vs d ds a b =>
      obtain ⟨s1, e1, e2⟩ := bindPs_cons e
      exact ⟨v, vs, rfl, g, s, d, sd, a, s1, e1, fun σ1 u1 sd1 ev1 => ⟨g, s1, ds, sd1, b, Nat.succ.inj hl, s', e2, fun σ' u2 sd' ev' => q σ' (u1.trans u2) sd' (ev1.trans ev')⟩⟩)⟩
theorem dg_tup {tgs : List Expr} {k : Nat} {ps : List Pt} (hc : X.calm = true) (h : DGs X tgs ps) (hn : (assignEach tgs X.env).length = ps.length := by rfl) (hst : (assignEach tgs X.env).findIdx? (·.1) = none := by rfl) : DG X (.Tuple tgs k pos) (.tup ps) :=
  ⟨fun pins s σ H v u Q I r q => (pg_tup hc h hn hst).run pins s σ H v u Q I r (by
    obtain ⟨g, s, d, sd, rp, s', e, q⟩ := q
    unfold bindP at e
    cases d with
    | tup ds =>
      obtain ⟨a, xs, rfl, ht, rs⟩ := VAt.tup sd (.inl rp)
      by_cases hl : ps.length = ds.length
      · simp only [if_pos hl] at e
        exact ⟨a, xs, rfl, ht, by rw [rs.length, hl], g, s, ds, sd, rs, hl, s', e, q⟩
      · simp only [if_neg hl] at e; cases e
    | _ => cases e)⟩
end
end DL
set_option Elab.async false
set_option linter.all false
set_option maxRecDepth 100000
set_option maxHeartbeats 1000000
namespace DL
open PySem PySem.Spec PyProof.Rows L2
section
variable {X : Cx} {Wx : WX} {e : Expr} {pos : Pos}
def dPar (i j : Nat) (fl : M (List VR)) : M Flow := fl >>= fun rs s => match rs with
  | [.t t1, .t t2] => (setT i t1 >>= fun _ => setT j t2 >>= fun _ => dNx) s
  | _ => .bad
section
variable {K : PySem.W.Frag} {g0 g : Gh} {H0 H : Hp} {σ0 σ : Slots} {s0 s s' : State} {i : Nat} {t t' : T} {v v' : V}
end
def heldD (i : Nat) : State → Option (W × D) := fun s => match s.env[i]? with
  | some (some (.own d)) => some (.own d, d)
  | some (some (.lent d)) => some (.lent d, d)
  | _ => none
def updD (i : Nat) (h : D → Option D) : M Unit := fun s => match heldD i s with
  | some (w, d) => match h d with
    | some d' => .ok () (putE s i (w.re d'))
    | none => .bad
  | none => .bad
def isLst : D → Bool
  | .lst _ => true
  | _ => false
def chkD (i : Nat) (p : D → Bool) : M Unit := fun s => match heldD i s with
  | some (_, d) => if p d then .ok () s else .bad
  | none => .bad
theorem heldD_some {i : Nat} {s : State} {w : W} {d : D} (h : heldD i s = some (w, d)) : s.env[i]? = some (some w) ∧ w.mut = true ∧ w.data = d := by
  unfold heldD at h
  cases e : s.env[i]? with
  | none => rw [e] at h; cases h
  | some u =>
    cases u with
    | none => rw [e] at h; cases h
    | some u =>
      cases u with
      | own d' => rw [e] at h; cases h; exact ⟨rfl, rfl, rfl⟩
      | lent d' => rw [e] at h; cases h; exact ⟨rfl, rfl, rfl⟩
      | fz d' => rw [e] at h; cases h
      | lk d' => rw [e] at h; cases h
      | lkl d' => rw [e] at h; cases h
section
variable {K : PySem.W.Frag} {g : Gh} {H : Hp} {σ : Slots} {s : State} {i : Nat} {w : W} {d : D}
theorem heldD_at (sd : SD K g H σ s) (h : heldD i s = some (w, d)) : ∃ a o, σ[i]? = some (some (V.ref a)) ∧ H a = some o ∧ ObAt K g o d := by
  obtain ⟨e, m, ed⟩ := heldD_some h
  obtain ⟨v, ev, wa⟩ := sd.slot i w e
  cases w with
  | own d' => obtain ⟨a, o, rfl, _, q, ob⟩ := wa; cases ed; exact ⟨a, o, ev, q, ob⟩
  | lent d' => obtain ⟨a, o, rfl, _, q, ob⟩ := wa; cases ed; exact ⟨a, o, ev, q, ob⟩
  | _ => cases m
theorem chkD_res (i : Nat) (p : D → Bool) (s : State) : (∃ w d, heldD i s = some (w, d) ∧ p d = true ∧ chkD i p s = .ok () s) ∨ chkD i p s = .bad := by
  unfold chkD
  cases e : heldD i s with
  | none => exact .inr rfl
  | some z =>
    obtain ⟨w, d⟩ := z
    cases q : p d with
    | false => exact .inr (by simp only [q]; rfl)
    | true => exact .inl ⟨w, d, rfl, q, by simp only [q]; rfl⟩
theorem updD_res (i : Nat) (h : D → Option D) (s : State) : (∃ w d d', heldD i s = some (w, d) ∧ h d = some d' ∧ updD i h s = .ok () (putE s i (w.re d'))) ∨ updD i h s = .bad := by
  unfold updD
  cases e : heldD i s with
  | none => exact .inr rfl
  | some z =>
    obtain ⟨w, d⟩ := z
    cases q : h d with
    | none => exact .inr (by simp only [q])
    | some d' => exact .inl ⟨w, d, d', rfl, q, by simp only [q]⟩
end
def pushD (d : D) : D → Option D
  | .lst ds => if ds.length < sizeLine then some (.lst (ds ++ [d])) else none
  | _ => none
def dAppend (i : Nat) (f : M VR) : M T := chkD i isLst >>= fun _ => f >>= fun r => frz r >>= fun d => updD i (pushD d) >>= fun _ => dC .non
section
variable {α β : Type} {K : PySem.W.Frag} {Wx : WX} {σ : Slots} {R : Gh → Hp → State → β → α → Prop} {Q : β → Hp → Prop} {g0 g1 : Gh} {H0 H1 Hq : Hp} {s0 s1 : State}
theorem Cur.chkD {i : Nat} {p : D → Bool} {k : Unit → M α} (c : Cur K Wx σ R Q g0 H0 s0 ((chkD i p >>= k) s1) g1 H1 s1) :
    ∃ w d, heldD i s1 = some (w, d) ∧ p d = true ∧ Cur K Wx σ R Q g0 H0 s0 (k () s1) g1 H1 s1 := by
  rw [bind_eq] at c
  rcases chkD_res i p s1 with ⟨w, d, h1, h2, h3⟩ | h
  · rw [h3] at c; exact ⟨w, d, h1, h2, c⟩
  · rw [h] at c; exact (c.notBad rfl).elim
theorem Cur.updD {i : Nat} {h : D → Option D} {k : Unit → M α} (c : Cur K Wx σ R Q g0 H0 s0 ((updD i h >>= k) s1) g1 H1 s1) :
    ∃ w d d' a o, heldD i s1 = some (w, d) ∧ h d = some d' ∧ σ[i]? = some (some (V.ref a)) ∧ H1 a = some o ∧ ObAt K g1 o d ∧
      ∀ o', ObAt K g1 o' d' → Cur K Wx σ R Q g0 H0 s0 (k () (putE s1 i (w.re d'))) g1 (upd H1 a o') (putE s1 i (w.re d')) := by
  rw [bind_eq] at c
  rcases updD_res i h s1 with ⟨w, d, d', h1, h2, h3⟩ | h
  · rw [h3] at c
    obtain ⟨a, o, ea, eo, ob⟩ := heldD_at c.sd h1
    obtain ⟨e1, m, _⟩ := heldD_some h1
    refine ⟨w, d, d', a, o, h1, h2, ea, eo, ob, fun o' ob' => ?_⟩
    obtain ⟨sd2, ev2⟩ := c.sd.write e1 m ea ob'
    exact ⟨c.ev.trans ev2, sd2, c.post⟩
  · rw [h] at c; exact (c.notBad rfl).elim
end
theorem lstMut_run {i : Nat} {f : M VR} {h : D → D → Option D} {r : V → List V → Hp → VK → Prop}
    (hl : ∀ d x d', h d x = some d' → ∃ ds, x = .lst ds) (hr : ∀ (g : Gh) (H : Hp) (σ : Slots) (s : State) (a : Addr) (xs : List V) (ds : List D) (y : V) (d d' : D) (Q : V → Hp → Prop), SD X.K g H σ s → H a = some (.lst xs) → Reps X.K g xs ds → Rep X.K g y d → h d (.lst ds) = some d' → (∀ o', ObAt X.K g o' d' → Q .non (upd H a o')) → r (.ref a) [y] H Q)
    {σ : Slots} {H : Hp} {Q : V → Hp → Prop} (q : tE X.K Wx (chkD i isLst >>= fun _ => f >>= fun r => frz r >>= fun d => updD i (h d) >>= fun _ => dC .non) σ H Q) :
    tBM X.K "list" r (tVar i) (tCons (tV X.K Wx f) tNil) σ H Q := by
  obtain ⟨g, s, c⟩ := q.start
  obtain ⟨w, d, h1, h2, c1⟩ := c.chkD
  obtain ⟨a, o, ea, eo, ob⟩ := heldD_at c.sd h1
  refine ⟨.ref a, ea, ?_, ?_⟩
  · cases d with
    | lst ds => obtain ⟨xs, rfl, _⟩ := ob; exact .inl ⟨rfl, xs, .of eo⟩
    | _ => cases h2
  · refine c1.bind.mono fun y H1 ⟨r1, g1, s1, c2, r2, e2⟩ => ?_
    obtain ⟨d1, g2, s2, c3, r3, le3⟩ := c2.frz r2
    obtain ⟨w', d', d'', a', o', h3, h4, ea', eo', ob', k⟩ := c3.updD
    rw [ea] at ea'; cases ea'
    obtain ⟨ds, rfl⟩ := hl _ _ _ h4
    obtain ⟨xs, rfl, rx⟩ := ob'
    refine hr g2 H1 σ s2 a xs ds y d1 d'' Q c3.sd eo' rx r3 h4 fun o' ob' => ?_
    exact (k o' ob').done rfl ⟨.non, fun _ _ z => nomatch z⟩
theorem de_append {i : Nat} {x : Str} {f : M VR} {p apos cpos : Pos} (hN : X.N[i]? = some x) (hv : Vis X.env.scope x) (he : DV X Wx e f) (hd : (x == ("__debug__" : Str)) = false := by decide) (hcd : (x == ("__classdict__" : Str)) = false := by decide)
    (h1 : attributeBase (.Name x p) "append" X.env (eval (.Name x p) X.env) = eval (.Name x p) X.env := by rfl)
    (h2 : ((backTo cpos (starEach (e :: []) X.env)).all (fun x => !x.1) && (backToKw cpos (keywordEach [] X.env)).all (fun x => x.1.isSome) && decide ((e :: []).length + ([] : List Keyword).length + (if ([] : List Keyword).isEmpty then 0 else 1) < 30)) = true := by rfl)
    (h3 : (apos.endLine == cpos.line) = true := by rfl) (h4 : starEach (e :: []) X.env = (false, eval e X.env) :: starEach [] X.env := by rfl) (h5 : (backTo cpos (starEach [] X.env)).any (·.1) = false := by rfl) :
    DE X Wx (.Call (.Attribute (.Name x p) "append" apos) [e] [] cpos) (dAppend i f) :=
  ⟨fun pins s σ H Q I q => (pe_bm PySem.F.plainAttrs_list PySem.F.slot_list_append PySem.F.type_list_append mt_append (pe_var hN hv hd hcd) (pa_cons he pa_nil h4) h1 h2 h3 h4 h5).run pins s σ H Q I (by
    refine lstMut_run (h := pushD) (fun d x d' h => ?_) (fun g H σ s a xs ds y d d' Q sd ha rx ry hh k => ?_) q
    · cases x with
      | lst ds => exact ⟨ds, rfl⟩
      | _ => cases h
    · unfold pushD at hh
      by_cases hz : ds.length < sizeLine
      · simp only [if_pos hz] at hh; cases hh
        exact ⟨a, xs, y, rfl, rfl, ha, by rw [rx.length]; exact hz, k _ (.lst (rx.append (.one ry)))⟩
      · simp only [if_neg hz] at hh; cases hh)⟩
def rSetDD : TSet := fun o i v H Q => ∃ a H', o = .ref a ∧ DPut H a i v H' ∧ Q H'
theorem set_dict (hu : X.A.units + 1 < cLine) : PSet X rSetDD := by
  rintro pins s σ H o i v ov iv u Q I ro ri rv ⟨a, H', rfl, dp, q⟩
  cases ro
  exact d_setItem hu I dp ri rv fun s4 I4 => ⟨H', I4, q⟩
theorem PSet.or {t t' : TSet} (h : PSet X t) (h' : PSet X t') : PSet X (fun o i v H Q => t o i v H Q ∨ t' o i v H Q) := by
  rintro pins s σ H o i v ov iv u Q I ro ri rv (q | q)
  · exact h pins s σ H o i v ov iv u Q I ro ri rv q
  · exact h' pins s σ H o i v ov iv u Q I ro ri rv q
section
variable {K : PySem.W.Frag} {Wx : WX} {D : Ends} {g0 g1 g2 : Gh} {H0 H1 H2 : Hp} {σ0 σ1 σ2 : Slots} {s0 s1 s2 : State}
theorem CurS.read {x : VR} {v : V} {k : DL.D → M Flow} {Hq : Hp} (c : CurS K Wx D g0 H0 σ0 s0 ((readV x >>= k) s1) g1 H1 σ1 s1) (h : RVR K σ1 Hq g1 H1 s1 v x) :
    ∃ d, CurS K Wx D g0 H0 σ0 s0 (k d s1) g1 H1 σ1 s1 ∧ VAt K g1 H1 v d := by
  rw [bind_eq] at c
  rcases readV_res x s1 with ⟨d, e⟩ | e
  · rw [e] at c; exact ⟨d, c, (h.read c.sd e).2⟩
  · rw [e] at c; exact (c.notBad rfl).elim
theorem CurS.frz {r : VR} {v : V} {k : DL.D → M Flow} (c : CurS K Wx D g0 H0 σ0 s0 ((frz r >>= k) s1) g1 H1 σ1 s1) (h : RVR K σ1 H0 g1 H1 s1 v r) :
    ∃ d g2 s2, CurS K Wx D g0 H0 σ0 s0 (k d s2) g2 H1 σ1 s2 ∧ Rep K g2 v d ∧ Le g1 g2 := by
  rw [bind_eq] at c
  rcases frz_res r s1 with ⟨d, s2, e⟩ | e
  · rw [e] at c
    obtain ⟨g2, sd2, ev2, rp, _, le⟩ := frz_run e c.ev c.sd h
    exact ⟨d, g2, s2, ⟨ev2, sd2, c.post⟩, rp, le⟩
  · rw [e] at c; exact (c.notBad rfl).elim
theorem CurS.chkD {i : Nat} {p : DL.D → Bool} {k : Unit → M Flow} (c : CurS K Wx D g0 H0 σ0 s0 ((chkD i p >>= k) s1) g1 H1 σ1 s1) :
    ∃ w d, heldD i s1 = some (w, d) ∧ p d = true ∧ CurS K Wx D g0 H0 σ0 s0 (k () s1) g1 H1 σ1 s1 := by
  rw [bind_eq] at c
  rcases chkD_res i p s1 with ⟨w, d, h1, h2, h3⟩ | h
  · rw [h3] at c; exact ⟨w, d, h1, h2, c⟩
  · rw [h] at c; exact (c.notBad rfl).elim
theorem CurS.updD {i : Nat} {h : DL.D → Option DL.D} {k : Unit → M Flow} (c : CurS K Wx D g0 H0 σ0 s0 ((updD i h >>= k) s1) g1 H1 σ1 s1) :
    ∃ w d d' a o, heldD i s1 = some (w, d) ∧ h d = some d' ∧ σ1[i]? = some (some (V.ref a)) ∧ H1 a = some o ∧ ObAt K g1 o d ∧
      ∀ o', ObAt K g1 o' d' → CurS K Wx D g0 H0 σ0 s0 (k () (putE s1 i (w.re d'))) g1 (upd H1 a o') σ1 (putE s1 i (w.re d')) := by
  rw [bind_eq] at c
  rcases updD_res i h s1 with ⟨w, d, d', h1, h2, h3⟩ | h
  · rw [h3] at c
    obtain ⟨a, o, ea, eo, ob⟩ := heldD_at c.sd h1
    obtain ⟨e1, m, _⟩ := heldD_some h1
    refine ⟨w, d, d', a, o, h1, h2, ea, eo, ob, fun o' ob' => ?_⟩
    obtain ⟨sd2, ev2⟩ := c.sd.write e1 m ea ob'
    exact ⟨c.ev.trans ev2, sd2, c.post⟩
  · rw [h] at c; exact (c.notBad rfl).elim
end
end
end DL
set_option Elab.async false
set_option linter.all false
set_option maxRecDepth 100000
set_option maxHeartbeats 1000000
namespace DL
open PySem PySem.Spec PyProof.Rows L2
def lockS (i : Nat) : State → State := fun s => match s.env[i]? with
  | some (some (.own d)) => putE s i (.lk d)
  | some (some (.lent d)) => putE s i (.lkl d)
  | _ => s
def unlockW (i : Nat) (w : Option (Option W)) (s : State) : State := match w with
  | some (some (.own _)) => (match s.env[i]? with
    | some (some (.lk d)) => putE s i (.own d)
    | _ => s)
  | some (some (.lent _)) => (match s.env[i]? with
    | some (some (.lkl d)) => putE s i (.lent d)
    | _ => s)
  | _ => s
section
variable {K : PySem.W.Frag} {g g' g0 g1 : Gh} {H H' H0 H1 : Hp} {σ σ' σ0 σ1 : Slots} {s s' s0 s1 : State} {a : Addr} {o : HO} {i : Nat} {d : D} {w u : W}
theorem SD.kind (sd : SD K g H σ s) (e : s.env[i]? = some (some w)) (hw : w.held = true) (hu : u.held = true) (wa : ∀ v, σ[i]? = some (some v) → WAt K g H v u) : SD K g H σ (putE s i u) where
  gh := sd.gh
  len := by show (s.env.set i _).length = _; rw [List.length_set]; exact sd.len
  slot := fun j x ej => by
    rcases getE_set ej with ⟨rfl, rfl⟩ | ⟨_, ej⟩
    · obtain ⟨v, ev, _⟩ := sd.slot j w e
      exact ⟨v, ev, wa v ev⟩
    · exact sd.slot j x ej
  inj := fun j k x y b e1 e2 h1 h2 x1 x2 => by
    have low : ∀ {l : Nat} {z : W}, (putE s i u).env[l]? = some (some z) → z.held = true → ∃ z', s.env[l]? = some (some z') ∧ z'.held = true := fun {l z} h hz => by
      rcases getE_set h with ⟨rfl, _⟩ | ⟨_, h⟩
      · exact ⟨w, e, hw⟩
      · exact ⟨z, h, hz⟩
    obtain ⟨x', e1', h1'⟩ := low e1 h1
    obtain ⟨y', e2', h2'⟩ := low e2 h2
    exact sd.inj j k x' y' b e1' e2' h1' h2' x1 x2
  stl := sd.stl
  sto := sd.sto
  nd := sd.nd
  ng := sd.ng
  dr := sd.dr
theorem SD.lock (sd : SD K g H σ s) : SD K g H σ (lockS i s) := by
  unfold lockS
  cases e : s.env[i]? with
  | none => exact sd
  | some x =>
    cases x with
    | none => exact sd
    | some w =>
      cases w with
      | own d =>
        refine sd.kind e rfl rfl fun v ev => ?_
        obtain ⟨v', ev', a, o, rfl, f, q, ob⟩ := sd.slot i _ e
        rw [ev] at ev'; cases ev'
        exact ⟨a, o, rfl, f, .inl q, ob⟩
      | lent d =>
        refine sd.kind e rfl rfl fun v ev => ?_
        obtain ⟨v', ev', a, o, rfl, f, q, ob⟩ := sd.slot i _ e
        rw [ev] at ev'; cases ev'
        exact ⟨a, o, rfl, f, .inl q, ob⟩
      | fz d => exact sd
      | lk d => exact sd
      | lkl d => exact sd
theorem putE_at (h : i < s.env.length) : (putE s i w).env[i]? = some (some w) := List.getElem?_set_self h
theorem putE_ne {j : Nat} (h : j ≠ i) : (putE s i w).env[j]? = s.env[j]? := List.getElem?_set_ne (Ne.symm h)
theorem Ev.kinds {k1 k2 : D → W} (hk : (k1 = W.own ∧ k2 = W.lk) ∨ (k1 = W.lent ∧ k2 = W.lkl)) (e : s.env[i]? = some (some (k1 d))) (e1 : Ev g H σ (putE s i (k2 d)) g1 H1 σ1 s1) :
    s1.env[i]? = some (some (k2 d)) ∧ σ1[i]? = σ[i]? ∧ Ev g H σ s g1 H1 σ1 (putE s1 i (k1 d)) := by
  have hl : i < s.env.length := (List.getElem?_eq_some_iff.mp e).1
  have at2 : (putE s i (k2 d)).env[i]? = some (some (k2 d)) := putE_at hl
  have fin : σ1[i]? = σ[i]? ∧ s1.env[i]? = some (some (k2 d)) := by
    rcases hk with ⟨rfl, rfl⟩ | ⟨rfl, rfl⟩
    · exact e1.lk i d at2
    · exact e1.lkl i d at2
  obtain ⟨es, eL⟩ := fin
  have hl1 : i < s1.env.length := (List.getElem?_eq_some_iff.mp eL).1
  have kmut : (k2 d).mut = false ∧ (k1 d).mut = true ∧ (k1 d).held = true ∧ (k2 d).held = true := by
    rcases hk with ⟨rfl, rfl⟩ | ⟨rfl, rfl⟩ <;> exact ⟨rfl, rfl, rfl, rfl⟩
  obtain ⟨m2, m1, h1, h2⟩ := kmut
  have muL : ∀ b, Mu g σ (putE s i (k2 d)) b → Mu g σ s b := fun b m => by
    rcases m with ⟨j, u, ej, mj, x⟩ | m
    · rcases getE_set ej with ⟨_, rfl⟩ | ⟨_, ej⟩
      · rw [m2] at mj; cases mj
      · exact .inl ⟨j, u, ej, mj, x⟩
    · exact .inr m
  have hdL : ∀ b, Hd σ (putE s i (k2 d)) b → Hd σ s b := fun b ⟨j, u, ej, mj, x⟩ => by
    rcases getE_set ej with ⟨rfl, _⟩ | ⟨_, ej⟩
    · exact ⟨j, _, e, h1, x⟩
    · exact ⟨j, u, ej, mj, x⟩
  have owL : ∀ b, OwnA σ (putE s i (k2 d)) b → OwnA σ s b := fun b ⟨j, x, ej, q⟩ => by
    by_cases z : j = i
    · subst z
      rcases hk with ⟨rfl, rfl⟩ | ⟨rfl, rfl⟩
      · exact ⟨j, d, .inl e, q⟩
      · rw [at2] at ej
        rcases ej with ej | ej <;> cases ej
    · rw [putE_ne z] at ej
      exact ⟨j, x, ej, q⟩
  refine ⟨eL, es, e1.le, fun b u hb nm => e1.keep b u hb fun m => nm (muL b m), e1.live, fun b l q => (e1.frz b l q).imp id (Or.imp (muL b) id), e1.eta, fun b m => ?_, fun b m => ?_, fun b m => ?_, fun j x h => ?_, fun j x h => ?_, fun j x h => ?_⟩
  · rcases m with ⟨j, u, ej, mj, x⟩ | m
    · rcases getE_set ej with ⟨rfl, rfl⟩ | ⟨_, ej⟩
      · exact .inl (.inl ⟨j, _, e, m1, by rw [← es]; exact x⟩)
      · exact (e1.mu b (.inl ⟨j, u, ej, mj, x⟩)).imp (muL b) id
    · exact (e1.mu b (.inr m)).imp (muL b) id
  · obtain ⟨j, u, ej, mj, x⟩ := m
    rcases getE_set ej with ⟨rfl, rfl⟩ | ⟨_, ej⟩
    · exact (e1.hd b ⟨j, _, eL, h2, x⟩).imp (hdL b) id
    · exact (e1.hd b ⟨j, u, ej, mj, x⟩).imp (hdL b) id
  · obtain ⟨j, x, ej, q⟩ := m
    by_cases z : j = i
    · subst z
      rcases hk with ⟨rfl, rfl⟩ | ⟨rfl, rfl⟩
      · exact (e1.ow b ⟨j, d, .inr eL, q⟩).imp (owL b) id
      · rw [putE_at hl1] at ej
        rcases ej with ej | ej <;> cases ej
    · rw [putE_ne z] at ej
      exact (e1.ow b ⟨j, x, ej, q⟩).imp (owL b) id
  · by_cases z : j = i
    · subst z
      rw [e] at h
      rcases hk with ⟨rfl, rfl⟩ | ⟨rfl, rfl⟩
      · cases h
      · exact ⟨es, d, .inl (putE_at hl1)⟩
    · obtain ⟨q1, d', q2⟩ := e1.fix j x (by rw [putE_ne z]; exact h)
      exact ⟨q1, d', by rw [putE_ne z]; exact q2⟩
  · have z : j ≠ i := fun z => by
      subst z
      rw [e] at h
      rcases hk with ⟨rfl, rfl⟩ | ⟨rfl, rfl⟩ <;> cases h
    obtain ⟨q1, q2⟩ := e1.lk j x (by rw [putE_ne z]; exact h)
    exact ⟨q1, by rw [putE_ne z]; exact q2⟩
  · have z : j ≠ i := fun z => by
      subst z
      rw [e] at h
      rcases hk with ⟨rfl, rfl⟩ | ⟨rfl, rfl⟩ <;> cases h
    obtain ⟨q1, q2⟩ := e1.lkl j x (by rw [putE_ne z]; exact h)
    exact ⟨q1, by rw [putE_ne z]; exact q2⟩
def noDict : D → Bool
  | .dk _ => false
  | .dt _ => false
  | _ => true
theorem ObAt.noLock (h : ObAt K g o d) (n : noDict d = true) : lockable o = false := by
  cases d with
  | lst ds => obtain ⟨_, rfl, _⟩ := h; rfl
  | obj C ds => obtain ⟨_, _, rfl, _⟩ := h; rfl
  | dk _ => cases n
  | dt _ => cases n
  | _ => exact h.elim
theorem SD.unlock (e0 : Ev g0 H0 σ0 s0 g H σ s) (sd : SD K g H σ s) (nd : ∀ w : W, s.env[i]? = some (some w) → noDict w.data = true) (e1 : Ev g H σ (lockS i s) g1 H1 σ1 s1) (sd1 : SD K g1 H1 σ1 s1) :
    SD K g1 H1 σ1 (unlockW i s.env[i]? s1) ∧ Ev g0 H0 σ0 s0 g1 H1 σ1 (unlockW i s.env[i]? s1) ∧ (∀ b, Hd σ1 (unlockW i s.env[i]? s1) b → Hd σ1 s1 b) ∧ ∀ b, OwnA σ (lockS i s) b → OwnA σ s b := by
  have plain : lockS i s = s → unlockW i s.env[i]? s1 = s1 → SD K g1 H1 σ1 (unlockW i s.env[i]? s1) ∧ Ev g0 H0 σ0 s0 g1 H1 σ1 (unlockW i s.env[i]? s1) ∧ (∀ b, Hd σ1 (unlockW i s.env[i]? s1) b → Hd σ1 s1 b) ∧ ∀ b, OwnA σ (lockS i s) b → OwnA σ s b := fun h1 h2 => by
    rw [h2]
    rw [h1] at e1 ⊢
    exact ⟨sd1, e0.trans e1, fun _ h => h, fun _ h => h⟩
  cases e : s.env[i]? with
  | none => rw [← e]; exact plain (by unfold lockS; rw [e]) (by rw [e]; rfl)
  | some x =>
    cases x with
    | none => rw [← e]; exact plain (by unfold lockS; rw [e]) (by rw [e]; rfl)
    | some w =>
      cases w with
      | fz d => rw [← e]; exact plain (by unfold lockS; rw [e]) (by rw [e]; rfl)
      | lk d => rw [← e]; exact plain (by unfold lockS; rw [e]) (by rw [e]; rfl)
      | lkl d => rw [← e]; exact plain (by unfold lockS; rw [e]) (by rw [e]; rfl)
      | own d =>
        have eL : lockS i s = putE s i (.lk d) := by unfold lockS; rw [e]
        rw [eL] at e1 ⊢
        obtain ⟨q1, q2, ev⟩ := Ev.kinds (k1 := W.own) (k2 := W.lk) (.inl ⟨rfl, rfl⟩) e e1
        have eU : unlockW i (some (some (.own d))) s1 = putE s1 i (.own d) := by unfold unlockW; rw [q1]
        rw [eU]
        refine ⟨sd1.kind q1 rfl rfl fun v hv => ?_, e0.trans ev, fun b ⟨j, u, ej, hj, x⟩ => ?_, fun b ⟨j, x, ej, q⟩ => ?_⟩
        · obtain ⟨v', ev', a, o, rfl, f, q, ob⟩ := sd1.slot i _ q1
          rw [hv] at ev'; cases ev'
          exact ⟨a, o, rfl, f, q.exact (ob.noLock (nd _ e)), ob⟩
        · rcases getE_set ej with ⟨rfl, _⟩ | ⟨_, ej⟩
          · exact ⟨j, _, q1, rfl, x⟩
          · exact ⟨j, u, ej, hj, x⟩
        · rcases ej with ej | ej
          · rcases getE_set ej with ⟨_, z⟩ | ⟨_, ej⟩
            · cases z
            · exact ⟨j, x, .inl ej, q⟩
          · rcases getE_set ej with ⟨rfl, z⟩ | ⟨_, ej⟩
            · exact ⟨j, d, .inl e, q⟩
            · exact ⟨j, x, .inr ej, q⟩
      | lent d =>
        have eL : lockS i s = putE s i (.lkl d) := by unfold lockS; rw [e]
        rw [eL] at e1 ⊢
        obtain ⟨q1, q2, ev⟩ := Ev.kinds (k1 := W.lent) (k2 := W.lkl) (.inr ⟨rfl, rfl⟩) e e1
        have eU : unlockW i (some (some (.lent d))) s1 = putE s1 i (.lent d) := by unfold unlockW; rw [q1]
        rw [eU]
        refine ⟨sd1.kind q1 rfl rfl fun v hv => ?_, e0.trans ev, fun b ⟨j, u, ej, hj, x⟩ => ?_, fun b ⟨j, x, ej, q⟩ => ?_⟩
        · obtain ⟨v', ev', a, o, rfl, f, q, ob⟩ := sd1.slot i _ q1
          rw [hv] at ev'; cases ev'
          exact ⟨a, o, rfl, f, q.exact (ob.noLock (nd _ e)), ob⟩
        · rcases getE_set ej with ⟨rfl, _⟩ | ⟨_, ej⟩
          · exact ⟨j, _, q1, rfl, x⟩
          · exact ⟨j, u, ej, hj, x⟩
        · rcases ej with ej | ej
          · rcases getE_set ej with ⟨_, z⟩ | ⟨_, ej⟩
            · cases z
            · exact ⟨j, x, .inl ej, q⟩
          · rcases getE_set ej with ⟨_, z⟩ | ⟨_, ej⟩
            · cases z
            · exact ⟨j, x, .inr ej, q⟩
end
def mapS (f : State → State) : Rs Flow → Rs Flow
  | .ok fl s => .ok fl (f s)
  | .err x s => .err x (f s)
  | .bad => .bad
section
variable {K : PySem.W.Frag} {Wx : WX} {D : Ends} {g g0 g1 : Gh} {H H0 H1 : Hp} {σ σ0 σ1 : Slots} {s s0 s1 : State} {i : Nat} {r : Rs Flow}
theorem PostS.unlock (e0 : Ev g0 H0 σ0 s0 g H σ s) (sd : SD K g H σ s) (nd : ∀ w : W, s.env[i]? = some (some w) → noDict w.data = true) (p : PostS K Wx D g0 H0 σ0 s0 (mapS (unlockW i s.env[i]?) r)) : PostS K Wx D g H σ (lockS i s) r := by
  cases r with
  | ok fl s' =>
    cases fl with
    | nx => exact fun σ' g' H' sd' ev => let z := SD.unlock e0 sd nd ev sd'; p σ' g' H' z.1 z.2.1
    | bk => exact fun σ' g' H' sd' ev => let z := SD.unlock e0 sd nd ev sd'; p σ' g' H' z.1 z.2.1
    | ct => exact fun σ' g' H' sd' ev => let z := SD.unlock e0 sd nd ev sd'; p σ' g' H' z.1 z.2.1
    | rt t =>
      intro v σ' g' H' sd' ev rr
      obtain ⟨z1, z2, z3, z4⟩ := SD.unlock e0 sd nd ev sd'
      refine p v σ' g' H' z1 z2 ⟨rr.at_, fun d a e1 e2 => ⟨?_, fun hh => (rr.new d a e1 e2).2 (z3 a hh)⟩⟩
      rcases (rr.new d a e1 e2).1 with q | q
      · cases hq : H0 a with
        | none => exact .inl rfl
        | some o => exact absurd q (e0.live a (by rw [hq]; simp))
      · exact (e0.ow a (z4 a q)).symm
  | err x s' => exact fun cls d σ' g' H' sd' ev er => let z := SD.unlock e0 sd nd ev sd'; p cls d σ' g' H' z.1 z.2.1 er
  | bad => exact p
def Src (K : PySem.W.Frag) (g : Gh) (σ : Slots) (s : State) (v : V) (d : DL.D) : Prop :=
  Rep K g v d ∨ ∃ i : Nat, σ[i]? = some (some v) ∧ (s.env[i]? = some (some (.lk d)) ∨ s.env[i]? = some (some (.lkl d)))
theorem Src.rep {v : V} {d : DL.D} (h : Rep K g v d) : Src K g σ s v d := .inl h
theorem Src.ev {v : V} {d : DL.D} (e : Ev g H σ s g1 H1 σ1 s1) (h : Src K g σ s v d) : Src K g1 σ1 s1 v d := by
  rcases h with h | ⟨i, hv, h | h⟩
  · exact .inl (h.mono e.le)
  · obtain ⟨a, b⟩ := e.lk i d h
    exact .inr ⟨i, a.trans hv, .inl b⟩
  · obtain ⟨a, b⟩ := e.lkl i d h
    exact .inr ⟨i, a.trans hv, .inr b⟩
theorem Src.view {v : V} {d : DL.D} (sd : SD K g H σ s) (h : Src K g σ s v d) : VAt K g H v d := by
  rcases h with h | ⟨i, hv, h | h⟩
  · exact .inl h
  · obtain ⟨v', ev, wa⟩ := sd.slot i _ h
    rw [hv] at ev; cases ev
    exact wa.view
  · obtain ⟨v', ev, wa⟩ := sd.slot i _ h
    rw [hv] at ev; cases ev
    exact wa.view
def Iter (K : PySem.W.Frag) (J : It) (g : Gh) (H : Hp) (σ : Slots) (s : State) (ds : List DL.D) : Prop :=
  ∀ (i : Nat) (g2 : Gh) (H2 : Hp) (σ2 : Slots) (s2 : State), SD K g2 H2 σ2 s2 → Ev g H σ s g2 H2 σ2 s2 →
    (ds.length ≤ i → J.stop i H2) ∧ ∀ d, ds[i]? = some d → J.go i H2 ∧ ∀ x H3, J.yld i H2 x H3 → ∃ g3, SD K g3 H3 σ2 s2 ∧ Ev g2 H2 σ2 s2 g3 H3 σ2 s2 ∧ Rep K g3 x d
def dForL (p : Pt) (b : M Flow) : List DL.D → M Flow
  | [] => dNx
  | d :: ds => fun s => match bindP p d s with
    | none => .bad
    | some s1 => match b s1 with
      | .ok .nx s2 => dForL p b ds s2
      | .ok .ct s2 => dForL p b ds s2
      | .ok .bk s2 => .ok .nx s2
      | r => r
theorem forL_run {p : Pt} {b : M Flow} {ds : List DL.D} {J : It} (sd : SD K g H σ s) (it : Iter K J g H σ s ds) (q : PostS K Wx D g H σ s (dForL p b ds s)) :
    ∃ W : Nat → Nat → Slots → Hp → Prop, (∃ m, W 0 m σ H) ∧ ∀ i m σ H, W i m σ H →
      (J.stop i H ∧ D.nx σ H) ∨ (J.go i H ∧ ∃ N : Slots → Hp → Prop, (∀ σ' H', N σ' H' → ∃ m', m' < m ∧ W (i + 1) m' σ' H') ∧ ∀ x H', J.yld i H x H' → tP K p x σ H' fun σ2 H2 => tS K Wx b { D with nx := N, ct := N, bk := D.nx } σ2 H2) := by
  refine ⟨fun i m σ' H' => m = ds.length - i ∧ i ≤ ds.length ∧ ∃ g' s', SD K g' H' σ' s' ∧ Ev g H σ s g' H' σ' s' ∧ PostS K Wx D g H σ s (dForL p b (ds.drop i) s'), ⟨ds.length, by simp, Nat.zero_le _, g, s, sd, .refl, q⟩, ?_⟩
  rintro i m σ1 H1 ⟨rfl, hi, g1, s1, sd1, ev1, p1⟩
  obtain ⟨stop, go⟩ := it i g1 H1 σ1 s1 sd1 ev1
  by_cases hlt : i < ds.length
  · have e : ds[i]? = some ds[i] := List.getElem?_eq_getElem hlt
    obtain ⟨g1', g2'⟩ := go _ e
    refine .inr ⟨g1', fun σ' H' => i + 1 ≤ ds.length ∧ ∃ g' s', SD K g' H' σ' s' ∧ Ev g H σ s g' H' σ' s' ∧ PostS K Wx D g H σ s (dForL p b (ds.drop (i + 1)) s'), fun σ' H' z => ⟨ds.length - (i + 1), by omega, rfl, z.1, z.2⟩, fun x H3 hy => ?_⟩
    obtain ⟨g3, sd3, ev3, rp3⟩ := g2' x H3 hy
    rw [List.drop_eq_getElem_cons hlt] at p1
    unfold dForL at p1
    cases q1 : bindP p ds[i] s1 with
    | none => simp only [q1] at p1; exact p1.elim
    | some s2 =>
      simp only [q1] at p1
      refine ⟨g3, s1, ds[i], sd3, rp3, s2, q1, fun σ4 _ sd4 ev4 => ⟨g3, s2, sd4, ?_⟩⟩
      have evA := ev1.trans (ev3.trans ev4)
      cases q2 : b s2 with
      | bad => simp only [q2] at p1; exact p1
      | err y s5 => simp only [q2] at p1; exact p1.shift evA
      | ok fl s5 =>
        simp only [q2] at p1
        cases fl with
        | nx => exact fun σ' g' H' sd' ev' => ⟨hlt, g', s5, sd', evA.trans ev', p1⟩
        | ct => exact fun σ' g' H' sd' ev' => ⟨hlt, g', s5, sd', evA.trans ev', p1⟩
        | bk => exact fun σ' g' H' sd' ev' => p1 σ' g' H' sd' (evA.trans ev')
        | rt t => exact fun v σ' g' H' sd' ev' rr => p1 v σ' g' H' sd' (evA.trans ev') (rr.past evA)
  · have e : i = ds.length := by omega
    subst e
    rw [List.drop_length] at p1
    exact .inl ⟨stop (Nat.le_refl _), p1 σ1 g1 H1 sd1 ev1⟩
inductive HS where
  | d (d : DL.D) | slot (i : Nat)
def toHS : VR → M HS
  | .t t => frz (.t t) >>= fun d => pure (.d d)
  | .slot i => pure (.slot i)
def toHSs : List VR → M (List HS)
  | [] => pure []
  | r :: rs => toHS r >>= fun h => toHSs rs >>= fun hs => pure (h :: hs)
def dLock : List HS → (List DL.D → M Flow) → M Flow
  | [], k => k []
  | .d d :: rs, k => dLock rs fun ds => k (d :: ds)
  | .slot i :: rs, k => fun s => match s.env[i]? with
    | some (some w) => if noDict w.data = true then mapS (unlockW i s.env[i]?) (dLock rs (fun ds => k (w.data :: ds)) (lockS i s)) else .bad
    | _ => .bad
def dHold (rs : List VR) (k : List DL.D → M Flow) : M Flow := toHSs rs >>= fun hs => dLock hs k
inductive Srcs (K : PySem.W.Frag) (g : Gh) (σ : Slots) (s : State) : List V → List DL.D → Prop where
  | nil : Srcs K g σ s [] []
  | cons {v : V} {d : DL.D} {vs : List V} {ds : List DL.D} : Src K g σ s v d → Srcs K g σ s vs ds → Srcs K g σ s (v :: vs) (d :: ds)
theorem lockS_src {v : V} {w : W} (sd : SD K g H σ s) (e : s.env[i]? = some (some w)) (hv : σ[i]? = some (some v)) : Src K g σ (lockS i s) v w.data := by
  have hl : i < s.env.length := (List.getElem?_eq_some_iff.mp e).1
  cases w with
  | fz d =>
    obtain ⟨v', ev, wa⟩ := sd.slot i _ e
    rw [hv] at ev; cases ev
    exact .inl wa
  | own d => exact .inr ⟨i, hv, .inl (by unfold lockS; rw [e]; exact putE_at hl)⟩
  | lent d => exact .inr ⟨i, hv, .inr (by unfold lockS; rw [e]; exact putE_at hl)⟩
  | lk d => exact .inr ⟨i, hv, .inl (by unfold lockS; rw [e]; exact e)⟩
  | lkl d => exact .inr ⟨i, hv, .inr (by unfold lockS; rw [e]; exact e)⟩
def RH (K : PySem.W.Frag) (g : Gh) (σ : Slots) (v : V) : HS → Prop
  | .d d => Rep K g v d
  | .slot i => σ[i]? = some (some v)
inductive RHs (K : PySem.W.Frag) (g : Gh) (σ : Slots) : List V → List HS → Prop where
  | nil : RHs K g σ [] []
  | cons {v : V} {h : HS} {vs : List V} {hs : List HS} : RH K g σ v h → RHs K g σ vs hs → RHs K g σ (v :: vs) (h :: hs)
theorem RH.le {v : V} {h : HS} (l : Le g g1) (r : RH K g σ v h) : RH K g1 σ v h := by
  cases h with
  | d d => exact Rep.mono l r
  | slot i => exact r
theorem RHs.le (l : Le g g1) : ∀ {vs : List V} {hs : List HS}, RHs K g σ vs hs → RHs K g1 σ vs hs
  | _, _, .nil => .nil
  | _, _, .cons a r => .cons (a.le l) (RHs.le l r)
theorem toHSs_run : ∀ {rs : List VR} {vs : List V} {hs : List HS} {s s' : State} {g : Gh}, toHSs rs s = .ok hs s' → Ev g0 H0 σ0 s0 g H σ s → SD K g H σ s → RVRs K σ H0 g H s vs rs →
    ∃ g', SD K g' H σ s' ∧ Ev g0 H0 σ0 s0 g' H σ s' ∧ RHs K g' σ vs hs ∧ Le g g'
  | [], _, _, _, _, g, e, e0, sd, h => by
    cases h
    cases e
    exact ⟨g, sd, e0, .nil, .refl g⟩
  | .slot i :: rs, _, hs, s, s', g, e, e0, sd, .cons a b c => by
    unfold toHSs at e
    rw [bind_eq] at e
    have e : (toHSs rs >>= fun hs => pure (HS.slot i :: hs)) s = .ok hs s' := e
    rw [bind_eq] at e
    cases q2 : toHSs rs s with
    | bad => rw [q2] at e; cases e
    | err x s2 => rw [q2] at e; cases e
    | ok hs2 s2 =>
      rw [q2] at e
      cases e
      obtain ⟨g2, sd2, e2, rp2, le2⟩ := toHSs_run q2 e0 sd b
      exact ⟨g2, sd2, e2, .cons (show RH K g2 σ _ (.slot i) from a) rp2, le2⟩
  | .t t :: rs, _, hs, s, s', g, e, e0, sd, .cons (v := v) (vs := vs) a b c => by
    unfold toHSs at e
    rw [bind_eq] at e
    have e : (toHSs rs >>= fun hs => pure (HS.d t.data :: hs)) s = .ok hs s' := e
    rw [bind_eq] at e
    obtain ⟨g1, sd1, e1, rp, tr, le1⟩ := frz_run (r := .t t) (d := t.data) (s' := s) rfl e0 sd a
    have h3 : ∀ {us : List V} {ts : List VR}, RVRs K σ H0 g H s us ts → (∀ p ∈ us.zip ts, p ∈ vs.zip rs) → RVRs K σ H0 g1 H s us ts := by
      intro us ts hh
      induction hh with
      | nil => exact fun _ => .nil
      | cons a' b' c' ih =>
        intro hm
        exact .cons (tr _ _ a' fun b' d' d2 e1 e2 e3 => fun e4 => c b' d2 e3 e4 _ (hm _ List.mem_cons_self) d' e1 e2) (ih fun p hp => hm p (List.mem_cons_of_mem _ hp)) c'
    cases q2 : toHSs rs s with
    | bad => rw [q2] at e; cases e
    | err x s2 => rw [q2] at e; cases e
    | ok hs2 s2 =>
      rw [q2] at e
      cases e
      obtain ⟨g2, sd2, e2, rp2, le2⟩ := toHSs_run q2 e1 sd1 (h3 b fun _ h => h)
      exact ⟨g2, sd2, e2, .cons (show RH K g2 σ _ (.d t.data) from rp.mono le2) rp2, le1.trans le2⟩
theorem toHSs_res : ∀ (rs : List VR) (s : State), (∃ d s', toHSs rs s = .ok d s') ∨ toHSs rs s = .bad
  | [], s => .inl ⟨[], s, rfl⟩
  | r :: rs, s => by
    unfold toHSs
    rw [bind_eq]
    have e1 : ∃ h, toHS r s = .ok h s := by
      cases r with
      | t t => exact ⟨.d t.data, rfl⟩
      | slot i => exact ⟨.slot i, rfl⟩
    obtain ⟨h, e1⟩ := e1
    rw [e1]
    show (∃ d' s', (toHSs rs >>= fun ds => pure (h :: ds)) s = .ok d' s') ∨ (toHSs rs >>= fun ds => pure (h :: ds)) s = .bad
    rw [bind_eq]
    rcases toHSs_res rs s with ⟨ds, s2, e2⟩ | e2
    · rw [e2]; exact .inl ⟨_, _, rfl⟩
    · rw [e2]; exact .inr rfl
theorem lock_run : ∀ {hs : List HS} {vs : List V} {k : List DL.D → M Flow} {s : State}, SD K g H σ s → RHs K g σ vs hs → PostS K Wx D g H σ s (dLock hs k s) →
    ∃ s1 ds, SD K g H σ s1 ∧ Srcs K g σ s1 vs ds ∧ PostS K Wx D g H σ s1 (k ds s1) ∧ ∀ v d, Src K g σ s v d → Src K g σ s1 v d
  | [], _, k, s, sd, .nil, p => ⟨s, [], sd, .nil, p, fun _ _ h => h⟩
  | .d d :: rs, _, k, s, sd, .cons (v := v) a b, p => by
    obtain ⟨s1, ds, sd1, sr, p1, k1⟩ := lock_run (k := fun ds => k (d :: ds)) sd b p
    exact ⟨s1, d :: ds, sd1, .cons (k1 _ _ (.inl a)) sr, p1, k1⟩
  | .slot i :: rs, _, k, s, sd, .cons (v := v) a b, p => by
    unfold dLock at p
    cases e : s.env[i]? with
    | none => simp only [e] at p; exact p.elim
    | some w =>
      cases w with
      | none => simp only [e] at p; exact p.elim
      | some w =>
        simp only [e] at p
        by_cases hn : noDict w.data = true
        · rw [if_pos hn] at p
          have p' := PostS.unlock (i := i) .refl sd (fun w' h => by rw [e] at h; cases h; exact hn) (by rw [e]; exact p)
          obtain ⟨s1, ds, sd1, sr, p1, k1⟩ := lock_run (k := fun ds => k (w.data :: ds)) (sd.lock (i := i)) b p'
          refine ⟨s1, w.data :: ds, sd1, .cons (k1 _ _ (lockS_src sd e a)) sr, p1, fun v' d' h => k1 _ _ ?_⟩
          rcases h with h | ⟨j, hv, h⟩
          · exact .inl h
          · refine .inr ⟨j, hv, ?_⟩
            have same : (lockS i s).env[j]? = s.env[j]? := by
              unfold lockS
              rw [e]
              cases w with
              | own d2 =>
                refine putE_ne fun z => ?_
                subst z; rw [e] at h
                rcases h with h | h <;> cases h
              | lent d2 =>
                refine putE_ne fun z => ?_
                subst z; rw [e] at h
                rcases h with h | h <;> cases h
              | fz d2 => rfl
              | lk d2 => rfl
              | lkl d2 => rfl
            rw [same]; exact h
        · rw [if_neg hn] at p; exact p.elim
theorem hold_run {rs : List VR} {vs : List V} {k : List DL.D → M Flow} (c : CurS K Wx D g0 H0 σ0 s0 (dHold rs k s) g H σ s) (h : RVRs K σ H0 g H s vs rs) :
    ∃ g1 s1 ds, SD K g1 H σ s1 ∧ Srcs K g1 σ s1 vs ds ∧ PostS K Wx D g1 H σ s1 (k ds s1) := by
  have p := c.post
  unfold dHold at p
  rw [bind_eq] at p
  rcases toHSs_res rs s with ⟨hs, s1, e⟩ | e
  · rw [e] at p
    obtain ⟨g1, sd1, e1, rh, le⟩ := toHSs_run e c.ev c.sd h
    obtain ⟨s2, ds, sd2, sr, p2, _⟩ := lock_run sd1 rh (PostS.shift e1 p)
    exact ⟨g1, s2, ds, sd2, sr, p2⟩
  · rw [e] at p; exact p.elim
end
end DL
set_option Elab.async false
set_option linter.all false
set_option maxRecDepth 100000
set_option maxHeartbeats 1000000
namespace DL
open PySem PySem.Spec PyProof.Rows L2
def iSeq (K : PySem.W.Frag) (tl : TE) : TI := fun σ H R => tl σ H fun x H1 => ∃ a, x = .ref a ∧ (((∃ xs, SqL K H1 a xs) ∧ R (Itl K a) H1) ∨ ((∃ xs, SqT K H1 a xs) ∧ R (Itt K a) H1))
section
variable {X : Cx} {Wx : WX} {tg e l : Expr} {pos p p1 : Pos}
theorem pi_seq {tl : TE} (hl : PE X l tl) : PI X tg l (iSeq X.K tl) := by
  refine ⟨fun pins s σ H R I h => thn (hl.run pins s σ H _ I h) fun v s1 hh => ?_⟩
  obtain ⟨x, H1, I1, r1, a, e, q⟩ := hh
  subst e; cases r1
  have new : ∀ {o : Obj}, Inv X pins σ H1 { s1 with heap := s1.heap.push o } := I1.kept (t' := s1.toks) fun b o e => Heap.get?_push_of_some _ e
  have fp : ∀ b ∈ [s1.heap.objs.size], FpOk X pins H1 b := fun b hb => by
    cases List.mem_singleton.mp hb
    exact I1.fpOk (Nat.le_refl _) (I1.hok.fresh (Nat.le_refl _))
  rcases q with ⟨⟨xs, hq⟩, q⟩ | ⟨⟨xs, hq⟩, q⟩
  · obtain ⟨its, rv, pl, hz⟩ := I1.list hq
    exact wpAny_pyIter_list pl.isList ⟨_, [s1.heap.objs.size], _, _, H1, rfl, new, turn_list a _, ⟨_, Heap.get?_push_size _ rfl, rfl, rfl⟩, fp, q⟩
  · obtain ⟨its, rv, pl, hz⟩ := I1.tuple hq
    exact wpAny_pyIter_tuple (show s1.heap.IsTuple a its.toArray from pl) ⟨_, [s1.heap.objs.size], _, _, H1, rfl, new, turn_tuple a _, ⟨_, Heap.get?_push_size _ rfl, rfl, rfl⟩, fp, q⟩
def itS : List DL.D → Option (List DL.D)
  | [.lst ds] => some ds
  | [.tup ds] => some ds
  | [.frl ns] => some (ns.map DL.D.int)
  | _ => none
def enumL : Nat → List DL.D → List DL.D
  | _, [] => []
  | n, d :: ds => .tup [.int n, d] :: enumL (n + 1) ds
theorem enumL_length : ∀ (n : Nat) (ds : List DL.D), (enumL n ds).length = ds.length
  | _, [] => rfl
  | n, d :: ds => by show (enumL (n + 1) ds).length + 1 = _; rw [enumL_length (n + 1) ds]; rfl
theorem enumL_get : ∀ (n : Nat) (ds : List DL.D) (i : Nat) (d : DL.D), (enumL n ds)[i]? = some d → ∃ x, ds[i]? = some x ∧ d = .tup [.int (n + i : Nat), x]
  | _, [], i, _, h => by simp [enumL] at h
  | n, x :: ds, 0, d, h => by
    have h : some (DL.D.tup [.int n, x]) = some d := h
    cases h
    exact ⟨x, rfl, by simp⟩
  | n, x :: ds, i + 1, d, h => by
    obtain ⟨y, h1, h2⟩ := enumL_get (n + 1) ds i d h
    exact ⟨y, h1, by rw [h2, show n + 1 + i = n + (i + 1) from by omega]⟩
def itE : List DL.D → Option (List DL.D)
  | [.lst ds] => some (enumL 0 ds)
  | _ => none
def rangeL : Int → Nat → List DL.D
  | _, 0 => []
  | i, n + 1 => .int i :: rangeL (i + 1) n
theorem rangeL_length : ∀ (i : Int) (n : Nat), (rangeL i n).length = n
  | _, 0 => rfl
  | i, n + 1 => by show (rangeL (i + 1) n).length + 1 = _; rw [rangeL_length]
theorem rangeL_get : ∀ (i : Int) (n j : Nat) (d : DL.D), (rangeL i n)[j]? = some d → d = .int (i + j) ∧ j < n
  | _, 0, j, _, h => by simp [rangeL] at h
  | i, n + 1, 0, d, h => by
    have h : some (DL.D.int i) = some d := h
    cases h
    simp
  | i, n + 1, j + 1, d, h => by
    obtain ⟨h1, h2⟩ := rangeL_get (i + 1) n j d h
    refine ⟨by rw [h1]; congr 1; omega, by omega⟩
def bnd62 (i : Int) : Bool := decide (-(2 ^ 62) ≤ i) && decide (i < 2 ^ 62)
def itR1 : List DL.D → Option (List DL.D)
  | [.int j] => if bnd62 j = true then some (rangeL 0 j.toNat) else none
  | _ => none
theorem bnd62_of {i : Int} (h : bnd62 i = true) : -(2 ^ 62) ≤ i ∧ i < 2 ^ 62 := by
  unfold bnd62 at h
  rw [Bool.and_eq_true, decide_eq_true_eq, decide_eq_true_eq] at h
  exact h
def dItems (h : List DL.D → Option (List DL.D)) (k : List DL.D → M Flow) (ds : List DL.D) : M Flow := match h ds with
  | some items => k items
  | none => .bad
def dFor (h : List DL.D → Option (List DL.D)) (pt : Pt) (b : M Flow) (fl : M (List VR)) : M Flow := fl >>= fun rs => dHold rs (dItems h (dForL pt b))
def dOne (f : M VR) : M (List VR) := f >>= fun x => pure [x]
section
variable {K : PySem.W.Frag} {g : Gh} {H : Hp} {σ : Slots} {s : State} {v w : V} {d : DL.D}
theorem Srcs.one (h : Srcs K g σ s [v] ds) : ∃ d, ds = [d] ∧ Src K g σ s v d := by
  cases h with
  | cons a b => cases b; exact ⟨_, rfl, a⟩
theorem Srcs.two (h : Srcs K g σ s [v, w] ds) : ∃ d e, ds = [d, e] ∧ Src K g σ s v d ∧ Src K g σ s w e := by
  cases h with
  | cons a b =>
    obtain ⟨e, rfl, q⟩ := b.one
    exact ⟨_, e, rfl, a, q⟩
theorem Srcs.one' {vs : List V} {d : DL.D} (h : Srcs K g σ s vs [d]) : ∃ v, vs = [v] ∧ Src K g σ s v d := by
  cases h with
  | cons a b => cases b; exact ⟨_, rfl, a⟩
theorem iter_lst {a : Addr} {ds : List DL.D} (src : Src K g σ s (.ref a) (.lst ds)) : Iter K (Itl K a) g H σ s ds := fun i g2 H2 σ2 s2 sd2 ev2 => by
  obtain ⟨b, xs, e, hx, rx⟩ := ((src.ev ev2).view sd2).lst sd2
  cases e
  refine ⟨fun hi => ⟨xs, .of hx, by rw [rx.length]; exact hi⟩, fun d hd => ?_⟩
  obtain ⟨x, hv, rv⟩ := rx.get hd
  refine ⟨⟨xs, x, .of hx, hv⟩, fun y H3 hy => ?_⟩
  obtain ⟨rfl, q⟩ := hy
  have e := q xs (.of hx)
  rw [hv] at e; cases e
  exact ⟨g2, sd2, .refl, rv⟩
theorem iter_tup {a : Addr} {xs : List V} {ds : List DL.D} (src : Src K g σ s (.ref a) (.tup ds)) : Iter K (Itt K a) g H σ s ds := fun i g2 H2 σ2 s2 sd2 ev2 => by
  obtain ⟨b, xs, e, hx, rx⟩ := ((src.ev ev2).view sd2).tup sd2
  cases e
  refine ⟨fun hi => ⟨xs, hx, by rw [rx.length]; exact hi⟩, fun d hd => ?_⟩
  obtain ⟨x, hv, rv⟩ := rx.get hd
  refine ⟨⟨xs, x, hx, hv⟩, fun y H3 hy => ?_⟩
  obtain ⟨rfl, q⟩ := hy
  have e := q xs hx
  rw [hv] at e; cases e
  exact ⟨g2, sd2, .refl, rv⟩
theorem iter_frl {a : Addr} {ns : List Int} (src : Src K g σ s (.ref a) (.frl ns)) : Iter K (Itl K a) g H σ s (ns.map DL.D.int) := fun i g2 H2 σ2 s2 sd2 ev2 => by
  cases ((src.ev ev2).view sd2).sc (fun _ z => z) with
  | frl q =>
    have hx := sd2.seq q
    refine ⟨fun hi => ⟨_, hx, by rw [List.length_map] at hi ⊢; exact hi⟩, fun d hd => ?_⟩
    obtain ⟨x, hv, rv⟩ := (Reps.ints (K := K) (g := g2) ns).get hd
    refine ⟨⟨_, x, hx, hv⟩, fun y H3 hy => ?_⟩
    obtain ⟨rfl, q⟩ := hy
    have e := q _ hx
    rw [hv] at e; cases e
    exact ⟨g2, sd2, .refl, rv⟩
theorem SD.newTup {T : Addr} {xs : List V} {ds : List DL.D} (sd : SD K g H σ s) (hT : H T = none) (r : Reps K g xs ds) : ∃ g3, SD K g3 (upd H T (.tup xs)) σ s ∧ Ev g H σ s g3 (upd H T (.tup xs)) σ s ∧ Rep K g3 (.ref T) (.tup ds) := by
  have f1 := sd.free1 hT
  have sd1 := (sd.alloc (o := .tup xs) hT).freeze f1 (sd.noHd hT) upd_same
  exact ⟨g.frz T (.tup xs), sd1, (sd.allocEv hT).freeze f1 hT, .tup Gh.frz_at (r.mono (Gh.frz_le f1.1))⟩
theorem iter_enum {a : Addr} {ds : List DL.D} (src : Src K g σ s (.ref a) (.lst ds)) : Iter K (Ite K a) g H σ s (enumL 0 ds) := fun i g2 H2 σ2 s2 sd2 ev2 => by
  obtain ⟨b, xs, e, hx, rx⟩ := ((src.ev ev2).view sd2).lst sd2
  cases e
  refine ⟨fun hi => ⟨xs, .of hx, by rw [rx.length]; rw [enumL_length] at hi; exact hi⟩, fun d hd => ?_⟩
  obtain ⟨y, hy, rfl⟩ := enumL_get 0 ds i d hd
  obtain ⟨x, hv, rv⟩ := rx.get hy
  refine ⟨⟨xs, x, .of hx, hv⟩, fun z H3 hz => ?_⟩
  obtain ⟨T, x', rfl, hT, rfl, q⟩ := hz
  have e := q xs (.of hx)
  rw [hv] at e; cases e
  rw [Nat.zero_add]
  exact sd2.newTup hT (.cons (.int _) (.cons rv .nil))
theorem iter_range {lo : Int} {n : Nat} : Iter K (Itr lo n) g H σ s (rangeL lo n) := fun i g2 H2 σ2 s2 sd2 ev2 => by
  refine ⟨fun hi => by rw [rangeL_length] at hi; exact hi, fun d hd => ?_⟩
  obtain ⟨rfl, hi⟩ := rangeL_get lo n i d hd
  refine ⟨hi, fun z H3 hz => ?_⟩
  obtain ⟨rfl, rfl⟩ := hz
  exact ⟨g2, sd2, .refl, .int _⟩
end
section
variable {body : List Stmt} {pt : Pt} {fb : M Flow} {fa : M VR} {fl : M (List VR)}
theorem ds_for (hp : PassesOwn (model X.prog X.w) X.A X.env X.xe) (hc : X.calm = true) (hi : DV X Wx e fa) (hg : DG X tg pt) (hb : DSs X Wx body fb) (hs : ∀ x, foldedSetIterable e X.env x = pure x := by intro _; rfl) :
    DS X Wx (.For tg e body [] pos) (dFor itS pt fb (dOne fa)) := ⟨fun pins s σ H D I h => (ps_for hp hc (pi_seq hi) hg hb hs).run pins s σ H D I (by
  obtain ⟨g, s, c⟩ := h.start
  have c : CurS X.K Wx D g H σ s ((fa >>= fun x => (fun rs => dHold rs (dItems itS (dForL pt fb))) [x]) s) g H σ s := by
    refine ⟨c.ev, c.sd, ?_⟩
    have p := c.post
    unfold dFor dOne at p
    rw [bind_eq] at p ⊢
    rw [bind_eq] at p
    cases q : fa s with
    | ok a s1 => rw [q] at p; exact p
    | err x s1 => rw [q] at p; exact p
    | bad => rw [q] at p; exact p
  refine c.bind.mono fun v H1 ⟨r, g1, s1, c1, r1, e1⟩ => ?_
  obtain ⟨g2, s2, ds, sd2, sr, p2⟩ := hold_run c1 (.cons r1 .nil fun _ _ _ _ _ hp => by simp at hp)
  obtain ⟨d, rfl, src⟩ := sr.one
  unfold dItems at p2
  cases q : itS [d] with
  | none => rw [q] at p2; exact p2.elim
  | some items =>
    rw [q] at p2
    unfold itS at q
    split at q
    · rename_i ds hd
      cases q; cases hd
      obtain ⟨a, xs, rfl, hx, _⟩ := (src.view sd2).lst sd2
      exact ⟨a, rfl, .inl ⟨⟨xs, .of hx⟩, forL_run sd2 (iter_lst src) p2⟩⟩
    · rename_i ds hd
      cases q; cases hd
      obtain ⟨a, xs, rfl, hx, _⟩ := (src.view sd2).tup sd2
      exact ⟨a, rfl, .inr ⟨⟨xs, hx⟩, forL_run sd2 (iter_tup (xs := xs) src) p2⟩⟩
    · rename_i ns hd
      cases q; cases hd
      cases e2 : (src.view sd2).sc (fun _ z => z) with
      | frl q2 => exact ⟨_, rfl, .inl ⟨⟨_, sd2.seq q2⟩, forL_run sd2 (iter_frl src) p2⟩⟩
    · cases q)⟩
theorem ds_forE {elts : List Expr} {kk : Nat} {tpos : Pos} (hp : PassesOwn (model X.prog X.w) X.A X.env X.xe) (hc : X.calm = true) (hgl : Gl X "enumerate") (hm : X.mg "enumerate" = none) (ha : DA X Wx [e] fl) (hg : DG X (.Tuple elts kk tpos) pt) (hb : DSs X Wx body fb)
    (hst : starEach [e] X.env = [(false, eval e X.env)] := by rfl) (hs : ∀ x, foldedSetIterable (.Call (.Name "enumerate" p) [e] [] p1) X.env x = pure x := by intro _; rfl) :
    DS X Wx (.For (.Tuple elts kk tpos) (.Call (.Name "enumerate" p) [e] [] p1) body [] pos) (dFor itE pt fb fl) := ⟨fun pins s σ H D I h => (ps_for hp hc (pi_enum hgl hm ha hst) hg hb hs).run pins s σ H D I (by
  obtain ⟨g, s, c⟩ := h.start
  refine c.bind.mono fun vs H1 ⟨rs, g1, s1, c1, r1, e1⟩ => ?_
  obtain ⟨g2, s2, ds, sd2, sr, p2⟩ := hold_run c1 r1
  unfold dItems at p2
  cases q : itE ds with
  | none => rw [q] at p2; exact p2.elim
  | some items =>
    rw [q] at p2
    unfold itE at q
    split at q
    · cases q
      cases sr with
      | cons src b =>
        cases b
        obtain ⟨a, xs, rfl, hx, _⟩ := (src.view sd2).lst sd2
        exact ⟨a, xs, rfl, .of hx, forL_run sd2 (iter_enum src) p2⟩
    · cases q)⟩
theorem ds_forR1 {a : Expr} (hp : PassesOwn (model X.prog X.w) X.A X.env X.xe) (hc : X.calm = true) (hgl : Gl X "range") (hm : X.mg "range" = none) (ha : DA X Wx [a] fl) (hg : DG X tg pt) (hb : DSs X Wx body fb)
    (hst : starEach [a] X.env = [(false, eval a X.env)] := by rfl) (hs : ∀ x, foldedSetIterable (.Call (.Name "range" p) [a] [] p1) X.env x = pure x := by intro _; rfl) :
    DS X Wx (.For tg (.Call (.Name "range" p) [a] [] p1) body [] pos) (dFor itR1 pt fb fl) := ⟨fun pins s σ H D I h => (ps_for hp hc (pi_range1 hgl hm ha hst) hg hb hs).run pins s σ H D I (by
  obtain ⟨g, s, c⟩ := h.start
  refine c.bind.mono fun vs H1 ⟨rs, g1, s1, c1, r1, e1⟩ => ?_
  obtain ⟨g2, s2, ds, sd2, sr, p2⟩ := hold_run c1 r1
  unfold dItems at p2
  cases q : itR1 ds with
  | none => rw [q] at p2; exact p2.elim
  | some items =>
    rw [q] at p2
    unfold itR1 at q
    split at q
    · rename_i j
      split at q
      · rename_i hj
        cases q
        obtain ⟨v, rfl, src⟩ := sr.one'
        cases (src.view sd2).int
        obtain ⟨b1, b2⟩ := bnd62_of hj
        exact ⟨j, rfl, b1, b2, forL_run sd2 iter_range p2⟩
      · cases q
    · cases q)⟩
end
end
end DL
set_option Elab.async false
set_option linter.all false
set_option maxRecDepth 100000
set_option maxHeartbeats 1000000
namespace DL
open PySem PySem.Spec PyProof.Rows L2
structure Room (n : Nat) (A0 : Around) : Prop where
  old : L2.Room n A0
  gd : A0.guards = some []
section
variable {n m : Nat} {A0 : Around}
theorem Room.mono (q : Room m A0) (h : n ≤ m) : Room n A0 := ⟨q.old.mono h, q.gd⟩
theorem Room.deeper (q : Room (n + 1) A0) (env : Env) : Room n (A0.deeper env) := ⟨q.old.deeper env, q.gd⟩
theorem Room.in1 (q : Room (n + 1) A0) : Room n A0.in1 := ⟨q.old.in1, q.gd⟩
theorem make_guards {C : Addr} {us : List Value} {kw : List (Str × Value)} : (A0.under (.builtin "type.__call__" ⟨.ref C :: us, kw⟩)).guards = A0.guards := by
  obtain ⟨h, d, fr, gs, u⟩ := A0
  cases gs <;> simp [Around.under, pushGuards, Code.guards, Code.isGuard, guardIds]
theorem Room.make (q : Room (n + 1) A0) (C : Addr) (us : List Value) (kw : List (Str × Value)) : Room n (A0.under (.builtin "type.__call__" ⟨.ref C :: us, kw⟩)) := ⟨q.old.make C us kw, make_guards.trans q.gd⟩
theorem Room.depth (q : Room n A0) : A0.depth < recursionLimit := q.old.depth
theorem Room.units (q : Room n A0) : A0.units + 64 < cLine := q.old.units
theorem hu_of (q : Room n A0) : A0.units + 1 < cLine := L2.hu_of q.old
end
structure FnOk (prog : Program) (wd : World) (F : PySem.W.Frag) (gl : Str → Option Value) (b0 : Heap) (cx : CXT) (n : Nat) (fa : Addr) (fun_ : FuncData) (par : List Str) (pr : Sp) : Prop where
  len : ∀ xs Hx Qx Ex, pr xs Hx Qx Ex → xs.length = par.length
  run : ∀ (A0 : Around) (out : List Env) (st : Shared) (Hx : Hp) (ar : Args) (us : List Value) (xs : List V) (Qx : VK) (Ex : XK),
    Room n A0 → Env0 prog wd F gl b0 A0 out st Hx → BindsTo st fun_ ar (par.zip us) → Vals xs us → pr xs Hx Qx Ex → codeAny (model prog wd) A0 (.call (.ref fa) ar) (CR cx out prog wd Hx st Qx Ex) st
section
variable {prog : Program} {wd : World} {F : PySem.W.Frag} {gl : Str → Option Value} {b0 : Heap} {cx : CXT} {n m : Nat} {fa : Addr} {fun_ : FuncData} {par N : List Str} {pr : Sp}
theorem FnOk.mono (f : FnOk prog wd F gl b0 cx n fa fun_ par pr) (h : n ≤ m) : FnOk prog wd F gl b0 cx m fa fun_ par pr where
  len := f.len
  run := fun A0 out st Hx ar us xs Qx Ex hr => f.run A0 out st Hx ar us xs Qx Ex ⟨hr.old.mono h, hr.gd⟩
theorem fn_okG {nm qn : Str} {prm : Arguments} {bd : List Stmt} {scp : Scope} {dV kV doc pm cdv ct oc : Value} {an od : Option Addr} {osl : Array (Option Value)}
    (hl : F.lookup fa = some ⟨oc, od, .func (PySem.W.fnOf nm qn prm bd scp dV kV doc pm an cdv ct), osl⟩) (hc : PySem.W.codeIn F cdv qn = true) (sc : FnScope N par scp) (hlen : ∀ xs Hx Qx Ex, pr xs Hx Qx Ex → xs.length = par.length)
    (body : ∀ (A0 : Around) (out : List Env) (st : Shared) (Hx : Hp) (xs : List V) (Qx : VK) (Ex : XK), Room n (A0.deeper (envOfC qn scp st.heap.objs.size fa cdv)) → pr xs Hx Qx Ex →
      ∃ rd, PSs (cxOf cx prog wd F gl b0 N qn scp fa cdv A0 out st Hx Ex) bd rd ∧ rd { nx := fun _ Hy => Qx .non Hy, rt := Qx } (start N xs) Hx) :
    FnOk prog wd F gl b0 cx (n + 1) fa (PySem.W.fnOf nm qn prm bd scp dV kV doc pm an cdv ct) par pr where
  len := hlen
  run := by
    intro A0 out st Hx ar us xs Qx Ex room env binds vals want
    have lens := hlen _ _ _ _ want
    have inF : F.In st.heap := env.mod.kin.keeps fun b o z => (env.bs b o z).1
    have noLim : st.heap.NoLimit := env.mod.nolimit.keeps fun b o z => (env.bs b o z).1
    have kinds : ∀ y ∈ par.zip us, scp.names.lookup y.1 = some .local ∨ (scp.names.lookup y.1 = some .cell ∧ ((cellsFrom (st.heap.objs.size + 1) scp.names []).lookup y.1).isSome = true) := by
      rintro ⟨nn, vv⟩ hy
      cases sc.par nn (List.of_mem_zip hy).1 with
      | inl z => exact Or.inl z
      | inr z => exact Or.inr ⟨z, PySem.W.cellsFrom_some _ _ _ (Or.inl z)⟩
    refine codeAny_call_function room.depth (inF _ _ hl) rfl sc.co sc.gen rfl (PySem.W.codeRec_of inF hc) (binds _ _ _ _ (wpAny_newFunctionEnv_cells sc.kind kinds fun ev hev s1 called => ?_))
    subst hev
    obtain ⟨rd, hrd, hrun⟩ := body A0 out st Hx xs Qx Ex (room.deeper _) want
    refine ⟨noLim.keeps called.toInCall.keep, codeAny_func (wpAny_mono (hrd.run [] s1 (start N xs) Hx _ (inv_start sc room.old.hd env lens vals called) hrun) (fun fl s2 done => ?_) fun _ _ z => z)⟩
    have leave : ∀ {σ2 : L2.St} {H2 : Hp} {v2 : V} {u2 : Value}, Inv (cxOf cx prog wd F gl b0 N qn scp fa cdv A0 out st Hx Ex) [] σ2 H2 s2 → RelV v2 u2 → Qx v2 H2 → CE out prog wd Hx st Qx u2 s2 := by
      intro σ2 H2 v2 u2 J rv q
      exact ⟨v2, H2, J.os, J.bare, J.base, J.hok, rv, q⟩
    match fl, done with
    | .ret u2, ⟨_, _, _, J, rv, q⟩ => exact leave J rv q
    | .next, ⟨_, _, J, q⟩ => exact leave (v2 := V.non) (u2 := Value.none) J rfl q
    | .brk, ⟨_, _, _, q⟩ => exact q.elim
    | .cont, ⟨_, _, _, q⟩ => exact q.elim
end
theorem _root_.L2.Fun.okG {prog : Program} {wd : World} {F : PySem.W.Frag} {gl : Str → Option Value} {b0 : Heap} {nm qn : Str} {sm : Stmt} {fa : Addr} {fun_ : FuncData} {N par : List Str} {n : Nat} {pr : Sp} (f : Fun F nm qn sm fa fun_) (sc : FnScope N par (defScope sm)) (hlen : ∀ xs Hx Qx Ex, pr xs Hx Qx Ex → xs.length = par.length)
    (body : ∀ (cdv : Value) (A0 : Around) (out : List Env) (st : Shared) (Hx : Hp) (xs : List V) (Qx : VK) (Ex : XK), Room n (A0.deeper (envOfC qn (defScope sm) st.heap.objs.size fa cdv)) → pr xs Hx Qx Ex →
      ∃ rd, PSs (cxOf (L2.CX prog wd) prog wd F gl b0 N qn (defScope sm) fa cdv A0 out st Hx Ex) (defBody sm) rd ∧ rd { nx := fun _ Hy => Qx .non Hy, rt := Qx } (start N xs) Hx) : FnOk prog wd F gl b0 (L2.CX prog wd) (n + 1) fa fun_ par pr := by
  obtain ⟨_, _, _, _, _, _, cdv, _, _, rfl, hl, hc⟩ := f.ex
  exact fn_okG hl hc sc hlen (body cdv)
section
variable {X : Cx} {cx : CXT} {n : Nat} {fa : Addr} {fun_ : FuncData} {par : List Str} {pr : Sp} {dxs : List V} {dus : List Value} {Ex : L2.St → XK} {nm : Str} {p pos : Pos} {e : Expr} {es : List Expr} {t : TA}
theorem run_fnSD {pins : List (Addr × Obj)} {σ : L2.St} {H : Hp} {st : Shared} {Q : VK} {us : List Value} {xs : List V} (f : FnOk X.prog X.w X.K X.mg X.base cx n fa fun_ par pr) (room : Room n X.A) (hb : Binds X.K fun_ par dus) (hd : Vals dxs dus) (hx : PassesAt cx X σ (Ex σ))
    (I : Inv X pins σ H st) (rv : Vals xs us) (want : pr (xs ++ dxs) H Q (Ex σ)) : wpAny (model X.prog X.w) X.A (call (.ref fa) us) (EP X pins σ Q) X.xe st := by
  have all := rv.append hd
  have hl : (us ++ dus).length = par.length := all.length.symm.trans (f.len _ _ _ _ want)
  refine wpAny_call (codeAny_mono (f.run X.A X.stack st H ⟨us, []⟩ _ _ Q (Ex σ) room I.env0 (hb st us I.kIn hl) all want) fun res s2 out => ?_)
  match res, out with
  | .error er, out => exact hx pins H st er s2 I out
  | .ok (.ret u2), out => exact I.after out
  | .ok .next, out => exact out.elim
  | .ok .brk, out => exact out.elim
  | .ok .cont, out => exact out.elim
theorem pe_callSD (f : FnOk X.prog X.w X.K X.mg X.base cx n fa fun_ par pr) (room : Room n X.A) (hg : Gl X nm) (hm : X.mg nm = some (.ref fa)) (hk : PySem.W.keepIn X.K (.ref fa) = true) (hb : Binds X.K fun_ par dus) (hd : Vals dxs dus) (hx : ∀ σ, PassesAt cx X σ (Ex σ))
    (ha : PA X (e :: es) t) (hdb : (nm == ("__debug__" : Str)) = false := by decide) (he : starEach (e :: es) X.env = (false, eval e X.env) :: starEach es X.env := by rfl) (hpl : (backTo pos (starEach es X.env)).any (·.1) = false := by rfl) :
    PE X (.Call (.Name nm p) (e :: es) [] pos) (tCallSD pr dxs Ex t) where
  run := fun pins st σ H Q I want => wpAny_Call_Name_kw (ld_glob I hg hm (PySem.W.callWith_K (h₀ := X.base) I.ok.mod.kin hk (thn (ha.run pos pins st σ H _ I want) fun us s1 ⟨xs, H1, I1, rv, q⟩ => ⟨I1.kIn, run_fnSD f room hb hd (hx σ) I1 rv q⟩) he hpl) hdb)
end
end DL
set_option Elab.async false
set_option linter.all false
set_option maxRecDepth 100000
set_option maxHeartbeats 1000000
namespace DL
open PySem PySem.Spec PyProof.Rows L2
def spF (K : PySem.W.Frag) (ps N : List Str) (b : M Flow) : Sp := fun vs H Q E => vs.length = ps.length ∧ tS K (fun cls d _ H' => E cls d H') b { nx := fun _ H' => Q .non H', rt := Q } (L2.start N vs) H
inductive AM where
  | F | L | R
def holdS (i : Nat) : M HS := fun s => match s.env[i]? with
  | some (some (.fz d)) => .ok (.d d) s
  | some (some _) => .ok (.slot i) s
  | _ => .bad
def toHM : AM → VR → M HS
  | .F, r => frz r >>= fun d => pure (.d d)
  | _, .t t => frz (.t t) >>= fun d => pure (.d d)
  | _, .slot i => holdS i
def toHMs : List AM → List VR → M (List HS)
  | m :: ms, r :: rs => toHM m r >>= fun h => toHMs ms rs >>= fun hs => pure (h :: hs)
  | [], [] => pure []
  | _, _ => M.bad
def entW : AM → W → W
  | _, .fz d => .fz d
  | .L, .own d => .lent d
  | .L, .lent d => .lent d
  | _, w => .lkl w.data
def ent1 : AM → HS → State → Option W
  | _, .d d, _ => some (.fz d)
  | m, .slot i, s => match s.env[i]? with
    | some (some w) => some (entW m w)
    | _ => none
def ents : List AM → List HS → State → Option (List W)
  | m :: ms, h :: hs, s => match ent1 m h s, ents ms hs s with
    | some w, some ws => some (w :: ws)
    | _, _ => none
  | [], [], _ => some []
  | _, _, _ => none
def noSlot (i : Nat) : List HS → Bool
  | [] => true
  | .d _ :: hs => noSlot i hs
  | .slot j :: hs => j != i && noSlot i hs
def oneEach : List HS → Bool
  | [] => true
  | .d _ :: hs => oneEach hs
  | .slot j :: hs => noSlot j hs && oneEach hs
def back1 (h : HS) (w : W) (c : Option W) (e : List (Option W)) : Option (List (Option W)) := match h, w with
  | .slot i, .lent _ => (match c with
    | some (.lent d) => (match e[i]? with
      | some (some (.own _)) => some (e.set i (some (.own d)))
      | some (some (.lent _)) => some (e.set i (some (.lent d)))
      | _ => none)
    | _ => none)
  | _, _ => some e
def backs : List HS → List W → List (Option W) → List (Option W) → Option (List (Option W))
  | h :: hs, w :: ws, c :: ce, e => (match back1 h w c e with
    | some e1 => backs hs ws ce e1
    | none => none)
  | [], [], _, e => some e
  | _, _, _, _ => none
def backS (hs : List HS) (ws : List W) (s sc : State) : Option State := match backs hs ws sc.env s.env with
  | some e => some { env := e, sto := sc.sto, dr := sc.dr }
  | none => none
def callR (hs : List HS) (ws : List W) (s : State) : Rs Flow → Rs T
  | .ok (.rt t) sc => (match backS hs ws s sc with | some s' => .ok t s' | none => .bad)
  | .ok .nx sc => (match backS hs ws s sc with | some s' => .ok (.fz .non) s' | none => .bad)
  | .ok _ _ => .bad
  | .err x sc => (match backS hs ws s sc with | some s' => .err x s' | none => .bad)
  | .bad => .bad
def pass2 (n : Nat) (ms : List AM) (dw : List D) (b : M Flow) (hs : List HS) : M T := fun s => match ents ms hs s with
  | some ws => if oneEach hs = true then callR hs ws s (b { env := (ws ++ dw.map W.fz).map some ++ List.replicate (n - (ws.length + dw.length)) none, sto := s.sto, dr := s.dr }) else .bad
  | none => .bad
def dPass (n : Nat) (ms : List AM) (dw : List D) (b : M Flow) (rs : List VR) : M T := toHMs ms rs >>= pass2 n ms dw b
def dCall (n : Nat) (ms : List AM) (dw : List D) (b : M Flow) (fl : M (List VR)) : M T := fl >>= dPass n ms dw b
section
variable {K : PySem.W.Frag} {g g' g0 : Gh} {H H' H0 : Hp} {σ σ' σ0 : Slots} {s s' s0 : State}
theorem toHM_run {m : AM} {r : VR} {h : HS} {v : V} (e : toHM m r s = .ok h s') (e0 : Ev g0 H0 σ0 s0 g H σ s) (sd : SD K g H σ s) (x : RVR K σ H0 g H s v r) :
    ∃ g', SD K g' H σ s' ∧ Ev g0 H0 σ0 s0 g' H σ s' ∧ RH K g' σ v h ∧ (∀ v' r', RVR K σ H0 g H s v' r' → (∀ a d d2, r' = .t (.ow d) → v' = .ref a → r = .t (.ow d2) → v ≠ .ref a) → RVR K σ H0 g' H s' v' r') ∧ Le g g' := by
  have viaF : (frz r >>= fun d => pure (HS.d d)) s = .ok h s' → ∃ g', SD K g' H σ s' ∧ Ev g0 H0 σ0 s0 g' H σ s' ∧ RH K g' σ v h ∧ (∀ v' r', RVR K σ H0 g H s v' r' → (∀ a d d2, r' = .t (.ow d) → v' = .ref a → r = .t (.ow d2) → v ≠ .ref a) → RVR K σ H0 g' H s' v' r') ∧ Le g g' := fun e => by
    rw [bind_eq] at e
    cases q : frz r s with
    | bad => rw [q] at e; cases e
    | err x s1 => rw [q] at e; cases e
    | ok d s1 =>
      rw [q] at e
      cases e
      exact frz_run q e0 sd x
  have viaS : ∀ i, r = .slot i → holdS i s = .ok h s' → ∃ g', SD K g' H σ s' ∧ Ev g0 H0 σ0 s0 g' H σ s' ∧ RH K g' σ v h ∧ (∀ v' r', RVR K σ H0 g H s v' r' → (∀ a d d2, r' = .t (.ow d) → v' = .ref a → r = .t (.ow d2) → v ≠ .ref a) → RVR K σ H0 g' H s' v' r') ∧ Le g g' := fun i er eS => by
    subst er
    clear viaF e
    have e := eS
    clear eS
    unfold holdS at e
    split at e
    · rename_i d hd
      cases e
      obtain ⟨v', ev, wa⟩ := sd.slot i _ hd
      have x : σ[i]? = some (some v) := x
      rw [x] at ev; cases ev
      exact ⟨g, sd, e0, wa, fun _ _ z _ => z, .refl g⟩
    · cases e
      exact ⟨g, sd, e0, x, fun _ _ z _ => z, .refl g⟩
    · cases e
  cases m with
  | F => exact viaF e
  | L =>
    cases r with
    | slot i => exact viaS i rfl e
    | t t => exact viaF e
  | R =>
    cases r with
    | slot i => exact viaS i rfl e
    | t t => exact viaF e
theorem toHMs_run : ∀ {ms : List AM} {rs : List VR} {vs : List V} {hs : List HS} {s s' : State} {g : Gh}, toHMs ms rs s = .ok hs s' → Ev g0 H0 σ0 s0 g H σ s → SD K g H σ s → RVRs K σ H0 g H s vs rs →
    ∃ g', SD K g' H σ s' ∧ Ev g0 H0 σ0 s0 g' H σ s' ∧ RHs K g' σ vs hs ∧ Le g g'
  | [], [], _, _, _, _, g, e, e0, sd, h => by
    cases h
    cases e
    exact ⟨g, sd, e0, .nil, .refl g⟩
  | [], _ :: _, _, _, _, _, g, e, e0, sd, h => by cases e
  | _ :: _, [], _, _, _, _, g, e, e0, sd, h => by cases e
  | m :: ms, r :: rs, _, hs, s, s', g, e, e0, sd, .cons (v := v) (vs := vs) a b c => by
    unfold toHMs at e
    rw [bind_eq] at e
    cases q1 : toHM m r s with
    | bad => rw [q1] at e; cases e
    | err x s2 => rw [q1] at e; cases e
    | ok h1 s1 =>
      rw [q1] at e
      have e : (toHMs ms rs >>= fun hs => pure (h1 :: hs)) s1 = .ok hs s' := e
      rw [bind_eq] at e
      obtain ⟨g1, sd1, e1, rp, tr, le1⟩ := toHM_run q1 e0 sd a
      have h3 : ∀ {us : List V} {ts : List VR}, RVRs K σ H0 g H s us ts → (∀ p ∈ us.zip ts, p ∈ vs.zip rs) → RVRs K σ H0 g1 H s1 us ts := by
        intro us ts hh
        induction hh with
        | nil => exact fun _ => .nil
        | cons a' b' c' ih =>
          intro hm
          exact .cons (tr _ _ a' fun b' d' d2 e1 e2 e3 => fun e4 => c b' d2 e3 e4 _ (hm _ List.mem_cons_self) d' e1 e2) (ih fun p hp => hm p (List.mem_cons_of_mem _ hp)) c'
      cases q2 : toHMs ms rs s1 with
      | bad => rw [q2] at e; cases e
      | err x s2 => rw [q2] at e; cases e
      | ok hs2 s2 =>
        rw [q2] at e
        cases e
        obtain ⟨g2, sd2, e2, rp2, le2⟩ := toHMs_run q2 e1 sd1 (h3 b fun _ h => h)
        exact ⟨g2, sd2, e2, .cons (rp.le le2) rp2, le1.trans le2⟩
theorem toHMs_len : ∀ {ms : List AM} {rs : List VR} {s s' : State} {hs : List HS}, toHMs ms rs s = .ok hs s' → ms.length = rs.length
  | [], [], _, _, _, _ => rfl
  | [], _ :: _, _, _, _, e => by cases e
  | _ :: _, [], _, _, _, e => by cases e
  | m :: ms, r :: rs, s, s', hs, e => by
    unfold toHMs at e
    rw [bind_eq] at e
    cases q1 : toHM m r s with
    | bad => rw [q1] at e; cases e
    | err x s2 => rw [q1] at e; cases e
    | ok h1 s1 =>
      rw [q1] at e
      have e : (toHMs ms rs >>= fun hs => pure (h1 :: hs)) s1 = .ok hs s' := e
      rw [bind_eq] at e
      cases q2 : toHMs ms rs s1 with
      | bad => rw [q2] at e; cases e
      | err x s2 => rw [q2] at e; cases e
      | ok hs2 s2 => rw [List.length_cons, List.length_cons, toHMs_len q2]
theorem toHM_res (m : AM) (r : VR) (s : State) : (∃ d s', toHM m r s = .ok d s') ∨ toHM m r s = .bad := by
  have viaF : (∃ d s', (frz r >>= fun d => pure (HS.d d)) s = .ok d s') ∨ (frz r >>= fun d => pure (HS.d d)) s = .bad := by
    rw [bind_eq]
    rcases frz_res r s with ⟨d, s', e⟩ | e <;> rw [e]
    · exact .inl ⟨_, _, rfl⟩
    · exact .inr rfl
  have viaS : ∀ i, (∃ d s', holdS i s = .ok d s') ∨ holdS i s = .bad := fun i => by
    unfold holdS
    split
    · exact .inl ⟨_, _, rfl⟩
    · exact .inl ⟨_, _, rfl⟩
    · exact .inr rfl
  cases m with
  | F => exact viaF
  | L =>
    cases r with
    | slot i => exact viaS i
    | t t => exact viaF
  | R =>
    cases r with
    | slot i => exact viaS i
    | t t => exact viaF
theorem toHMs_res : ∀ (ms : List AM) (rs : List VR) (s : State), (∃ d s', toHMs ms rs s = .ok d s') ∨ toHMs ms rs s = .bad
  | [], [], s => .inl ⟨[], s, rfl⟩
  | [], _ :: _, s => .inr rfl
  | _ :: _, [], s => .inr rfl
  | m :: ms, r :: rs, s => by
    unfold toHMs
    rw [bind_eq]
    rcases toHM_res m r s with ⟨h, s1, e⟩ | e
    · rw [e]
      show (∃ d' s', (toHMs ms rs >>= fun ds => pure (h :: ds)) s1 = .ok d' s') ∨ (toHMs ms rs >>= fun ds => pure (h :: ds)) s1 = .bad
      rw [bind_eq]
      rcases toHMs_res ms rs s1 with ⟨ds, s2, e2⟩ | e2
      · rw [e2]; exact .inl ⟨_, _, rfl⟩
      · rw [e2]; exact .inr rfl
    · rw [e]; exact .inr rfl
theorem ents_at : ∀ {ms : List AM} {hs : List HS} {ws : List W} {vs : List V}, ents ms hs s = some ws → RHs K g σ vs hs → ∀ (j : Nat) (w : W), ws[j]? = some w →
    ∃ v, vs[j]? = some v ∧ ((∃ d, w = .fz d ∧ Rep K g v d) ∨ ∃ (i : Nat) (m : AM) (u : W), hs[j]? = some (.slot i) ∧ s.env[i]? = some (some u) ∧ w = entW m u ∧ σ[i]? = some (some v))
  | [], [], _, _, e, _, j, w, hj => by cases e; simp at hj
  | [], _ :: _, _, _, e, _, j, w, hj => by cases e
  | _ :: _, [], _, _, e, _, j, w, hj => by cases e
  | m :: ms, h :: hs, ws, _, e, .cons (v := v) (vs := vs) a b, j, w, hj => by
    unfold ents at e
    cases e1 : ent1 m h s with
    | none => simp only [e1] at e; cases e
    | some w1 =>
      cases e2 : ents ms hs s with
      | none => simp only [e1, e2] at e; cases e
      | some ws2 =>
        simp only [e1, e2] at e
        cases e
        cases j with
        | zero =>
          have hj : some w1 = some w := hj
          cases hj
          refine ⟨v, rfl, ?_⟩
          cases h with
          | d d => unfold ent1 at e1; cases e1; exact .inl ⟨d, rfl, a⟩
          | slot i =>
            have e1 : (match s.env[i]? with | some (some w) => some (entW m w) | _ => none) = some w := by cases m <;> exact e1
            split at e1
            · rename_i u hu
              cases e1
              exact .inr ⟨i, _, u, rfl, hu, rfl, a⟩
            · cases e1
        | succ j => exact ents_at e2 b j w hj
theorem ents_length : ∀ {ms : List AM} {hs : List HS} {ws : List W}, ents ms hs s = some ws → ws.length = hs.length
  | [], [], _, e => by cases e; rfl
  | [], _ :: _, _, e => by cases e
  | _ :: _, [], _, e => by cases e
  | m :: ms, h :: hs, ws, e => by
    unfold ents at e
    cases e1 : ent1 m h s with
    | none => simp only [e1] at e; cases e
    | some w1 =>
      cases e2 : ents ms hs s with
      | none => simp only [e1, e2] at e; cases e
      | some ws2 =>
        simp only [e1, e2] at e
        cases e
        rw [List.length_cons, List.length_cons, ents_length e2]
theorem RHs.length : ∀ {vs : List V} {hs : List HS}, RHs K g σ vs hs → vs.length = hs.length
  | _, _, .nil => rfl
  | _, _, .cons _ b => by rw [List.length_cons, List.length_cons, RHs.length b]
theorem noSlot_get : ∀ {hs : List HS} {i j k : Nat}, noSlot i hs = true → hs[j]? = some (.slot k) → k ≠ i
  | [], _, _, _, _, h => by simp at h
  | .d _ :: hs, i, 0, k, e, h => by cases h
  | .d _ :: hs, i, j + 1, k, e, h => noSlot_get (hs := hs) (show noSlot i hs = true from e) h
  | .slot l :: hs, i, 0, k, e, h => by
    have h : some (HS.slot l) = some (.slot k) := h
    cases h
    have e : (l != i && noSlot i hs) = true := e
    rw [Bool.and_eq_true] at e
    simpa using e.1
  | .slot l :: hs, i, j + 1, k, e, h => by
    have e : (l != i && noSlot i hs) = true := e
    rw [Bool.and_eq_true] at e
    exact noSlot_get e.2 h
theorem oneEach_inj : ∀ {hs : List HS} {j k i : Nat}, oneEach hs = true → hs[j]? = some (.slot i) → hs[k]? = some (.slot i) → j = k
  | [], _, _, _, _, h, _ => by simp at h
  | .d _ :: hs, 0, _, _, e, h, _ => by cases h
  | .d _ :: hs, j + 1, 0, _, e, _, h => by cases h
  | .d _ :: hs, j + 1, k + 1, _, e, h1, h2 => by rw [oneEach_inj (hs := hs) (show oneEach hs = true from e) h1 h2]
  | .slot l :: hs, 0, 0, _, e, _, _ => rfl
  | .slot l :: hs, 0, k + 1, i, e, h1, h2 => by
    have h : some (HS.slot l) = some (.slot i) := h1
    cases h
    have e : (noSlot l hs && oneEach hs) = true := e
    rw [Bool.and_eq_true] at e
    exact absurd rfl (noSlot_get e.1 h2)
  | .slot l :: hs, j + 1, 0, i, e, h1, h2 => by
    have h : some (HS.slot l) = some (.slot i) := h2
    cases h
    have e : (noSlot l hs && oneEach hs) = true := e
    rw [Bool.and_eq_true] at e
    exact absurd rfl (noSlot_get e.1 h1)
  | .slot l :: hs, j + 1, k + 1, i, e, h1, h2 => by
    have e : (noSlot l hs && oneEach hs) = true := e
    rw [Bool.and_eq_true] at e
    rw [oneEach_inj e.2 h1 h2]
def inS (n : Nat) (ws : List W) (dw : List D) (s : State) : State := { env := (ws ++ dw.map W.fz).map some ++ List.replicate (n - (ws.length + dw.length)) none, sto := s.sto, dr := s.dr }
theorem inS_get {n : Nat} {ws : List W} {dw : List D} {j : Nat} {w : W} (h : (inS n ws dw s).env[j]? = some (some w)) : ws[j]? = some w ∨ ∃ d, w = .fz d ∧ ws.length ≤ j ∧ dw[j - ws.length]? = some d := by
  have h : ((ws ++ dw.map W.fz).map some ++ List.replicate (n - (ws.length + dw.length)) none)[j]? = some (some w) := h
  rw [List.getElem?_append] at h
  split at h
  · rw [List.getElem?_map, List.getElem?_append] at h
    split at h
    · cases q : ws[j]? with
      | none => rw [q] at h; cases h
      | some u => rw [q] at h; cases h; exact .inl rfl
    · rename_i hj
      rw [List.getElem?_map] at h
      cases q : dw[j - ws.length]? with
      | none => rw [q] at h; cases h
      | some u => rw [q] at h; cases h; exact .inr ⟨u, rfl, by omega, rfl⟩
  · rw [List.getElem?_replicate] at h
    split at h <;> cases h
theorem start_at {N : List Str} {vs : List V} {j : Nat} {v : V} (h : vs[j]? = some v) : (L2.start N vs)[j]? = some (some v) := by
  unfold L2.start
  have hl := (List.getElem?_eq_some_iff.mp h).1
  rw [List.getElem?_append_left (by rw [List.length_map]; exact hl), List.getElem?_map, h]
  rfl
theorem start_len {N : List Str} {vs : List V} : (L2.start N vs).length = vs.length + (N.length - vs.length) := by
  unfold L2.start
  rw [List.length_append, List.length_map, List.length_replicate]
theorem ents_held {ms : List AM} {hs : List HS} {ws : List W} {vs : List V} (e : ents ms hs s = some ws) (r : RHs K g σ vs hs) {j : Nat} {w : W} (hj : ws[j]? = some w) (hw : w.held = true) :
    ∃ (i : Nat) (m : AM) (u : W) (v : V), vs[j]? = some v ∧ hs[j]? = some (.slot i) ∧ s.env[i]? = some (some u) ∧ w = entW m u ∧ σ[i]? = some (some v) ∧ u.held = true := by
  obtain ⟨v, hv, h⟩ := ents_at e r j w hj
  rcases h with ⟨d, rfl, _⟩ | ⟨i, m, u, h1, h2, rfl, h4⟩
  · cases hw
  · refine ⟨i, m, u, v, hv, h1, h2, rfl, h4, ?_⟩
    cases u <;> first | rfl | (cases m <;> cases hw)
theorem SD.enter {ms : List AM} {hs : List HS} {ws : List W} {vs dvs : List V} {dw : List D} {N : List Str} (sd : SD K g H σ s) (e : ents ms hs s = some ws) (o : oneEach hs = true) (r : RHs K g σ vs hs) (hd : Reps K g dvs dw) :
    SD K g H (L2.start N (vs ++ dvs)) (inS N.length ws dw s) := by
  have hl : ws.length = vs.length := (ents_length e).trans r.length.symm
  have dl := hd.length
  refine ⟨sd.gh, ?_, fun j w hj => ?_, fun j k w u a hj hk hw hu xj xk => ?_, sd.stl, sd.sto, sd.nd, sd.ng, sd.dr⟩
  · rw [start_len]
    show ((ws ++ dw.map W.fz).map some ++ List.replicate (N.length - (ws.length + dw.length)) none).length = _
    simp only [List.length_append, List.length_map, List.length_replicate]
    omega
  · rcases inS_get hj with hj | ⟨d, rfl, h1, h2⟩
    · obtain ⟨v, hv, h⟩ := ents_at e r j w hj
      have hlt := (List.getElem?_eq_some_iff.mp hv).1
      refine ⟨v, start_at (by rw [List.getElem?_append_left hlt]; exact hv), ?_⟩
      rcases h with ⟨d, rfl, rp⟩ | ⟨i, m, u, _, h2, rfl, h4⟩
      · exact rp
      · obtain ⟨v', ev, wa⟩ := sd.slot i u h2
        rw [h4] at ev; cases ev
        cases u with
        | fz d => cases m <;> exact wa
        | own d =>
          obtain ⟨a, ob, ea, f, q, oa⟩ := wa
          cases m
          · exact ⟨a, ob, ea, f, .inl q, oa⟩
          · exact ⟨a, ob, ea, f, q, oa⟩
          · exact ⟨a, ob, ea, f, .inl q, oa⟩
        | lent d =>
          obtain ⟨a, ob, ea, f, q, oa⟩ := wa
          cases m
          · exact ⟨a, ob, ea, f, .inl q, oa⟩
          · exact ⟨a, ob, ea, f, q, oa⟩
          · exact ⟨a, ob, ea, f, .inl q, oa⟩
        | lk d => cases m <;> exact wa
        | lkl d => cases m <;> exact wa
    · obtain ⟨v, hv, rp⟩ := hd.get h2
      refine ⟨v, start_at (by rw [List.getElem?_append_right (by omega), ← hl]; exact hv), rp⟩
  · have low : ∀ {l : Nat} {z : W}, (inS N.length ws dw s).env[l]? = some (some z) → z.held = true → ws[l]? = some z := fun {l z} h hz => by
      rcases inS_get h with h | ⟨d, rfl, _⟩
      · exact h
      · cases hz
    obtain ⟨i1, m1, u1, v1, a1, b1, c1, _, e1, f1⟩ := ents_held e r (low hj hw) hw
    obtain ⟨i2, m2, u2, v2, a2, b2, c2, _, e2, f2⟩ := ents_held e r (low hk hu) hu
    rw [start_at (by rw [List.getElem?_append_left (List.getElem?_eq_some_iff.mp a1).1]; exact a1)] at xj
    rw [start_at (by rw [List.getElem?_append_left (List.getElem?_eq_some_iff.mp a2).1]; exact a2)] at xk
    cases xj; cases xk
    have := sd.inj i1 i2 u1 u2 a c1 c2 f1 f2 e1 e2
    subst this
    exact oneEach_inj o b1 b2
def BkAt (hs : List HS) (ws : List W) (ce e e' : List (Option W)) (i : Nat) : Prop :=
  ((∀ (j : Nat) (d : D), hs[j]? = some (.slot i) → ws[j]? = some (.lent d) → False) ∧ e'[i]? = e[i]?) ∨
  ∃ (j : Nat) (d0 d d1 : D), hs[j]? = some (.slot i) ∧ ws[j]? = some (.lent d0) ∧ ce[j]? = some (some (.lent d)) ∧ ((e[i]? = some (some (.own d1)) ∧ e'[i]? = some (some (.own d))) ∨ (e[i]? = some (some (.lent d1)) ∧ e'[i]? = some (some (.lent d))))
theorem BkAt.skip {h : HS} {w : W} {c : Option W} {hs : List HS} {ws : List W} {ce e e' : List (Option W)} {i : Nat} (n : ∀ d, h = .slot i → w = .lent d → False) (x : BkAt hs ws ce e e' i) : BkAt (h :: hs) (w :: ws) (c :: ce) e e' i := by
  rcases x with ⟨x, q⟩ | ⟨j, d0, d, d1, h1, h2, h3, h4⟩
  · refine .inl ⟨fun j d h1 h2 => ?_, q⟩
    cases j with
    | zero => exact n d (by simpa using h1) (by simpa using h2)
    | succ j => exact x j d h1 h2
  · exact .inr ⟨j + 1, d0, d, d1, h1, h2, h3, h4⟩
theorem BkAt.head {h : HS} {w : W} {c : Option W} {hs : List HS} {ws : List W} {ce e e' : List (Option W)} {i l : Nat} {dw dn d1 : D} {k : D → W} (hk : k = W.own ∨ k = W.lent) (o : noSlot l hs = true) (hh : h = .slot l) (hw : w = .lent dw) (hc : c = some (.lent dn)) (el : e[l]? = some (some (k d1)))
    (x : BkAt hs ws ce (e.set l (some (k dn))) e' i) : BkAt (h :: hs) (w :: ws) (c :: ce) e e' i := by
  subst hh hw hc
  have ll : l < e.length := (List.getElem?_eq_some_iff.mp el).1
  by_cases z : i = l
  · subst z
    rcases x with ⟨_, q⟩ | ⟨j, d0, d, d1, h1, _⟩
    · rw [List.getElem?_set_self ll] at q
      rcases hk with rfl | rfl
      · exact .inr ⟨0, dw, dn, d1, rfl, rfl, rfl, .inl ⟨el, q⟩⟩
      · exact .inr ⟨0, dw, dn, d1, rfl, rfl, rfl, .inr ⟨el, q⟩⟩
    · exact absurd rfl (noSlot_get o h1)
  · refine BkAt.skip (fun d h1 _ => z (by cases h1; rfl)) ?_
    unfold BkAt at x ⊢
    rw [List.getElem?_set_ne (Ne.symm z)] at x
    exact x
theorem back1_at {h : HS} {w : W} {c : Option W} {e e1 : List (Option W)} (q : back1 h w c e = some e1) :
    (∃ (l : Nat) (dw dn d1 : D) (k : D → W), (k = W.own ∨ k = W.lent) ∧ h = .slot l ∧ w = .lent dw ∧ c = some (.lent dn) ∧ e[l]? = some (some (k d1)) ∧ e1 = e.set l (some (k dn))) ∨ (e1 = e ∧ ∀ i d, h = .slot i → w = .lent d → False) := by
  unfold back1 at q
  split at q
  · rename_i i dw
    split at q
    · rename_i dn
      split at q
      · rename_i d1 h1
        cases q
        exact .inl ⟨i, dw, dn, d1, W.own, .inl rfl, rfl, rfl, rfl, h1, rfl⟩
      · rename_i d1 h1
        cases q
        exact .inl ⟨i, dw, dn, d1, W.lent, .inr rfl, rfl, rfl, rfl, h1, rfl⟩
      · cases q
    · cases q
  · rename_i n
    cases q
    exact .inr ⟨rfl, fun i d h1 h2 => n i d h1 h2⟩
theorem oneEach_tail {h : HS} {hs : List HS} (o : oneEach (h :: hs) = true) : oneEach hs = true := by
  cases h with
  | d d => exact o
  | slot l =>
    have o : (noSlot l hs && oneEach hs) = true := o
    rw [Bool.and_eq_true] at o
    exact o.2
theorem backs_at : ∀ {hs : List HS} {ws : List W} {ce e e' : List (Option W)}, backs hs ws ce e = some e' → oneEach hs = true → e'.length = e.length ∧ ∀ i, BkAt hs ws ce e e' i
  | [], [], ce, e, e', h, o => by
    unfold backs at h
    cases h
    exact ⟨rfl, fun i => .inl ⟨fun j d h => by simp at h, rfl⟩⟩
  | h :: hs, w :: ws, c :: ce, e, e', q, o => by
    unfold backs at q
    cases q1 : back1 h w c e with
    | none => simp only [q1] at q; cases q
    | some e1 =>
      simp only [q1] at q
      obtain ⟨l1, x1⟩ := backs_at q (oneEach_tail o)
      rcases back1_at q1 with ⟨l, dw, dn, d1, k, hk, rfl, rfl, rfl, el, rfl⟩ | ⟨rfl, n⟩
      · have o : (noSlot l hs && oneEach hs) = true := o
        rw [Bool.and_eq_true] at o
        exact ⟨by rw [l1, List.length_set], fun i => BkAt.head hk o.1 rfl rfl rfl el (x1 i)⟩
      · exact ⟨l1, fun i => BkAt.skip (n i) (x1 i)⟩
  | [], _ :: _, _, _, _, h, _ => by cases h
  | _ :: _, [], _, _, _, h, _ => by cases h
  | _ :: _, _ :: _, [], _, _, h, _ => by cases h
theorem BkAt.kinds {hs : List HS} {ws : List W} {ce e e' : List (Option W)} {i : Nat} (x : BkAt hs ws ce e e' i) {w : W} (h : e'[i]? = some (some w)) : ∃ u, e[i]? = some (some u) ∧ u.held = w.held ∧ u.mut = w.mut ∧ ((∃ d, w = .own d) ↔ ∃ d, u = .own d) ∧ ((∃ d, w = .lk d) ↔ ∃ d, u = .lk d) := by
  rcases x with ⟨_, q⟩ | ⟨j, d0, d, d1, _, _, _, ⟨e1, e2⟩ | ⟨e1, e2⟩⟩
  · rw [q] at h
    exact ⟨w, h, rfl, rfl, .rfl, .rfl⟩
  · rw [e2] at h; cases h
    exact ⟨_, e1, rfl, rfl, Iff.intro (fun _ => ⟨_, rfl⟩) (fun _ => ⟨_, rfl⟩), Iff.intro (fun z => by obtain ⟨_, z⟩ := z; cases z) (fun z => by obtain ⟨_, z⟩ := z; cases z)⟩
  · rw [e2] at h; cases h
    exact ⟨_, e1, rfl, rfl, Iff.intro (fun z => by obtain ⟨_, z⟩ := z; cases z) (fun z => by obtain ⟨_, z⟩ := z; cases z), Iff.intro (fun z => by obtain ⟨_, z⟩ := z; cases z) (fun z => by obtain ⟨_, z⟩ := z; cases z)⟩
theorem entW_mut {m : AM} {u : W} (h : (entW m u).mut = true) : u.mut = true ∧ ∃ d, entW m u = .lent d := by
  cases u with
  | fz d => cases m <;> cases h
  | own d =>
    cases m with
    | F => cases h
    | R => cases h
    | L => exact ⟨rfl, d, rfl⟩
  | lent d =>
    cases m with
    | F => cases h
    | R => cases h
    | L => exact ⟨rfl, d, rfl⟩
  | lk d => cases m <;> cases h
  | lkl d => cases m <;> cases h
theorem SD.leave {ms : List AM} {hs : List HS} {ws : List W} {vs dvs : List V} {dw : List D} {N : List Str} {sc s2 : State} (sd : SD K g H σ s) (e : ents ms hs s = some ws) (o : oneEach hs = true) (r : RHs K g σ vs hs) (hd : Reps K g dvs dw)
    (sdc : SD K g' H' σ' sc) (ev : Ev g H (L2.start N (vs ++ dvs)) (inS N.length ws dw s) g' H' σ' sc) (b : backS hs ws s sc = some s2) :
    SD K g' H' σ s2 ∧ Ev g H σ s g' H' σ s2 ∧ (∀ a, ¬ OwnA (L2.start N (vs ++ dvs)) (inS N.length ws dw s) a) ∧ ∀ a, Hd σ s2 a → Hd σ s a := by
  have sdin := sd.enter (N := N) e o r hd
  unfold backS at b
  cases q : backs hs ws sc.env s.env with
  | none => rw [q] at b; cases b
  | some e' =>
    rw [q] at b
    cases b
    obtain ⟨el, bk⟩ := backs_at q o
    -- what the callee may change, the caller may
    have low : ∀ {l : Nat} {z : W}, (inS N.length ws dw s).env[l]? = some (some z) → z.held = true → ws[l]? = some z := fun {l z} h hz => by
      rcases inS_get h with h | ⟨d, rfl, _⟩
      · exact h
      · cases hz
    have muIn : ∀ a, Mu g (L2.start N (vs ++ dvs)) (inS N.length ws dw s) a → (∃ (i j : Nat) (d : D) (u : W), hs[j]? = some (.slot i) ∧ ws[j]? = some (.lent d) ∧ s.env[i]? = some (some u) ∧ u.mut = true ∧ σ[i]? = some (some (.ref a))) ∨ a ∈ g.η ∨ IsDr g a := fun a m => by
      rcases m with ⟨j, w, ej, mj, x⟩ | m
      · have hw : w.held = true := by cases w <;> first | rfl | cases mj
        obtain ⟨i, m, u, v, a1, a2, a3, rfl, a5, _⟩ := ents_held e r (low ej hw) hw
        obtain ⟨um, d, ed⟩ := entW_mut mj
        rw [start_at (by rw [List.getElem?_append_left (List.getElem?_eq_some_iff.mp a1).1]; exact a1)] at x
        cases x
        exact .inl ⟨i, j, d, u, a2, by rw [low ej hw, ed], a3, um, a5⟩
      · exact .inr m
    have muUp : ∀ a, Mu g (L2.start N (vs ++ dvs)) (inS N.length ws dw s) a → Mu g σ s a := fun a m => by
      rcases muIn a m with ⟨i, j, d, u, _, _, h1, h2, h3⟩ | m
      · exact .inl ⟨i, u, h1, h2, h3⟩
      · exact .inr m
    have hdUp : ∀ a, Hd σ { env := e', sto := sc.sto, dr := sc.dr } a → Hd σ s a := fun a ⟨i, w, h1, h2, h3⟩ => by
      obtain ⟨u, k1, k2, _⟩ := (bk i).kinds h1
      exact ⟨i, u, k1, k2.trans h2, h3⟩
    have noOwn : ∀ a, ¬ OwnA (L2.start N (vs ++ dvs)) (inS N.length ws dw s) a := fun a ⟨j, d, h, x⟩ => by
      have key : ∀ w : W, (w = .own d ∨ w = .lk d) → (inS N.length ws dw s).env[j]? = some (some w) → False := fun w hw h => by
        have hh : w.held = true := by rcases hw with rfl | rfl <;> rfl
        obtain ⟨i, m, u, v, a1, a2, a3, a4, a5, a6⟩ := ents_held e r (low h hh) hh
        cases u <;> cases m <;> rcases hw with rfl | rfl <;> cases a4
      rcases h with h | h
      · exact key _ (.inl rfl) h
      · exact key _ (.inr rfl) h
    refine ⟨⟨sdc.gh, el.trans sd.len, fun i w hi => ?_, fun i j w u a h1 h2 h3 h4 h5 h6 => ?_, sdc.stl, sdc.sto, sdc.nd, sdc.ng, sdc.dr⟩,
      ⟨ev.le, fun a ob h nm => ev.keep a ob h fun m => nm (muUp a m), ev.live, fun a l z => (ev.frz a l z).imp id (Or.imp (muUp a) id), ev.eta, fun a m => ?_, fun a m => .inl (hdUp a m), fun a m => ?_, fun i d h => ?_, fun i d h => ?_, fun i d h => ?_⟩, noOwn, hdUp⟩
    · rcases bk i with ⟨n, q1⟩ | ⟨j, d0, d, d1, h1, h2, h3, h4⟩
      · -- not lent: as it was
        have hi : e'[i]? = some (some w) := hi
        rw [q1] at hi
        obtain ⟨v, ev', wa⟩ := sd.slot i w hi
        have nm : ∀ b, v = .ref b → w.held = true → Free1 g b → ¬ Mu g (L2.start N (vs ++ dvs)) (inS N.length ws dw s) b := fun b eb hw f m => by
          rcases muIn b m with ⟨i2, j2, d2, u2, k1, k2, k3, k4, k5⟩ | m
          · have hu2 : u2.held = true := by cases u2 <;> first | rfl | cases k4
            have := sd.inj i i2 w u2 b hi k3 hw hu2 (by rw [ev', eb]) k5
            subst this
            exact n j2 d2 k1 k2
          · rcases m with m | m
            · exact f.2.1 m
            · exact f.2.2 m
        have nt : ∀ b, v = .ref b → w.held = true → ¬ IsTup H b := fun b eb hw => wa.noTup hw eb
        have fr : ∀ b, v = .ref b → w.held = true → H b ≠ none → Free1 g b → Free1 g' b := fun b eb hw lv f => by
          refine ⟨?_, fun z => f.2.1 (ev.eta b lv z), fun z => f.2.2 (z.eq ev.le.dr)⟩
          cases q : g'.G b with
          | none => rfl
          | some ob => exact ((ev.frz b lv (by rw [q]; simp)).elim (fun z => z f.1) fun z => z.elim (nm b eb hw f) (nt b eb hw)).elim
        refine ⟨v, ev', ?_⟩
        have free : w.held = true → ∀ b, v = .ref b → Free1 g b := fun hw b eb => by
          cases w with
          | fz d => cases hw
          | own d => obtain ⟨c, _, ec, f, _⟩ := wa; rw [ec] at eb; cases eb; exact f
          | lent d => obtain ⟨c, _, ec, f, _⟩ := wa; rw [ec] at eb; cases eb; exact f
          | lk d => obtain ⟨c, _, ec, f, _⟩ := wa; rw [ec] at eb; cases eb; exact f
          | lkl d => obtain ⟨c, _, ec, f, _⟩ := wa; rw [ec] at eb; cases eb; exact f
        refine wa.keep ev.le (fun b u eb hw h => ev.keep b u h (nm b eb hw (free hw b eb))) fun b eb hw f => fr b eb hw (sd.hdLive ⟨i, w, hi, hw, by rw [ev', eb]⟩) f
      · -- lent: what the callee left
        have hin : (inS N.length ws dw s).env[j]? = some (some (.lent d0)) := by
          have hl := (List.getElem?_eq_some_iff.mp h2).1
          show ((ws ++ dw.map W.fz).map some ++ List.replicate (N.length - (ws.length + dw.length)) none)[j]? = _
          rw [List.getElem?_append_left (by rw [List.length_map, List.length_append]; omega), List.getElem?_map, List.getElem?_append_left hl, h2]
          rfl
        obtain ⟨i', m, u, v, a1, a2, a3, a4, a5, a6⟩ := ents_held e r h2 rfl
        have : i' = i := by rw [h1] at a2; cases a2; rfl
        subst this
        obtain ⟨f1, _⟩ := ev.fix j d0 hin
        obtain ⟨v', ev', wa⟩ := sdc.slot j _ h3
        rw [f1, start_at (by rw [List.getElem?_append_left (List.getElem?_eq_some_iff.mp a1).1]; exact a1)] at ev'
        cases ev'
        refine ⟨v, a5, ?_⟩
        have hi : e'[i']? = some (some w) := hi
        rcases h4 with ⟨_, h4⟩ | ⟨_, h4⟩
        · rw [h4] at hi; cases hi; exact wa
        · rw [h4] at hi; cases hi; exact wa
    · obtain ⟨w', k1, k2, _⟩ := (bk i).kinds h1
      obtain ⟨u', k3, k4, _⟩ := (bk j).kinds h2
      exact sd.inj i j w' u' a k1 k3 (k2.trans h3) (k4.trans h4) h5 h6
    · rcases m with ⟨i, w, h1, h2, h3⟩ | m
      · obtain ⟨u, k1, _, k3, _⟩ := (bk i).kinds h1
        exact .inl (.inl ⟨i, u, k1, k3.trans h2, h3⟩)
      · rcases ev.mu a (.inr m) with z | z
        · exact .inl (muUp a z)
        · exact .inr z
    · obtain ⟨i, d, h1, h3⟩ := m
      rcases h1 with h1 | h1
      · obtain ⟨u, k1, _, _, k4, _⟩ := (bk i).kinds h1
        obtain ⟨d', rfl⟩ := k4.mp ⟨_, rfl⟩
        exact .inl ⟨i, d', .inl k1, h3⟩
      · obtain ⟨u, k1, _, _, _, k5⟩ := (bk i).kinds h1
        obtain ⟨d', rfl⟩ := k5.mp ⟨_, rfl⟩
        exact .inl ⟨i, d', .inr k1, h3⟩
    · refine ⟨rfl, ?_⟩
      rcases bk i with ⟨_, q1⟩ | ⟨j, d0, d2, d1, _, _, _, ⟨e1, e2⟩ | ⟨e1, e2⟩⟩
      · exact ⟨d, .inl (q1.trans h)⟩
      · rw [e1] at h; cases h
      · exact ⟨d2, .inl e2⟩
    · refine ⟨rfl, ?_⟩
      rcases bk i with ⟨_, q1⟩ | ⟨j, d0, d2, d1, _, _, _, ⟨e1, e2⟩ | ⟨e1, e2⟩⟩
      · exact q1.trans h
      · rw [e1] at h; cases h
      · rw [e1] at h; cases h
    · refine ⟨rfl, ?_⟩
      rcases bk i with ⟨_, q1⟩ | ⟨j, d0, d2, d1, _, _, _, ⟨e1, e2⟩ | ⟨e1, e2⟩⟩
      · exact q1.trans h
      · rw [e1] at h; cases h
      · rw [e1] at h; cases h
variable {Wx : WX} {R : Gh → Hp → State → V → T → Prop} {Q : V → Hp → Prop}
theorem pass2_run {ms : List AM} {dw : List D} {b : M Flow} {hs : List HS} {vs dvs : List V} {ps N : List Str} {R : Gh → Hp → State → V → T → Prop} (c : Cur K Wx σ R Q g0 H0 s0 (pass2 N.length ms dw b hs s) g H s) (rh : RHs K g σ vs hs) (hd : ∀ g, Reps K g dvs dw)
    (hn : hs.length + dw.length = ps.length) (hR : ∀ g' H' s' v t, Ev g H σ s g' H' σ s' → RT K H g' H' σ s' v t → R g' H' s' v t) : spF K ps N b (vs ++ dvs) H Q (fun cls d H' => Wx cls d σ H') := by
  refine ⟨by rw [List.length_append, rh.length, (hd g).length]; exact hn, ?_⟩
  have p := c.post
  unfold pass2 at p
  cases q : ents ms hs s with
  | none => simp only [q] at p; exact p.elim
  | some ws =>
    simp only [q] at p
    by_cases ho : oneEach hs = true
    · rw [if_pos ho] at p
      refine ⟨g, inS N.length ws dw s, c.sd.enter q ho rh (hd g), ?_⟩
      have p : Post K Wx σ R Q g0 H0 s0 (callR hs ws s (b (inS N.length ws dw s))) := p
      cases q2 : b (inS N.length ws dw s) with
      | bad => rw [q2] at p; exact p
      | err x sc =>
        rw [q2] at p
        unfold callR at p
        cases q3 : backS hs ws s sc with
        | none => simp only [q3] at p; exact p.elim
        | some s2 =>
          simp only [q3] at p
          intro cls d σ' g' H' sdc ev er
          obtain ⟨k1, k2, _⟩ := c.sd.leave q ho rh (hd g) sdc ev q3
          exact p cls d g' H' k1 (c.ev.trans k2) er
      | ok fl sc =>
        rw [q2] at p
        cases fl with
        | bk => exact p.elim
        | ct => exact p.elim
        | nx =>
          unfold callR at p
          cases q3 : backS hs ws s sc with
          | none => simp only [q3] at p; exact p.elim
          | some s2 =>
            simp only [q3] at p
            intro σ' g' H' sdc ev
            obtain ⟨k1, k2, _⟩ := c.sd.leave q ho rh (hd g) sdc ev q3
            exact p .non g' H' k1 (c.ev.trans k2) (hR _ _ _ _ _ k2 ⟨.non, fun _ _ z => nomatch z⟩)
        | rt t =>
          unfold callR at p
          cases q3 : backS hs ws s sc with
          | none => simp only [q3] at p; exact p.elim
          | some s2 =>
            simp only [q3] at p
            intro v σ' g' H' sdc ev rr
            obtain ⟨k1, k2, k3, k4⟩ := c.sd.leave q ho rh (hd g) sdc ev q3
            refine p v g' H' k1 (c.ev.trans k2) (hR _ _ _ _ _ k2 ⟨rr.at_, fun d a h1 h2 => ?_⟩)
            have hn : H a = none := ((rr.new d a h1 h2).1).elim id fun z => (k3 a z).elim
            exact ⟨hn, fun z => c.sd.hdLive (k4 a z) hn⟩
    · rw [if_neg ho] at p; exact p.elim
theorem pass_run {ms : List AM} {dw : List D} {b : M Flow} {rs : List VR} {vs dvs : List V} {ps N : List Str} (c : Cur K Wx σ (fun g H s v t => RT K H0 g H σ s v t) Q g0 H0 s0 (dPass N.length ms dw b rs s) g H s) (r : RVRs K σ H0 g H s vs rs) (hd : ∀ g, Reps K g dvs dw)
    (hn : ms.length + dw.length = ps.length) : spF K ps N b (vs ++ dvs) H Q (fun cls d H' => Wx cls d σ H') := by
  have p := c.post
  unfold dPass at p
  rw [bind_eq] at p
  rcases toHMs_res ms rs s with ⟨hs, s1, e⟩ | e
  · rw [e] at p
    obtain ⟨g1, sd1, e1, rh, le⟩ := toHMs_run e c.ev c.sd r
    exact pass2_run ⟨e1, sd1, p⟩ rh hd (by rw [← rh.length, r.length, ← toHMs_len e]; exact hn) fun g' H' s' v t ev rt => rt.past e1.live
  · rw [e] at p; exact p.elim
end
section
variable {X : Cx} {Wx : WX} {k : Nat} {f : Addr} {fd : FuncData} {ps N : List Str} {b : M Flow} {dvs : List V} {ds : List Value} {dw : List D} {x : Str} {p pos : Pos} {e : Expr} {es : List Expr} {fl : M (List VR)} {ms : List AM}
theorem de_call (F : FnOk X.prog X.w X.K X.mg X.base (L2.CX X.prog X.w) k f fd ps (spF X.K ps N b)) {n : Nat} (hl : N.length = n) (hr : Room k X.A) (hm : X.mg x = some (.ref f)) (hk : PySem.W.keepIn X.K (.ref f) = true) (hb : Binds X.K fd ps ds) (hd : Vals dvs ds) (hw : ∀ g, Reps X.K g dvs dw) (tk : Takes X Wx)
    (hn : ms.length + dw.length = ps.length) (ha : DA X Wx (e :: es) fl) (hg : Gl X x := by rfl) (hdb : (x == ("__debug__" : Str)) = false := by decide) (he : starEach (e :: es) X.env = (false, eval e X.env) :: starEach es X.env := by rfl) (hpl : (backTo pos (starEach es X.env)).any (·.1) = false := by rfl) :
    DE X Wx (.Call (.Name x p) (e :: es) [] pos) (dCall n ms dw b fl) := by
  subst hl
  exact ⟨fun pins s σ H Q I h => (pe_callSD F hr hg hm hk hb hd (fun σ => passAt tk σ) ha hdb he hpl).run pins s σ H Q I (by
  obtain ⟨g, s, c⟩ := h.start
  refine c.bind.mono fun vs H1 ⟨rs, g1, s1, c1, r1, e1⟩ => ?_
  exact pass_run c1 r1 hw hn)⟩
end
end DL
set_option Elab.async false
set_option linter.all false
set_option maxRecDepth 100000
set_option maxHeartbeats 1000000
namespace DL
open PySem PySem.Spec PyProof.Rows L2
abbrev WF : WX := fun _ _ _ _ => False
structure Bd (X : Cx) (Wx : WX) (k : Nat) : Prop where
  calm : X.calm = true
  room : Room k X.A
  tk : Takes X Wx
  own : PassesOwn (model X.prog X.w) X.A X.env X.xe
  nd : X.N.Nodup
theorem Bd.blk {X : Cx} {Wx : WX} {k : Nat} (b : Bd X Wx k) {s : Shared} {H : Hp} {scope : Scope} {ce : Env} {fp : List Addr} : Bd (X.blk s H scope ce fp) WF k :=
  ⟨b.calm, b.room, fun u s' x => by obtain ⟨_, _, _, _, _, _, _, _, _, _, _, _, _, _, _, _, z⟩ := x; exact z.elim, PassesOwn.never, b.nd⟩
def wipeE (e : List (Option W)) : List Nat → List (Option W)
  | [] => e
  | v :: vs => (wipeE e vs).set v none
def wipeS (vs : List Nat) (s : State) : State := { s with env := wipeE s.env vs }
def fzAt (e : List (Option W)) : List Nat → Bool
  | [] => true
  | v :: vs => (match e[v]? with
    | some none => true
    | some (some (.fz _)) => true
    | _ => false) && fzAt e vs
def restoreE (e0 e : List (Option W)) : List Nat → List (Option W)
  | [] => e
  | v :: vs => (restoreE e0 e vs).set v (match e0[v]? with | some x => x | none => none)
def restoreS (vs : List Nat) (s0 s : State) : State := { s with env := restoreE s0.env s.env vs }
theorem wipeE_length (e : List (Option W)) : ∀ vs, (wipeE e vs).length = e.length
  | [] => rfl
  | v :: vs => by unfold wipeE; rw [List.length_set, wipeE_length e vs]
theorem wipeE_some {e : List (Option W)} {i : Nat} {w : W} : ∀ {vs : List Nat}, (wipeE e vs)[i]? = some (some w) → e[i]? = some (some w) ∧ i ∉ vs
  | [], h => ⟨h, by simp⟩
  | v :: vs, h => by
    unfold wipeE at h
    by_cases z : v = i
    · subst z
      by_cases hl : v < (wipeE e vs).length
      · rw [List.getElem?_set_self hl] at h; cases h
      · rw [List.getElem?_eq_none (by rw [List.length_set]; omega)] at h; cases h
    · rw [List.getElem?_set_ne z] at h
      obtain ⟨h1, h2⟩ := wipeE_some h
      exact ⟨h1, fun m => by rcases List.mem_cons.mp m with m | m <;> first | exact z m.symm | exact h2 m⟩
theorem wipeE_out {e : List (Option W)} {i : Nat} : ∀ {vs : List Nat}, i ∉ vs → (wipeE e vs)[i]? = e[i]?
  | [], _ => rfl
  | v :: vs, h => by
    unfold wipeE
    rw [List.getElem?_set_ne fun z => h (by rw [z]; exact List.mem_cons_self), wipeE_out fun m => h (List.mem_cons_of_mem _ m)]
theorem restoreE_length (e0 e : List (Option W)) : ∀ vs, (restoreE e0 e vs).length = e.length
  | [] => rfl
  | v :: vs => by unfold restoreE; rw [List.length_set, restoreE_length e0 e vs]
theorem restoreE_out {e0 e : List (Option W)} {i : Nat} : ∀ {vs : List Nat}, i ∉ vs → (restoreE e0 e vs)[i]? = e[i]?
  | [], _ => rfl
  | v :: vs, h => by
    unfold restoreE
    rw [List.getElem?_set_ne fun z => h (by rw [z]; exact List.mem_cons_self), restoreE_out fun m => h (List.mem_cons_of_mem _ m)]
theorem restoreE_in {e0 e : List (Option W)} {i : Nat} {w : W} : ∀ {vs : List Nat}, i ∈ vs → (restoreE e0 e vs)[i]? = some (some w) → e0[i]? = some (some w)
  | v :: vs, h, q => by
    unfold restoreE at q
    by_cases z : v = i
    · subst z
      by_cases hl : v < (restoreE e0 e vs).length
      · rw [List.getElem?_set_self hl] at q
        cases q1 : e0[v]? with
        | none => rw [q1] at q; cases q
        | some x => rw [q1] at q; exact q
      · rw [List.getElem?_eq_none (by rw [List.length_set]; omega)] at q; cases q
    · rw [List.getElem?_set_ne z] at q
      rcases List.mem_cons.mp h with h | h
      · exact absurd h.symm z
      · exact restoreE_in h q
theorem fzAt_get {e : List (Option W)} {i : Nat} {w : W} : ∀ {vs : List Nat}, fzAt e vs = true → i ∈ vs → e[i]? = some (some w) → ∃ d, w = .fz d
  | v :: vs, h, m, q => by
    unfold fzAt at h
    rw [Bool.and_eq_true] at h
    rcases List.mem_cons.mp m with m | m
    · subst m
      rw [q] at h
      cases w with
      | fz d => exact ⟨d, rfl⟩
      | _ => cases h.1
    · exact fzAt_get h.2 m q
theorem wipe_at {σ : Slots} {i : Nat} : ∀ {vs : List Nat}, i ∉ vs → (wipe σ vs)[i]? = σ[i]? := fun h => wipe_out h
theorem wipe_upto {σ σ' : Slots} : ∀ {L vs : List Nat}, Upto L σ σ' → (∀ i ∈ L, i ∈ vs) → wipe σ' vs = wipe σ vs := fun {L vs} u h => by
  refine List.ext_getElem? fun i => ?_
  by_cases m : i ∈ vs
  · -- wiped in both
    have key : ∀ τ : Slots, (wipe τ vs)[i]? = if i < τ.length then some none else none := fun τ => by
      by_cases hl : i < τ.length
      · rw [if_pos hl]
        have hl2 : i < (wipe τ vs).length := by rw [wipe_length]; exact hl
        cases q : (wipe τ vs)[i]? with
        | none => rw [List.getElem?_eq_getElem hl2] at q; cases q
        | some x =>
          cases x with
          | none => rfl
          | some v => exact absurd m (wipe_some q).2
      · rw [if_neg hl, List.getElem?_eq_none (by rw [wipe_length]; omega)]
    rw [key, key, u.1]
  · rw [wipe_at m, wipe_at m, u.2 i fun z => m (h i z)]
section
variable {K : PySem.W.Frag} {g g' g0 : Gh} {H H' H0 : Hp} {σ σ' σ0 : Slots} {s s' s0 : State} {vs : List Nat} {Dd : Addr}
theorem SD.wipe (sd : SD K g H σ s) : SD K g H (L2.wipe σ vs) (wipeS vs s) where
  gh := sd.gh
  len := by show (wipeE s.env vs).length = _; rw [wipeE_length, wipe_length]; exact sd.len
  slot := fun i w e => by
    obtain ⟨e1, n⟩ := wipeE_some (show (wipeE s.env vs)[i]? = _ from e)
    obtain ⟨v, ev, wa⟩ := sd.slot i w e1
    exact ⟨v, by rw [wipe_at n]; exact ev, wa⟩
  inj := fun i j w u a e1 e2 h1 h2 x1 x2 => sd.inj i j w u a (wipeE_some (show (wipeE s.env vs)[i]? = _ from e1)).1 (wipeE_some (show (wipeE s.env vs)[j]? = _ from e2)).1 h1 h2 (wipe_some x1).1 (wipe_some x2).1
  stl := sd.stl
  sto := sd.sto
  nd := sd.nd
  ng := sd.ng
  dr := sd.dr
theorem Hd.wipe {a : Addr} (h : Hd (L2.wipe σ vs) (wipeS vs s) a) : Hd σ s a := by
  obtain ⟨i, w, e, hw, x⟩ := h
  exact ⟨i, w, (wipeE_some (show (wipeE s.env vs)[i]? = _ from e)).1, hw, (wipe_some x).1⟩
theorem Mu.wipe {a : Addr} (h : Mu g (L2.wipe σ vs) (wipeS vs s) a) : Mu g σ s a := by
  rcases h with ⟨i, w, e, m, x⟩ | h
  · exact .inl ⟨i, w, (wipeE_some (show (wipeE s.env vs)[i]? = _ from e)).1, m, (wipe_some x).1⟩
  · exact .inr h
theorem OwnA.wipe {a : Addr} (h : OwnA (L2.wipe σ vs) (wipeS vs s) a) : OwnA σ s a := by
  obtain ⟨i, d, e, x⟩ := h
  exact ⟨i, d, e.imp (fun e => (wipeE_some (show (wipeE s.env vs)[i]? = _ from e)).1) (fun e => (wipeE_some (show (wipeE s.env vs)[i]? = _ from e)).1), (wipe_some x).1⟩
theorem Ev.wipe (e : Ev g0 H0 σ0 s0 g H σ s) (n : ∀ i ∈ vs, ∀ w, s0.env[i]? = some (some w) → ∃ d, w = .fz d) : Ev g0 H0 σ0 s0 g H (L2.wipe σ vs) (wipeS vs s) where
  le := e.le
  keep := e.keep
  live := e.live
  frz := e.frz
  eta := e.eta
  mu := fun a m => e.mu a m.wipe
  hd := fun a m => e.hd a m.wipe
  ow := fun a m => e.ow a m.wipe
  fix := fun i d h => by
    have ni : i ∉ vs := fun m => by obtain ⟨d, z⟩ := n i m _ h; cases z
    obtain ⟨h1, d', h2⟩ := e.fix i d h
    refine ⟨by rw [wipe_at ni]; exact h1, d', ?_⟩
    show (wipeE s.env vs)[i]? = _ ∨ (wipeE s.env vs)[i]? = _
    rw [wipeE_out ni]; exact h2
  lk := fun i d h => by
    have ni : i ∉ vs := fun m => by obtain ⟨d, z⟩ := n i m _ h; cases z
    obtain ⟨h1, h2⟩ := e.lk i d h
    refine ⟨by rw [wipe_at ni]; exact h1, ?_⟩
    show (wipeE s.env vs)[i]? = _
    rw [wipeE_out ni]; exact h2
  lkl := fun i d h => by
    have ni : i ∉ vs := fun m => by obtain ⟨d, z⟩ := n i m _ h; cases z
    obtain ⟨h1, h2⟩ := e.lkl i d h
    refine ⟨by rw [wipe_at ni]; exact h1, ?_⟩
    show (wipeE s.env vs)[i]? = _
    rw [wipeE_out ni]; exact h2
theorem SD.restore (sd : SD K g H σ s) (z : fzAt s.env vs = true) (sd' : SD K g' H' (L2.wipe σ vs) s') (e : Ev g H σ s g' H' (L2.wipe σ vs) s') : SD K g' H' σ (restoreS vs s s') ∧ Ev g H σ s g' H' σ (restoreS vs s s') ∧ ∀ a, Hd σ (restoreS vs s s') a → Hd (L2.wipe σ vs) s' a := by
  have low : ∀ {i : Nat} {w : W}, (restoreE s.env s'.env vs)[i]? = some (some w) → w.held = true → s'.env[i]? = some (some w) ∧ i ∉ vs := fun {i w} h hw => by
    by_cases m : i ∈ vs
    · obtain ⟨d, rfl⟩ := fzAt_get z m (restoreE_in m h)
      cases hw
    · rw [restoreE_out m] at h
      exact ⟨h, m⟩
  have hdl : ∀ a, Hd σ (restoreS vs s s') a → Hd (L2.wipe σ vs) s' a := fun a ⟨i, w, h, hw, x⟩ => by
    obtain ⟨h1, n⟩ := low h hw
    exact ⟨i, w, h1, hw, by rw [wipe_at n]; exact x⟩
  have mul : ∀ a, Mu g' σ (restoreS vs s s') a → Mu g' (L2.wipe σ vs) s' a := fun a m => by
    rcases m with ⟨i, w, h, hw, x⟩ | m
    · obtain ⟨h1, n⟩ := low h (by cases w <;> first | rfl | cases hw)
      exact .inl ⟨i, w, h1, hw, by rw [wipe_at n]; exact x⟩
    · exact .inr m
  have owl : ∀ a, OwnA σ (restoreS vs s s') a → OwnA (L2.wipe σ vs) s' a := fun a ⟨i, d, h, x⟩ => by
    rcases h with h | h
    · obtain ⟨h1, n⟩ := low h rfl
      exact ⟨i, d, .inl h1, by rw [wipe_at n]; exact x⟩
    · obtain ⟨h1, n⟩ := low h rfl
      exact ⟨i, d, .inr h1, by rw [wipe_at n]; exact x⟩
  have out : ∀ {i : Nat} {w : W}, s.env[i]? = some (some w) → w.held = true → i ∉ vs := fun {i w} h hw m => by
    obtain ⟨d, rfl⟩ := fzAt_get z m h
    cases hw
  refine ⟨⟨sd'.gh, ?_, fun i w h => ?_, fun i j w u a h1 h2 hw hu x1 x2 => ?_, sd'.stl, sd'.sto, sd'.nd, sd'.ng, sd'.dr⟩,
    ⟨e.le, e.keep, e.live, e.frz, e.eta, fun a m => e.mu a (mul a m), fun a m => e.hd a (hdl a m), fun a m => e.ow a (owl a m), fun i d h => ?_, fun i d h => ?_, fun i d h => ?_⟩, hdl⟩
  · show (restoreE s.env s'.env vs).length = _
    rw [restoreE_length, sd'.len, wipe_length]
  · by_cases m : i ∈ vs
    · have h0 := restoreE_in m h
      obtain ⟨d, rfl⟩ := fzAt_get z m h0
      obtain ⟨v, ev, wa⟩ := sd.slot i _ h0
      exact ⟨v, ev, Rep.mono e.le wa⟩
    · have h : (restoreE s.env s'.env vs)[i]? = some (some w) := h
      rw [restoreE_out m] at h
      obtain ⟨v, ev, wa⟩ := sd'.slot i w h
      rw [wipe_at m] at ev
      exact ⟨v, ev, wa⟩
  · obtain ⟨k1, n1⟩ := low h1 hw
    obtain ⟨k2, n2⟩ := low h2 hu
    exact sd'.inj i j w u a k1 k2 hw hu (by rw [wipe_at n1]; exact x1) (by rw [wipe_at n2]; exact x2)
  · have n := out h rfl
    obtain ⟨_, d', h2⟩ := e.fix i d h
    refine ⟨rfl, d', ?_⟩
    show (restoreE s.env s'.env vs)[i]? = _ ∨ (restoreE s.env s'.env vs)[i]? = _
    rw [restoreE_out n]; exact h2
  · have n := out h rfl
    refine ⟨rfl, ?_⟩
    show (restoreE s.env s'.env vs)[i]? = _
    rw [restoreE_out n]; exact (e.lk i d h).2
  · have n := out h rfl
    refine ⟨rfl, ?_⟩
    show (restoreE s.env s'.env vs)[i]? = _
    rw [restoreE_out n]; exact (e.lkl i d h).2
theorem SD.updFree (sd : SD K g H σ s) {o : HO} (f : Free1 g Dd) (nh : ¬ Hd σ s Dd) : SD K g (upd H Dd o) σ s where
  gh := fun b u e => by
    have ne : b ≠ Dd := fun z => by subst z; rw [f.1] at e; cases e
    exact (sd.gh b u e).keep fun w q => by rw [upd_ne ne]; exact q
  len := sd.len
  slot := fun i w e => by
    obtain ⟨v, ev, wa⟩ := sd.slot i w e
    refine ⟨v, ev, wa.keep (.refl g) (fun b u eb hw q => ?_) fun _ _ _ x => x⟩
    rw [upd_ne fun z => nh ⟨i, w, e, hw, by rw [ev, eb, z]⟩]; exact q
  inj := sd.inj
  stl := sd.stl
  sto := fun i m b e1 e2 => by
    obtain ⟨u, q, m1⟩ := sd.sto i m b e1 e2
    exact ⟨u, by rw [upd_ne fun z => f.2.1 (by rw [← z]; exact List.mem_of_getElem? e2)]; exact q, m1⟩
  nd := sd.nd
  ng := sd.ng
  dr := sd.dr.map fun x l d e q => by
    obtain ⟨c, q1, q2⟩ := q.dict
    exact ⟨⟨c, by rw [upd_ne fun z => f.2.2 ⟨x, l, e, .inl z.symm⟩]; exact q1, q2⟩, by rw [upd_ne fun z => f.2.2 ⟨x, l, e, .inr z.symm⟩]; exact q.list, q.ne, q.ga, q.gl⟩
theorem Ev.updNew (e : Ev g0 H0 σ0 s0 g H σ s) {o : HO} (h : H0 Dd = none) : Ev g0 H0 σ0 s0 g (upd H Dd o) σ s where
  le := e.le
  keep := fun a u q n => by rw [upd_ne fun z => by rw [z, h] at q; cases q]; exact e.keep a u q n
  live := fun a q => by
    by_cases z : a = Dd
    · subst z; exact absurd h q
    · rw [upd_ne z]; exact e.live a q
  frz := e.frz
  eta := e.eta
  mu := e.mu
  hd := e.hd
  ow := e.ow
  fix := e.fix
  lk := e.lk
  lkl := e.lkl
theorem RT.updFree {o : HO} {d : D} (r : RT K H0 g H σ s (.ref Dd) (.ow d)) {d' : D} (ob : ObAt K g o d') : RT K H0 g (upd H Dd o) σ s (.ref Dd) (.ow d') := by
  obtain ⟨a, u, e, f, q, _⟩ := r.at_
  cases e
  exact ⟨⟨Dd, o, rfl, f, upd_same, ob⟩, fun d2 a _ ea => r.new d a rfl ea⟩
theorem RT.wipe {v : V} {t : T} (r : RT K H0 g H σ s v t) : RT K H0 g H (L2.wipe σ vs) (wipeS vs s) v t := ⟨r.at_, fun d a e1 e2 => ⟨(r.new d a e1 e2).1, fun z => (r.new d a e1 e2).2 z.wipe⟩⟩
end
def loopC (pt : Pt) (vs : List Nat) (ft : M Bool) (fe : M VR) : List D → List D → State → Rs (List D)
  | [], acc, s => .ok acc s
  | d :: ds, acc, s => match bindP pt d s with
    | none => .bad
    | some s1 => match ft s1 with
      | .ok true s2 => (match (fe >>= frz) s2 with
        | .ok y s3 => loopC pt vs ft fe ds (acc ++ [y]) (wipeS vs s3)
        | _ => .bad)
      | .ok false s2 => loopC pt vs ft fe ds acc (wipeS vs s2)
      | _ => .bad
def dLoopC (pt : Pt) (vs : List Nat) (ft : M Bool) (fe : M VR) (items : List D) : M T := fun s =>
  if fzAt s.env vs = true ∧ items.length < sizeLine then match loopC pt vs ft fe items [] (wipeS vs s) with
    | .ok acc s' => .ok (.ow (.lst acc)) (restoreS vs s s')
    | _ => .bad
  else .bad
def frzR : VR → M D
  | .slot i => fun s => match s.env[i]? with
    | some (some (.lk d)) => .ok d s
    | some (some (.lkl d)) => .ok d s
    | _ => frz (.slot i) s
  | .t t => frz (.t t)
def frzRs : List VR → M (List D)
  | [] => pure []
  | r :: rs => frzR r >>= fun d => frzRs rs >>= fun ds => pure (d :: ds)
def dComp (h : List D → Option (List D)) (pt : Pt) (vs : List Nat) (ft : M Bool) (fe : M VR) (fl : M (List VR)) : M T := fl >>= fun rs => frzRs rs >>= fun ds => match h ds with
  | some items => dLoopC pt vs ft fe items
  | none => M.bad
section
variable {K : PySem.W.Frag} {Wx : WX} {g g0 : Gh} {H H0 : Hp} {σ : Slots} {s s0 : State} {Q : V → Hp → Prop} {R : Gh → Hp → State → V → T → Prop}
theorem comp_run {pt : Pt} {vs : List Nat} {ft : M Bool} {fe : M VR} {items : List D} {J : It} (c : Cur K Wx σ (fun g H s v t => RT K H0 g H σ s v t) Q g0 H0 s0 (dLoopC pt vs ft fe items s) g H s) (it : Iter K J g H σ s items) (hv : ∀ i ∈ pt.vs, i ∈ vs) :
    ∀ D, H D = none → ∃ W : Nat → Nat → Hp → Prop, (∃ m, W 0 m (upd H D (.lst []))) ∧ ∀ i m H, W i m H →
      (J.stop i H ∧ Q (.ref D) H) ∨ (J.go i H ∧ ∃ Nx : Hp → Prop, (∀ H', Nx H' → ∃ m', m' < m ∧ W (i + 1) m' H') ∧ ∀ x H', J.yld i H x H' → tP K pt x (wipe σ vs) H' fun σ2 H2 => wipe σ2 vs = wipe σ vs ∧ tM K WF RB ft σ2 H2 fun b H3 =>
        if b = true then tV K WF fe σ2 H3 fun y H4 => ∃ acc, H4 D = some (.lst acc) ∧ acc.length < sizeLine ∧ Nx (upd H4 D (.lst (acc ++ [y]))) else Nx H3) := by
  intro D hD
  have p := c.post
  unfold dLoopC at p
  have hz : fzAt s.env vs = true ∧ items.length < sizeLine := by
    by_cases hz : fzAt s.env vs = true ∧ items.length < sizeLine
    · exact hz
    · rw [if_neg hz] at p; exact p.elim
  rw [if_pos hz] at p
  obtain ⟨hz, hlen⟩ := hz
  cases q : loopC pt vs ft fe items [] (wipeS vs s) with
  | bad => rw [q] at p; exact p.elim
  | err x s1 => rw [q] at p; exact p.elim
  | ok accF sF =>
    rw [q] at p
    have n0 : ∀ i ∈ vs, ∀ w, s.env[i]? = some (some w) → ∃ d, w = .fz d := fun i m w h => fzAt_get hz m h
    have f1 := c.sd.free1 hD
    refine ⟨fun i m H' => m = items.length - i ∧ i ≤ items.length ∧ ∃ g' s' accD, SD K g' H' (wipe σ vs) s' ∧ Ev g H σ s g' H' (wipe σ vs) s' ∧ RT K H g' H' (wipe σ vs) s' (.ref D) (.ow (.lst accD)) ∧ accD.length ≤ i ∧ loopC pt vs ft fe (items.drop i) accD s' = .ok accF sF,
      ⟨items.length, by simp, Nat.zero_le _, g, wipeS vs s, [], (c.sd.alloc hD).wipe, (c.sd.allocEv hD).wipe n0, ⟨⟨D, _, rfl, f1, upd_same, ⟨[], rfl, .nil⟩⟩, fun d a _ e => by cases e; exact ⟨hD, fun z => c.sd.noHd hD z.wipe⟩⟩, Nat.le_refl _, q⟩, ?_⟩
    rintro i m H1 ⟨rfl, hi, g1, s1, accD, sd1, ev1, rt1, hl1, lq⟩
    obtain ⟨stop, go⟩ := it i g1 H1 (wipe σ vs) s1 sd1 ev1
    by_cases hlt : i < items.length
    · have e : items[i]? = some items[i] := List.getElem?_eq_getElem hlt
      obtain ⟨go1, go2⟩ := go _ e
      refine .inr ⟨go1, fun H' => i + 1 ≤ items.length ∧ ∃ g' s' accD, SD K g' H' (wipe σ vs) s' ∧ Ev g H σ s g' H' (wipe σ vs) s' ∧ RT K H g' H' (wipe σ vs) s' (.ref D) (.ow (.lst accD)) ∧ accD.length ≤ i + 1 ∧ loopC pt vs ft fe (items.drop (i + 1)) accD s' = .ok accF sF,
        fun H' z => ⟨items.length - (i + 1), by omega, rfl, z.1, z.2⟩, fun x H3 hy => ?_⟩
      obtain ⟨g3, sd3, ev3, rp3⟩ := go2 x H3 hy
      rw [List.drop_eq_getElem_cons hlt] at lq
      unfold loopC at lq
      cases q1 : bindP pt items[i] s1 with
      | none => simp only [q1] at lq; cases lq
      | some s2 =>
        simp only [q1] at lq
        refine ⟨g3, s1, items[i], sd3, rp3, s2, q1, fun σ4 u4 sd4 ev4 => ?_⟩
        have wq : wipe σ4 vs = wipe σ vs := by
          have z := wipe_upto (vs := vs) u4 hv
          rw [z]
          refine List.ext_getElem? fun j => ?_
          rw [wipe_upto (vs := vs) (L := vs) (show Upto vs σ (wipe σ vs) from ⟨wipe_length .., fun i h => wipe_out h⟩) fun _ h => h]
        refine ⟨wq, g3, s2, sd4, ?_⟩
        have rt4 := (rt1.ev ev3).ev ev4
        have evA := ev1.trans (ev3.trans ev4)
        cases q2 : ft s2 with
        | bad => simp only [q2] at lq; cases lq
        | err y s5 => simp only [q2] at lq; cases lq
        | ok b s5 =>
          simp only [q2] at lq
          intro b' g5 H5 sd5 ev5 hb
          have hb : b' = b := hb
          subst hb
          have rt5 := rt4.ev ev5
          have evB := evA.trans ev5
          cases b' with
          | false =>
            rw [if_neg Bool.false_ne_true]
            simp only at lq
            exact ⟨hlt, g5, wipeS vs s5, accD, wq ▸ sd5.wipe, wq ▸ evB.wipe n0, wq ▸ rt5.wipe, Nat.le_succ_of_le hl1, lq⟩
          | true =>
            rw [if_pos rfl]
            simp only at lq
            refine ⟨g5, s5, sd5, ?_⟩
            rw [bind_eq] at lq
            cases q3 : fe s5 with
            | bad => rw [q3] at lq; simp only at lq; cases lq
            | err y s6 => rw [q3] at lq; simp only at lq; cases lq
            | ok r s6 =>
              rw [q3] at lq
              simp only at lq
              intro y g6 H6 sd6 ev6 rv
              have rt6 := rt5.ev ev6
              rcases frz_res r s6 with ⟨d, s7, q4⟩ | q4
              · rw [q4] at lq
                simp only at lq
                have lv5 : ∀ a, H a ≠ none → H5 a ≠ none := evB.live
                obtain ⟨g7, sd7, ev7, rp7, tr7, le7⟩ := frz_run q4 (evB.trans ev6) sd6 (RVR.past (H0 := H) (H1 := H5) lv5 rv)
                obtain ⟨a5, o5, ea5, _, h5, _⟩ := rt5.at_
                cases ea5
                have rt7 : RT K H g7 H6 σ4 s7 (.ref D) (.ow (.lst accD)) := tr7 (.ref D) (.t (.ow (.lst accD))) rt6 fun a d' d2 _ ea er ey => by
                  cases ea
                  subst er
                  have z := (RT.new (show RT K H5 g6 H6 σ4 s6 y (.ow d2) from rv) d2 D rfl ey).1
                  rw [h5] at z; cases z
                obtain ⟨a7, o7, ea7, f7, h7, xs, rfl, rx⟩ := rt7.at_
                cases ea7
                have nh7 := (rt7.new _ D rfl rfl).2
                refine ⟨xs, h7, by rw [rx.length]; omega, hlt, g7, wipeS vs s7, accD ++ [d], wq ▸ (sd7.updFree f7 nh7).wipe, wq ▸ (ev7.updNew hD).wipe n0, wq ▸ (RT.updFree (d' := .lst (accD ++ [d])) rt7 (show ObAt K g7 (.lst (xs ++ [y])) (.lst (accD ++ [d])) from ⟨_, rfl, rx.append (.one rp7)⟩)).wipe, by rw [List.length_append]; simpa using Nat.succ_le_succ hl1, lq⟩
              · rw [q4] at lq; simp only at lq; cases lq
    · have e : i = items.length := by omega
      subst e
      rw [List.drop_length] at lq
      unfold loopC at lq
      cases lq
      refine .inl ⟨stop (Nat.le_refl _), ?_⟩
      obtain ⟨k1, k2, k3⟩ := SD.restore c.sd hz sd1 ev1
      exact p (.ref D) g1 H1 k1 (c.ev.trans k2) (RT.past c.ev.live ⟨rt1.at_, fun d a e1 e2 => ⟨(rt1.new d a e1 e2).1, fun z => (rt1.new d a e1 e2).2 (k3 a z)⟩⟩)
end
def DTs (X : Cx) (Wx : WX) (ifs : List Expr) (f : M Bool) : Prop := PTs X ifs (tM X.K Wx RB f)
section
variable {K : PySem.W.Frag} {σ σ0 : Slots} {g g' g0 : Gh} {H0 H : Hp} {s s' s0 : State} {v : V}
theorem frz_keep {r : VR} {d : DL.D} (e : frz r s = .ok d s') {j : Nat} {w : W} (hw : s.env[j]? = some (some w)) (n : ∀ x, w ≠ .own x) : s'.env[j]? = some (some w) := by
  cases r with
  | t t => cases e; exact hw
  | slot i =>
    unfold frz at e
    cases e2 : s.env[i]? with
    | none => simp only [e2] at e; cases e
    | some u =>
      cases u with
      | none => simp only [e2] at e; cases e
      | some u =>
        cases u with
        | fz d' => simp only [e2] at e; cases e; exact hw
        | own d' =>
          simp only [e2] at e; cases e
          have ne : j ≠ i := fun z => by
            subst z; rw [hw] at e2; cases e2; exact n _ rfl
          exact (putE_ne ne).trans hw
        | lent d' => simp only [e2] at e; cases e
        | lk d' => simp only [e2] at e; cases e
        | lkl d' => simp only [e2] at e; cases e
theorem frzR_is (r : VR) (s : State) : frzR r s = frz r s ∨ ∃ i d, r = .slot i ∧ frzR r s = .ok d s ∧ (s.env[i]? = some (some (.lk d)) ∨ s.env[i]? = some (some (.lkl d))) := by
  cases r with
  | t t => exact .inl rfl
  | slot i =>
    cases e : s.env[i]? with
    | none => exact .inl (by simp only [frzR, e])
    | some u =>
      cases u with
      | none => exact .inl (by simp only [frzR, e])
      | some u =>
        cases u with
        | lk d => exact .inr ⟨i, d, rfl, by simp only [frzR, e], .inl e⟩
        | lkl d => exact .inr ⟨i, d, rfl, by simp only [frzR, e], .inr e⟩
        | _ => exact .inl (by simp only [frzR, e])
theorem frzR_res (r : VR) (s : State) : (∃ d s', frzR r s = .ok d s') ∨ frzR r s = .bad := by
  rcases frzR_is r s with e | ⟨_, d, _, e, _⟩
  · rw [e]; exact frz_res r s
  · exact .inl ⟨d, s, e⟩
theorem frzRs_res : ∀ (rs : List VR) (s : State), (∃ d s', frzRs rs s = .ok d s') ∨ frzRs rs s = .bad
  | [], s => .inl ⟨[], s, rfl⟩
  | r :: rs, s => by
    unfold frzRs
    rw [bind_eq]
    rcases frzR_res r s with ⟨d, s1, e⟩ | e
    · rw [e]
      show (∃ d' s', (frzRs rs >>= fun ds => pure (d :: ds)) s1 = .ok d' s') ∨ (frzRs rs >>= fun ds => pure (d :: ds)) s1 = .bad
      rw [bind_eq]
      rcases frzRs_res rs s1 with ⟨ds, s2, e2⟩ | e2
      · rw [e2]; exact .inl ⟨_, _, rfl⟩
      · rw [e2]; exact .inr rfl
    · rw [e]; exact .inr rfl
theorem frzR_keep {r : VR} {d : DL.D} (e : frzR r s = .ok d s') {j : Nat} {w : W} (hw : s.env[j]? = some (some w)) (n : ∀ x, w ≠ .own x) : s'.env[j]? = some (some w) := by
  rcases frzR_is r s with q | ⟨_, d', _, q, _⟩
  · rw [q] at e; exact frz_keep e hw n
  · rw [q] at e; cases e; exact hw
theorem frzRs_keep : ∀ {rs : List VR} {ds : List DL.D} {s s' : State}, frzRs rs s = .ok ds s' → ∀ {j : Nat} {w : W}, s.env[j]? = some (some w) → (∀ x, w ≠ .own x) → s'.env[j]? = some (some w)
  | [], _, _, _, e, _, _, hw, _ => by cases e; exact hw
  | r :: rs, ds, s, s', e, j, w, hw, n => by
    unfold frzRs at e
    rw [bind_eq] at e
    cases q : frzR r s with
    | bad => rw [q] at e; cases e
    | err x s1 => rw [q] at e; cases e
    | ok d s1 =>
      rw [q] at e
      have e : (frzRs rs >>= fun ds => pure (d :: ds)) s1 = .ok ds s' := e
      rw [bind_eq] at e
      cases q2 : frzRs rs s1 with
      | bad => rw [q2] at e; cases e
      | err x s2 => rw [q2] at e; cases e
      | ok ds2 s2 =>
        rw [q2] at e; cases e
        exact frzRs_keep q2 (frzR_keep q hw n) n
theorem Src.held {d : DL.D} (le : Le g g') (k : ∀ (j : Nat) (w : W), s.env[j]? = some (some w) → (∀ x, w ≠ .own x) → s'.env[j]? = some (some w)) (h : Src K g σ s v d) : Src K g' σ s' v d := by
  rcases h with h | ⟨i, hv, h | h⟩
  · exact .inl (h.mono le)
  · exact .inr ⟨i, hv, .inl (k i _ h fun _ z => by cases z)⟩
  · exact .inr ⟨i, hv, .inr (k i _ h fun _ z => by cases z)⟩
theorem frzR_run {r : VR} {d : DL.D} (e : frzR r s = .ok d s') (e0 : Ev g0 H0 σ0 s0 g H σ s) (sd : SD K g H σ s) (h : RVR K σ H0 g H s v r) :
    ∃ g', SD K g' H σ s' ∧ Ev g0 H0 σ0 s0 g' H σ s' ∧ Src K g' σ s' v d ∧ (∀ v' r', RVR K σ H0 g H s v' r' → (∀ a d d2, r' = .t (.ow d) → v' = .ref a → r = .t (.ow d2) → v ≠ .ref a) → RVR K σ H0 g' H s' v' r') ∧ Le g g' := by
  rcases frzR_is r s with q | ⟨i, d', rfl, q, hi⟩
  · rw [q] at e
    obtain ⟨g1, a1, a2, a3, a4, a5⟩ := frz_run e e0 sd h
    exact ⟨g1, a1, a2, .inl a3, a4, a5⟩
  · rw [q] at e; cases e
    exact ⟨g, sd, e0, .inr ⟨i, h, hi⟩, fun _ _ z _ => z, .refl g⟩
theorem frzRs_run : ∀ {rs : List VR} {vs : List V} {ds : List DL.D} {s s' : State} {g : Gh}, frzRs rs s = .ok ds s' → Ev g0 H0 σ0 s0 g H σ s → SD K g H σ s → RVRs K σ H0 g H s vs rs →
    ∃ g', SD K g' H σ s' ∧ Ev g0 H0 σ0 s0 g' H σ s' ∧ Srcs K g' σ s' vs ds ∧ Le g g'
  | [], _, _, _, _, g, e, e0, sd, h => by
    cases h
    cases e
    exact ⟨g, sd, e0, .nil, .refl g⟩
  | r :: rs, _, ds, s, s', g, e, e0, sd, h => by
    cases h with
    | @cons v _ vs _ h1 h2 ap =>
      unfold frzRs at e
      rw [bind_eq] at e
      cases q : frzR r s with
      | bad => rw [q] at e; cases e
      | err x s1 => rw [q] at e; cases e
      | ok d s1 =>
        rw [q] at e
        have e : (frzRs rs >>= fun ds => pure (d :: ds)) s1 = .ok ds s' := e
        rw [bind_eq] at e
        obtain ⟨g1, sd1, e1, rp, tr, le1⟩ := frzR_run q e0 sd h1
        have h3 : ∀ {us : List V} {ts : List VR}, RVRs K σ H0 g H s us ts → (∀ p ∈ us.zip ts, p ∈ vs.zip rs) → RVRs K σ H0 g1 H s1 us ts := by
          intro us ts hh
          induction hh with
          | nil => exact fun _ => .nil
          | cons a b c ih =>
            intro hm
            exact .cons (tr _ _ a fun b' d' d2 e1 e2 e3 => fun e4 => ap b' d2 e3 e4 _ (hm _ List.mem_cons_self) d' e1 e2) (ih fun p hp => hm p (List.mem_cons_of_mem _ hp)) c
        cases q2 : frzRs rs s1 with
        | bad => rw [q2] at e; cases e
        | err x s2 => rw [q2] at e; cases e
        | ok ds2 s2 =>
          rw [q2] at e
          cases e
          obtain ⟨g2, sd2, e2, rp2, le2⟩ := frzRs_run q2 e1 sd1 (h3 h2 fun _ h => h)
          exact ⟨g2, sd2, e2, .cons (rp.held le2 fun j w hw n => frzRs_keep q2 hw n) rp2, le1.trans le2⟩
theorem Cur.frzRs {α β : Type} {Wx : WX} {R : Gh → Hp → State → β → α → Prop} {Q : β → Hp → Prop} {g1 : Gh} {H1 : Hp} {s1 : State} {rs : List VR} {vs : List V} {k : List DL.D → M α} (c : Cur K Wx σ R Q g0 H0 s0 ((DL.frzRs rs >>= k) s1) g1 H1 s1) (h : RVRs K σ H0 g1 H1 s1 vs rs) :
    ∃ ds g2 s2, Cur K Wx σ R Q g0 H0 s0 (k ds s2) g2 H1 s2 ∧ Srcs K g2 σ s2 vs ds ∧ Le g1 g2 := by
  rw [bind_eq] at c
  rcases frzRs_res rs s1 with ⟨d, s2, e⟩ | e
  · rw [e] at c
    obtain ⟨g2, sd2, ev2, rp, le⟩ := frzRs_run e c.ev c.sd h
    exact ⟨d, g2, s2, ⟨ev2, sd2, c.post⟩, rp, le⟩
  · rw [e] at c
    exact (c.notBad rfl).elim
end
section
variable {X : Cx} {Wx : WX} {l : Expr} {pos p p1 : Pos} {fl : M (List VR)} {fa : M VR} {ft : M Bool} {fe : M VR} {pt : Pt} {elt tg iter c : Expr} {ifs : List Expr} {scope : Scope} {own : List (Str × Nat)}
theorem dts_one (h : DT X Wx c ft) : DTs X Wx [c] ft := pts_one h
structure DBlk (X : Cx) (Wx : WX) (k : Nat) (scope : Scope) (own : List (Str × Nat)) (tg : Expr) (ifs : List Expr) (elt : Expr) (pt : Pt) (ft : M Bool) (fe : M VR) : Prop where
  bd : Bd X Wx k
  ok : BlkOk X.N X.env.scope scope own
  hg : ∀ (s : Shared) (H : Hp) (C : Addr) (cl : List (Str × Addr)) (fp : List Addr), Bd (X.blk s H scope (compEnvC scope cl C X.env) fp) WF k → DG (X.blk s H scope (compEnvC scope cl C X.env) fp) tg pt
  ht : ∀ (s : Shared) (H : Hp) (C : Addr) (cl : List (Str × Addr)) (fp : List Addr), Bd (X.blk s H scope (compEnvC scope cl C X.env) fp) WF k → DTs (X.blk s H scope (compEnvC scope cl C X.env) fp) WF ifs ft
  he : ∀ (s : Shared) (H : Hp) (C : Addr) (cl : List (Str × Addr)) (fp : List Addr), Bd (X.blk s H scope (compEnvC scope cl C X.env) fp) WF k → DV (X.blk s H scope (compEnvC scope cl C X.env) fp) WF elt fe
  hv : ∀ i ∈ pt.vs, i ∈ own.map (·.2)
def wI (K : PySem.W.Frag) (Wx : WX) (h : List DL.D → Option (List DL.D)) (fl : M (List VR)) : TI := fun σ H R => tM K Wx (RVL K) fl σ H fun vs H1 => ∃ g ds s, SD K g H1 σ s ∧ Srcs K g σ s vs ds ∧ ∃ items, h ds = some items ∧ ∀ J, Iter K J g H1 σ s items → R J H1
def DItr (X : Cx) (Wx : WX) (tg iter : Expr) (h : List DL.D → Option (List DL.D)) (fl : M (List VR)) : Prop := PI X tg iter (wI X.K Wx h fl)
theorem tM.one {K : PySem.W.Frag} {Wx : WX} {f : M VR} {σ : Slots} {H : Hp} {Q : List V → Hp → Prop} (q : tM K Wx (RVL K) (dOne f) σ H Q) : tM K Wx (RVR K) f σ H fun v H1 => Q [v] H1 := by
  obtain ⟨g, s, sd, p⟩ := q
  refine ⟨g, s, sd, ?_⟩
  unfold dOne at p
  rw [bind_eq] at p
  cases q : f s with
  | bad => rw [q] at p; exact p
  | err x s1 => rw [q] at p; exact p
  | ok r s1 =>
    rw [q] at p
    exact fun v g' H' sd' ev rv => p [v] g' H' sd' ev (.cons rv .nil fun _ _ _ _ _ hp => by simp at hp)
theorem di_seq {e : Expr} (h : DV X Wx e fa) : DItr X Wx tg e itS (dOne fa) := ⟨fun pins s σ H R I q => (pi_seq h).run pins s σ H R I (by
  refine q.one.mono fun v H1 ⟨g, ds, s, sd, rs, items, hi, k⟩ => ?_
  cases rs with
  | cons a b =>
    rename_i d ds
    cases b
    have src := a
    unfold itS at hi
    split at hi
    · rename_i ds hd
      cases hi; cases hd
      obtain ⟨ad, xs, rfl, hx, _⟩ := (src.view sd).lst sd
      exact ⟨ad, rfl, .inl ⟨⟨xs, .of hx⟩, k _ (iter_lst src)⟩⟩
    · rename_i ds hd
      cases hi; cases hd
      obtain ⟨ad, xs, rfl, hx, _⟩ := (src.view sd).tup sd
      exact ⟨ad, rfl, .inr ⟨⟨xs, hx⟩, k _ (iter_tup (xs := xs) src)⟩⟩
    · rename_i ns hd
      cases hi; cases hd
      cases e2 : (src.view sd).sc (fun _ z => z) with
      | frl q2 => exact ⟨_, rfl, .inl ⟨⟨_, sd.seq q2⟩, k _ (iter_frl src)⟩⟩
    · cases hi)⟩
theorem comp_lc {K : PySem.W.Frag} {σ : Slots} {H H0 : Hp} {g0 : Gh} {s0 : State} {g : Gh} {s : State} {Q : V → Hp → Prop} {h : List DL.D → Option (List DL.D)} {vs : List Nat} (hv : ∀ i ∈ pt.vs, i ∈ vs)
    (c : Cur K Wx σ (fun g H s v t => RT K H0 g H σ s v t) Q g0 H0 s0 (dComp h pt vs ft fe fl s) g H s) : tLc (wI K Wx h fl) (tP K pt) (tM K WF RB ft) (tV K WF fe) vs σ H Q := by
  refine c.bind.mono fun xs H1 ⟨rs, g1, s1, c1, r1, e1⟩ => ?_
  obtain ⟨ds, g2, s2, c2, r2, _⟩ := c1.frzRs (RVRs.past c.ev.live r1)
  cases q : h ds with
  | none => exact (c2.notBad (by rw [q]; rfl)).elim
  | some items =>
    refine ⟨g2, ds, s2, c2.sd, r2, items, q, fun J it => ?_⟩
    exact comp_run (by rw [q] at c2; exact c2) it hv
theorem ds_setLc {i : Nat} {y : Str} {py spos : Pos} {h : List DL.D → Option (List DL.D)} {k : Nat} (b : DBlk X Wx k scope own tg ifs elt pt ft fe) (hi : DItr X Wx tg iter h fl) (hy : X.N[i]? = some y) (hyl : X.env.scope.names.lookup y = some .local)
    (hsw : swapsWith (.ListComp elt [⟨tg, iter, ifs, 0⟩] scope pos) (some (.Name y py)) spos.line X.env = pure true) (hs : ∀ x, foldedSetIterable iter X.env x = pure x := by intro _; rfl) :
    DS X Wx (.Assign [.Name y py] (.ListComp elt [⟨tg, iter, ifs, 0⟩] scope pos) spos) (dAsg i (dComp h pt (own.map (·.2)) ft fe fl)) := ⟨fun pins s σ H D I q => (ps_setLc (g := tP X.K pt) (tt := tM X.K WF RB ft) (te := tV X.K WF fe) b.bd.calm b.bd.nd hy hyl hsw hi b.ok (fun s H C cl fp => b.hg s H C cl fp b.bd.blk) (fun s H C cl fp => b.ht s H C cl fp b.bd.blk) (fun s H C cl fp => b.he s H C cl fp b.bd.blk) hs).run pins s σ H D I (by
  obtain ⟨g, s, c⟩ := tM.start (asg_run q)
  exact comp_lc b.hv c)⟩
end
end DL
set_option Elab.async false
set_option linter.all false
set_option maxRecDepth 100000
set_option maxHeartbeats 1000000
namespace DL
open PySem PySem.Spec PyProof.Rows L2
theorem fn_dl {P : Program} {w : World} {K : PySem.W.Frag} {mg : Str → Option Value} {base : Heap} {x qual : Str} {st : Stmt} {f : Addr} {fd : FuncData} {N ps : List Str} {k : Nat} {b : M Flow} (F : Fun K x qual st f fd) (S : FnScope N ps (defScope st))
    (h : ∀ (cdv : Value) (A : Around) (outer : List Env) (s : Shared) (H : Hp) (E : XK) (X : Cx), X = cxOf (L2.CX P w) P w K mg base N qual (defScope st) f cdv A outer s H E → Bd X (fun cls d _ H' => E cls d H') k → DSs X (fun cls d _ H' => E cls d H') (defBody st) b) :
    FnOk P w K mg base (L2.CX P w) (k + 1) f fd ps (spF K ps N b) :=
  F.okG S (fun vs H Q E q => q.1) fun cdv A outer s H vs Q E hr q => ⟨_, h cdv A outer s H E _ rfl ⟨rfl, hr, takes_of rfl rfl rfl rfl, passes_of rfl, S.nd⟩, q.2⟩
section
variable {K : PySem.W.Frag} {Wx : WX} {g g' g0 : Gh} {H H' H0 : Hp} {σ σ0 : Slots} {s s' s0 : State} {v : V} {C : Addr}
end
section
variable {X : Cx} {Wx : WX} {C : Addr} {f : Str} {e o : Expr} {pos pos' : Pos} {fv fo : M VR}
end
section
variable {K : PySem.W.Frag} {g g' : Gh} {H H' : Hp} {σ σ' : Slots} {s s' : State} {a : Addr} {o' : HO} {i : Nat} {m m' : MO}
theorem SD.writeM (sd : SD K g H σ s) (e : s.sto[i]? = some m) (ea : g.η[i]? = some a) (ob : MObAt K g a o' m') :
    SD K g (upd H a o') σ { s with sto := s.sto.set i m' } ∧ Ev g H σ s g (upd H a o') σ { s with sto := s.sto.set i m' } := by
  have mem : a ∈ g.η := List.mem_of_getElem? ea
  obtain ⟨ga, nd⟩ := sd.ng a mem
  obtain ⟨o, ho, _⟩ := sd.sto i m a e ea
  have il : i < s.sto.length := (List.getElem?_eq_some_iff.mp e).1
  refine ⟨⟨fun b u eb => ?_, sd.len, fun j w ej => ?_, sd.inj, by show (s.sto.set i m').length = _; rw [List.length_set]; exact sd.stl, fun j mo b e1 e2 => ?_, sd.nd, sd.ng, ?_⟩,
    ⟨.refl g, fun b u eb nm => ?_, fun b l => ?_, fun b _ z => .inl z, fun _ _ z => z, fun b mm => .inl mm, fun b mm => .inl mm, fun b mm => .inl mm, fun j x h => ⟨rfl, x, .inl h⟩, fun j x h => ⟨rfl, h⟩, fun j x h => ⟨rfl, h⟩⟩⟩
  · have ne : b ≠ a := fun z => by subst z; rw [ga] at eb; cases eb
    exact (sd.gh b u eb).keep fun _ q => by rw [upd_ne ne]; exact q
  · obtain ⟨v, ev, wa⟩ := sd.slot j w ej
    have fr : w.held = true → ∀ b, v = .ref b → Free1 g b := fun hw b eb => by
      cases w with
      | fz d => cases hw
      | own d => obtain ⟨c, _, ec, f, _⟩ := wa; rw [ec] at eb; cases eb; exact f
      | lent d => obtain ⟨c, _, ec, f, _⟩ := wa; rw [ec] at eb; cases eb; exact f
      | lk d => obtain ⟨c, _, ec, f, _⟩ := wa; rw [ec] at eb; cases eb; exact f
      | lkl d => obtain ⟨c, _, ec, f, _⟩ := wa; rw [ec] at eb; cases eb; exact f
    exact ⟨v, ev, wa.keep (.refl g) (fun b u eb hw q => by rw [upd_ne fun z => (fr hw b eb).2.1 (by rw [z]; exact mem)]; exact q) fun _ _ _ z => z⟩
  · have e1 : (s.sto.set i m')[j]? = some mo := e1
    by_cases z : i = j
    · subst z
      rw [List.getElem?_set_self il] at e1
      cases e1
      rw [ea] at e2; cases e2
      exact ⟨o', upd_same, ob⟩
    · rw [List.getElem?_set_ne z] at e1
      obtain ⟨u, q, mm⟩ := sd.sto j mo b e1 e2
      have ne : b ≠ a := fun w => by
        subst w
        obtain ⟨l1, q1⟩ := List.getElem?_eq_some_iff.mp ea
        exact z ((List.getElem?_inj l1 sd.nd).mp (ea.trans e2.symm))
      exact ⟨u, by rw [upd_ne ne]; exact q, mm⟩
  · have dd : DrOk g H g.dr s.dr := sd.dr
    refine (show DrOk g (upd H a o') g.dr s.dr from dd.map fun x l y eq q => ?_)
    obtain ⟨c, q1, q2⟩ := q.dict
    have n1 : x ≠ a := fun z => nd ⟨x, l, eq, .inl z.symm⟩
    have n2 : l ≠ a := fun z => nd ⟨x, l, eq, .inr z.symm⟩
    exact ⟨⟨c, by rw [upd_ne n1]; exact q1, q2⟩, by rw [upd_ne n2]; exact q.list, q.ne, q.ga, q.gl⟩
  · rw [upd_ne fun z => nm (.inr (.inl (by rw [z]; exact mem)))]; exact eb
  · by_cases z : b = a
    · subst z; rw [upd_same]; simp
    · rw [upd_ne z]; exact l
end
section
variable {K : PySem.W.Frag} {g : Gh} {H H0 : Hp} {σ : Slots} {s s' : State} {C : Addr} {f : Str} {v y : V} {d : DL.D} {fl : Flow}
end
section
variable {X : Cx} {Wx : WX} {C : Addr} {f : Str} {e o : Expr} {pos pos' : Pos} {fv fo : M VR}
end
end DL
set_option Elab.async false
set_option linter.all false
set_option maxRecDepth 100000
set_option maxHeartbeats 1000000
namespace DL
open PySem PySem.Spec PyProof.Rows L2
section
variable {K : PySem.W.Frag} {g : Gh} {H H0 : Hp} {σ : Slots} {s : State} {v : V} {C : Addr} {m : Str} {r : VR}
end
section
variable {X : Cx} {Wx : WX} {k : Nat} {C f : Addr} {fd : FuncData} {ps N : List Str} {b : M Flow} {dvs : List V} {ds : List Value} {dw : List DL.D} {x m : Str} {p pos apos : Pos} {o e : Expr} {es : List Expr} {fo : M VR} {fl : M (List VR)} {ms : List AM}
end
def pushW (s : State) (w : W) : State := { s with env := s.env ++ [some w] }
section
variable {K : PySem.W.Frag} {g g' g0 : Gh} {H H' H0 : Hp} {σ σ0 : Slots} {s s' s0 : State} {a dx C : Addr}
theorem push_get {w u : W} {i : Nat} (h : (pushW s w).env[i]? = some (some u)) : s.env[i]? = some (some u) ∨ (i = s.env.length ∧ u = w) := by
  have h : (s.env ++ [some w])[i]? = some (some u) := h
  rw [List.getElem?_append] at h
  split at h
  · exact .inl h
  · rename_i hl
    cases q : i - s.env.length with
    | zero => rw [q] at h; cases h; exact .inr ⟨by omega, rfl⟩
    | succ n => rw [q] at h; cases h
theorem SD.push {w : W} (sd : SD K g H σ s) (wa : WAt K g H (.ref a) w) (nh : ¬ Hd σ s a) : SD K g H (σ ++ [some (.ref a)]) (pushW s w) where
  gh := sd.gh
  len := by show (s.env ++ [some w]).length = _; rw [List.length_append, List.length_append, sd.len]; rfl
  slot := fun i u h => by
    rcases push_get h with h | ⟨rfl, rfl⟩
    · obtain ⟨v, ev, wa⟩ := sd.slot i u h
      exact ⟨v, by rw [List.getElem?_append_left (by rw [← sd.len]; exact (List.getElem?_eq_some_iff.mp h).1)]; exact ev, wa⟩
    · exact ⟨.ref a, by rw [sd.len, List.getElem?_append_right (Nat.le_refl _), Nat.sub_self]; rfl, wa⟩
  inj := fun i j u1 u2 c e1 e2 h1 h2 x1 x2 => by
    have at_ : ∀ {l : Nat} {u : W}, s.env[l]? = some (some u) → (σ ++ [some (V.ref a)])[l]? = σ[l]? := fun {l u} e => List.getElem?_append_left (by rw [← sd.len]; exact (List.getElem?_eq_some_iff.mp e).1)
    have top : (σ ++ [some (V.ref a)])[s.env.length]? = some (some (V.ref a)) := by rw [sd.len, List.getElem?_append_right (Nat.le_refl _), Nat.sub_self]; rfl
    rcases push_get e1 with e1 | ⟨z1, _⟩
    · rw [at_ e1] at x1
      rcases push_get e2 with e2 | ⟨z2, _⟩
      · rw [at_ e2] at x2
        exact sd.inj i j u1 u2 c e1 e2 h1 h2 x1 x2
      · rw [z2, top] at x2; cases x2
        exact (nh ⟨i, u1, e1, h1, x1⟩).elim
    · rw [z1, top] at x1; cases x1
      rcases push_get e2 with e2 | ⟨z2, _⟩
      · rw [at_ e2] at x2
        exact (nh ⟨j, u2, e2, h2, x2⟩).elim
      · rw [z1, z2]
  stl := sd.stl
  sto := sd.sto
  nd := sd.nd
  ng := sd.ng
  dr := sd.dr
def popS (l : Nat) (s : State) : State := { s with env := s.env.take l }
theorem pop_get {l i : Nat} {u : W} (h : (popS l s).env[i]? = some (some u)) : s.env[i]? = some (some u) ∧ i < l := by
  have h : (s.env.take l)[i]? = some (some u) := h
  rw [List.getElem?_take] at h
  split at h
  · rename_i hl; exact ⟨h, hl⟩
  · cases h
theorem SD.pop {x : Option V} (sd : SD K g H (σ ++ [x]) s) : SD K g H σ (popS σ.length s) where
  gh := sd.gh
  len := by
    show (s.env.take σ.length).length = _
    rw [List.length_take, sd.len, List.length_append]
    simp
  slot := fun i u h => by
    obtain ⟨h, hl⟩ := pop_get h
    obtain ⟨v, ev, wa⟩ := sd.slot i u h
    exact ⟨v, by rw [List.getElem?_append_left hl] at ev; exact ev, wa⟩
  inj := fun i j u1 u2 c e1 e2 h1 h2 x1 x2 => by
    obtain ⟨e1, l1⟩ := pop_get e1
    obtain ⟨e2, l2⟩ := pop_get e2
    exact sd.inj i j u1 u2 c e1 e2 h1 h2 (by rw [List.getElem?_append_left l1]; exact x1) (by rw [List.getElem?_append_left l2]; exact x2)
  stl := sd.stl
  sto := sd.sto
  nd := sd.nd
  ng := sd.ng
  dr := sd.dr
end
section
variable {K : PySem.W.Frag} {Wx : WX} {g g0 : Gh} {H H0 : Hp} {σ : Slots} {s s0 : State} {C : Addr} {Q : V → Hp → Prop}
theorem RHs.push {x : Option V} : ∀ {vs : List V} {hs : List HS}, RHs K g σ vs hs → RHs K g (σ ++ [x]) vs hs
  | _, _, .nil => .nil
  | v :: _, .d d :: _, .cons a r => .cons (show RH K g (σ ++ [x]) v (.d d) from a) (RHs.push r)
  | v :: _, .slot i :: _, .cons a r => by
    have a : σ[i]? = some (some v) := a
    refine .cons ?_ (RHs.push r)
    show (σ ++ [x])[i]? = some (some v)
    rw [List.getElem?_append_left (List.getElem?_eq_some_iff.mp a).1]; exact a
end
section
variable {X : Cx} {Wx : WX} {k : Nat} {C f : Addr} {fd : FuncData} {ps N : List Str} {b : M Flow} {dvs : List V} {ds : List Value} {dw : List DL.D} {x : Str} {p pos : Pos} {e : Expr} {es : List Expr} {fl : M (List VR)} {ms : List AM}
end
end DL
set_option Elab.async false
set_option linter.all false
set_option maxRecDepth 100000
set_option maxHeartbeats 1000000
namespace DL
open PySem PySem.Spec PyProof.Rows L2
inductive DK where
  | rest | turn | mix | cells
def DK.str : DK → Str
  | .rest => "rest" | .turn => "turn" | .mix => "mix" | .cells => "cells"
def DrawSt.set (st : DrawSt) (k : DK) (n : Int) : DrawSt := match k with
  | .rest => { st with rest := n }
  | .turn => { st with turn := n }
  | .mix => { st with mix := n }
  | .cells => st
def drOf (i : Nat) : M DrawSt := fun s => match s.env[i]?, s.dr with
  | some (some (.fz .draw)), some st => .ok st s
  | _, _ => .bad
def putDr (st : DrawSt) : M Flow := fun s => .ok .nx { s with dr := some st }
def DrawSt.get (st : DrawSt) : DK → DL.D
  | .rest => .int st.rest
  | .turn => .int st.turn
  | .mix => .int st.mix
  | .cells => .lst (st.cells.map D.int)
def DrawSt.val (st : DrawSt) (c : Addr) : DK → V
  | .rest => .int st.rest
  | .turn => .int st.turn
  | .mix => .int st.mix
  | .cells => .ref c
theorem divWide {i j : Int} (h : 0 < j ∧ j < 18446744073709551616) : L2.CDivP i j := by
  refine ⟨h.1, PyProof.noPylong_of_log2 ?_⟩
  have h0 : j.natAbs ≠ 0 := by omega
  have h1 : j.natAbs.log2 < 64 := (Nat.log2_lt h0).mpr (Nat.lt_of_lt_of_eq (show j.natAbs < 18446744073709551616 by omega) (by decide))
  omega
def drGet (k : DK) (i : Nat) : M T := drOf i >>= fun st => pure (.fz (st.get k))
def drSet (k : DK) (i : Nat) (fv : M VR) : M Flow := fv >>= fun r => frz r >>= fun d => drOf i >>= fun st => match d, k with
  | .int n, .rest => putDr (st.set .rest n)
  | .int n, .turn => putDr (st.set .turn n)
  | .int n, .mix => putDr (st.set .mix n)
  | _, _ => M.bad
def drPop (i : Nat) : M Flow := drOf i >>= fun st => match st.large with
  | x :: xs => putDr { st with rest := x, large := xs }
  | [] => M.bad
def drNe (i : Nat) : M Bool := drOf i >>= fun st => match neT (.lst (st.large.map D.int)) (.lst []) with
  | some (.fz (.bl b)) => pure b
  | _ => M.bad
def drDiv (i j k : Nat) : M Flow := drOf i >>= fun st s => match s.env[j]? with
  | some (some (.fz (.int n))) => if 0 < n ∧ n < 18446744073709551616 then (match setO k (.fz (.int (st.rest % n))) { s with dr := some (st.set .rest (st.rest / n)) } with
    | some s' => .ok .nx s'
    | none => .bad) else .bad
  | _ => .bad
section
variable {K : PySem.W.Frag} {g g' : Gh} {H H' : Hp} {σ : Slots} {s s' : State} {a l c : Addr} {st st' : DrawSt} {i : Nat}
theorem drOf_run (sd : SD K g H σ s) (i : Nat) : (∃ st a l, drOf i s = .ok st s ∧ s.env[i]? = some (some (.fz .draw)) ∧ s.dr = some st ∧ σ[i]? = some (some (.ref a)) ∧ g.dr = some (a, l) ∧ DrAt g H a l st) ∨ drOf i s = .bad := by
  unfold drOf
  split
  · rename_i st h1 h2
    obtain ⟨v, ev, wa⟩ := sd.slot i _ h1
    cases (show Rep K g v .draw from wa) with
    | draw e =>
      rename_i a l
      have q := sd.dr
      rw [e, h2] at q
      exact .inl ⟨st, a, l, rfl, h1, h2, ev, e, q⟩
  · exact .inr rfl
theorem SD.drUpd (sd : SD K g H σ s) (e : g.dr = some (a, l)) (q : DrAt g H' a l st') (k : ∀ b, b ≠ a → b ≠ l → H' b = H b) : SD K g H' σ { s with dr := some st' } ∧ Ev g H σ s g H' σ { s with dr := some st' } := by
  have dr : ∀ b, b = a ∨ b = l → IsDr g b := fun b h => ⟨a, l, e, h⟩
  have live : ∀ b, H b ≠ none → H' b ≠ none := fun b hb => by
    by_cases z : b = a
    · subst z; obtain ⟨c, h, _⟩ := q.dict; rw [h]; simp
    · by_cases z2 : b = l
      · subst z2; rw [q.list]; simp
      · rw [k b z z2]; exact hb
  refine ⟨⟨fun b u eb => ?_, sd.len, fun j w ej => ?_, sd.inj, sd.stl, fun j mo b e1 e2 => ?_, sd.nd, sd.ng, ?_⟩,
    ⟨.refl g, fun b u eb nm => ?_, live, fun b _ z => .inl z, fun _ _ z => z, fun b mm => .inl mm, fun b mm => .inl mm, fun b mm => .inl mm, fun j x h => ⟨rfl, x, .inl h⟩, fun j x h => ⟨rfl, h⟩, fun j x h => ⟨rfl, h⟩⟩⟩
  · have n1 : b ≠ a := fun z => by subst z; rw [q.ga] at eb; cases eb
    have n2 : b ≠ l := fun z => by subst z; rw [q.gl] at eb; cases eb
    exact (sd.gh b u eb).keep fun _ h => by rw [k b n1 n2]; exact h
  · obtain ⟨v, ev, wa⟩ := sd.slot j w ej
    have fr : w.held = true → ∀ b, v = .ref b → Free1 g b := fun hw b eb => by
      cases w with
      | fz d => cases hw
      | own d => obtain ⟨c, _, ec, f, _⟩ := wa; rw [ec] at eb; cases eb; exact f
      | lent d => obtain ⟨c, _, ec, f, _⟩ := wa; rw [ec] at eb; cases eb; exact f
      | lk d => obtain ⟨c, _, ec, f, _⟩ := wa; rw [ec] at eb; cases eb; exact f
      | lkl d => obtain ⟨c, _, ec, f, _⟩ := wa; rw [ec] at eb; cases eb; exact f
    exact ⟨v, ev, wa.keep (.refl g) (fun b u eb hw h => by
      rw [k b (fun z => (fr hw b eb).2.2 (dr b (.inl z))) fun z => (fr hw b eb).2.2 (dr b (.inr z))]; exact h) fun _ _ _ z => z⟩
  · obtain ⟨u, h, mm⟩ := sd.sto j mo b e1 e2
    have nd := (sd.ng b (List.mem_of_getElem? e2)).2
    exact ⟨u, by rw [k b (fun z => nd (dr b (.inl z))) fun z => nd (dr b (.inr z))]; exact h, mm⟩
  · show DrOk g H' g.dr (some st')
    rw [e]; exact q
  · rw [k b (fun z => nm (.inr (.inr (dr b (.inl z))))) fun z => nm (.inr (.inr (dr b (.inr z))))]; exact eb
theorem DrAt.key (q : DrAt g H a l st) : ∃ c, H a = some (.dK (drKvs l c st)) ∧ g.G c = some (.lst (st.cells.map V.int)) := q.dict
theorem SD.drSet (sd : SD K g H σ s) (e : g.dr = some (a, l)) (q : DrAt g H a l st) (hc : g.G c = some (.lst (st'.cells.map V.int))) (hl : st'.large = st.large) : SD K g (upd H a (.dK (drKvs l c st'))) σ { s with dr := some st' } ∧ Ev g H σ s g (upd H a (.dK (drKvs l c st'))) σ { s with dr := some st' } :=
  sd.drUpd e ⟨⟨c, upd_same, hc⟩, by rw [upd_ne q.ne.symm, hl]; exact q.list, q.ne, q.ga, q.gl⟩ fun b n1 _ => upd_ne n1
theorem ints_reps {xs : List V} : ∀ {ns : List Int}, Reps K g xs (ns.map D.int) → xs = ns.map V.int := fun {ns} h => by
  induction ns generalizing xs with
  | nil => cases h; rfl
  | cons n ns ih =>
    cases h with
    | cons a b => cases a; rw [ih b]; rfl
end
section
variable {X : Cx} {Wx : WX} {x y : Str} {p p2 p3 p4 pos tpos apos cpos : Pos} {i j k n : Nat} {e : Expr} {fv : M VR}
theorem kvs_get (kk : DK) (l c : Addr) (st : DrawSt) : valV (drKvs l c st) (.inr kk.str) = some (st.val c kk) := by
  cases kk <;> rfl
theorem de_drGet (kk : DK) {ks : Str} (hks : ks = kk.str) (hu : X.A.units + 1 < cLine) (hN : X.N[i]? = some x) (hv : Vis X.env.scope x) (hd : (x == ("__debug__" : Str)) = false := by decide) (hcd : (x == ("__classdict__" : Str)) = false := by decide) (hs : PlainIx (.Constant (.str ks) n p2) := by exact fun _ _ => rfl) :
    DE X Wx (.Subscript (.Name x p) (.Constant (.str ks) n p2) pos) (drGet kk i) := ⟨fun pins s σ H Q I q => (pe_ix (ix_dict hu) (pe_var hN hv hd hcd) pe_str hs).run pins s σ H Q I (by
  subst hks
  obtain ⟨g, st, k0⟩ := q.start
  rcases drOf_run k0.sd i with ⟨dr, a, l, q1, _, _, ea, eg, da⟩ | q1
  · obtain ⟨c, hc, gc⟩ := da.key
    refine ⟨.ref a, ea, a, _, rfl, .inl ⟨_, .inr kk.str, .inl hc, rfl, (kvs_get kk l c dr).symm⟩, ?_⟩
    refine k0.done (a := .fz (dr.get kk)) (by unfold drGet; rw [bind_eq, q1]; rfl) ⟨show TAt X.K g H (dr.val c kk) (.fz (dr.get kk)) from ?_, fun _ _ z => nomatch z⟩
    show Rep X.K g (dr.val c kk) (dr.get kk)
    cases kk with
    | rest => exact .int _
    | turn => exact .int _
    | mix => exact .int _
    | cells => exact .lst gc (.ints _)
  · exact (k0.notBad (by unfold drGet; rw [bind_eq, q1])).elim)⟩
theorem kvs_put (kk : DK) (l c : Addr) (st : DrawSt) (m : Int) (h : kk ≠ .cells) : putK (drKvs l c st) (.inr kk.str) (V.int m) = drKvs l c (st.set kk m) := by
  cases kk with
  | cells => exact (h rfl).elim
  | _ => rfl
theorem ds_drSet (kk : DK) {ks : Str} (hks : ks = kk.str) (hu : X.A.units + 1 < cLine) (hN : X.N[i]? = some x) (hv : Vis X.env.scope x) (he : DV X Wx e fv) (hd : (x == ("__debug__" : Str)) = false := by decide) (hcd : (x == ("__classdict__" : Str)) = false := by decide)
    (ha : ∀ v, assign (.Subscript (.Name x p) (.Constant (.str ks) n p2) tpos) X.env v = (do
      let ov ← holding [v] (eval (.Name x p) X.env)
      let iv ← holding [v, ov] (eval (.Constant (.str ks) n p2) X.env)
      standAt tpos
      holding [v, ov, iv] (setItem ov iv v)
      release [v, ov, iv] []) := by intro _; rfl)
    (hs : swapsWithSole [.Subscript (.Name x p) (.Constant (.str ks) n p2) tpos] e pos.line X.env = pure false := by rfl) (hw : swappedStores [.Subscript (.Name x p) (.Constant (.str ks) n p2) tpos] e X.env = pure none := by rfl)
    (h1 : (assignEach [.Subscript (.Name x p) (.Constant (.str ks) n p2) tpos] X.env).map (·.2) = [assign (.Subscript (.Name x p) (.Constant (.str ks) n p2) tpos) X.env] := by rfl) :
    DS X Wx (.Assign [.Subscript (.Name x p) (.Constant (.str ks) n p2) tpos] e pos) (drSet kk i fv) := ⟨fun pins s σ H D I q => (ps_asg he (pg_sub (pe_var hN hv hd hcd) pe_str (set_dict hu) ha) hs hw h1).run pins s σ H D I (by
  subst hks
  obtain ⟨g, st, k0⟩ := q.start
  refine k0.bind.mono fun v H1 ⟨r, g1, s1, k1, r1, e1⟩ => ?_
  obtain ⟨d, g2, s2, k2, rp, _⟩ := k1.frz r1
  rcases drOf_run k2.sd i with ⟨dr, a, l, q1, _, _, ea, eg, da⟩ | q1
  · obtain ⟨c, hc, gc⟩ := da.key
    have k3 : CurS X.K Wx D g H σ st ((match d, kk with
      | .int n, .rest => putDr (dr.set .rest n)
      | .int n, .turn => putDr (dr.set .turn n)
      | .int n, .mix => putDr (dr.set .mix n)
      | _, _ => M.bad) s2) g2 H1 σ s2 := ⟨k2.ev, k2.sd, by have p := k2.post; rw [bind_eq, q1] at p; exact p⟩
    have key : ∃ m, d = .int m ∧ kk ≠ .cells := by
      cases kk with
      | cells => cases d <;> exact (k3.notBad rfl).elim
      | _ =>
        cases d with
        | int m => exact ⟨m, rfl, fun z => nomatch z⟩
        | _ => exact (k3.notBad rfl).elim
    obtain ⟨m, rfl, hk⟩ := key
    have k4 : CurS X.K Wx D g H σ st (putDr (dr.set kk m) s2) g2 H1 σ s2 := by
      cases kk with
      | cells => exact (hk rfl).elim
      | _ => exact k3
    cases rp
    obtain ⟨sd5, ev5⟩ := k4.sd.drSet (st' := dr.set kk m) eg da (c := c) (by cases kk <;> exact gc) (by cases kk <;> rfl)
    refine ⟨.ref a, ea, a, _, rfl, .inl ⟨_, .inr kk.str, hc, rfl, (by decide : 5 < sizeLine), rfl⟩, ?_⟩
    rw [kvs_put kk l c dr m hk]
    exact k4.next rfl sd5 ev5
  · exact (k2.notBad (by rw [bind_eq, q1])).elim)⟩
theorem dt_drNe (hu : X.A.units + 64 < cLine) (hN : X.N[i]? = some x) (hv : Vis X.env.scope x) (hd : (x == ("__debug__" : Str)) = false := by decide) (hcd : (x == ("__classdict__" : Str)) = false := by decide) (hs : PlainIx (.Constant (.str "large") n p2) := by exact fun _ _ => rfl) (hm : behindInMarks .NotEq (.List [] p4) = false := by rfl) :
    DT X Wx (.Compare (.Subscript (.Name x p) (.Constant (.str "large") n p2) p3) [.NotEq] [.List [] p4] pos) (drNe i) := ⟨fun pins s σ H Q I q => (pt_cmpR (op_neD hu) (pe_ix (ix_dict (by omega)) (pe_var hN hv hd hcd) pe_str hs) (pe_lst pa_nil) hm).run pins s σ H Q I (by
  obtain ⟨g, st, k0⟩ := q.start
  rcases drOf_run k0.sd i with ⟨dr, a, l, q1, _, _, ea, eg, da⟩ | q1
  · obtain ⟨c, hc, gc⟩ := da.key
    refine ⟨.ref a, ea, a, .ref l, rfl, .inl ⟨_, .inr "large", .inl hc, rfl, rfl⟩, Nat.zero_le _, fun p hp => ?_⟩
    have f1 := k0.sd.free1 hp
    have sd2 := k0.sd.alloc (o := .lst []) hp
    have hl2 : (upd H p (.lst [])) l = some (.lst (dr.large.map V.int)) := by rw [upd_ne (ne_of_none da.list hp)]; exact da.list
    have hx : VAt X.K g (upd H p (.lst [])) (.ref l) (.lst (dr.large.map D.int)) := .inr ⟨l, _, rfl, .inl hl2, _, rfl, .ints _⟩
    have hy : VAt X.K g (upd H p (.lst [])) (.ref p) (.lst []) := .inr ⟨p, _, rfl, .inl upd_same, _, rfl, .nil⟩
    have k1 : Cur X.K Wx σ (RB σ H) Q g H st ((match neT (.lst (dr.large.map D.int)) (.lst []) with | some (.fz (.bl b)) => pure b | _ => M.bad) st) g H st := ⟨k0.ev, k0.sd, by have p := k0.post; unfold drNe at p; rw [bind_eq, q1] at p; exact p⟩
    cases hq : eqD (.lst (dr.large.map D.int)) (.lst []) with
    | none =>
      have z : neT (.lst (dr.large.map D.int)) (.lst []) = none := by unfold neT; rw [hq]; rfl
      exact (k1.notBad (by rw [z]; rfl)).elim
    | some b =>
      obtain ⟨p1, p2, e1, e2, s1, s2, rfl⟩ := eqD_some hq
      refine ⟨p1, p2, hx.dp sd2 e1, hy.dp sd2 e2, s1, s2, _, rfl, ?_⟩
      exact k1.done' (a := !(PyData.eqv p1 p2)) (by rw [show neT (.lst (dr.large.map D.int)) (.lst []) = some (.fz (.bl (!(PyData.eqv p1 p2)))) from by unfold neT; rw [hq]; rfl]; rfl) sd2 (k0.sd.allocEv hp) rfl
  · exact (k0.notBad (by unfold drNe; rw [bind_eq, q1])).elim)⟩
theorem ds_drPop (hu : X.A.units + 1 < cLine) (hN : X.N[i]? = some x) (hv : Vis X.env.scope x) {q1 q2 q3 q4 : Pos} {m1 m2 : Nat} (hd : (x == ("__debug__" : Str)) = false := by decide) (hcd : (x == ("__classdict__" : Str)) = false := by decide) (hs1 : PlainIx (.Constant (.str "large") m1 q2) := by exact fun _ _ => rfl)
    (hbase : attributeBase (.Subscript (.Name x q1) (.Constant (.str "large") m1 q2) q3) "pop" X.env (eval (.Subscript (.Name x q1) (.Constant (.str "large") m1 q2) q3) X.env) = eval (.Subscript (.Name x q1) (.Constant (.str "large") m1 q2) q3) X.env := by rfl)
    (hfew : ((backTo cpos (starEach [.Constant (.int 0) m2 q4] X.env)).all (fun x => !x.1) && (backToKw cpos (keywordEach [] X.env)).all (fun x => x.1.isSome)
      && decide (([.Constant (.int 0) m2 q4] : List Expr).length + ([] : List Keyword).length + (if ([] : List Keyword).isEmpty then 0 else 1) < 30)) = true := by rfl)
    (hline : (apos.endLine == cpos.line) = true := by rfl) (hst : starEach [.Constant (.int 0) m2 q4] X.env = (false, eval (.Constant (.int 0) m2 q4) X.env) :: starEach [] X.env := by rfl) (hplain : (backTo cpos (starEach [] X.env)).any (·.1) = false := by rfl)
    (ha : ∀ v, assign (.Subscript (.Name x p) (.Constant (.str "rest") n p2) tpos) X.env v = (do
      let ov ← holding [v] (eval (.Name x p) X.env)
      let iv ← holding [v, ov] (eval (.Constant (.str "rest") n p2) X.env)
      standAt tpos
      holding [v, ov, iv] (setItem ov iv v)
      release [v, ov, iv] []) := by intro _; rfl)
    (hs : swapsWithSole [.Subscript (.Name x p) (.Constant (.str "rest") n p2) tpos] (.Call (.Attribute (.Subscript (.Name x q1) (.Constant (.str "large") m1 q2) q3) "pop" apos) [.Constant (.int 0) m2 q4] [] cpos) pos.line X.env = pure false := by rfl)
    (hw : swappedStores [.Subscript (.Name x p) (.Constant (.str "rest") n p2) tpos] (.Call (.Attribute (.Subscript (.Name x q1) (.Constant (.str "large") m1 q2) q3) "pop" apos) [.Constant (.int 0) m2 q4] [] cpos) X.env = pure none := by rfl)
    (h1 : (assignEach [.Subscript (.Name x p) (.Constant (.str "rest") n p2) tpos] X.env).map (·.2) = [assign (.Subscript (.Name x p) (.Constant (.str "rest") n p2) tpos) X.env] := by rfl) :
    DS X Wx (.Assign [.Subscript (.Name x p) (.Constant (.str "rest") n p2) tpos] (.Call (.Attribute (.Subscript (.Name x q1) (.Constant (.str "large") m1 q2) q3) "pop" apos) [.Constant (.int 0) m2 q4] [] cpos) pos) (drPop i) :=
  ⟨fun pins s σ H D I q => (ps_asg (pe_bm PySem.F.plainAttrs_list PySem.F.slot_list_pop PySem.F.type_list_pop mt_popAt (pe_ix (ix_dict hu) (pe_var hN hv hd hcd) pe_str hs1) (pa_cons pe_int pa_nil) hbase hfew hline hst hplain) (pg_sub (pe_var hN hv hd hcd) pe_str (set_dict hu) ha) hs hw h1).run pins s σ H D I (by
  obtain ⟨g, st, k0⟩ := q.start
  rcases drOf_run k0.sd i with ⟨dr, a, l, q1, _, _, ea, eg, da⟩ | q1
  · obtain ⟨c, hc, gc⟩ := da.key
    have k1 : CurS X.K Wx D g H σ st ((match dr.large with | x :: xs => putDr { dr with rest := x, large := xs } | [] => M.bad) st) g H σ st := ⟨k0.ev, k0.sd, by have p := k0.post; unfold drPop at p; rw [bind_eq, q1] at p; exact p⟩
    cases hl : dr.large with
    | nil => rw [hl] at k1; exact (k1.notBad rfl).elim
    | cons y ys =>
      rw [hl] at k1
      have hL : H l = some (.lst ((y :: ys).map V.int)) := by rw [← hl]; exact da.list
      refine ⟨.ref a, ea, a, .ref l, rfl, .inl ⟨_, .inr "large", .inl hc, rfl, rfl⟩, .inl ⟨rfl, _, .of hL⟩, l, _, 0, 0, .int y, rfl, rfl, hL, by decide, by decide, by simp [seqIndex?], rfl, .ref a, ea, a, _, rfl, .inl ⟨drKvs l c dr, .inr "rest", by rw [upd_ne da.ne]; exact hc, rfl, (by decide : 5 < sizeLine), rfl⟩, ?_⟩
      have hp : putK (drKvs l c dr) (.inr ("rest" : Str)) (V.int y) = drKvs l c { dr with rest := y, large := ys } := rfl
      rw [hp]
      obtain ⟨sd5, ev5⟩ := k1.sd.drUpd (a := a) (l := l) (st' := { dr with rest := y, large := ys }) (H' := upd (upd H l (.lst (((y :: ys).map V.int).eraseIdx 0))) a (.dK (drKvs l c { dr with rest := y, large := ys }))) eg ⟨⟨c, upd_same, gc⟩, by rw [upd_ne da.ne.symm, upd_same]; rfl, da.ne, da.ga, da.gl⟩ fun b n1 n2 => by rw [upd_ne n1, upd_ne n2]
      exact k1.next rfl sd5 ev5
  · exact (k0.notBad (by unfold drPop; rw [bind_eq, q1])).elim)⟩
theorem ds_drDiv {z : Str} {q1 q2 q3 q4 q5 q6 q7 q8 : Pos} {m1 kk : Nat} (hc : X.calm = true) (hnd : X.N.Nodup) (hu : X.A.units + 1 < cLine) (hgl : Gl X "divmod") (hm : X.mg "divmod" = none) (hbt : bootBuiltins "divmod" = some (.builtin "divmod")) (hN : X.N[i]? = some x) (hv : Vis X.env.scope x) (hNy : X.N[j]? = some y) (hvy : Vis X.env.scope y) (hNz : X.N[k]? = some z) (hlz : Loc X.env.scope z)
    (hf : X.fn z = true ∨ X.env.scope.names.lookup z = some .local := by first | exact .inl rfl | exact .inr rfl | assumption)
    (hd : (x == ("__debug__" : Str)) = false := by decide) (hcd : (x == ("__classdict__" : Str)) = false := by decide) (hdy : (y == ("__debug__" : Str)) = false := by decide) (hcdy : (y == ("__classdict__" : Str)) = false := by decide) (hs1 : PlainIx (.Constant (.str "rest") m1 q2) := by exact fun _ _ => rfl)
    (he : starEach [.Subscript (.Name x q1) (.Constant (.str "rest") m1 q2) q3, .Name y q4] X.env = (false, eval (.Subscript (.Name x q1) (.Constant (.str "rest") m1 q2) q3) X.env) :: starEach [.Name y q4] X.env := by rfl) (hpl : (backTo q5 (starEach [.Name y q4] X.env)).any (·.1) = false := by rfl)
    (ha : ∀ v, assign (.Subscript (.Name x p) (.Constant (.str "rest") n p2) tpos) X.env v = (do
      let ov ← holding [v] (eval (.Name x p) X.env)
      let iv ← holding [v, ov] (eval (.Constant (.str "rest") n p2) X.env)
      standAt tpos
      holding [v, ov, iv] (setItem ov iv v)
      release [v, ov, iv] []) := by intro _; rfl)
    (hn : (assignEach [.Subscript (.Name x p) (.Constant (.str "rest") n p2) tpos, .Name z q6] X.env).length = 2 := by rfl) (hst : (assignEach [.Subscript (.Name x p) (.Constant (.str "rest") n p2) tpos, .Name z q6] X.env).findIdx? (·.1) = none := by rfl)
    (hs2 : (assignEach [.Subscript (.Name x p) (.Constant (.str "rest") n p2) tpos, .Name z q6] X.env).map (·.2) = assign (.Subscript (.Name x p) (.Constant (.str "rest") n p2) tpos) X.env :: (assignEach [.Name z q6] X.env).map (·.2) := by rfl)
    (hs3 : (assignEach [.Name z q6] X.env).map (·.2) = assign (.Name z q6) X.env :: (assignEach [] X.env).map (·.2) := by rfl)
    (hs : swapsWithSole [.Tuple [.Subscript (.Name x p) (.Constant (.str "rest") n p2) tpos, .Name z q6] kk q7] (.Call (.Name "divmod" q8) [.Subscript (.Name x q1) (.Constant (.str "rest") m1 q2) q3, .Name y q4] [] q5) pos.line X.env = pure false := by rfl)
    (hw : swappedStores [.Tuple [.Subscript (.Name x p) (.Constant (.str "rest") n p2) tpos, .Name z q6] kk q7] (.Call (.Name "divmod" q8) [.Subscript (.Name x q1) (.Constant (.str "rest") m1 q2) q3, .Name y q4] [] q5) X.env = pure none := by rfl)
    (h1 : (assignEach [.Tuple [.Subscript (.Name x p) (.Constant (.str "rest") n p2) tpos, .Name z q6] kk q7] X.env).map (·.2) = [assign (.Tuple [.Subscript (.Name x p) (.Constant (.str "rest") n p2) tpos, .Name z q6] kk q7) X.env] := by rfl) :
    DS X Wx (.Assign [.Tuple [.Subscript (.Name x p) (.Constant (.str "rest") n p2) tpos, .Name z q6] kk q7] (.Call (.Name "divmod" q8) [.Subscript (.Name x q1) (.Constant (.str "rest") m1 q2) q3, .Name y q4] [] q5) pos) (drDiv i j k) :=
  ⟨fun pins s σ H D I q => (ps_asg (pe_callB call_divmodW hgl hm hbt (pa_cons (pe_ix (ix_dict hu) (pe_var hN hv hd hcd) pe_str hs1) (pa_cons (pe_var hNy hvy hdy hcdy) pa_nil)) (by decide) (by decide) he hpl) (pg_tup hc (pgs_cons (pg_sub (pe_var hN hv hd hcd) pe_str (set_dict hu) ha) (pgs_cons (pg_name hnd hNz hlz hf) pgs_nil hs3) hs2) hn hst) hs hw h1).run pins s σ H D I (by
  obtain ⟨g, st, k0⟩ := q.start
  rcases drOf_run k0.sd i with ⟨dr, a, l, q1, e0, edr, ea, eg, da⟩ | q1
  · obtain ⟨c, hc, gc⟩ := da.key
    have p := k0.post
    unfold drDiv at p
    rw [bind_eq, q1] at p
    simp only at p
    split at p
    · rename_i nn hj
      by_cases hb : 0 < nn ∧ nn < 18446744073709551616
      · rw [if_pos hb] at p
        obtain ⟨v, evj, wa⟩ := k0.sd.slot j _ hj
        cases (show Rep X.K g v (.int nn) from wa)
        refine ⟨.ref a, ea, a, _, rfl, .inl ⟨_, .inr "rest", .inl hc, rfl, rfl⟩, .int nn, evj, dr.rest, nn, rfl, divWide hb, fun t ht => ?_⟩
        have nta : a ≠ t := ne_of_none hc ht
        have ntl : l ≠ t := ne_of_none da.list ht
        refine ⟨t, _, rfl, .inl (.inl upd_same), rfl, _, _, rfl, ⟨.ref a, ea, a, _, rfl, .inl ⟨drKvs l c dr, .inr "rest", by rw [upd_ne nta]; exact hc, rfl, (by decide : 5 < sizeLine), rfl⟩, _, _, rfl, ?_⟩⟩
        refine ⟨rfl, ?_⟩
        have hp : putK (drKvs l c dr) (.inr ("rest" : Str)) (V.int (dr.rest / nn)) = drKvs l c (dr.set .rest (dr.rest / nn)) := rfl
        rw [hp]
        have sd1 := k0.sd.alloc (o := .tup [V.int (dr.rest / nn), V.int (dr.rest % nn)]) ht
        have ev1 := k0.sd.allocEv (o := .tup [V.int (dr.rest / nn), V.int (dr.rest % nn)]) ht
        have da1 : DrAt g (upd H t (.tup [V.int (dr.rest / nn), V.int (dr.rest % nn)])) a l dr := ⟨⟨c, by rw [upd_ne nta]; exact hc, gc⟩, by rw [upd_ne ntl]; exact da.list, da.ne, da.ga, da.gl⟩
        obtain ⟨sd2, ev2⟩ := sd1.drSet (st' := dr.set .rest (dr.rest / nn)) eg da1 gc rfl
        unfold setO at p
        by_cases cs : canSet { st with dr := some (dr.set .rest (dr.rest / nn)) } k = true
        · simp only [if_pos cs] at p
          obtain ⟨sd3, ev3⟩ := setT_run (i := k) (t := .fz (.int (dr.rest % nn))) (s' := putE { st with dr := some (dr.set .rest (dr.rest / nn)) } k (.fz (.int (dr.rest % nn)))) (v := V.int (dr.rest % nn)) (by unfold setT; rw [if_pos cs]; rfl) .refl sd2 ⟨show TAt X.K g _ (V.int (dr.rest % nn)) (.fz (.int _)) from (show Rep X.K g _ (.int _) from .int _), fun _ _ z => nomatch z⟩
          exact p _ _ _ sd3 ((ev1.trans ev2).trans ev3)
        · simp only [if_neg cs] at p; exact p.elim
      · rw [if_neg hb] at p; exact p.elim
    · exact p.elim
  · exact (k0.notBad (by unfold drDiv; rw [bind_eq, q1])).elim)⟩
end
end DL
set_option Elab.async false
set_option linter.all false
set_option maxRecDepth 100000
set_option maxHeartbeats 1000000
namespace DL
open PySem PySem.Spec PyProof.Rows L2
theorem loopC_pure {pt : Pt} {vs : List Nat} {ft : M Bool} {fe : M VR} {s : State} {p : D → Bool} {q : D → D} : ∀ (items acc : List D),
    (∀ d ∈ items, ∃ s1, bindP pt d s = some s1 ∧ ft s1 = .ok (p d) s1 ∧ (p d = true → (fe >>= frz) s1 = .ok (q d) s1) ∧ wipeS vs s1 = s) → loopC pt vs ft fe items acc s = .ok (acc ++ (items.filter p).map q) s
  | [], acc, _ => by unfold loopC; simp
  | d :: ds, acc, h => by
    obtain ⟨s1, h1, h2, h3, h4⟩ := h d List.mem_cons_self
    unfold loopC
    rw [h1]
    simp only [h2]
    cases hp : p d with
    | true =>
      simp only [h3 hp, h4]
      rw [loopC_pure ds _ fun d' hd => h d' (List.mem_cons_of_mem _ hd), List.filter_cons_of_pos (by simpa using hp), List.map_cons, List.append_assoc]
      rfl
    | false =>
      simp only [h4]
      rw [loopC_pure ds _ fun d' hd => h d' (List.mem_cons_of_mem _ hd), List.filter_cons_of_neg (by simp [hp])]
def absI (n : Int) : Int := if n < 0 then -n else n
def bigI (n : Int) : Bool := decide (10 ^ 18 ≤ absI n)
def largeOf (ns : List Int) : List Int := (ns.filter bigI).map absI
def beginSt (ns : List Int) : DrawSt := { large := largeOf ns, cells := ns, rest := 0, turn := 0, mix := 7 }
def dLarge : M Flow := dAsg 1 (dComp itS (.name 2) [2] (dB (dOp2 geD (dV (dCallB absD (dCons (dSlot 2) dNil))) (dV (dOp2 powD (dV (dC (.int 10))) (dV (dC (.int 18))))))) (dV (dCallB absD (dCons (dSlot 2) dNil))) (dOne (dSlot 0)))
def begSt (ns : List Int) : State := { env := [some (.fz (.frl ns)), none, none], sto := [], dr := none }
theorem large_eq (ns : List Int) (h : ns.length < sizeLine) : dLarge (begSt ns) = .ok .nx { begSt ns with env := [some (.fz (.frl ns)), some (.own (.lst ((largeOf ns).map D.int))), none] } := by
  have lp : loopC (.name 2) [2] (dB (dOp2 geD (dV (dCallB absD (dCons (dSlot 2) dNil))) (dV (dOp2 powD (dV (dC (.int 10))) (dV (dC (.int 18))))))) (dV (dCallB absD (dCons (dSlot 2) dNil))) (ns.map D.int) [] (begSt ns) = .ok ([] ++ ((ns.map D.int).filter (fun d => match d with | .int n => bigI n | _ => false)).map (fun d => match d with | .int n => .int (absI n) | d => d)) (begSt ns) := by
    refine loopC_pure _ _ fun d hd => ?_
    obtain ⟨n, _, rfl⟩ := List.mem_map.mp hd
    exact ⟨{ begSt ns with env := [some (.fz (.frl ns)), none, some (.fz (.int n))] }, rfl, rfl, fun _ => rfl, rfl⟩
  have e2 : ((ns.map D.int).filter (fun d => match d with | .int n => bigI n | _ => false)).map (fun d => match d with | .int n => .int (absI n) | d => d) = (largeOf ns).map D.int := by
    unfold largeOf
    rw [List.filter_map, List.map_map, List.map_map]
    rfl
  rw [e2] at lp
  have e3 : dLoopC (.name 2) [2] (dB (dOp2 geD (dV (dCallB absD (dCons (dSlot 2) dNil))) (dV (dOp2 powD (dV (dC (.int 10))) (dV (dC (.int 18))))))) (dV (dCallB absD (dCons (dSlot 2) dNil))) (ns.map D.int) (begSt ns) = .ok (.ow (.lst ((largeOf ns).map D.int))) (begSt ns) := by
    unfold dLoopC
    rw [if_pos ⟨rfl, by rw [List.length_map]; exact h⟩]
    have e4 : wipeS [2] (begSt ns) = begSt ns := rfl
    rw [e4, lp]
    rfl
  show (dComp itS (.name 2) [2] _ _ (dOne (dSlot 0)) >>= fun t => setT 1 t >>= fun _ => dNx) (begSt ns) = _
  rw [bind_eq]
  have e5 : dComp itS (.name 2) [2] (dB (dOp2 geD (dV (dCallB absD (dCons (dSlot 2) dNil))) (dV (dOp2 powD (dV (dC (.int 10))) (dV (dC (.int 18))))))) (dV (dCallB absD (dCons (dSlot 2) dNil))) (dOne (dSlot 0)) (begSt ns) = .ok (.ow (.lst ((largeOf ns).map D.int))) (begSt ns) := e3
  rw [e5]
  rfl
def spBegin (K : PySem.W.Frag) : Sp := fun vs H Q _ => ∃ (a : Addr) (ns : List Int), vs = [.ref a] ∧ SqL K H a (ns.map V.int) ∧ ns.length ≤ 63 ∧
  ∀ (H' : Hp) (d l c : Addr), (∀ b o, H b = some o → H' b = some o) → H d = none → H l = none → H c = none → d ≠ l → c ≠ l → c ≠ d → H' d = some (.dK (drKvs l c (beginSt ns))) → H' l = some (.lst ((beginSt ns).large.map V.int)) → H' c = some (.lst (ns.map V.int)) → Q (.ref d) H'
theorem seqAt {K : PySem.W.Frag} {H H' : Hp} {a : Addr} {xs : List V} (h : SqL K H a xs) (e : H' a = H a) : SqL K H' a xs := by
  rcases h with (h | ⟨o, h⟩) | h
  · exact .inl (.inl (e.trans h))
  · exact .inl (.inr ⟨o, e.trans h⟩)
  · exact .inr h
theorem sd_begin {K : PySem.W.Frag} {H : Hp} {a : Addr} {ns : List Int} (h : SqL K H a (ns.map V.int)) : SD K ⟨fun b => if b = a then H a else none, [], none⟩ H [some (.ref a), none, none] (begSt ns) where
  gh := fun b o e => by
    have e : (if b = a then H a else none) = some o := e
    by_cases z : b = a
    · rw [if_pos z] at e; rw [z]; exact .inl e
    · rw [if_neg z] at e; cases e
  len := rfl
  slot := fun i w e => by
    match i, e with
    | 0, e => cases e; exact ⟨_, rfl, show Rep K _ _ (.frl ns) from .frl (seqAt h (if_pos rfl))⟩
    | 1, e => cases e
    | 2, e => cases e
    | i + 3, e => cases e
  inj := fun i j w u b e1 e2 h1 _ _ _ => by
    match i, e1 with
    | 0, e1 => cases e1; cases h1
    | 1, e1 => cases e1
    | 2, e1 => cases e1
    | i + 3, e1 => cases e1
  stl := rfl
  sto := fun i m b e _ => by cases e
  nd := .nil
  ng := fun b hb => by cases hb
  dr := trivial
theorem begin_run {K : PySem.W.Frag} {H : Hp} {vs : List V} {Q : VK} {E : XK} (h : spBegin K vs H Q E) :
    tSeq (tS K (fun cls d _ H' => E cls d H') dLarge) (tRet (tDisp [(tC (.str "large"), tVar 1), (tC (.str "cells"), tCB (fun xs H Q => ∃ p ys, xs = [.ref p] ∧ (SqL K H p ys ∨ SqT K H p ys) ∧ ∀ l, H l = none → Q (.ref l) (upd H l (.lst ys))) (tCons (tVar 0) tNil)), (tC (.str "rest"), tC (.int 0)), (tC (.str "turn"), tC (.int 0)), (tC (.str "mix"), tC (.int 7))]))
      { nx := fun _ H' => Q .non H', rt := Q } (L2.start ["_law_script", "_law_large", "_law_cell"] vs) H := by
  obtain ⟨a, ns, rfl, hS, hl, k⟩ := h
  refine ⟨_, begSt ns, sd_begin hS, ?_⟩
  rw [large_eq ns (Nat.lt_of_le_of_lt hl (by decide))]
  intro σ' g' H' sd ev p hp
  obtain ⟨v1, e1, l, o, rfl, f1, hl1, xs, rfl, rx⟩ := sd.slot 1 _ rfl
  have ex := ints_reps rx
  subst ex
  obtain ⟨v0, e0, r0⟩ := sd.slot 0 (.fz (.frl ns)) rfl
  have keep : ∀ b o, H b = some o → H' b = some o := fun b o hb => ev.keep b o hb fun m => by
    rcases m with ⟨i, w, em, hm, _⟩ | m | ⟨x, y, m, _⟩
    · match i, em with
      | 0, em => cases em; cases hm
      | 1, em => cases em
      | 2, em => cases em
      | i + 3, em => cases em
    · cases m
    · cases m
  have hlN : H l = none := by
    rcases ev.mu l (.inl ⟨1, _, rfl, rfl, e1⟩) with m | m
    · rcases m with ⟨i, w, em, hm, _⟩ | m | ⟨x, y, m, _⟩
      · match i, em with
        | 0, em => cases em; cases hm
        | 1, em => cases em
        | 2, em => cases em
        | i + 3, em => cases em
      · cases m
      · cases m
    · exact m
  cases (show Rep K g' v0 (.frl ns) from r0) with
  | frl q0 =>
    rename_i a0
    have hs0 : SqL K H' a0 (ns.map V.int) := sd.seq q0
    have lp : l ≠ p := ne_of_none hl1 hp
    have hs1 : SqL K (upd H' p (.dK [])) a0 (ns.map V.int) := by
      rcases hs0 with (h | ⟨o, h⟩) | h
      · exact .inl (.inl (by rw [upd_ne (ne_of_none h hp)]; exact h))
      · exact .inl (.inr ⟨o, by rw [upd_ne (ne_of_none h hp)]; exact h⟩)
      · exact .inr h
    refine ⟨.ref l, e1, .ref a0, e0, a0, _, rfl, .inl hs1, fun c hc => ?_⟩
    have cp : c ≠ p := fun z => by rw [z, upd_same] at hc; cases hc
    have cl : c ≠ l := fun z => by rw [z, upd_ne lp, hl1] at hc; cases hc
    have hcN : H' c = none := by rw [upd_ne cp] at hc; exact hc
    have old : ∀ b, H' b = none → H b = none := fun b z => by
      cases q : H b with
      | none => rfl
      | some o => rw [keep b o q] at z; cases z
    refine ⟨by rw [upd_ne cp.symm, upd_same], [(.inr "large", .ref l), (.inr "cells", .ref c), (.inr "rest", .int 0), (.inr "turn", .int 0), (.inr "mix", .int 7)], rfl, (Nat.le_of_ble_eq_true rfl : 5 ≤ 15), ?_⟩
    refine k _ p l c (fun b o hb => ?_) (old p hp) hlN (old c hcN) lp.symm cl cp upd_same ?_ ?_
    · have h1 := keep b o hb
      rw [upd_ne (ne_of_none h1 hp), upd_ne (ne_of_none h1 hcN), upd_ne (ne_of_none h1 hp)]
      exact h1
    · rw [upd_ne lp, upd_ne cl.symm, upd_ne lp]; exact hl1
    · rw [upd_ne cp, upd_same]
def lawSt (ns : List Int) (n : Nat) : State := { env := some (.fz (.frl ns)) :: some (.fz .draw) :: List.replicate n none, sto := [], dr := some (beginSt ns) }
theorem bt_abs : bootBuiltins "abs" = some (.builtin "abs") := by decide +kernel
theorem bt_len : bootBuiltins "len" = some (.builtin "len") := by decide +kernel
theorem bt_min : bootBuiltins "min" = some (.builtin "min") := by decide +kernel
theorem bt_divmod : bootBuiltins "divmod" = some (.builtin "divmod") := by decide +kernel
theorem bt_repr : bootBuiltins "repr" = some (.builtin "repr") := by decide +kernel
theorem bt_int : bootBuiltins "int" = some (.type "int") := by decide +kernel
theorem bt_str : bootBuiltins "str" = some (.type "str") := by decide +kernel
theorem bt_list : bootBuiltins "list" = some (.type "list") := by decide +kernel
theorem cx_none {P : Program} {w : World} {l : List Env} {H : Hp} {s : Shared} {e : Value} {s' : Shared} (z : L2.CX P w l H s (fun _ _ _ => False) e s') : False := by
  obtain ⟨_, _, _, _, _, _, _, _, _, _, _, _, z⟩ := z
  exact z
end DL
set_option Elab.async false
set_option linter.all false
set_option maxRecDepth 100000
set_option maxHeartbeats 1000000
namespace DL
open PySem
section
variable {α β : Type} {s s1 s2 : State}
theorem yes {A B : Prop} (h : A) : if true = true then A else B := by rw [if_pos rfl]; exact h
theorem no {A B : Prop} (h : B) : if false = true then A else B := by rw [if_neg Bool.false_ne_true]; exact h
def ok (m : M α) (s : State) (Q : α → State → Prop) : Prop := ∃ a s', m s = .ok a s' ∧ Q a s'
theorem ok.eq {m : M α} {Q : α → State → Prop} {a : α} (h : m s = .ok a s1) (q : Q a s1) : ok m s Q := ⟨a, s1, h, q⟩
theorem ok.bind {f : M α} {k : α → M β} {Q : β → State → Prop} (h : ok f s fun a s1 => ok (k a) s1 Q) : ok (f >>= k) s Q := by
  obtain ⟨a, s1, e, b, s2, e2, q⟩ := h
  exact ⟨b, s2, by rw [bind_eq, e]; exact e2, q⟩
theorem ok.step {f : M α} {k : α → M β} {Q : β → State → Prop} {a : α} (e : f s = .ok a s1) (h : ok (k a) s1 Q) : ok (f >>= k) s Q := .bind ⟨a, s1, e, h⟩
theorem ok.mono {m : M α} {Q Q' : α → State → Prop} (h : ok m s Q) (k : ∀ a s', Q a s' → Q' a s') : ok m s Q' := by
  obtain ⟨a, s1, e, q⟩ := h
  exact ⟨a, s1, e, k _ _ q⟩
theorem ok.ite {c : M Bool} {a b : M α} {Q : α → State → Prop} (h : ok c s fun t s1 => if t = true then ok a s1 Q else ok b s1 Q) : ok (dIf c a b) s Q := by
  refine ok.bind (h.mono fun t s1 q => ?_)
  cases t with
  | true => rw [if_pos rfl] at q ⊢; exact q
  | false => rw [if_neg Bool.false_ne_true] at q ⊢; exact q
theorem ok.dec {c : M Bool} {P : Prop} [Decidable P] {Q : Bool → State → Prop} (e : c s = .ok (decide P) s1) (h1 : P → Q true s1) (h2 : ¬ P → Q false s1) : ok c s Q := by
  refine ok.eq e ?_
  by_cases h : P
  · rw [decide_eq_true h]; exact h1 h
  · rw [decide_eq_false h]; exact h2 h
theorem ok.tt {a b : M α} {Q : α → State → Prop} (h : ok a s Q) : if true = true then ok a s Q else ok b s Q := by rw [if_pos rfl]; exact h
theorem ok.and {f k : M Bool} {Q : Bool → State → Prop} (h : ok f s fun t s1 => if t = true then ok k s1 Q else Q false s1) : ok (dAnd f k) s Q := by
  refine ok.bind (h.mono fun t s1 q => ?_)
  cases t with
  | true => rw [if_pos rfl] at q ⊢; exact q
  | false => rw [if_neg Bool.false_ne_true] at q ⊢; exact ⟨_, _, rfl, q⟩
theorem ok.or {f k : M Bool} {Q : Bool → State → Prop} (h : ok f s fun t s1 => if t = true then Q true s1 else ok k s1 Q) : ok (dOr f k) s Q := by
  refine ok.bind (h.mono fun t s1 q => ?_)
  cases t with
  | true => rw [if_pos rfl] at q ⊢; exact ⟨_, _, rfl, q⟩
  | false => rw [if_neg Bool.false_ne_true] at q ⊢; exact q
theorem ok.not {f : M Bool} {Q : Bool → State → Prop} (h : ok f s fun t s1 => Q (!t) s1) : ok (dNot f) s Q := by
  refine ok.bind (h.mono fun t s1 q => ?_)
  exact ⟨_, _, rfl, q⟩
end
section
variable {s s1 s2 : State}
def okS (m : M Flow) (s : State) (Nx : State → Prop) (Rt : T → State → Prop) : Prop := match m s with
  | .ok .nx s' => Nx s'
  | .ok (.rt t) s' => Rt t s'
  | _ => False
variable {Nx Nx' : State → Prop} {Rt Rt' : T → State → Prop}
theorem okS.nx {m : M Flow} (e : m s = .ok .nx s1) (h : Nx s1) : okS m s Nx Rt := by unfold okS; rw [e]; exact h
theorem okS.rt {m : M Flow} {t : T} (e : m s = .ok (.rt t) s1) (h : Rt t s1) : okS m s Nx Rt := by unfold okS; rw [e]; exact h
theorem okS.mono {m : M Flow} (h : okS m s Nx Rt) (k1 : ∀ s', Nx s' → Nx' s') (k2 : ∀ t s', Rt t s' → Rt' t s') : okS m s Nx' Rt' := by
  unfold okS at h ⊢
  cases q : m s with
  | bad => rw [q] at h; exact h
  | err x s' => rw [q] at h; exact h
  | ok f s' =>
    rw [q] at h
    cases f with
    | nx => exact k1 _ h
    | rt t => exact k2 _ _ h
    | bk => exact h
    | ct => exact h
theorem okS.seq {f k : M Flow} (h : okS f s (fun s1 => okS k s1 Nx Rt) Rt) : okS (dSeq f k) s Nx Rt := by
  unfold okS dSeq at *
  cases q : f s with
  | bad => rw [q] at h; exact h
  | err x s' => rw [q] at h; exact h
  | ok fl s' =>
    rw [q] at h
    cases fl with
    | nx => exact h
    | rt t => exact h
    | bk => exact h
    | ct => exact h
theorem okS.ite {c : M Bool} {a b : M Flow} (h : ok c s fun t s1 => if t = true then okS a s1 Nx Rt else okS b s1 Nx Rt) : okS (dIf c a b) s Nx Rt := by
  obtain ⟨t, s1, e, q⟩ := h
  unfold okS dIf at *
  rw [bind_eq, e]
  cases t with
  | true => rw [if_pos rfl] at q; exact q
  | false => rw [if_neg Bool.false_ne_true] at q; exact q
theorem okS.tt {a b : M Flow} (h : okS a s Nx Rt) : if true = true then okS a s Nx Rt else okS b s Nx Rt := by rw [if_pos rfl]; exact h
theorem okS.bind {α : Type} {f : M α} {k : α → M Flow} (h : ok f s fun a s1 => okS (k a) s1 Nx Rt) : okS (f >>= k) s Nx Rt := by
  obtain ⟨a, s1, e, q⟩ := h
  unfold okS at *
  rw [bind_eq, e]
  exact q
theorem okS.ret {f : M T} (h : ok f s fun t s1 => Rt t s1) : okS (dRet f) s Nx Rt := okS.bind (h.mono fun t s1 q => okS.rt rfl q)
theorem okS.expr {f : M T} (h : ok f s fun _ s1 => Nx s1) : okS (dExpr f) s Nx Rt := okS.bind (h.mono fun t s1 q => okS.nx rfl q)
theorem okS.asg {i : Nat} {f : M T} (h : ok f s fun t s1 => canSet s1 i = true ∧ Nx (putE s1 i t.w)) : okS (dAsg i f) s Nx Rt := by
  refine okS.bind (h.mono fun t s1 q => okS.bind ⟨(), putE s1 i t.w, ?_, okS.nx rfl q.2⟩)
  unfold setT
  rw [if_pos q.1]
theorem okS.skip (h : Nx s) : okS dNx s Nx Rt := okS.nx rfl h
theorem okS.turn {p : Pt} {b : M Flow} {d : D} {ds : List D} (e : bindP p d s = some s1) (h : okS b s1 (fun s2 => okS (dForL p b ds) s2 Nx Rt) Rt) : okS (dForL p b (d :: ds)) s Nx Rt := by
  unfold okS at h ⊢
  unfold dForL
  rw [e]
  simp only
  cases q : b s1 with
  | bad => rw [q] at h; exact h.elim
  | err x s' => rw [q] at h; exact h.elim
  | ok f s' =>
    rw [q] at h
    cases f with
    | nx => exact h
    | rt t => exact h
    | bk => exact h.elim
    | ct => exact h.elim
theorem okS.forL {p : Pt} {b : M Flow} {items : List D} (I : Nat → State → Prop) : ∀ (k : Nat) (rest : List D), items.drop k = rest → k ≤ items.length → ∀ s, I k s →
    (∀ (i : Nat) (d : D) (s : State), items[i]? = some d → I i s → ∃ s1, bindP p d s = some s1 ∧ okS b s1 (I (i + 1)) Rt) → okS (dForL p b rest) s (I items.length) Rt
  | k, [], e, hk, s, h0, _ => by
    have : k = items.length := by
      have := congrArg List.length e
      rw [List.length_drop] at this
      simp at this
      omega
    subst this
    exact okS.nx rfl h0
  | k, d :: rest, e, hk, s, h0, hs => by
    have hd : items[k]? = some d := by
      have := congrArg (fun l => l[0]?) e
      simp [List.getElem?_drop] at this
      exact this
    have hl : k < items.length := (List.getElem?_eq_some_iff.mp hd).1
    have hr : items.drop (k + 1) = rest := by
      have := congrArg List.tail e
      rw [List.tail_drop] at this
      exact this
    obtain ⟨s1, e1, e2⟩ := hs k d s hd h0
    unfold okS dForL
    rw [e1]
    simp only
    unfold okS at e2
    cases q : b s1 with
    | bad => rw [q] at e2; exact e2.elim
    | err x s' => rw [q] at e2; exact e2.elim
    | ok f s' =>
      rw [q] at e2
      cases f with
      | nx =>
        simp only at e2 ⊢
        exact okS.forL I (k + 1) rest hr hl s' e2 hs
      | rt t => exact e2
      | bk => exact e2.elim
      | ct => exact e2.elim
theorem okS.walk {p : Pt} {b : M Flow} {items : List D} (I : Nat → State → Prop) (h0 : I 0 s) (hs : ∀ (i : Nat) (d : D) (s : State), items[i]? = some d → I i s → ∃ s1, bindP p d s = some s1 ∧ okS b s1 (I (i + 1)) Rt) (hn : ∀ s', I items.length s' → Nx s') : okS (dForL p b items) s Nx Rt :=
  (okS.forL I 0 items rfl (Nat.zero_le _) s h0 hs).mono hn fun _ _ h => h
theorem okS.forV {h : List D → Option (List D)} {p : Pt} {b : M Flow} {fl : M (List VR)} {rs : List VR} {ds items : List D} (e : fl s = .ok rs s1) (e2 : toHSs rs s1 = .ok (ds.map HS.d) s2) (e3 : h ds = some items) (k : okS (dForL p b items) s2 Nx Rt) : okS (dFor h p b fl) s Nx Rt := by
  unfold dFor
  refine okS.bind ⟨rs, s1, e, ?_⟩
  unfold dHold
  refine okS.bind ⟨_, s2, e2, ?_⟩
  show okS (dLock (ds.map HS.d) (dItems h (dForL p b))) s2 Nx Rt
  have key : ∀ (ds' : List D) (k : List D → M Flow), dLock (ds'.map HS.d) k = k ds' := by
    intro ds'
    induction ds' with
    | nil => intro k; rfl
    | cons d ds' ih => intro k; show dLock (ds'.map HS.d) (fun ds => k (d :: ds)) = _; rw [ih]
  rw [key]
  unfold dItems
  rw [e3]
  exact k
end
section
variable {s s1 s2 s3 : State}
theorem dOp2_eq {h : D → D → Option T} {fa fb : M VR} {x y : VR} {d e : D} {t : T} (ha : fa s = .ok x s1) (hb : fb s1 = .ok y s2) (hd : readV x s2 = .ok d s2) (he : readV y s2 = .ok e s2) (hh : h d e = some t) : dOp2 h fa fb s = .ok t s2 := by
  unfold dOp2
  rw [bind_eq, ha]
  show (fb >>= fun y => readV x >>= fun d => readV y >>= fun e => opt (h d e)) s1 = _
  rw [bind_eq, hb]
  show (readV x >>= fun d => readV y >>= fun e => opt (h d e)) s2 = _
  rw [bind_eq, hd]
  show (readV y >>= fun e => opt (h d e)) s2 = _
  rw [bind_eq, he]
  show opt (h d e) s2 = _
  rw [hh]
  rfl
theorem dV_eq {f : M T} {t : T} (h : f s = .ok t s1) : dV f s = .ok (.t t) s1 := by
  unfold dV
  rw [bind_eq, h]
  rfl
theorem dB_eq {f : M T} {b : Bool} (h : f s = .ok (.fz (.bl b)) s1) : dB f s = .ok b s1 := by
  unfold dB
  rw [bind_eq, h]
theorem dTup_eq {fl : M (List VR)} {rs : List VR} {ds : List D} (h : fl s = .ok rs s1) (h2 : frzs rs s1 = .ok ds s2) (hz : ds.length ≤ sizeLine) : dTup fl s = .ok (.fz (.tup ds)) s2 := by
  unfold dTup
  simp only [bind_eq, h, h2, if_pos hz]
  rfl
theorem dLst_eq {fl : M (List VR)} {rs : List VR} {ds : List D} (h : fl s = .ok rs s1) (h2 : frzs rs s1 = .ok ds s2) (hz : ds.length ≤ sizeLine) : dLst fl s = .ok (.ow (.lst ds)) s2 := by
  unfold dLst
  simp only [bind_eq, h, h2, if_pos hz]
  rfl
theorem append_eq {i : Nat} {f : M VR} {r : VR} {ds : List D} {d : D} (h1 : s.env[i]? = some (some (.own (.lst ds)))) (h2 : f s = .ok r s1) (h3 : frz r s1 = .ok d s2) (h4 : s2.env[i]? = some (some (.own (.lst ds)))) (hz : ds.length < sizeLine) : dAppend i f s = .ok (.fz .non) (putE s2 i (.own (.lst (ds ++ [d])))) := by
  unfold dAppend
  have c : chkD i isLst s = .ok () s := by unfold chkD heldD; rw [h1]; rfl
  have u : updD i (pushD d) s2 = .ok () (putE s2 i (.own (.lst (ds ++ [d])))) := by
    unfold updD heldD
    rw [h4]
    simp only [pushD, if_pos hz]
    rfl
  simp only [bind_eq, c, h2, h3, u]
  rfl
theorem dOne_eq {f : M VR} {r : VR} (h : f s = .ok r s1) : dOne f s = .ok [r] s1 := by
  unfold dOne
  rw [bind_eq, h]
  rfl
theorem dCons_eq {f : M VR} {k : M (List VR)} {r : VR} {rs : List VR} (h : f s = .ok r s1) (h2 : k s1 = .ok rs s2) : dCons f k s = .ok (r :: rs) s2 := by
  unfold dCons
  rw [bind_eq, h]
  show (k >>= fun xs => pure (r :: xs)) s1 = _
  rw [bind_eq, h2]
  rfl
theorem dCallB_eq {h : List D → Option T} {fl : M (List VR)} {rs : List VR} {ds : List D} {t : T} (hl : fl s = .ok rs s1) (hr : readVs rs s1 = .ok ds s1) (hh : h ds = some t) : dCallB h fl s = .ok t s1 := by
  unfold dCallB
  rw [bind_eq, hl]
  show (readVs rs >>= fun ds => opt (h ds)) s1 = _
  rw [bind_eq, hr]
  show opt (h ds) s1 = _
  rw [hh]
  rfl
theorem mul_r {i j : Int} (h : bnd64 j = true) : mulD (.int i) (.int j) = some (.fz (.int (i * j))) := by
  show (if (bnd64 i || bnd64 j) = true then _ else _) = _
  rw [h, Bool.or_true, if_pos rfl]
theorem mod_pos {i j : Int} (h : 0 < j) : modD (.int i) (.int j) = some (.fz (.int (i % j))) := if_pos h
theorem pow_ok {i j : Int} (h : 0 ≤ j) (h2 : j ≤ 1000000) (h3 : i.natAbs < 2 ^ 64) : powD (.int i) (.int j) = some (.fz (.int (i ^ j.toNat))) := if_pos ⟨h, h2, h3⟩
end
section
variable {s s1 s2 : State}
theorem backs_d : ∀ {ds : List D} {ws : List W} {ce e : List (Option W)}, ws.length = ds.length → ds.length ≤ ce.length → backs (ds.map HS.d) ws ce e = some e
  | [], [], _, _, _, _ => by unfold backs; rfl
  | [], _ :: _, _, _, h, _ => by cases h
  | _ :: _, [], _, _, h, _ => by cases h
  | d :: ds, w :: ws, [], e, _, h => by simp at h
  | d :: ds, w :: ws, c :: ce, e, h1, h2 => by
    show backs (HS.d d :: ds.map HS.d) (w :: ws) (c :: ce) e = some e
    unfold backs
    have : back1 (HS.d d) w c e = some e := rfl
    rw [this]
    exact backs_d (Nat.succ.inj h1) (Nat.le_of_succ_le_succ h2)
theorem ents_d : ∀ {ds : List D} {ms : List AM}, ms.length = ds.length → ents ms (ds.map HS.d) s = some (ds.map W.fz)
  | [], [], _ => rfl
  | [], _ :: _, h => by cases h
  | _ :: _, [], h => by cases h
  | d :: ds, m :: ms, h => by
    show ents (m :: ms) (HS.d d :: ds.map HS.d) s = _
    unfold ents
    have : ent1 m (HS.d d) s = some (.fz d) := by cases m <;> rfl
    rw [this, ents_d (Nat.succ.inj h)]
    rfl
theorem oneEach_d : ∀ ds : List D, oneEach (ds.map HS.d) = true
  | [] => rfl
  | d :: ds => oneEach_d ds
def gives (F : M Flow) (n : Nat) (args : List D) (s : State) (Q : T → State → Prop) : Prop :=
  ∃ t s', F { env := args.map (fun d => some (.fz d)) ++ List.replicate (n - args.length) none, sto := s.sto, dr := s.dr } = .ok (.rt t) s' ∧ args.length ≤ s'.env.length ∧ Q t { s with sto := s'.sto, dr := s'.dr }
theorem ok.call {n : Nat} {ms : List AM} {F : M Flow} {fl : M (List VR)} {rs : List VR} {ds : List D} {Q : T → State → Prop} (e : fl s = .ok rs s1) (e2 : toHMs ms rs s1 = .ok (ds.map HS.d) s2) (h : gives F n ds s2 Q) : ok (dCall n ms [] F fl) s Q := by
  obtain ⟨t, s', e3, hl, q⟩ := h
  have lm : ms.length = ds.length := by
    have a := toHMs_len e2
    have b : ∀ {ms : List AM} {rs : List VR} {s s' : State} {hs : List HS}, toHMs ms rs s = .ok hs s' → hs.length = ms.length := by
      intro ms
      induction ms with
      | nil =>
        intro rs s s' hs e
        cases rs with
        | nil => cases e; rfl
        | cons _ _ => cases e
      | cons m ms ih =>
        intro rs s s' hs e
        cases rs with
        | nil => cases e
        | cons r rs =>
          unfold toHMs at e
          rw [bind_eq] at e
          cases q1 : toHM m r s with
          | bad => rw [q1] at e; cases e
          | err x s2 => rw [q1] at e; cases e
          | ok h1 s1 =>
            rw [q1] at e
            have e : (toHMs ms rs >>= fun hs => pure (h1 :: hs)) s1 = .ok hs s' := e
            rw [bind_eq] at e
            cases q2 : toHMs ms rs s1 with
            | bad => rw [q2] at e; cases e
            | err x s2 => rw [q2] at e; cases e
            | ok hs2 s2 =>
              rw [q2] at e
              cases e
              rw [List.length_cons, List.length_cons, ih q2]
    have c := b e2
    rw [List.length_map] at c
    exact c.symm
  unfold dCall
  refine ok.step e ?_
  unfold dPass
  refine ok.step e2 ?_
  refine ⟨t, { s2 with sto := s'.sto, dr := s'.dr }, ?_, q⟩
  unfold pass2
  rw [ents_d lm]
  simp only
  rw [if_pos (oneEach_d ds)]
  have e4 : { env := (ds.map W.fz ++ ([] : List D).map W.fz).map some ++ List.replicate (n - ((ds.map W.fz).length + ([] : List D).length)) none, sto := s2.sto, dr := s2.dr : State } = { env := ds.map (fun d => some (.fz d)) ++ List.replicate (n - ds.length) none, sto := s2.sto, dr := s2.dr } := by
    simp [List.map_map]
  rw [e4, e3]
  show (match backS (ds.map HS.d) (ds.map W.fz) s2 s' with | some s' => Rs.ok t s' | none => .bad) = _
  unfold backS
  rw [backs_d (by rw [List.length_map]) hl]
end
def pureG (F : M Flow) (n : Nat) (ws : List W) (v : T) : Prop := ∀ (sto : List MO) (dr : Option DrawSt), ∃ e', F { env := ws.map some ++ List.replicate (n - ws.length) none, sto := sto, dr := dr } = .ok (.rt v) { env := e', sto := sto, dr := dr } ∧ ws.length ≤ e'.length
theorem pureG.of {F : M Flow} {n : Nat} {ws : List W} {v : T} (h : ∀ (sto : List MO) (dr : Option DrawSt), okS F { env := ws.map some ++ List.replicate (n - ws.length) none, sto := sto, dr := dr } (fun _ => False) fun t s' => t = v ∧ ws.length ≤ s'.env.length ∧ s'.sto = sto ∧ s'.dr = dr) : pureG F n ws v := fun sto dr => by
  have h := h sto dr
  unfold okS at h
  cases q : F { env := ws.map some ++ List.replicate (n - ws.length) none, sto := sto, dr := dr } with
  | bad => rw [q] at h; exact h.elim
  | err x s' => rw [q] at h; exact h.elim
  | ok f s' =>
    rw [q] at h
    cases f with
    | nx => exact h.elim
    | bk => exact h.elim
    | ct => exact h.elim
    | rt t =>
      obtain ⟨rfl, hl, h1, h2⟩ := h
      obtain ⟨e', sto', dr'⟩ := s'
      cases h1; cases h2
      exact ⟨e', rfl, hl⟩
def notLent : W → Bool
  | .lent _ => false
  | _ => true
theorem backs_no : ∀ {hs : List HS} {ws : List W} {ce e : List (Option W)}, hs.length = ws.length → ws.all notLent = true → ws.length ≤ ce.length → backs hs ws ce e = some e
  | [], [], _, _, _, _, _ => by unfold backs; rfl
  | [], _ :: _, _, _, h, _, _ => by cases h
  | _ :: _, [], _, _, h, _, _ => by cases h
  | h :: hs, w :: ws, [], e, _, _, z => by simp at z
  | h :: hs, w :: ws, c :: ce, e, h1, h2, h3 => by
    rw [List.all_cons, Bool.and_eq_true] at h2
    unfold backs
    have : back1 h w c e = some e := by
      cases h with
      | d d => rfl
      | slot i =>
        cases w with
        | lent d => cases h2.1
        | _ => rfl
    rw [this]
    exact backs_no (Nat.succ.inj h1) h2.2 (Nat.le_of_succ_le_succ h3)
theorem pass_pure {F : M Flow} {n : Nat} {ms : List AM} {rs : List VR} {hs : List HS} {ws : List W} {v : T} {s s1 : State} (e2 : toHMs ms rs s = .ok hs s1) (e3 : ents ms hs s1 = some ws) (e4 : oneEach hs = true) (e5 : ws.all notLent = true) (h : pureG F n ws v) : dPass n ms [] F rs s = .ok v s1 := by
  obtain ⟨e', q, hl⟩ := h s1.sto s1.dr
  unfold dPass
  rw [bind_eq, e2]
  show pass2 n ms [] F hs s1 = _
  unfold pass2
  rw [e3]
  simp only
  rw [if_pos e4]
  have e6 : { env := (ws ++ ([] : List D).map W.fz).map some ++ List.replicate (n - (ws.length + ([] : List D).length)) none, sto := s1.sto, dr := s1.dr : State } = { env := ws.map some ++ List.replicate (n - ws.length) none, sto := s1.sto, dr := s1.dr } := by simp
  rw [e6, q]
  show (match backS hs ws s1 { env := e', sto := s1.sto, dr := s1.dr } with | some s' => Rs.ok v s' | none => .bad) = _
  unfold backS
  rw [backs_no (ents_length e3).symm e5 hl]
theorem call_pure {F : M Flow} {n : Nat} {ms : List AM} {fl : M (List VR)} {rs : List VR} {hs : List HS} {ws : List W} {v : T} {s s1 s2 : State} (h : pureG F n ws v) (e : fl s = .ok rs s1) (e2 : toHMs ms rs s1 = .ok hs s2) (e3 : ents ms hs s2 = some ws) (e4 : oneEach hs = true) (e5 : ws.all notLent = true) : dCall n ms [] F fl s = .ok v s2 := by
  unfold dCall
  rw [bind_eq, e]
  exact pass_pure e2 e3 e4 e5 h
section
variable {s s1 s2 : State}
end
theorem ok.op2R {h : D → D → Option T} {fa : M VR} {f : M T} {x : VR} {s s1 : State} {Q : T → State → Prop} (ha : fa s = .ok x s1) (hf : ok f s1 fun t s2 => ∃ d r, readV x s2 = .ok d s2 ∧ h d t.data = some r ∧ Q r s2) : ok (dOp2 h fa (dV f)) s Q := by
  obtain ⟨t, s2, e, d, r, e1, e2, q⟩ := hf
  exact ⟨r, s2, dOp2_eq ha (dV_eq e) e1 rfl e2, q⟩
theorem setT_eq {i : Nat} {t : T} {s : State} (h : canSet s i = true) : setT i t s = .ok () (putE s i t.w) := by
  unfold setT
  rw [if_pos h]
theorem okS.par {i j : Nat} {f1 f2 : M T} {s : State} {Nx : State → Prop} {Rt : T → State → Prop} (h : ok f1 s fun t1 s1 => ok f2 s1 fun t2 s2 => canSet s2 i = true ∧ canSet (putE s2 i t1.w) j = true ∧ Nx (putE (putE s2 i t1.w) j t2.w)) : okS (dPar i j (dCons (dV f1) (dCons (dV f2) dNil))) s Nx Rt := by
  obtain ⟨t1, s1, e1, t2, s2, e2, c1, c2, q⟩ := h
  refine okS.nx (s1 := putE (putE s2 i t1.w) j t2.w) ?_ q
  unfold dPar
  rw [bind_eq, dCons_eq (dV_eq e1) (dCons_eq (dV_eq e2) (k := dNil) rfl)]
  show (setT i t1 >>= fun _ => setT j t2 >>= fun _ => dNx) s2 = _
  simp only [bind_eq, setT_eq c1, setT_eq c2]
  rfl
end DL
set_option Elab.async false
set_option linter.all false
set_option maxRecDepth 100000
set_option maxHeartbeats 1000000
namespace Law
open PySem DL
def F_law_take : M DL.Flow := dSeq (dIf (dAnd (dB (dOp2 eqT (dV (drGet .rest 0)) (dV (dC (.int 0))))) (drNe 0)) (drPop 0) (dIf (dB (dOp2 eqT (dV (drGet .rest 0)) (dV (dC (.int 0))))) (dSeq (drSet .turn 0 (dV (dOp2 addD (dV (drGet .turn 0)) (dV (dC (.int 1)))))) 
            (dSeq (dFor itS (.name 2) (drSet .mix 0 (dV (dOp2 modD (dV (dCallB intD (dCons (dV (dOp2 addD (dV (dOp2 addD (dV (dOp2 mulD (dV (drGet .mix 0)) (dV (dC (.int 69621))))) (dV (dOp2 mulD (dSlot 2) (dV (dC (.int 48271))))))) (dV (dC (.int 12345))))) (dNil)))) (dV (dC (.int 2147483629)))))) (dOne (dV (dOp2 addD (dV (dLst (dCons (dV (drGet .turn 0)) (dNil)))) (dV (drGet .cells 0)))))) 
            (drSet .rest 0 (dV (dOp2 modD (dV (dCallB intD (dCons (dV (dOp2 powD (dV (drGet .mix 0)) (dV (dC (.int 5))))) (dNil)))) (dV (dC (.int 2305843009213693951)))))))) (dNx))) 
        (dSeq (drDiv 0 1 3) 
        (dRetV 3))
def F_law_pick : M DL.Flow := dRet (dOp2 ixD (dSlot 1) (dV (dCall 4 [.F, .F] [] F_law_take (dCons (dSlot 0) (dCons (dV (dCallB lenD (dCons (dSlot 1) (dNil)))) (dNil))))))
end Law
namespace DL
open PySem
theorem gives.of {F : M Flow} {n : Nat} {args : List D} {s : State} {Q : T → State → Prop} (h : okS F { env := args.map (fun d => some (.fz d)) ++ List.replicate (n - args.length) none, sto := s.sto, dr := s.dr } (fun _ => False) (fun t s' => args.length ≤ s'.env.length ∧ Q t { s with sto := s'.sto, dr := s'.dr })) : gives F n args s Q := by
  unfold okS at h
  cases q : F { env := args.map (fun d => some (.fz d)) ++ List.replicate (n - args.length) none, sto := s.sto, dr := s.dr } with
  | bad => rw [q] at h; exact h.elim
  | err x s' => rw [q] at h; exact h.elim
  | ok f s' =>
    rw [q] at h
    cases f with
    | nx => exact h.elim
    | bk => exact h.elim
    | ct => exact h.elim
    | rt t => exact ⟨t, s', q, h.1, h.2⟩
structure DrOk1 (st : DrawSt) : Prop where
  lo : 0 ≤ st.mix
  hi : st.mix < 2147483629
  la : st.large.length ≤ 63
  ce : st.cells.length ≤ 63
theorem toPys_ints : ∀ ns : List Int, toPys (ns.map D.int) = some (ns.map PyData.int)
  | [] => rfl
  | n :: ns => by
    show toPys (D.int n :: ns.map D.int) = _
    unfold toPys
    rw [toPys_ints ns]
    rfl
theorem lay_ints : ∀ ns : List Int, PyData.canLayAll0 (ns.map PyData.int) = true
  | [] => rfl
  | n :: ns => by
    show PyData.canLayAll0 (PyData.int n :: ns.map PyData.int) = true
    unfold PyData.canLayAll0
    rw [lay_ints ns]
    rfl
theorem deep_ints : ∀ ns : List Int, PyData.depthAll (ns.map PyData.int) ≤ 1
  | [] => Nat.zero_le _
  | n :: ns => by
    show PyData.depthAll (PyData.int n :: ns.map PyData.int) ≤ 1
    unfold PyData.depthAll
    have h := deep_ints ns
    have h2 : PyData.depth (.int n) ≤ 1 := by unfold PyData.depth; omega
    omega
theorem shaped_ints (ns : List Int) : SeqAt.shaped (.list (ns.map PyData.int)) = true := by
  unfold SeqAt.shaped
  rw [Bool.and_eq_true]
  refine ⟨?_, decide_eq_true ?_⟩
  · unfold PyData.canLay0
    exact lay_ints ns
  · unfold PyData.depth
    have h := deep_ints ns
    omega
theorem ne_nil (ns : List Int) : neT (.lst (ns.map D.int)) (.lst []) = some (.fz (.bl (decide (ns ≠ [])))) := by
  have e : eqD (.lst (ns.map D.int)) (.lst []) = some (decide (ns = [])) := by
    unfold eqD
    have e1 : toPy (.lst (ns.map D.int)) = some (.list (ns.map PyData.int)) := by
      unfold toPy
      rw [toPys_ints ns]
      rfl
    have e2 : toPy (.lst []) = some (.list []) := rfl
    rw [e1, e2]
    have e3 : SeqAt.shaped (.list []) = true := shaped_ints []
    simp only [shaped_ints, e3, Bool.and_self, if_true]
    cases ns with
    | nil => rfl
    | cons n ns => rfl
  unfold neT
  rw [e]
  cases ns <;> rfl
example (a b : Int) : eqT (.int a) (.int b) = some (.fz (.bl (decide (a = b)))) := rfl
theorem take_gives {s : State} {st : DrawSt} {n : Int} {Q : T → State → Prop} (hs : s.dr = some st) (hd : DrOk1 st) (h0 : 0 < n) (h1 : n < 18446744073709551616) (h : ∀ (r : Int) (st' : DrawSt), 0 ≤ r → r < n → DrOk1 st' → Q (.fz (.int r)) { s with dr := some st' }) : gives Law.F_law_take 4 [.draw, .int n] s Q := by
  refine .of ?_
  obtain ⟨env, sto, dr⟩ := s
  cases hs
  show okS Law.F_law_take { env := [some (.fz .draw), some (.fz (.int n)), none, none], sto := sto, dr := some st } _ _
  unfold Law.F_law_take
  -- the end: rest, found = divmod(rest, size); return found
  have fin : ∀ (st : DrawSt) (w : Option W), DrOk1 st → okS (dSeq (drDiv 0 1 3) (dRetV 3)) { env := [some (.fz .draw), some (.fz (.int n)), w, none], sto := sto, dr := some st } (fun _ => False) (fun t s' => [D.draw, D.int n].length ≤ s'.env.length ∧ Q t { env := env, sto := s'.sto, dr := s'.dr }) := fun st w hst => by
    refine okS.seq (okS.nx (s1 := { env := [some (.fz .draw), some (.fz (.int n)), w, some (.fz (.int (st.rest % n)))], sto := sto, dr := some (st.set .rest (st.rest / n)) }) ?_ (okS.rt rfl ⟨by show 2 ≤ 4; decide, ?_⟩))
    · unfold drDiv
      show (if 0 < n ∧ n < 18446744073709551616 then _ else _) = _
      rw [if_pos ⟨h0, h1⟩]
      rfl
    · exact h _ _ (Int.emod_nonneg _ (by omega)) (Int.emod_lt_of_pos _ h0) ⟨hst.lo, hst.hi, hst.la, hst.ce⟩
  -- the other way: turn, mix, rest
  have mid : st.rest = 0 → okS (dIf (dB (dOp2 eqT (dV (drGet .rest 0)) (dV (dC (.int 0))))) (dSeq (drSet .turn 0 (dV (dOp2 addD (dV (drGet .turn 0)) (dV (dC (.int 1)))))) (dSeq (dFor itS (.name 2) (drSet .mix 0 (dV (dOp2 modD (dV (dCallB intD (dCons (dV (dOp2 addD (dV (dOp2 addD (dV (dOp2 mulD (dV (drGet .mix 0)) (dV (dC (.int 69621))))) (dV (dOp2 mulD (dSlot 2) (dV (dC (.int 48271))))))) (dV (dC (.int 12345))))) (dNil)))) (dV (dC (.int 2147483629)))))) (dOne (dV (dOp2 addD (dV (dLst (dCons (dV (drGet .turn 0)) (dNil)))) (dV (drGet .cells 0))))))
      (drSet .rest 0 (dV (dOp2 modD (dV (dCallB intD (dCons (dV (dOp2 powD (dV (drGet .mix 0)) (dV (dC (.int 5))))) (dNil)))) (dV (dC (.int 2305843009213693951)))))))) (dNx)) { env := [some (.fz .draw), some (.fz (.int n)), none, none], sto := sto, dr := some st } (fun s1 => okS (dSeq (drDiv 0 1 3) (dRetV 3)) s1 (fun _ => False) (fun t s' => [D.draw, D.int n].length ≤ s'.env.length ∧ Q t { env := env, sto := s'.sto, dr := s'.dr })) (fun t s' => [D.draw, D.int n].length ≤ s'.env.length ∧ Q t { env := env, sto := s'.sto, dr := s'.dr }) := fun hr => by
    refine okS.ite (ok.dec (P := st.rest = 0) rfl (fun _ => yes ?_) fun z => (z hr).elim)
    refine okS.seq (okS.nx (s1 := { env := [some (.fz .draw), some (.fz (.int n)), none, none], sto := sto, dr := some (st.set .turn (st.turn + 1)) }) rfl ?_)
    refine okS.seq (okS.forV (rs := [.t (.ow (.lst (D.int (st.turn + 1) :: st.cells.map D.int)))]) (s1 := { env := [some (.fz .draw), some (.fz (.int n)), none, none], sto := sto, dr := some (st.set .turn (st.turn + 1)) }) (ds := [.lst (D.int (st.turn + 1) :: st.cells.map D.int)]) (items := D.int (st.turn + 1) :: st.cells.map D.int) ?_ rfl rfl ?_)
    · have hl : ([D.int (st.turn + 1)] : List D).length + (st.cells.map D.int).length ≤ sizeLine := by
        rw [List.length_map]
        have := hd.ce
        exact Nat.le_trans (Nat.add_le_add_left this 1) (by decide)
      have e : addD (.lst [D.int (st.turn + 1)]) (.lst (st.cells.map D.int)) = some (.ow (.lst (D.int (st.turn + 1) :: st.cells.map D.int))) := by
        show (if ([D.int (st.turn + 1)] : List D).length + (st.cells.map D.int).length ≤ sizeLine then _ else _) = _
        rw [if_pos hl]
        rfl
      exact dOne_eq (dV_eq (dOp2_eq rfl rfl rfl rfl e))
    · refine okS.walk (fun i s => ∃ (st2 : DrawSt) (w : Option W), (w = none ∨ ∃ d, w = some (.fz d)) ∧ s = { env := [some (.fz .draw), some (.fz (.int n)), w, none], sto := sto, dr := some st2 } ∧ DrOk1 st2) ⟨_, none, .inl rfl, rfl, hd.lo, hd.hi, hd.la, hd.ce⟩ ?_ ?_
      · rintro i d s hi ⟨st2, w, hw, rfl, h2⟩
        obtain ⟨c, rfl⟩ : ∃ c, d = .int c := by
          cases i with
          | zero => cases hi; exact ⟨_, rfl⟩
          | succ i =>
            have hi : (st.cells.map D.int)[i]? = some d := hi
            rw [List.getElem?_map] at hi
            cases q : st.cells[i]? with
            | none => rw [q] at hi; cases hi
            | some c => rw [q] at hi; cases hi; exact ⟨c, rfl⟩
        refine ⟨{ env := [some (.fz .draw), some (.fz (.int n)), some (.fz (.int c)), none], sto := sto, dr := some st2 }, by rcases hw with rfl | ⟨_, rfl⟩ <;> rfl, ?_⟩
        refine okS.nx (s1 := { env := [some (.fz .draw), some (.fz (.int n)), some (.fz (.int c)), none], sto := sto, dr := some (st2.set .mix ((st2.mix * 69621 + c * 48271 + 12345) % 2147483629)) }) ?_ ⟨_, _, .inr ⟨_, rfl⟩, rfl, Int.emod_nonneg _ (by decide), Int.emod_lt_of_pos _ (by decide), h2.la, h2.ce⟩
        have e : ∀ (fv : M VR) (s2 : State) (v : Int), fv s2 = .ok (.t (.fz (.int v))) s2 → s2.env[0]? = some (some (.fz .draw)) → s2.dr = some st2 → drSet .mix 0 fv s2 = .ok .nx { s2 with dr := some (st2.set .mix v) } := fun fv s2 v h1 h2 h3 => by
          unfold drSet
          rw [bind_eq, h1]
          show (frz (.t (.fz (.int v))) >>= _) s2 = _
          rw [bind_eq]
          show (drOf 0 >>= _) s2 = _
          have h4 : drOf 0 s2 = .ok st2 s2 := by unfold drOf; rw [h2, h3]
          rw [bind_eq, h4]
          rfl
        exact e _ _ _ (dV_eq (dOp2_eq (dV_eq (dCallB_eq (dCons_eq (dV_eq (dOp2_eq (dV_eq (dOp2_eq (dV_eq (dOp2_eq rfl rfl rfl rfl (mul_r rfl))) (dV_eq (dOp2_eq rfl rfl rfl rfl (mul_r rfl))) rfl rfl rfl)) rfl rfl rfl rfl)) rfl) rfl rfl)) rfl rfl rfl (mod_pos (by decide)))) rfl rfl
      · rintro s' ⟨st2, w, hw, rfl, h2⟩
        refine okS.nx (s1 := { env := [some (.fz .draw), some (.fz (.int n)), w, none], sto := sto, dr := some (st2.set .rest (st2.mix ^ 5 % 2305843009213693951)) }) ?_ (fin _ w ⟨h2.lo, h2.hi, h2.la, h2.ce⟩)
        have e : ∀ (fv : M VR) (s2 : State) (v : Int), fv s2 = .ok (.t (.fz (.int v))) s2 → s2.env[0]? = some (some (.fz .draw)) → s2.dr = some st2 → drSet .rest 0 fv s2 = .ok .nx { s2 with dr := some (st2.set .rest v) } := fun fv s2 v h1 h2 h3 => by
          unfold drSet
          rw [bind_eq, h1]
          show (frz (.t (.fz (.int v))) >>= _) s2 = _
          rw [bind_eq]
          show (drOf 0 >>= _) s2 = _
          have h4 : drOf 0 s2 = .ok st2 s2 := by unfold drOf; rw [h2, h3]
          rw [bind_eq, h4]
          rfl
        have hm : st2.mix.natAbs < 2 ^ 64 := by
          have := h2.lo
          have := h2.hi
          omega
        exact e _ _ _ (dV_eq (dOp2_eq (dV_eq (dCallB_eq (dCons_eq (dV_eq (dOp2_eq rfl rfl rfl rfl (pow_ok (by decide) (by decide) hm))) rfl) rfl rfl)) rfl rfl rfl (mod_pos (by decide)))) rfl rfl
  refine okS.seq (okS.ite (ok.and (ok.dec (P := st.rest = 0) rfl (fun hr => yes (ok.dec (P := st.large ≠ []) ?_ (fun hl => yes ?_) fun _ => no (mid hr))) fun hr => no (no ?_))))
  · unfold drNe
    show (match neT (.lst (st.large.map D.int)) (.lst []) with | some (.fz (.bl b)) => (pure b : M Bool) | _ => M.bad) _ = _
    rw [ne_nil]
    rfl
  · -- a large number is taken
    cases hq : st.large with
    | nil => exact (hl hq).elim
    | cons x xs =>
      refine okS.nx (s1 := { env := [some (.fz .draw), some (.fz (.int n)), none, none], sto := sto, dr := some { st with rest := x, large := xs } }) ?_ (fin _ _ ⟨hd.lo, hd.hi, ?_, hd.ce⟩)
      · unfold drPop
        show (match st.large with | x :: xs => putDr { st with rest := x, large := xs } | [] => M.bad) _ = _
        rw [hq]
        rfl
      · have := hd.la
        rw [hq] at this
        show xs.length ≤ 63
        rw [List.length_cons] at this
        omega
  · exact okS.ite (ok.dec (P := st.rest = 0) rfl (fun z => (hr z).elim) fun _ => no (okS.skip (fin _ _ hd)))
theorem pick_gives {s : State} {st : DrawSt} {ds : List D} {Q : T → State → Prop} (hs : s.dr = some st) (hd : DrOk1 st) (h0 : 0 < ds.length) (h1 : ds.length < 18446744073709551616) (h : ∀ d ∈ ds, ∀ st', DrOk1 st' → Q (.fz d) { s with dr := some st' }) : gives Law.F_law_pick 2 [.draw, .lst ds] s Q := by
  refine .of ?_
  obtain ⟨env, sto, dr⟩ := s
  cases hs
  show okS Law.F_law_pick { env := [some (.fz .draw), some (.fz (.lst ds))], sto := sto, dr := some st } _ _
  unfold Law.F_law_pick
  refine okS.ret (ok.op2R rfl (ok.call (ds := [.draw, .int ds.length]) rfl rfl (take_gives (st := st) rfl hd (by omega) (by omega) fun r st' hr0 hr1 hst => ?_)))
  obtain ⟨j, rfl⟩ : ∃ j : Nat, r = j := ⟨r.toNat, by omega⟩
  have hj : j < ds.length := by omega
  refine ⟨.lst ds, .fz ds[j], rfl, ?_, by show 2 ≤ 2; decide, h _ (List.getElem_mem hj) st' hst⟩
  show (L2.atI ds (j : Int)).map T.fz = _
  rw [L2.atI_nat (List.getElem?_eq_getElem hj)]
  rfl
end DL
set_option Elab.async false
set_option linter.all false
set_option maxRecDepth 100000
set_option maxHeartbeats 1000000
namespace DL
open PySem PySem.Spec PyProof.Rows L2
def Gh.pub (g : Gh) (a : Addr) : Gh := { g with η := g.η ++ [a] }
section
variable {K : PySem.W.Frag} {g g0 : Gh} {H H0 : Hp} {σ σ0 : Slots} {s s0 : State} {a : Addr} {o : HO}
theorem mem_pub {b : Addr} (h : b ∈ (g.pub a).η) : b ∈ g.η ∨ b = a := by
  have h : b ∈ g.η ++ [a] := h
  rcases List.mem_append.mp h with h | h
  · exact .inl h
  · exact .inr (by simpa using h)
theorem Free1.pub {b : Addr} (f : Free1 g b) (ne : b ≠ a) : Free1 (g.pub a) b := ⟨f.1, fun z => (mem_pub z).elim f.2.1 ne, f.2.2⟩
end
section
variable {X : Cx} {Wx : WX} {e : Expr} {f : M T}
end
end DL
set_option Elab.async false
set_option linter.all false
set_option maxRecDepth 100000
set_option maxHeartbeats 1000000
namespace DL
open PySem PySem.Spec PyProof.Rows L2
section
variable {X : Cx} {Wx : WX} {pos : Pos} {keys : List (Option Expr)} {values : List Expr} {fl : M (List VR)} {k v : Expr} {fk fv : M VR}
end
section
variable {K : PySem.W.Frag} {g : Gh}
end
section
variable {X : Cx} {Wx : WX} {pos : Pos} {keys : List (Option Expr)} {values : List Expr} {fl : M (List VR)}
end
end DL
set_option Elab.async false
set_option linter.all false
set_option maxRecDepth 100000
set_option maxHeartbeats 1000000
namespace DL
open PySem PySem.Spec PyProof.Rows L2
section
variable {X : Cx} {Wx : WX} {pos : Pos}
end
end DL
set_option Elab.async false
set_option linter.all false
set_option maxRecDepth 100000
set_option maxHeartbeats 1000000
namespace DL
open PySem
section
variable {s s1 s2 s3 s4 : State}
end
end DL
set_option Elab.async false
set_option linter.all false
set_option maxRecDepth 100000
set_option maxHeartbeats 1000000
namespace DL
open PySem PySem.Spec PyProof.Rows L2
def Shp (n : Nat) (d : D) : Prop := ∃ p, toPy d = some p ∧ p.canLay0 = true ∧ p.depth ≤ n
theorem Shp.int (n : Nat) (i : Int) : Shp n (.int i) := ⟨.int i, rfl, by simp [PyData.canLay0], by simp [PyData.depth]⟩
theorem Shp.non (n : Nat) : Shp n .non := ⟨.none, rfl, by simp [PyData.canLay0], by simp [PyData.depth]⟩
theorem Shp.bl (n : Nat) (b : Bool) : Shp n (.bl b) := ⟨.bool b, rfl, by simp [PyData.canLay0], by simp [PyData.depth]⟩
theorem Shp.all {n : Nat} : ∀ {ds : List D}, (∀ d ∈ ds, Shp n d) → ∃ ps, toPys ds = some ps ∧ PyData.canLayAll0 ps = true ∧ PyData.depthAll ps ≤ n ∧ ps.length = ds.length
  | [], _ => ⟨[], rfl, by simp [PyData.canLayAll0], by simp [PyData.depthAll], rfl⟩
  | d :: ds, h => by
    obtain ⟨p, h1, h2, h3⟩ := h d List.mem_cons_self
    obtain ⟨ps, h4, h5, h6, h7⟩ := Shp.all fun x hx => h x (List.mem_cons_of_mem _ hx)
    refine ⟨p :: ps, by unfold toPys; rw [h1, h4], by simp [PyData.canLayAll0, h2, h5], by simp only [PyData.depthAll]; omega, by rw [List.length_cons, List.length_cons, h7]⟩
theorem Shp.lst {n : Nat} {ds : List D} (h : ∀ d ∈ ds, Shp n d) : Shp (n + 1) (.lst ds) := by
  obtain ⟨ps, h4, h5, h6, _⟩ := Shp.all h
  exact ⟨.list ps, by show (toPys ds).map _ = _; rw [h4]; rfl, by simpa [PyData.canLay0] using h5, by simp only [PyData.depth]; omega⟩
theorem Shp.tup {n : Nat} {ds : List D} (h : ∀ d ∈ ds, Shp n d) : Shp (n + 1) (.tup ds) := by
  obtain ⟨ps, h4, h5, h6, _⟩ := Shp.all h
  exact ⟨.tuple ps, by show (toPys ds).map _ = _; rw [h4]; rfl, by simpa [PyData.canLay0] using h5, by simp only [PyData.depth]; omega⟩
mutual
theorem eqv_refl : ∀ p : PyData, p.canLay0 = true → PyData.eqv p p = true
  | .none, _ => by simp [PyData.eqv]
  | .bool b, _ => by simp [PyData.eqv]
  | .int i, _ => by simp [PyData.eqv]
  | .str x, _ => by simp [PyData.eqv]
  | .list xs, h => by
    have h : PyData.canLayAll0 xs = true := by simpa [PyData.canLay0] using h
    simp only [PyData.eqv]
    exact eqv_refls xs h
  | .tuple xs, h => by
    have h : PyData.canLayAll0 xs = true := by simpa [PyData.canLay0] using h
    simp only [PyData.eqv]
    exact eqv_refls xs h
  | .dict kvs, h => by simp [PyData.canLay0] at h
theorem eqv_refls : ∀ ps : List PyData, PyData.canLayAll0 ps = true → PyData.eqvAll ps ps = true
  | [], _ => by simp [PyData.eqvAll]
  | p :: ps, h => by
    simp only [PyData.canLayAll0, Bool.and_eq_true] at h
    simp only [PyData.eqvAll, Bool.and_eq_true]
    exact ⟨eqv_refl p h.1, eqv_refls ps h.2⟩
end
end DL
set_option Elab.async false
set_option linter.all false
set_option maxRecDepth 100000
set_option maxHeartbeats 1000000
namespace DL
open PySem PySem.Spec PyProof.Rows L2
def leP (a b : Int × Int) : Prop := a.1 < b.1 ∨ (a.1 = b.1 ∧ a.2 ≤ b.2)
instance (a b : Int × Int) : Decidable (leP a b) := by unfold leP; infer_instance
end DL
set_option Elab.async false
set_option linter.all false
set_option maxRecDepth 100000
set_option maxHeartbeats 1000000
namespace DL
open PySem PySem.Spec PyProof.Rows L2
mutual
theorem pyNoDict {K : PySem.W.Frag} {H : Hp} : ∀ {p : PyData} {v : V}, Dp K H v p → p.hasDict = false
  | .none, _, _ => rfl
  | .bool _, _, _ => rfl
  | .int _, _, _ => rfl
  | .str _, _, _ => rfl
  | .list ps, _, h => by
    cases h with
    | lst _ h => show PyData.hasDictAll ps = false; exact pyNoDictAll h
  | .tuple ps, _, h => by
    cases h with
    | tup _ h => show PyData.hasDictAll ps = false; exact pyNoDictAll h
  | .dict _, _, h => by cases h
theorem pyNoDictAll {K : PySem.W.Frag} {H : Hp} : ∀ {ps : List PyData} {vs : List V}, DpAll K H vs ps → PyData.hasDictAll ps = false
  | [], _, _ => rfl
  | p :: ps, _, h => by
    cases h with
    | cons h1 h2 => show (PyData.hasDict p || PyData.hasDictAll ps) = false; rw [pyNoDict h1, pyNoDictAll h2]; rfl
end
def shows (p : PyData) : Bool := p.showable && decide (p.shown.length ≤ sizeLine) && decide (p.depth ≤ 32)
def reprD : List D → Option T
  | [d] => match toPy d with
    | some p => if shows p = true then some (.fz (.str p.shown)) else none
    | none => none
  | _ => none
theorem call_reprD {X : Cx} (hg : X.A.guards = some []) (hu : X.A.units + 64 < cLine) : CallR X (.builtin "repr") (fun xs H Q => ∃ v p, xs = [v] ∧ Dp X.K H v p ∧ shows p = true ∧ Q (.str p.shown) H) := by
  intro pins s σ H xs us Q I r h
  obtain ⟨v, p, rfl, hp, hs, q⟩ := h
  obtain ⟨u, rfl, ru⟩ := vals1 r
  unfold shows at hs
  rw [Bool.and_eq_true, Bool.and_eq_true, decide_eq_true_eq, decide_eq_true_eq] at hs
  obtain ⟨⟨h1, h2⟩, h3⟩ := hs
  obtain ⟨as, rd⟩ := hp.reads I p v u ru
  have hd := pyNoDict hp
  have fin : ∀ {a : Addr}, u = .ref a → wpAny (model X.prog X.w) X.A (call (.builtin "repr") [u]) (EP X pins σ Q) X.xe s := by
    rintro a rfl
    exact repr_of_reads' rd h1 (PyData.noDict_hsm hd) hg (by omega) (fun _ _ e => e) (fun h' t tk k => ⟨.str _, H, I.kept k, ⟨_, rfl⟩, q⟩) h2
  cases p with
  | none => cases hp; cases ru; exact PySem.P.repr_of_none ⟨.str _, H, I.tok _, ⟨_, rfl⟩, q⟩
  | bool b => cases hp; cases ru; exact PySem.P.repr_of_bool ⟨.str _, H, I.tok _, ⟨_, rfl⟩, q⟩
  | int i => cases hp; obtain ⟨t, rfl⟩ := ru; exact PySem.P.repr_of_int (of_decide_eq_true h1) ⟨.str _, H, I.tok _, ⟨_, rfl⟩, q⟩
  | str x => cases hp; obtain ⟨t, rfl⟩ := ru; exact PySem.P.repr_of_str ⟨.str _, H, I.tok _, ⟨_, rfl⟩, q⟩ h2
  | list ps => cases hp; exact fin ru
  | tuple ps => cases hp; exact fin ru
  | dict _ => cases hp
theorem c_repr {X : Cx} {k : Nat} (room : Room k X.A) : CallD X (.builtin "repr") reprD := by
  refine ⟨_, call_reprD room.gd room.units, fun g H σ s xs ds t Q sd hxs hh f => ?_⟩
  unfold reprD at hh
  split at hh
  · rename_i d
    obtain ⟨x, rfl, hx⟩ := hxs.one
    cases e : toPy d with
    | none => simp only [e] at hh; cases hh
    | some p =>
      simp only [e] at hh
      by_cases hs : shows p = true
      · rw [if_pos hs] at hh; cases hh
        exact ⟨x, p, rfl, hx.dp sd e, hs, f.fz sd (.str _)⟩
      · rw [if_neg hs] at hh; cases hh
  · cases hh
section
variable {X : Cx} {Wx : WX} {e o : Expr}
end
end DL
set_option Elab.async false
set_option linter.all false
set_option maxRecDepth 100000
set_option maxHeartbeats 1000000
namespace DL
open PySem PySem.Spec PyProof.Rows L2
def pick {α : Type} : List Nat → List α → List α
  | [], _ => []
  | i :: π, l => match l[i]? with
    | some x => x :: pick π l
    | none => pick π l
theorem Vals.pick {vs : List V} {us : List Value} (r : Vals vs us) : ∀ π : List Nat, Vals (pick π vs) (pick π us)
  | [] => .nil
  | i :: π => by
    unfold DL.pick
    cases e : vs[i]? with
    | some v =>
      obtain ⟨u, hu, rv⟩ := r.get e
      rw [hu]
      exact .cons rv (Vals.pick r π)
    | none =>
      have : us[i]? = none := List.getElem?_eq_none (by rw [← r.length]; exact List.getElem?_eq_none_iff.mp e)
      rw [this]
      exact Vals.pick r π
section
variable {K : PySem.W.Frag} {σ : Slots} {H0 : Hp} {g : Gh} {H : Hp} {s : State}
theorem RVRs.get : ∀ {vs : List V} {rs : List VR} {i : Nat} {v : V}, RVRs K σ H0 g H s vs rs → vs[i]? = some v → ∃ r, rs[i]? = some r ∧ RVR K σ H0 g H s v r
  | _, _, _, _, .nil, e => by cases e
  | _, _, 0, _, .cons a _ _, e => by cases e; exact ⟨_, rfl, a⟩
  | _, _, i + 1, _, .cons (vs := vs) (rs := rs) _ r _, e => RVRs.get (vs := vs) (rs := rs) (i := i) r e
theorem zip_mem {α β : Type} : ∀ {l : List α} {m : List β} {j : Nat} {x : α} {y : β}, l[j]? = some x → m[j]? = some y → (x, y) ∈ l.zip m
  | [], _, _, _, _, h, _ => by cases h
  | _ :: _, [], _, _, _, _, h => by cases h
  | a :: l, b :: m, 0, _, _, h1, h2 => by cases h1; cases h2; exact List.mem_cons_self
  | a :: l, b :: m, j + 1, _, _, h1, h2 => List.mem_cons_of_mem _ (zip_mem h1 h2)
theorem RVRs.two : ∀ {vs : List V} {rs : List VR} {i j : Nat} {a : Addr} {v : V} {d d' : D}, RVRs K σ H0 g H s vs rs → i ≠ j → vs[i]? = some (.ref a) → rs[i]? = some (.t (.ow d)) → vs[j]? = some v → rs[j]? = some (.t (.ow d')) → v ≠ .ref a
  | _, _, _, _, _, _, _, _, .nil, _, e, _, _, _ => by cases e
  | _, _, 0, 0, _, _, _, _, _, n, _, _, _, _ => (n rfl).elim
  | _, _, 0, j + 1, _, _, _, _, .cons _ _ c, _, e1, e2, e3, e4 => by
    cases e1; cases e2
    exact c _ _ rfl rfl _ (zip_mem (show _ = _ from e3) (show _ = _ from e4)) _ rfl
  | _, _, i + 1, 0, a, v, d, d', .cons _ _ c, _, e1, e2, e3, e4 => by
    cases e3; cases e4
    intro z
    exact c a _ rfl z _ (zip_mem (show _ = _ from e1) (show _ = _ from e2)) _ rfl rfl
  | _, _, i + 1, j + 1, _, _, _, _, .cons _ r _, n, e1, e2, e3, e4 => RVRs.two r (fun z => n (by rw [z])) e1 e2 e3 e4
theorem pick_mem {α β : Type} {l : List α} {m : List β} (hl : l.length = m.length) : ∀ {π : List Nat} {p : α × β}, p ∈ (pick π l).zip (pick π m) → ∃ j ∈ π, l[j]? = some p.1 ∧ m[j]? = some p.2
  | [], p, h => by cases h
  | i :: π, p, h => by
    unfold DL.pick at h
    cases e : l[i]? with
    | none =>
      have e2 : m[i]? = none := List.getElem?_eq_none (by rw [← hl]; exact List.getElem?_eq_none_iff.mp e)
      rw [e, e2] at h
      obtain ⟨j, hj, q⟩ := pick_mem hl h
      exact ⟨j, List.mem_cons_of_mem _ hj, q⟩
    | some x =>
      have hi : i < m.length := by rw [← hl]; exact (List.getElem?_eq_some_iff.mp e).1
      have e2 : m[i]? = some m[i] := List.getElem?_eq_getElem hi
      rw [e, e2] at h
      rcases List.mem_cons.mp h with rfl | h
      · exact ⟨i, List.mem_cons_self, e, e2⟩
      · obtain ⟨j, hj, q⟩ := pick_mem hl h
        exact ⟨j, List.mem_cons_of_mem _ hj, q⟩
theorem RVRs.pick {vs : List V} {rs : List VR} (r : RVRs K σ H0 g H s vs rs) : ∀ {π : List Nat}, π.Nodup → RVRs K σ H0 g H s (pick π vs) (pick π rs)
  | [], _ => .nil
  | i :: π, n => by
    unfold DL.pick
    obtain ⟨n1, n2⟩ := List.nodup_cons.mp n
    cases e : vs[i]? with
    | none =>
      have : rs[i]? = none := List.getElem?_eq_none (by rw [← r.length]; exact List.getElem?_eq_none_iff.mp e)
      rw [this]
      exact RVRs.pick r n2
    | some v =>
      obtain ⟨x, hx, rx⟩ := r.get e
      rw [hx]
      refine .cons rx (RVRs.pick r n2) fun a d e1 e2 p hp d' e3 => ?_
      subst e1; subst e2
      obtain ⟨j, hj, q1, q2⟩ := pick_mem r.length hp
      rw [e3] at q2
      exact r.two (i := i) (j := j) (fun z => n1 (by rw [z]; exact hj)) e hx q1 q2
end
section
variable {X : Cx} {Wx : WX} {e o : Expr} {kws : List Keyword} {f : M VR} {fl : M (List VR)} {nm : Option Str} {kpos : Pos}
variable {k : Nat} {C f0 : Addr} {fd : FuncData} {ps N ks : List Str} {b : M Flow} {x m : Str} {p pos apos : Pos} {fo : M VR} {ms : List AM} {π : List Nat}
end
def neS : D → D → Option T
  | .str a, .str b => some (.fz (.bl (!decide (V.str a = V.str b))))
  | _, _ => none
theorem neS_refl (a : Str) : neS (.str a) (.str a) = some (.fz (.bl false)) := by
  show some (DL.T.fz (.bl (!decide (V.str a = V.str a)))) = _
  rw [decide_eq_true rfl]
  rfl
theorem o_neS {X : Cx} : OpD X (compareOp .NotEq) neS := by
  refine ⟨_, op_ne, fun g H σ s x y d e t Q sd hx hy hh f => ?_⟩
  unfold neS at hh
  split at hh
  · cases hh
    cases hx.str
    cases hy.str
    exact ⟨rfl, f.fz sd (.bl _)⟩
  · cases hh
end DL
set_option Elab.async false
set_option linter.all false
set_option maxRecDepth 100000
set_option maxHeartbeats 1000000
namespace DL
open PySem PySem.Spec PyProof.Rows L2
section
variable {K : PySem.W.Frag} {g g' g0 : Gh} {H H' H0 : Hp} {σ σ' σ0 : Slots} {s s' s0 : State} {a b : Addr} {o u : HO} {od : Obj} {v : V} {d : D}
theorem SD.gNoMu (sd : SD K g H σ s) (h : g.G a = some o) : ¬ Mu g σ s a := fun m => by
  rcases m with ⟨i, w, e, hm, x⟩ | m | ⟨x, l, e, m⟩
  · obtain ⟨v, ev, wa⟩ := sd.slot i w e
    rw [x] at ev; cases ev
    cases w with
    | own d => obtain ⟨b, u, eb, f, _⟩ := wa; cases eb; rw [f.1] at h; cases h
    | lent d => obtain ⟨b, u, eb, f, _⟩ := wa; cases eb; rw [f.1] at h; cases h
    | _ => cases hm
  · rw [(sd.ng a m).1] at h; cases h
  · have dr := sd.dr
    rw [e] at dr
    cases q : s.dr with
    | none => rw [q] at dr; exact dr
    | some y =>
      rw [q] at dr
      rcases m with rfl | rfl
      · rw [dr.ga] at h; cases h
      · rw [dr.gl] at h; cases h
theorem Src.lock {a : Addr} (sd : SD K g H σ s) (h : Src K g σ s (.ref a) d) (hd : ∀ o, ObAt K g o d → lockable o = true) (hr : Rep K g (.ref a) d → ∃ o, g.G a = some o ∧ ObAt K g o d) : ∃ o, RdO H a o ∧ lockable o = true ∧ ObAt K g o d ∧ ¬ Mu g σ s a ∧ ∀ u, g.G a = some u → u = o := by
  rcases h with h | ⟨i, hv, h⟩
  · obtain ⟨o, q, ob⟩ := hr h
    exact ⟨o, sd.gh a o q, hd o ob, ob, sd.gNoMu q, fun u e => by rw [q] at e; cases e; rfl⟩
  · have key : ∀ w : W, s.env[i]? = some (some w) → (w = .lk d ∨ w = .lkl d) → ∃ o, RdO H a o ∧ lockable o = true ∧ ObAt K g o d ∧ ¬ Mu g σ s a ∧ ∀ u, g.G a = some u → u = o := fun w e hw => by
      obtain ⟨v', ev, wa⟩ := sd.slot i _ e
      rw [hv] at ev; cases ev
      have hh : w.held = true ∧ w.mut = false := by rcases hw with rfl | rfl <;> exact ⟨rfl, rfl⟩
      have wa : ∃ b o, V.ref a = .ref b ∧ Free1 g b ∧ RdO H b o ∧ ObAt K g o d := by rcases hw with rfl | rfl <;> exact wa
      obtain ⟨b, o, eb, f, q, ob⟩ := wa
      cases eb
      refine ⟨o, q, hd o ob, ob, fun m => ?_, fun u e2 => by rw [f.1] at e2; cases e2⟩
      rcases m with ⟨j, y, e3, hm, x⟩ | m | m
      · have := sd.inj i j w y a e e3 hh.1 (by cases y <;> first | rfl | cases hm) hv x
        subst this
        rw [e] at e3; cases e3
        rw [hh.2] at hm; cases hm
      · exact f.2.1 m
      · exact f.2.2 m
    rcases h with h | h
    · exact key _ h (.inl rfl)
    · exact key _ h (.inr rfl)
theorem Rep.dkAt {ds : List (Key × D)} {a : Addr} (h : Rep K g (.ref a) (.dk ds)) : ∃ o, g.G a = some o ∧ ObAt K g o (.dk ds) := by
  cases h with
  | dk q k r => exact ⟨_, q, _, rfl, k, r⟩
theorem Rep.dtAt {ds : List (List Key × D)} {a : Addr} (h : Rep K g (.ref a) (.dt ds)) : ∃ o, g.G a = some o ∧ ObAt K g o (.dt ds) := by
  cases h with
  | dt q k r => exact ⟨_, q, _, rfl, k, r⟩
end
section
variable {K : PySem.W.Frag} {g g' g0 : Gh} {H H' H0 : Hp} {σ σ' σ0 : Slots} {s s' s0 : State} {a : Addr} {od : Obj}
end
section
variable {X : Cx} {pins : List (Addr × Obj)} {σ : L2.St} {H : Hp} {s : Shared} {d : Addr} {o : Obj}
end
end DL
set_option Elab.async false
set_option linter.all false
set_option maxRecDepth 100000
set_option maxHeartbeats 1000000
namespace DL
open PySem PySem.Spec PyProof.Rows L2
section
variable {K : PySem.W.Frag} {Wx : WX} {g g0 : Gh} {H H0 : Hp} {σ : Slots} {s s0 : State} {Q : V → Hp → Prop}
end
section
variable {X : Cx} {Wx : WX} {pos : Pos} {fl : M (List VR)} {ft : M Bool} {fk fv : M VR} {pt : Pt} {kx vx tg iter : Expr} {ifs : List Expr} {scope : Scope} {own : List (Str × Nat)}
end
end DL
set_option Elab.async false
set_option linter.all false
set_option maxRecDepth 100000
set_option maxHeartbeats 1000000
namespace DL
open PySem PySem.Spec PyProof.Rows L2
section
variable {X : Cx} {Wx : WX} {tg e : Expr} {i : Nat} {apos cpos : Pos}
end
section
variable {K : PySem.W.Frag} {Wx : WX} {g g0 g1 : Gh} {H H0 H1 : Hp} {σ : Slots} {s s0 s1 : State} {Q : V → Hp → Prop} {a : Addr} {o : HO} {i : Nat} {d : DL.D}
theorem Mut.of (ob : ObAt K g o d) : Mut (some o) := by
  cases d with
  | lst _ => obtain ⟨_, rfl, _⟩ := ob; trivial
  | dk _ => obtain ⟨_, rfl, _⟩ := ob; trivial
  | dt _ => obtain ⟨_, rfl, _⟩ := ob; trivial
  | obj _ _ => obtain ⟨_, _, rfl, _⟩ := ob; trivial
  | _ => exact ob.elim
theorem ObAt.lockable (h : isDict d = true) (ob : ObAt K g o d) : lockable o = true := by
  cases d with
  | dk _ => obtain ⟨_, rfl, _⟩ := ob; rfl
  | dt _ => obtain ⟨_, rfl, _⟩ := ob; rfl
  | _ => cases h
theorem Src.dict (sd : SD K g H σ s) (hd : isDict d = true) {v : V} (src : Src K g σ s v d) : ∃ a o, v = .ref a ∧ RdO H a o ∧ lockable o = true ∧ ObAt K g o d ∧ ¬ Mu g σ s a ∧ ∀ u, g.G a = some u → u = o := by
  obtain ⟨a, rfl⟩ : ∃ a, v = .ref a := by
    cases d with
    | dk _ => obtain ⟨a, _, e, _⟩ := (src.view sd).dk sd; exact ⟨a, e⟩
    | dt _ => obtain ⟨a, _, e, _⟩ := (src.view sd).dt sd; exact ⟨a, e⟩
    | _ => cases hd
  obtain ⟨o, z⟩ := src.lock sd (fun o ob => ob.lockable hd) (by
    cases d with
    | dk _ => exact Rep.dkAt
    | dt _ => exact Rep.dtAt
    | _ => cases hd)
  exact ⟨a, o, rfl, z⟩
theorem Cur.walk {α β : Type} {R : Gh → Hp → State → β → α → Prop} {Q : β → Hp → Prop} {k : DL.D → M α} (c : Cur K Wx σ R Q g0 H0 s0 ((frzR (.slot i) >>= k) s1) g1 H1 s1) :
    ∃ v d g2 s2, σ[i]? = some (some v) ∧ Cur K Wx σ R Q g0 H0 s0 (k d s2) g2 H1 s2 ∧ Src K g2 σ s2 v d ∧ Le g1 g2 := by
  rw [bind_eq] at c
  rcases frzR_res (.slot i) s1 with ⟨d, s2, e⟩ | e
  · obtain ⟨w, hw⟩ : ∃ w, s1.env[i]? = some (some w) := by
      cases q : s1.env[i]? with
      | none => simp [frzR, DL.frz, q] at e
      | some u =>
        cases u with
        | none => simp [frzR, DL.frz, q] at e
        | some u => exact ⟨u, rfl⟩
    obtain ⟨v, ev, _⟩ := c.sd.slot i w hw
    rw [e] at c
    obtain ⟨g2, sd2, ev2, rp, _, le⟩ := frzR_run (v := v) e c.ev c.sd (show σ[i]? = some (some v) from ev)
    exact ⟨v, d, g2, s2, ev, ⟨ev2, sd2, c.post⟩, rp, le⟩
  · rw [e] at c
    exact (c.notBad rfl).elim
end
section
variable {X : Cx} {Wx : WX} {pos : Pos} {ft : M Bool} {fe fk fv : M VR} {pt : Pt} {elt kx vx tg iter : Expr} {ifs : List Expr} {scope : Scope} {own : List (Str × Nat)} {i j : Nat} {h : D → Option (List D)} {k : Nat}
end
section
variable {X : Cx} {Wx : WX} {pos : Pos} {pt : Pt} {tg iter : Expr} {i : Nat} {h : D → Option (List D)} {body : List Stmt} {fb : M Flow}
end
end DL
set_option Elab.async false
set_option linter.all false
set_option maxRecDepth 100000
set_option maxHeartbeats 1000000
namespace DL
open PySem PySem.Spec PyProof.Rows L2
section
variable {prog : Program} {w : World} {A : Around} {R : Result → Shared → Prop} {s : Shared} {kx vx ta ia tb ib : Expr} {scope : Scope} {pos : Pos} {it : Value} {D : Addr} {env : Env}
end
section
variable {X : Cx} {kx vx ta ia tb ib : Expr} {scope : Scope} {own : List (Str × Nat)} {us : List Nat} {pos : Pos} {wa wb : TI} {ga gb : TG} {tk tv : TE}
end
end DL
set_option Elab.async false
set_option linter.all false
set_option maxRecDepth 100000
set_option maxHeartbeats 1000000
namespace DL
open PySem PySem.Spec PyProof.Rows L2
section
variable {K : PySem.W.Frag} {Wx : WX} {g g0 : Gh} {H H0 : Hp} {σ : Slots} {s s0 : State} {Q : V → Hp → Prop}
end
section
variable {X : Cx} {Wx : WX} {k i j n : Nat} {scope : Scope} {own : List (Str × Nat)} {ia : Expr} {xj xn : Str} {k1 : Nat} {p1 p2 p3 p4 p5 pos : Pos}
end
end DL
set_option Elab.async false
set_option linter.all false
set_option maxRecDepth 100000
set_option maxHeartbeats 1000000
namespace DL
open PySem PySem.Spec PyProof.Rows L2
section
variable {prog : Program} {w : World} {A : Around} {E : Value → Shared → Prop} {s : Shared} {z TI TO T i1 i2 l1 l2 : Addr} {k : Nat} {xs ys : Array Value}
def ZSt (h : Heap) (z TI TO i1 i2 l1 l2 : Addr) (k : Nat) : Prop :=
  IsPair h TI (.ref i1) (.ref i2) ∧ h.IsTupleIter i1 l1 k ∧ h.IsTupleIter i2 l2 k ∧ ((IsZip h z TI TO .none ∧ ∃ x y, IsPair h TO x y) ∨ ∃ T f o, IsZipHeld h z TI TO T f ∧ h.get? T = some o ∧ T ≠ z ∧ T ≠ i1 ∧ T ≠ i2)
theorem ZSt.lt {h : Heap} (st : ZSt h z TI TO i1 i2 l1 l2 k) : z < h.objs.size ∧ i1 < h.objs.size ∧ i2 < h.objs.size ∧ TI < h.objs.size := by
  obtain ⟨a, ⟨_, b, _⟩, ⟨_, c, _⟩, d⟩ := st
  refine ⟨?_, Heap.lt_size b, Heap.lt_size c, Heap.lt_size a⟩
  rcases d with ⟨d, _⟩ | ⟨_, _, _, d, _⟩ <;> exact Heap.lt_size d
theorem ZSt.keep {h h' : Heap} (st : ZSt h z TI TO i1 i2 l1 l2 k) (kp : ∀ b o, h.get? b = some o → h'.get? b = some o) : ZSt h' z TI TO i1 i2 l1 l2 k := by
  obtain ⟨a, b, c, d⟩ := st
  refine ⟨kp _ _ a, b.at fun o e => kp _ o e, c.at fun o e => kp _ o e, ?_⟩
  rcases d with ⟨d, x, y, e⟩ | ⟨T, f, o, d, e, n⟩
  · exact .inl ⟨kp _ _ d, x, y, kp _ _ e⟩
  · exact .inr ⟨T, f, o, kp _ _ d, kp _ _ e, n⟩
end
section
variable {X : Cx} {pins : List (Addr × Obj)} {σ : Slots}
end
end DL
set_option Elab.async false
set_option linter.all false
set_option maxRecDepth 100000
set_option maxHeartbeats 1000000
namespace DL
open PySem PySem.Spec PyProof.Rows L2
section
variable {K : PySem.W.Frag} {g : Gh} {H : Hp} {σ : Slots} {s : State}
end
section
variable {X : Cx} {Wx : WX} {e e2 : Expr} {fl : M (List VR)} {p p1 p2 pos : Pos} {pt : Pt} {body : List Stmt} {fb : M Flow}
end
end DL
set_option Elab.async false
set_option linter.all false
set_option maxRecDepth 100000
set_option maxHeartbeats 1000000
namespace DL
open PySem PySem.Spec PyProof.Rows L2
section
variable {prog : Program} {w : World} {A : Around} {E : Value → Shared → Prop} {s : Shared}
end
section
variable {X : Cx} {Wx : WX} {e : Expr} {fa : M VR} {k : Nat} {p1 p2 p3 pos : Pos} {te : TE}
end
end DL
set_option Elab.async false
set_option linter.all false
set_option maxRecDepth 100000
set_option maxHeartbeats 1000000
namespace DL
open PySem PySem.Spec PyProof.Rows L2
section
variable {X : Cx} {pins : List (Addr × Obj)} {σ : Slots}
end
section
variable {X : Cx}
end
end DL
set_option Elab.async false
set_option linter.all false
set_option maxRecDepth 100000
set_option maxHeartbeats 1000000
namespace DL
open PySem PySem.Spec PyProof.Rows L2
section
variable {K : PySem.W.Frag} {g : Gh}
end
section
variable {X : Cx}
end
end DL
set_option Elab.async false
set_option linter.all false
set_option maxRecDepth 100000
set_option maxHeartbeats 1000000
namespace DL
open PySem PySem.Spec PyProof.Rows L2
section
variable {h : Heap}
end
section
variable {X : Cx}
end
end DL
set_option Elab.async false
set_option linter.all false
set_option maxRecDepth 100000
set_option maxHeartbeats 3200000
namespace DL
open PySem PySem.Spec PyProof.Rows L2
def metS (acc : List Str) (x : Str) : List Str := if acc.any (· == x) then acc else acc ++ [x]
def metsS : List Str → List Str → List Str
  | acc, [] => acc
  | acc, x :: xs => metsS (metS acc x) xs
section
variable {prog : Program} {w : World} {A : Around} {R : Result → Shared → Prop} {I : Addr} {fp wr : List Addr} {G : Array GenState → Array GenState → Prop} {n : Nat} {P : Nat → Value → Prop} {St : Nat → Shared → Prop}
end
section
variable {prog : Program} {w : World} {A : Around} {E : Value → Shared → Prop} {s : Shared}
end
section
variable {X : Cx} {Wx : WX} {a : Expr} {ta : TE} {fa : M VR} {p p2 q pos : Pos}
end
end DL
set_option Elab.async false
set_option linter.all false
set_option maxRecDepth 100000
set_option maxHeartbeats 1000000
namespace DL
open PySem
section
variable {s s1 s2 s3 : State} {f k : M Flow} {r : Rs Flow} {c : M Bool} {a b : M Flow} {t : T} {i : Nat}
theorem dSeq_nx (h : f s = .ok .nx s1) (q : k s1 = r) : dSeq f k s = r := by unfold dSeq; rw [h]; exact q
theorem dSeq_rt (h : f s = .ok (.rt t) s1) : dSeq f k s = .ok (.rt t) s1 := by unfold dSeq; rw [h]
theorem dAsg_eq {m : M T} (h : m s = .ok t s1) (q : canSet s1 i = true) (e : putE s1 i t.w = s2) : dAsg i m s = .ok .nx s2 := by
  unfold dAsg
  rw [bind_eq, h]
  show (setT i t >>= fun _ => dNx) s1 = _
  rw [bind_eq]
  unfold setT
  rw [if_pos q, e]
  rfl
theorem dIf_t {α : Type} {a b : M α} {r : Rs α} (h : c s = .ok true s1) (q : a s1 = r) : dIf c a b s = r := by unfold dIf; rw [bind_eq, h]; exact q
theorem dIf_f {α : Type} {a b : M α} {r : Rs α} (h : c s = .ok false s1) (q : b s1 = r) : dIf c a b s = r := by unfold dIf; rw [bind_eq, h]; exact q
theorem dIf_d {α : Type} {a b : M α} {r : Rs α} {P : Prop} [Decidable P] (h : c s = .ok (decide P) s1) (q1 : P → a s1 = r) (q2 : ¬ P → b s1 = r) : dIf c a b s = r := by
  by_cases p : P
  · rw [decide_eq_true p] at h; exact dIf_t h (q1 p)
  · rw [decide_eq_false p] at h; exact dIf_f h (q2 p)
theorem dRet_eq {m : M T} (h : m s = .ok t s1) : dRet m s = .ok (.rt t) s1 := by unfold dRet; rw [bind_eq, h]
theorem dExpr_eq {m : M T} (h : m s = .ok t s1) : dExpr m s = .ok .nx s1 := by unfold dExpr; rw [bind_eq, h]; rfl
theorem dOr_f {f k : M Bool} {r : Rs Bool} (h : f s = .ok false s1) (q : k s1 = r) : dOr f k s = r := by unfold dOr; rw [bind_eq, h]; exact q
theorem dNot_eq {f : M Bool} {v : Bool} (h : f s = .ok v s1) : dNot f s = .ok (!v) s1 := by unfold dNot; rw [bind_eq, h]; rfl
variable {p : Pt} {d : D} {ds items : List D}
end
section
variable {s s1 s2 s3 s4 : State}
end
end DL
set_option Elab.async false
set_option linter.all false
set_option maxRecDepth 100000
set_option maxHeartbeats 1000000
namespace DL
open PySem
theorem take_at {s s1 : State} {st : DrawSt} {i : Nat} {n : Int} {f : M VR} {x : VR} (hd : DrOk1 st) (he : s.env[i]? = some (some (.fz .draw))) (he1 : s1.env[i]? = some (some (.fz .draw))) (hs : s1.dr = some st) (h0 : 0 < n) (h1 : n < 18446744073709551616) (hf : f s = .ok x s1) (hx : frz x s1 = .ok (.int n) s1) :
    ∃ (r : Int) (st' : DrawSt), 0 ≤ r ∧ r < n ∧ DrOk1 st' ∧ dCall 4 [.F, .F] [] Law.F_law_take (dCons (dSlot i) (dCons f dNil)) s = .ok (.fz (.int r)) { s1 with dr := some st' } := by
  have e0 : dSlot i s = .ok (.slot i) s := by unfold dSlot; rw [he]
  have e2 : toHMs [.F, .F] [.slot i, x] s1 = .ok [.d .draw, .d (.int n)] s1 := by
    have a : toHM .F x s1 = .ok (.d (.int n)) s1 := by
      show (frz x >>= fun d => pure (HS.d d)) s1 = _
      rw [bind_eq, hx]
      rfl
    have b : toHM .F (.slot i) s1 = .ok (.d .draw) s1 := by
      show (frz (.slot i) >>= fun d => pure (HS.d d)) s1 = _
      have : frz (.slot i) s1 = .ok .draw s1 := by simp only [frz, he1]
      rw [bind_eq, this]
      rfl
    show (toHM .F (.slot i) >>= fun h => toHMs [.F] [x] >>= fun hs => pure (h :: hs)) s1 = _
    rw [bind_eq, b]
    show ((toHM .F x >>= fun h => toHMs [] [] >>= fun hs => pure (h :: hs)) >>= fun hs => pure (HS.d .draw :: hs)) s1 = _
    rw [bind_eq, bind_eq, a]
    rfl
  have tk : ok (dCall 4 [.F, .F] [] Law.F_law_take (dCons (dSlot i) (dCons f dNil))) s (fun y S => ∃ (r : Int) (st' : DrawSt), y = .fz (.int r) ∧ 0 ≤ r ∧ r < n ∧ DrOk1 st' ∧ S = { s1 with dr := some st' }) :=
    ok.call (ds := [.draw, .int n]) (rs := [.slot i, x]) (s1 := s1) (s2 := s1) (dCons_eq e0 (dCons_eq hf (k := dNil) rfl)) e2 (take_gives (st := st) hs hd h0 h1 fun r st' r0 r1 hd' => ⟨r, st', rfl, r0, r1, hd', rfl⟩)
  obtain ⟨_, _, e, r, st', rfl, r0, r1, hd', rfl⟩ := tk
  exact ⟨r, st', r0, r1, hd', e⟩
theorem pick_at {s s1 s2 : State} {st : DrawSt} {i : Nat} {ds : List D} {f : M VR} {x : VR} (hd : DrOk1 st) (he : s.env[i]? = some (some (.fz .draw))) (he1 : s1.env[i]? = some (some (.fz .draw))) (hs : s2.dr = some st) (h0 : 0 < ds.length) (h1 : ds.length < 18446744073709551616) (hf : f s = .ok x s1) (hx : frz x s1 = .ok (.lst ds) s2) :
    ∃ (d : D) (st' : DrawSt), d ∈ ds ∧ DrOk1 st' ∧ dCall 2 [.F, .F] [] Law.F_law_pick (dCons (dSlot i) (dCons f dNil)) s = .ok (.fz d) { s2 with dr := some st' } := by
  have e0 : dSlot i s = .ok (.slot i) s := by unfold dSlot; rw [he]
  have e2 : toHMs [.F, .F] [.slot i, x] s1 = .ok [.d .draw, .d (.lst ds)] s2 := by
    have a : toHM .F x s1 = .ok (.d (.lst ds)) s2 := by
      show (frz x >>= fun d => pure (HS.d d)) s1 = _
      rw [bind_eq, hx]
      rfl
    have b : toHM .F (.slot i) s1 = .ok (.d .draw) s1 := by
      show (frz (.slot i) >>= fun d => pure (HS.d d)) s1 = _
      have : frz (.slot i) s1 = .ok .draw s1 := by simp only [frz, he1]
      rw [bind_eq, this]
      rfl
    show (toHM .F (.slot i) >>= fun h => toHMs [.F] [x] >>= fun hs => pure (h :: hs)) s1 = _
    rw [bind_eq, b]
    show ((toHM .F x >>= fun h => toHMs [] [] >>= fun hs => pure (h :: hs)) >>= fun hs => pure (HS.d .draw :: hs)) s1 = _
    rw [bind_eq, bind_eq, a]
    rfl
  have tk : ok (dCall 2 [.F, .F] [] Law.F_law_pick (dCons (dSlot i) (dCons f dNil))) s (fun y S => ∃ (d : D) (st' : DrawSt), y = .fz d ∧ d ∈ ds ∧ DrOk1 st' ∧ S = { s2 with dr := some st' }) :=
    ok.call (ds := [.draw, .lst ds]) (rs := [.slot i, x]) (s1 := s1) (s2 := s2) (dCons_eq e0 (dCons_eq hf (k := dNil) rfl)) e2 (pick_gives (st := st) hs hd h0 h1 fun d hm st' hd' => ⟨d, st', rfl, hm, hd', rfl⟩)
  obtain ⟨_, _, e, d, st', rfl, hm, hd', rfl⟩ := tk
  exact ⟨d, st', hm, hd', e⟩
end DL
set_option Elab.async false
set_option linter.all false
set_option maxRecDepth 100000
set_option maxHeartbeats 1000000
namespace DL
open PySem
section
variable {s s1 s2 s3 : State}
theorem reprs_ne {f1 f2 : M (List VR)} {x y : List VR} {d : D} {p : PyData} (h1 : f1 s = .ok x s1) (g1 : readVs x s1 = .ok [d] s1) (h2 : f2 s1 = .ok y s2) (g2 : readVs y s2 = .ok [d] s2) (hp : toPy d = some p) (hs : shows p = true) :
    dB (dOp2 neS (dV (dCallB reprD f1)) (dV (dCallB reprD f2))) s = .ok false s2 := by
  have e0 : reprD [d] = some (.fz (.str p.shown)) := by
    unfold reprD
    simp only [hp]
    rw [if_pos hs]
  exact dB_eq (dOp2_eq (dV_eq (dCallB_eq h1 g1 e0)) (dV_eq (dCallB_eq h2 g2 e0)) rfl rfl (neS_refl _))
theorem addLL {a b : List D} (h : a.length + b.length ≤ sizeLine) : addD (.lst a) (.lst b) = some (.ow (.lst (a ++ b))) := by
  show (if a.length + b.length ≤ sizeLine then some (DL.T.ow (.lst (a ++ b))) else none) = _
  rw [if_pos h]
end
end DL
set_option Elab.async false
set_option linter.all false
set_option maxRecDepth 100000
set_option maxHeartbeats 2000000
namespace DL
open PySem PySem.Spec PyProof.Rows L2
section
variable {prog : Program} {w : World} {A : Around} {s : Shared}
end
section
variable {X : Cx} {pins : List (Addr × Obj)} {σ : L2.St} {H : Hp} {s : Shared}
def LamMade (H : Hp) (P : Addr) (q : Str) (ps : Array Value) (c' : Addr) (H1 : Hp) : Prop :=
  (H c' = some (LamX.CodeO c' q) ∧ H1 = H) ∨ ∃ pos : Pos, H c' = none ∧ c' ≠ P ∧ H1 = upd (upd H P (.tbl (ps ++ #[rawInt pos.line, rawInt pos.col, .ref c']))) c' (LamX.CodeO c' q)
end
end DL
namespace DL
open PySem PySem.Spec PyProof.Rows L2
theorem upd_comm {H : Hp} {a b : Addr} {o u : HO} (h : a ≠ b) : upd (upd H a o) b u = upd (upd H b u) a o := by
  funext x
  by_cases xa : x = a
  · subst xa
    rw [upd_ne h, upd_same, upd_same]
  · by_cases xb : x = b
    · subst xb
      rw [upd_same, upd_ne (Ne.symm h), upd_same]
    · rw [upd_ne xb, upd_ne xa, upd_ne xa, upd_ne xb]
section
variable {K : PySem.W.Frag} {g : Gh} {H H1 : Hp} {σ : Slots} {st : State} {P c' : Addr} {q : Str} {n : Nat}
theorem SD.tab (sd : SD K g H σ st) (e : st.sto[n]? = some (.tab P q)) : g.η[n]? = some P ∧ ∃ ps : Array Value, H P = some (.tbl ps) ∧ TriplesOk ps.toList ∧ ∀ (pos : Pos) (cv : Value), codeAmong pos ps.toList = some cv → ∃ c, cv = .ref c ∧ g.G c = some (LamX.CodeO c q) := by
  have hl : n < g.η.length := by rw [← sd.stl]; exact (List.getElem?_eq_some_iff.mp e).1
  obtain ⟨o, ho, z, ps, rfl, t, r⟩ := sd.sto n _ _ e (List.getElem?_eq_getElem hl)
  rw [z] at ho
  exact ⟨by rw [List.getElem?_eq_getElem hl, z], ps, ho, t, r⟩
theorem SD.lamMade (sd : SD K g H σ st) (e : st.sto[n]? = some (.tab P q)) {ps : Array Value} (hP : H P = some (.tbl ps)) (m : LamMade H P q ps c' H1) : ∃ g', SD K g' H1 σ st ∧ Ev g H σ st g' H1 σ st ∧ H1 c' = some (LamX.CodeO c' q) := by
  rcases m with ⟨h, rfl⟩ | ⟨pos, nC, nP, rfl⟩
  · exact ⟨g, sd, .refl, h⟩
  · obtain ⟨eta, ps', hP', tri, told⟩ := sd.tab e
    rw [hP] at hP'
    cases hP'
    have sd2 := sd.alloc (o := LamX.CodeO c' q) nC
    have ev2 := sd.allocEv (o := LamX.CodeO c' q) nC
    have f := sd.free1 nC
    have sd3 := sd2.freeze f (sd.noHd nC) upd_same
    have ev3 := ev2.freeze (a := c') (o := LamX.CodeO c' q) f nC
    have ob : MObAt K (g.frz c' (LamX.CodeO c' q)) P (.tbl (ps ++ #[rawInt pos.line, rawInt pos.col, .ref c'])) (.tab P q) := by
      refine ⟨rfl, _, rfl, ?_, fun p' cv hcv => ?_⟩
      · have eL : (ps ++ #[rawInt pos.line, rawInt pos.col, .ref c']).toList = ps.toList ++ [rawInt pos.line, rawInt pos.col, .ref c'] := by simp
        rw [eL]
        exact PySem.TriplesOk_snoc _ _ _ _ tri
      · have eL : (ps ++ #[rawInt pos.line, rawInt pos.col, .ref c']).toList = ps.toList ++ [rawInt pos.line, rawInt pos.col, .ref c'] := by simp
        rw [eL] at hcv
        rcases LamX.among_app _ tri hcv with z | z
        · obtain ⟨c0, e1, e2⟩ := told p' cv z
          exact ⟨c0, e1, (Gh.frz_le f.1).G _ _ e2⟩
        · exact ⟨c', z, Gh.frz_at⟩
    obtain ⟨sd4, ev4⟩ := sd3.writeM (o' := .tbl (ps ++ #[rawInt pos.line, rawInt pos.col, .ref c'])) e eta ob
    have es : st.sto.set n (.tab P q) = st.sto := by
      obtain ⟨hl, hx⟩ := List.getElem?_eq_some_iff.mp e
      rw [← hx]
      exact List.set_getElem_self hl
    rw [es, upd_comm nP] at sd4 ev4
    exact ⟨_, sd4, ev3.trans ev4, upd_same⟩
end
end DL
namespace DL
open PySem PySem.Spec PyProof.Rows L2
def isTab (s : State) (n : Nat) (P : Addr) (q : Str) : Bool := match s.sto[n]? with
  | some (.tab P' q') => decide (P' = P) && decide (q' = q)
  | _ => false
theorem isTab_eq {s : State} {n : Nat} {P : Addr} {q : Str} (h : isTab s n P q = true) : s.sto[n]? = some (.tab P q) := by
  unfold isTab at h
  split at h
  · rename_i P' q' e
    rw [Bool.and_eq_true, decide_eq_true_eq, decide_eq_true_eq] at h
    rw [e, h.1, h.2]
  · cases h
theorem Fin.past {K : PySem.W.Frag} {g g2 : Gh} {H H2 : Hp} {σ : Slots} {s : State} {t : T} {Q : V → Hp → Prop} (f : Fin K g H σ s t Q) (ev : Ev g H σ s g2 H2 σ s) : Fin K g2 H2 σ s t Q := fun v g' H' sd' ev' r => f v g' H' sd' (ev.trans ev') (r.past ev.live)
section
variable {X : Cx} {Wx : WX}
end
end DL
set_option Elab.async false
set_option linter.all false
set_option maxRecDepth 100000
set_option maxHeartbeats 1000000
namespace DL
open PySem PySem.Spec PyProof.Rows L2
def tabsL (cs : List (Addr × Addr)) (qs : List Str) : List MO := (cs.zip qs).map fun p => .tab p.1.2 p.2
def lawStT (ns : List Int) (n : Nat) (tabs : List MO) : State := { lawSt ns n with sto := tabs }
def spLawT (K : PySem.W.Frag) (cs : List (Addr × Addr)) : Sp := fun vs H Q _ => ∃ (a : Addr) (ns : List Int), vs = [.ref a] ∧ SqL K H a (ns.map V.int) ∧ ns.length ≤ 63 ∧ (∀ p ∈ cs, H p.2 = some (.tbl #[])) ∧ (∀ p ∈ cs, K.lookup p.2 = none) ∧ (cs.map Prod.snd).Nodup ∧ ∀ H', Q (.bl true) H'
theorem law_runT {K : PySem.W.Frag} {H : Hp} {vs : List V} {Q : VK} {E : XK} {E' : Slots → XK} {x y : Str} {N : List Str} {rest : M Flow} {cs : List (Addr × Addr)} {qs : List Str} (hq : cs.length = qs.length) (h : spLawT K cs vs H Q E) (hm : ∀ ns : List Int, ns.length ≤ 63 → ∃ s', rest (lawStT ns N.length (tabsL cs qs)) = .ok (.rt (.fz (.bl true))) s') :
    tSeq (tAsg (tCallSD (spBegin K) [] E' (tCons (tVar 0) tNil)) (gName 1)) (tS K (fun cls d _ H' => E cls d H') rest) { nx := fun _ H' => Q .non H', rt := Q } (L2.start (x :: y :: N) vs) H := by
  obtain ⟨a, ns, rfl, hS, hl, hT, nT, ndT, k⟩ := h
  refine ⟨.ref a, rfl, a, ns, rfl, hS, hl, fun H' d l c keep hd hlN hc dl cl cd ed el ec => ?_⟩
  obtain ⟨s', hs⟩ := hm ns hl
  have noA : ∀ b, H b = none → b = a → H a = none := fun b z e => by rw [← e]; exact z
  have aT : ∀ p ∈ cs, p.2 ≠ a := fun p hp z => by
    have e := hT p hp
    rw [z] at e
    rcases hS with (h | ⟨o, h⟩) | ⟨o, _, _, h, _⟩
    · rw [e] at h; cases h
    · rw [e] at h; cases h
    · have := nT p hp
      rw [z, h] at this; cases this
  have zl : (tabsL cs qs).length = cs.length := by unfold tabsL; rw [List.length_map, List.length_zip, hq, Nat.min_self]
  refine ⟨⟨fun b => if b = c then some (.lst (ns.map V.int)) else if b = a then H a else none, cs.map Prod.snd, some (d, l)⟩, lawStT ns N.length (tabsL cs qs), ⟨fun b o e => ?_, ?_, fun i w e => ?_, fun i j w u b e1 e2 h1 h2 x1 x2 => ?_, ?_, (fun i m b e1 e2 => ?_), ndT, fun b hb => ?_, ?_⟩, ?_⟩
  · have e : (if b = c then some (.lst (ns.map V.int)) else if b = a then H a else none) = some o := e
    by_cases z : b = c
    · rw [if_pos z] at e; cases e; rw [z]; exact .inl ec
    · rw [if_neg z] at e
      by_cases z2 : b = a
      · rw [if_pos z2] at e; rw [z2]; exact .inl (keep a o e)
      · rw [if_neg z2] at e; cases e
  · show (some (W.fz (.frl ns)) :: some (W.fz .draw) :: List.replicate N.length none).length = _
    unfold L2.start
    simp
  · match i, e with
    | 0, e =>
      cases e
      refine ⟨.ref a, rfl, show Rep K _ _ (.frl ns) from .frl ?_⟩
      cases q : H a with
      | none =>
        rcases hS with (h | ⟨o, h⟩) | h
        · rw [q] at h; cases h
        · rw [q] at h; cases h
        · exact .inr h
      | some o =>
        refine seqAt hS ?_
        show (if a = c then some (HO.lst (List.map V.int ns)) else if a = a then some o else none) = H a
        rw [if_neg (ne_of_none q hc), if_pos rfl, q]
    | 1, e =>
      cases e
      exact ⟨.ref d, rfl, show Rep K _ _ .draw from .draw rfl⟩
    | i + 2, e =>
      have e : (List.replicate N.length (none : Option W))[i]? = some (some w) := e
      rw [List.getElem?_replicate] at e
      split at e <;> cases e
  · match i, e1 with
    | 0, e1 => cases e1; cases h1
    | 1, e1 => cases e1; cases h1
    | i + 2, e1 =>
      have e1 : (List.replicate N.length (none : Option W))[i]? = some (some w) := e1
      rw [List.getElem?_replicate] at e1
      split at e1 <;> cases e1
  · show (tabsL cs qs).length = (cs.map Prod.snd).length
    rw [zl, List.length_map]
  · have e1 : (tabsL cs qs)[i]? = some m := e1
    have e2 : (cs.map Prod.snd)[i]? = some b := e2
    unfold tabsL at e1
    rw [List.getElem?_map] at e1 e2
    cases q : cs[i]? with
    | none => rw [q] at e2; cases e2
    | some p =>
      rw [q] at e2
      cases e2
      have mp : p ∈ cs := List.mem_of_getElem? q
      cases q2 : (cs.zip qs)[i]? with
      | none => rw [q2] at e1; cases e1
      | some z =>
        rw [q2] at e1
        cases e1
        have q3 := (List.getElem?_zip_eq_some.mp q2).1
        rw [q] at q3
        have q3 : p = z.1 := Option.some.inj q3
        refine ⟨.tbl #[], keep _ _ (hT p mp), by rw [q3], #[], rfl, True.intro, fun pos cv hcv => ?_⟩
        have hcv : codeAmong pos [] = some cv := hcv
        simp [codeAmong] at hcv
  · obtain ⟨p, hp, rfl⟩ := List.mem_map.mp hb
    have hh := hT p hp
    refine ⟨?_, fun ⟨x, y, e, z⟩ => ?_⟩
    · show (if p.2 = c then some (HO.lst (List.map V.int ns)) else if p.2 = a then H a else none) = none
      rw [if_neg (ne_of_none hh hc), if_neg (aT p hp)]
    · cases e
      rcases z with z | z
      · rw [z, hd] at hh; cases hh
      · rw [z, hlN] at hh; cases hh
  · refine DrAt.mk ⟨c, ed, ?_⟩ el dl ?_ ?_
    · show (if c = c then some (HO.lst (List.map V.int ns)) else if c = a then H a else none) = _
      rw [if_pos rfl]; rfl
    · show (if d = c then _ else if d = a then H a else none) = none
      rw [if_neg cd.symm]
      by_cases z : d = a
      · rw [if_pos z]; exact noA d hd z
      · rw [if_neg z]
    · show (if l = c then _ else if l = a then H a else none) = none
      rw [if_neg cl.symm]
      by_cases z : l = a
      · rw [if_pos z]; exact noA l hlN z
      · rw [if_neg z]
  · rw [hs]
    intro v σ' g' H2 sd ev rr
    cases (show Rep K g' v (.bl true) from rr.at_)
    exact k H2
theorem law_callGT {prog : Program} {wd : World} {F : PySem.W.Frag} {gl bl : Str → Option Value} {cx : CXT} {n : Nat} {fa a : Addr} {cs : List (Addr × Addr)} {fun_ : FuncData} {nm : Str} {pr : Sp} {st : Shared} {vs : List Value} {ns : List Int}
    (inF : F.In st.heap) (hgl : st.heap.Ns mainGlobals gl) (hbl : st.heap.Ns builtinsNs bl) (hbb : ∀ x : Str, x ≠ "__name__" → bl x = bootBuiltins x) (noLim : st.heap.NoLimit) (noGen : st.gens = #[])
    (hT : ∀ p ∈ cs, st.heap.get? p.2 = some { cls := .none, data := .fields #[] }) (nT : ∀ p ∈ cs, F.lookup p.2 = none) (hC : ∀ p ∈ cs, PySem.W.CodeHd st.heap p.1 p.2)
    (hbm : ∃ (bm : Addr) (ob : Obj), gl "__builtins__" = some (.ref bm) ∧ bm ≠ builtinsNs ∧ st.heap.get? bm = some ob ∧ ob.cls = .type "module" ∧ ob.dict = some builtinsNs ∧ ob.data = .plain)
    (ha : st.heap.get? a = some { cls := .type "list", data := .seq vs.toArray }) (hi : IntsAre vs ns) (hsz : ns.length ≤ sizeLine) (room : Room n callerA)
    (f : ∀ b0 : Heap, F.In b0 → b0.Ns mainGlobals gl → (∀ p ∈ cs, LamX.TabB b0 gl p.1 p.2) → FnOk prog wd F gl b0 cx n fa fun_ [nm] pr) (bnd : ∀ (s : Shared) (u : Value), BindsTo s fun_ ⟨[u], []⟩ [(nm, u)])
    (want : ∀ H : Hp, (∀ p ∈ cs, H p.2 = some (.tbl #[])) → SqL F H a (ns.map V.int) → pr [.ref a] H (fun v _ => v = .bl true) fun _ _ _ => False) (noX : ∀ H e s', cx [] H st (fun _ _ _ => False) e s' → False) :
    codeAny (model prog wd) callerA (.call (.ref fa) ⟨[.ref a], []⟩) (fun r s' => r = .ok (.ret (.bool true)) ∧ OldK st.heap s'.heap ∧ s'.os = st.os ∧ AllBare s'.gens) st := by
  have rvs := vals_ints hi
  have at_a : ∀ {o : Obj}, st.heap.get? a = some o → o = { cls := .type "list", data := .seq vs.toArray } := fun z => (Option.some.inj (ha.symm.trans z)).symm
  have tabs : ∀ b, b ∈ cs.map Prod.snd → st.heap.get? b = some { cls := .none, data := .fields #[] } := fun b hb => by
    obtain ⟨p, hp, rfl⟩ := List.mem_map.mp hb
    exact hT p hp
  have inT : ∀ p ∈ cs, p.2 ∈ cs.map Prod.snd := fun p hp => List.mem_map.mpr ⟨p, hp, rfl⟩
  have notA : a ∉ cs.map Prod.snd := fun z => by
    have e := tabs a z
    have := at_a e
    cases this
  have go : ∀ H : Hp, (∀ p ∈ cs, H p.2 = some (.tbl #[])) → (∀ b, H b = none ∨ b ∈ cs.map Prod.snd ∨ ∃ ob ys, H b = some (.frz ob (.lst ys))) → SqL F H a (ns.map V.int) → HOk prog wd H st.heap → (∀ b, H b ≠ none → b = a ∨ b ∈ cs.map Prod.snd) → (H a ≠ none → F.lookup a = none) →
      codeAny (model prog wd) callerA (.call (.ref fa) ⟨[.ref a], []⟩) (fun r s' => r = .ok (.ret (.bool true)) ∧ OldK st.heap s'.heap ∧ s'.os = st.os ∧ AllBare s'.gens) st := by
    intro H hH only seq hok onlyA notF
    have free : ∀ {b : Addr}, b ≠ a → b ∉ cs.map Prod.snd → H b = none := fun {b} n1 n2 => by
      cases z : H b with
      | none => rfl
      | some u => exact ((onlyA b (by rw [z]; exact fun w => by cases w)).elim n1 n2).elim
    -- an object that is neither the script nor a table
    have other : ∀ {b : Addr} {o : Obj}, st.heap.get? b = some o → (∀ us m, o.data ≠ .seq us m) → o.data ≠ .fields #[] → H b = none := fun {b o} e h1 h2 => free (fun z => by
      subst z
      have := at_a e
      subst this
      exact h1 _ _ rfl) fun z => by
      have := tabs b z
      rw [e] at this
      cases this
      exact h2 rfl
    have nsTo : ∀ {b : Addr} {m : Str → Option Value}, st.heap.Ns b m → (hidT st.heap H).Ns b m := by
      rintro b m ⟨o, es, ep, e1, e2, e3⟩
      refine ⟨o, es, ep, hidT_get e1 (other e1 (fun us k z => ?_) fun z => ?_), e2, e3⟩ <;> (rw [e2] at z; cases z)
    have inF2 : F.In (hidT st.heap H) := fun b o z => hidT_get (inF b o z) (by
      by_cases q : b = a
      · subst q
        cases y : H b with
        | none => rfl
        | some u => rw [notF (by rw [y]; exact fun w => by cases w)] at z; cases z
      · refine free q fun y => ?_
        obtain ⟨p, hp, rfl⟩ := List.mem_map.mp y
        rw [nT p hp] at z
        cases z)
    have lim2 : (hidT st.heap H).NoLimit := let ⟨mc, l1, l2⟩ := noLim; ⟨mc, nsTo l1, l2⟩
    have tb : ∀ p ∈ cs, LamX.TabB (hidT st.heap H) gl p.1 p.2 := fun p hp => by
      refine ⟨?_, ?_, fun z => ?_⟩
      · obtain ⟨o, us, file, tf, flags, tg, inf, text, tt, e1, r1, r2, r3, r4, r5, r6, r7, r8, hne⟩ := hC p hp
        refine ⟨o, us, file, tf, flags, tg, inf, text, tt, hidT_get e1 (other e1 (fun _ _ z => ?_) fun z => ?_), r1, r2, r3, r4, r5, r6, r7, r8, hne⟩
        · rw [r2] at z; cases z
        · rw [r2] at z; cases z; simp at r3
      · obtain ⟨bm, ob, b1, b2, b3, b4, b5, b6⟩ := hbm
        refine ⟨bm, ob, b1, b2, fun q => ?_, fun q => ?_, hidT_get b3 (other b3 (fun _ _ z => ?_) fun z => ?_), b4, b5, b6⟩
        · obtain ⟨o, es, ep, e, hd, _⟩ := hgl
          rw [q, e] at b3
          cases b3
          rw [hd] at b6
          cases b6
        · rw [q, hT p hp] at b3
          cases b3
          cases b6
        · rw [b6] at z; cases z
        · rw [b6] at z; cases z
      · obtain ⟨o, es, ep, e, hd, _⟩ := hgl
        rw [z, hT p hp] at e
        cases e
        cases hd
    have env : Env0 prog wd F gl (hidT st.heap H) callerA [] st H := ⟨rfl, ⟨inF2, nsTo hgl, ⟨bl, nsTo hbl, hbb⟩, lim2⟩, fun _ _ z => of_hidT z, Nat.le_of_eq (hidT_size _ _), trivial, fun b z => (List.not_mem_nil z).elim, hok, .of_eq noGen⟩
    refine codeAny_mono ((f _ inF2 (nsTo hgl) tb).run callerA [] st H ⟨[.ref a], []⟩ [.ref a] [.ref a] _ _ room env (bnd st (.ref a)) (.cons rfl .nil) (want H hH seq)) fun res s2 out => ?_
    match res, out with
    | .error er, out => exact (noX H er s2 out).elim
    | .ok .next, out => exact out.elim
    | .ok .brk, out => exact out.elim
    | .ok .cont, out => exact out.elim
    | .ok (.ret u2), out =>
      obtain ⟨v2, H2, os, bare, un, hok2, rv, rfl⟩ := out
      obtain rfl : u2 = Value.bool true := rv
      have same : ∀ b o, b ∉ cs.map Prod.snd → st.heap.get? b = some o → s2.heap.get? b = some o := fun b o nb z => by
        rcases only b with y | y | ⟨ob, ys, y⟩
        · exact un.keep b o z y (fun w => (List.not_mem_nil w).elim) (by simp)
        · exact (nb y).elim
        · obtain ⟨e1, _⟩ := hok b _ y
          obtain ⟨e2, _⟩ := hok2 b _ (un.frzs b ob _ y)
          exact e2.trans (e1.symm.trans z)
      have grew : ∀ p ∈ cs, ∃ more : Array Value, s2.heap.get? p.2 = some { cls := .none, data := .fields more } := fun p hp => by
        obtain ⟨more, z⟩ := un.tbls p.2 #[] (hH p hp)
        exact ⟨_, hok2 p.2 _ z⟩
      refine ⟨rfl, ⟨fun b o e => ?_, fun b o e => ?_⟩, os, bare⟩
      · by_cases hb : b ∈ cs.map Prod.snd
        · obtain ⟨p, hp, rfl⟩ := List.mem_map.mp hb
          obtain ⟨more, hm⟩ := grew p hp
          rw [hT p hp] at e
          cases e
          exact .inr (.inl ⟨((hC p hp).tab (hT p hp)).isCodeTable, rfl, #[], more, rfl, by rw [Array.empty_append]; exact hm⟩)
        · exact .inl (same b o hb e)
      · by_cases hb : b ∈ cs.map Prod.snd
        · obtain ⟨p, hp, rfl⟩ := List.mem_map.mp hb
          obtain ⟨more, hm⟩ := grew p hp
          exact ⟨_, hm⟩
        · exact ⟨o, same b o hb e⟩
  cases hk : F.lookup a with
  | some o =>
    obtain rfl := at_a (inF a o hk)
    have here : ∀ {b : Addr} {u : HO}, (if b ∈ cs.map Prod.snd then some (HO.tbl #[]) else none) = some u → b ∈ cs.map Prod.snd ∧ u = .tbl #[] := by
      intro b u z
      split at z
      · rename_i q; exact ⟨q, (Option.some.inj z).symm⟩
      · cases z
    refine go (fun b => if b ∈ cs.map Prod.snd then some (.tbl #[]) else none) (fun p hp => if_pos (inT p hp)) (fun b => ?_) (.inr ⟨_, vs.toArray, _, hk, rfl, rfl, rfl, by rw [List.size_toArray, hi.length]; exact hsz, by simpa using rvs⟩) (fun b u z => ?_) (fun b z => ?_) (fun z => (z (if_neg notA)).elim)
    · by_cases q : b ∈ cs.map Prod.snd
      · exact .inr (.inl q)
      · exact .inl (if_neg q)
    · obtain ⟨q, rfl⟩ := here z
      exact tabs b q
    · by_cases q : b ∈ cs.map Prod.snd
      · exact .inr q
      · exact (z (if_neg q)).elim
  | none =>
    have here : ∀ {b : Addr} {u : HO}, (if b = a then some (HO.frz { cls := .type "list", data := .seq vs.toArray } (.lst (ns.map V.int))) else if b ∈ cs.map Prod.snd then some (HO.tbl #[]) else none) = some u → (b = a ∧ u = .frz { cls := .type "list", data := .seq vs.toArray } (.lst (ns.map V.int))) ∨ (b ∈ cs.map Prod.snd ∧ u = .tbl #[]) := by
      intro b u z
      split at z
      · rename_i q; exact .inl ⟨q, (Option.some.inj z).symm⟩
      · split at z
        · rename_i q; exact .inr ⟨q, (Option.some.inj z).symm⟩
        · cases z
    refine go (fun b => if b = a then some (.frz { cls := .type "list", data := .seq vs.toArray } (.lst (ns.map V.int))) else if b ∈ cs.map Prod.snd then some (.tbl #[]) else none) (fun p hp => (if_neg (show ¬ p.2 = a from fun z => notA (by rw [← z]; exact inT p hp))).trans (if_pos (inT p hp))) (fun b => ?_) (.inl (.inr ⟨_, if_pos rfl⟩)) (fun b u z => ?_) (fun b z => ?_) (fun _ => hk)
    · by_cases q : b = a
      · exact .inr (.inr ⟨_, _, if_pos q⟩)
      · by_cases q2 : b ∈ cs.map Prod.snd
        · exact .inr (.inl q2)
        · exact .inl ((if_neg q).trans (if_neg q2))
    · rcases here z with ⟨rfl, rfl⟩ | ⟨q, rfl⟩
      · exact ⟨ha, by rw [List.length_map]; exact hsz, vs, _, rvs, ha⟩
      · exact tabs b q
    · by_cases q : b = a
      · exact .inl q
      · by_cases q2 : b ∈ cs.map Prod.snd
        · exact .inr q2
        · exact (z ((if_neg q).trans (if_neg q2))).elim
def TopTabs (q : Program) (K : PySem.W.Frag) (h : Heap) : Prop := ∀ (x : Str) (c P : Addr), ((PyProof.Rows.recsOf q).find? (fun e => e.name == x)).isSome = true → PySem.W.tabIn K x = some (c, P) → PySem.W.CodeHd h c P ∧ h.get? P = some { cls := .none, data := .fields #[] }
theorem walk_ofGT {l : PySem.W.OpenLaw} {most n : Nat} {q : Program} {loose : List Str} {XP : (Str → Option Value) → Heap → Prop} {YP : World → Heap → Prop} {d : DefRec} {Kp : Params → PySem.W.Frag} {cx : World → CXT} {pr : World → List (Addr × Addr) → Sp} {nm : Str}
    (hn : l.most = some most) (hn2 : most ≤ sizeLine) (hdf : d.params.defaults = []) (room : Room n callerA) (hY : ∀ (w : World) (h : Heap), YP w h → (Kp w.params).In h)
    (f : ∀ (w : World) (gl : Str → Option Value) (fa : Addr) (h : Heap), (Kp w.params).In h → h.Ns mainGlobals gl → gl d.name = some (.ref fa) → TopTabs q (Kp w.params) h →
      ∃ (fun_ : FuncData) (cs : List (Addr × Addr)), (∀ p ∈ cs, h.get? p.2 = some { cls := .none, data := .fields #[] }) ∧ (∀ p ∈ cs, (Kp w.params).lookup p.2 = none) ∧ (∀ p ∈ cs, PySem.W.CodeHd h p.1 p.2) ∧ (cs.map Prod.snd).Nodup ∧ (∀ (s : Shared) (u : Value), BindsTo s fun_ ⟨[u], []⟩ [(nm, u)]) ∧
        ∀ b0 : Heap, (Kp w.params).In b0 → b0.Ns mainGlobals gl → (∀ p ∈ cs, LamX.TabB b0 gl p.1 p.2) → FnOk l.prog w (Kp w.params) gl b0 (cx w) n fa fun_ [nm] (pr w cs))
    (want : ∀ (w : World) (cs : List (Addr × Addr)) (H : Hp) (a : Addr) (ns : List Int), ns.length ≤ most → (∀ p ∈ cs, H p.2 = some (.tbl #[])) → (∀ p ∈ cs, (Kp w.params).lookup p.2 = none) → (cs.map Prod.snd).Nodup → SqL (Kp w.params) H a (ns.map V.int) → pr w cs [.ref a] H (fun v _ => v = .bl true) fun _ _ _ => False)
    (noX : ∀ (w : World) (H : Hp) (s : Shared) (e : Value) (s' : Shared), cx w [] H s (fun _ _ _ => False) e s' → False) :
    PySem.W.WalkO q loose XP YP l.row.toRowW d [] (fun f vs => PySem.call f vs) :=
  Att.attach_call hn hdf fun w s₀ s₁ gl bl fa o pm cd doc a vs ns G Y ho hd hcd hmg hobj hints hlen hg => by
    have inF := hY w _ Y
    obtain ⟨fun_, cs, hT, nT, hC, nd, bnd, hf⟩ := f w gl fa _ inF G.T.g hmg fun x c P h1 h2 => by
      obtain ⟨d, hd⟩ := Option.isSome_iff_exists.mp h1
      exact PySem.W.tab_of G.T inF hd h2
    exact law_callGT inF G.T.g G.T.b G.T.builtins G.T.nolimit hg hT nT hC G.T.bmain hobj hints (Nat.le_trans hlen hn2) room hf bnd (fun H hH hS => want w cs H a ns hlen hH nT nd hS) fun H e s' => noX w H s₁ e s'
end DL
set_option Elab.async false
set_option linter.all false
set_option maxRecDepth 100000
set_option maxHeartbeats 1000000
namespace DL
open PySem PySem.Spec PyProof.Rows L2
theorem Rep.ptr_at {K : PySem.W.Frag} {g : Gh} {v : V} {i : Nat} (h : Rep K g v (.ptr i)) : ∃ a, v = .ref a ∧ g.η[i]? = some a := by
  cases h with
  | ptr e => exact ⟨_, rfl, e⟩
section
variable {X : Cx} {Wx : WX} {e o : Expr} {f0 : M T}
end
mutual
def noPtr : D → Bool
  | .tup xs => noPtrs xs
  | .lst xs => noPtrs xs
  | .dk kvs => noPtrK kvs
  | .dt kvs => noPtrT kvs
  | .obj _ fs => noPtrF fs
  | .exc _ fs => noPtrF fs
  | .ptr _ => false
  | _ => true
def noPtrs : List D → Bool
  | [] => true
  | d :: r => noPtr d && noPtrs r
def noPtrK : List (Key × D) → Bool
  | [] => true
  | (_, d) :: r => noPtr d && noPtrK r
def noPtrT : List (List Key × D) → Bool
  | [] => true
  | (_, d) :: r => noPtr d && noPtrT r
def noPtrF : List (Str × D) → Bool
  | [] => true
  | (_, d) :: r => noPtr d && noPtrF r
end
theorem noPtrK_map : ∀ kvs : List (Key × D), noPtrK kvs = noPtrs (kvs.map Prod.snd)
  | [] => rfl
  | (k, d) :: r => by
    show (noPtr d && noPtrK r) = (noPtr d && noPtrs (r.map Prod.snd))
    rw [noPtrK_map r]
theorem noPtrT_map : ∀ kvs : List (List Key × D), noPtrT kvs = noPtrs (kvs.map Prod.snd)
  | [] => rfl
  | (k, d) :: r => by
    show (noPtr d && noPtrT r) = (noPtr d && noPtrs (r.map Prod.snd))
    rw [noPtrT_map r]
theorem noPtrF_map : ∀ kvs : List (Str × D), noPtrF kvs = noPtrs (kvs.map Prod.snd)
  | [] => rfl
  | (k, d) :: r => by
    show (noPtr d && noPtrF r) = (noPtr d && noPtrs (r.map Prod.snd))
    rw [noPtrF_map r]
structure LeP (g g' : Gh) : Prop where
  G : ∀ a o, g.G a = some o → g'.G a = some o
  dr : g'.dr = g.dr
section
variable {K : PySem.W.Frag} {g g' : Gh}
mutual
theorem Rep.noP (h : LeP g g') : ∀ {v : V} {d : D}, Rep K g v d → noPtr d = true → Rep K g' v d
  | _, _, .non, _ => .non
  | _, _, .bl b, _ => .bl b
  | _, _, .int i, _ => .int i
  | _, _, .str x, _ => .str x
  | _, _, .tup a r, n => .tup (h.G _ _ a) (Reps.noP h r n)
  | _, _, .tup0 a, _ => .tup0 (SqT.le h.G a)
  | _, _, .lst a r, n => .lst (h.G _ _ a) (Reps.noP h r n)
  | _, _, .frl a, _ => .frl (SqL.le h.G a)
  | _, _, .dk a e r, n => .dk (h.G _ _ a) e (Reps.noP h r (by rw [← noPtrK_map]; exact n))
  | _, _, .dt a e r, n => .dt (h.G _ _ a) e (Reps.noP h r (by rw [← noPtrT_map]; exact n))
  | _, _, .obj a e r, n => .obj (h.G _ _ a) e (Reps.noP h r (by rw [← noPtrF_map]; exact n))
  | _, _, .ptr e, n => by cases n
  | _, _, .draw e, _ => .draw (h.dr.trans e)
  | _, _, .exc a x e r, n => .exc (h.G _ _ a) (x.le h.G) e (Reps.noP h r (by rw [← noPtrF_map]; exact n))
theorem Reps.noP (h : LeP g g') : ∀ {v : List V} {d : List D}, Reps K g v d → noPtrs d = true → Reps K g' v d
  | _, _, .nil, _ => .nil
  | _, _, .cons (d := d) a r, n => by
    have n : (noPtr d && noPtrs _) = true := n
    rw [Bool.and_eq_true] at n
    exact .cons (Rep.noP h a n.1) (Reps.noP h r n.2)
end
def noPtrM : MO → Bool
  | .ins _ fs => noPtrF fs
  | .lst ds => noPtrs ds
  | .tab _ _ => true
theorem MObAt.noP (h : LeP g g') {a : Addr} {o : HO} : ∀ {m : MO}, MObAt K g a o m → noPtrM m = true → MObAt K g' a o m
  | .ins _ _, ⟨dx, xs, e, k, r⟩, n => ⟨dx, xs, e, k, r.noP h (by rw [← noPtrF_map]; exact n)⟩
  | .lst _, ⟨xs, e, r⟩, n => ⟨xs, e, r.noP h n⟩
  | .tab _ _, ⟨z, ps, e, t, r⟩, _ => ⟨z, ps, e, t, fun pos cv hc => let ⟨c, e1, e2⟩ := r pos cv hc; ⟨c, e1, h.G _ _ e2⟩⟩
end
def deref (sto : List MO) (n : Nat) : List (Key × D) → Option (List (Key × D))
  | [] => some []
  | (k, .ptr i) :: r => match sto[i]?, deref sto n r with
    | some (.lst ds), some q => if n ≤ i ∧ noPtrs ds = true then some ((k, .lst ds) :: q) else none
    | _, _ => none
  | _ :: _ => none
def notHeldW : Option W → Bool
  | none => true
  | some (.fz _) => true
  | some (.own _) => true
  | _ => false
def retireS (n : Nat) (kvs : List (Key × D)) (s : State) : Rs Flow := match deref s.sto n kvs with
  | some q => if s.env.all notHeldW = true ∧ (s.sto.take n).all noPtrM = true ∧ n ≤ s.sto.length then .ok (.rt (.ow (.dk q))) { env := s.env.map fun _ => none, sto := s.sto.take n, dr := s.dr } else .bad
  | none => .bad
def dRetire (f : M Flow) : M Flow := fun s => match f s with
  | .ok (.rt (.ow (.dk kvs))) s' => retireS s.sto.length kvs s'
  | _ => .bad
section
variable {K : PySem.W.Frag} {g g0 : Gh} {H H0 : Hp} {σ σ0 : Slots} {s s0 : State} {n : Nat}
open Classical in
noncomputable def Gh.retire (g : Gh) (H : Hp) (n : Nat) : Gh := ⟨fun b => if b ∈ g.η.drop n then H b else g.G b, g.η.take n, g.dr⟩
theorem retire_old {b : Addr} (h : b ∉ g.η) : (g.retire H n).G b = g.G b := by
  show (if b ∈ g.η.drop n then H b else g.G b) = _
  exact if_neg fun z => h (List.mem_of_mem_drop z)
theorem retire_new {b : Addr} (h : b ∈ g.η.drop n) : (g.retire H n).G b = H b := if_pos h
theorem SD.leP (sd : SD K g H σ s) : LeP g (g.retire H n) := ⟨fun a o e => by
  rw [retire_old fun z => by rw [(sd.ng a z).1] at e; cases e]; exact e, rfl⟩
theorem drop_take_nd {l : List Addr} (h : l.Nodup) {n : Nat} {b : Addr} (h1 : b ∈ l.take n) (h2 : b ∈ l.drop n) : False := by
  rw [← List.take_append_drop n l] at h
  exact (List.nodup_append.mp h).2.2 b h1 b h2 rfl
theorem notHeld {e : List (Option W)} (h : e.all notHeldW = true) {i : Nat} {w : W} (q : e[i]? = some (some w)) : (∃ d, w = .fz d) ∨ ∃ d, w = .own d := by
  have := List.all_eq_true.mp h _ (List.mem_of_getElem? q)
  cases w with
  | fz d => exact .inl ⟨d, rfl⟩
  | own d => exact .inr ⟨d, rfl⟩
  | _ => cases this
theorem SD.retired (sd : SD K g H σ s) (hm : (s.sto.take n).all noPtrM = true) (hl : n ≤ s.sto.length)
    (lst : ∀ i, n ≤ i → ∀ m, s.sto[i]? = some m → ∀ a, g.η[i]? = some a → a ∈ g.η.drop n → True) :
    SD K (g.retire H n) H σ { env := s.env.map fun _ => none, sto := s.sto.take n, dr := s.dr } where
  gh := fun a o e => by
    by_cases z : a ∈ g.η.drop n
    · rw [retire_new z] at e; exact .inl e
    · have e : (if a ∈ g.η.drop n then H a else g.G a) = some o := e
      rw [if_neg z] at e
      exact sd.gh a o e
  len := by show (s.env.map _).length = _; rw [List.length_map]; exact sd.len
  slot := fun i w e => by
    have e : (s.env.map fun _ => (none : Option W))[i]? = some (some w) := e
    rw [List.getElem?_map] at e
    cases q : s.env[i]? <;> rw [q] at e <;> cases e
  inj := fun i j w u a e _ _ _ _ _ => by
    have e : (s.env.map fun _ => (none : Option W))[i]? = some (some w) := e
    rw [List.getElem?_map] at e
    cases q : s.env[i]? <;> rw [q] at e <;> cases e
  stl := by
    show (s.sto.take n).length = (g.η.take n).length
    rw [List.length_take, List.length_take, sd.stl]
  sto := fun i m a e1 e2 => by
    have e1 : (s.sto.take n)[i]? = some m := e1
    have e2 : (g.η.take n)[i]? = some a := e2
    have mm := List.all_eq_true.mp hm m (List.mem_of_getElem? e1)
    rw [List.getElem?_take] at e1 e2
    by_cases z : i < n
    · rw [if_pos z] at e1 e2
      obtain ⟨o, ho, ob⟩ := sd.sto i m a e1 e2
      exact ⟨o, ho, ob.noP sd.leP mm⟩
    · rw [if_neg z] at e1; cases e1
  nd := sd.nd.sublist (List.take_sublist n g.η)
  ng := fun a ha => by
    have ha : a ∈ g.η.take n := ha
    have mem := List.mem_of_mem_take ha
    refine ⟨?_, (sd.ng a mem).2⟩
    show (if a ∈ g.η.drop n then H a else g.G a) = none
    rw [if_neg fun z => drop_take_nd sd.nd ha z]
    exact (sd.ng a mem).1
  dr := show DrOk (g.retire H n) H g.dr s.dr from (show DrOk g H g.dr s.dr from sd.dr).map fun x l d e q => by
    obtain ⟨c, q1, q2⟩ := q.dict
    have n1 : x ∉ g.η := fun z => (sd.ng x z).2 ⟨x, l, e, .inl rfl⟩
    have n2 : l ∉ g.η := fun z => (sd.ng l z).2 ⟨x, l, e, .inr rfl⟩
    exact ⟨⟨c, q1, (SD.leP (n := n) sd).G _ _ q2⟩, q.list, q.ne, (retire_old n1).trans q.ga, (retire_old n2).trans q.gl⟩
theorem Ev.retired (ev : Ev g0 H0 σ0 s0 g H σ s) (sd : SD K g H σ s) (he : s.env.all notHeldW = true) (hn : s0.sto.length = n) (hl0 : s0.sto.length = g0.η.length) :
    Ev g0 H0 σ0 s0 (g.retire H n) H σ { env := s.env.map fun _ => none, sto := s.sto.take n, dr := s.dr } where
  le := ⟨fun a o e => (SD.leP (n := n) sd).G _ _ (ev.le.G a o e), fun i a e => by
    show (g.η.take n)[i]? = some a
    rw [List.getElem?_take, if_pos (by rw [← hn, hl0]; exact (List.getElem?_eq_some_iff.mp e).1)]
    exact ev.le.η i a e, ev.le.dr⟩
  keep := ev.keep
  live := ev.live
  frz := fun a h q => by
    by_cases z : a ∈ g.η.drop n
    · exact .inr (.inl (.inr (.inl (ev.eta a h (List.mem_of_mem_drop z)))))
    · have q : (if a ∈ g.η.drop n then H a else g.G a) ≠ none := q
      rw [if_neg z] at q
      exact ev.frz a h q
  eta := fun a h q => ev.eta a h (List.mem_of_mem_take (show a ∈ g.η.take n from q))
  mu := fun a m => by
    rcases m with ⟨i, w, e, _⟩ | m | m
    · have e : (s.env.map fun _ => (none : Option W))[i]? = some (some w) := e
      rw [List.getElem?_map] at e
      cases q : s.env[i]? <;> rw [q] at e <;> cases e
    · exact ev.mu a (.inr (.inl (List.mem_of_mem_take (show a ∈ g.η.take n from m))))
    · exact ev.mu a (.inr (.inr m))
  hd := fun a ⟨i, w, e, _⟩ => by
    have e : (s.env.map fun _ => (none : Option W))[i]? = some (some w) := e
    rw [List.getElem?_map] at e
    cases q : s.env[i]? <;> rw [q] at e <;> cases e
  ow := fun a ⟨i, d, e, _⟩ => by
    have e : (s.env.map fun _ => (none : Option W))[i]? = some (some (.own d)) ∨ (s.env.map fun _ => (none : Option W))[i]? = some (some (.lk d)) := e
    rw [List.getElem?_map] at e
    cases q : s.env[i]? <;> rw [q] at e <;> rcases e with e | e <;> cases e
  fix := fun i d e => by
    obtain ⟨_, d', z⟩ := ev.fix i d e
    rcases z with z | z <;> (rcases notHeld he z with ⟨_, y⟩ | ⟨_, y⟩ <;> cases y)
  lk := fun i d e => by
    obtain ⟨_, z⟩ := ev.lk i d e
    rcases notHeld he z with ⟨_, y⟩ | ⟨_, y⟩ <;> cases y
  lkl := fun i d e => by
    obtain ⟨_, z⟩ := ev.lkl i d e
    rcases notHeld he z with ⟨_, y⟩ | ⟨_, y⟩ <;> cases y
theorem deref_reps (sd : SD K g H σ s) : ∀ {kvs q : List (Key × D)} {ks : List (Key × V)}, deref s.sto n kvs = some q → ks.map Prod.fst = kvs.map Prod.fst → Reps K g (ks.map Prod.snd) (kvs.map Prod.snd) → ks.map Prod.fst = q.map Prod.fst ∧ Reps K (g.retire H n) (ks.map Prod.snd) (q.map Prod.snd)
  | [], q, [], h, _, _ => by cases h; exact ⟨rfl, .nil⟩
  | [], q, _ :: _, _, e, _ => by cases e
  | _ :: _, q, [], _, e, _ => by cases e
  | (k, d) :: r, q, (k', v) :: ks, h, e, rp => by
    rw [List.map_cons, List.map_cons] at e
    obtain ⟨e1, e2⟩ := List.cons.inj e
    have e1 : k' = k := e1
    have rp : Reps K g (v :: ks.map Prod.snd) (d :: r.map Prod.snd) := rp
    cases rp with
    | cons ra rr =>
      cases d with
      | ptr i =>
        have h : (match s.sto[i]?, deref s.sto n r with | some (.lst ds), some q => if n ≤ i ∧ noPtrs ds = true then some ((k, D.lst ds) :: q) else none | _, _ => none) = some q := h
        cases q1 : s.sto[i]? with
        | none => rw [q1] at h; cases h
        | some m =>
          rw [q1] at h
          cases m with
          | ins C fs => cases h
          | tab P z => cases h
          | lst ds =>
            cases q2 : deref s.sto n r with
            | none => rw [q2] at h; cases h
            | some q' =>
              rw [q2] at h
              simp only at h
              by_cases z : n ≤ i ∧ noPtrs ds = true
              · rw [if_pos z] at h
                cases h
                obtain ⟨i1, i2⟩ := deref_reps sd q2 e2 rr
                obtain ⟨a, rfl, hη⟩ := Rep.ptr_at ra
                obtain ⟨o, ho, xs, rfl, rx⟩ := sd.sto i _ a q1 hη
                have md : a ∈ g.η.drop n := by
                  refine List.mem_of_getElem? (i := i - n) ?_
                  rw [List.getElem?_drop, show n + (i - n) = i by omega]
                  exact hη
                refine ⟨by rw [List.map_cons, List.map_cons, i1, e1], .cons (.lst ((retire_new md).trans ho) (rx.noP sd.leP z.2)) i2⟩
              · rw [if_neg z] at h; cases h
      | _ => cases h
theorem tS_retire {Wx : WX} {D : Ends} {f : M Flow} (h : tS K Wx (dRetire f) D σ H) : tS K Wx f D σ H := by
  obtain ⟨g, s, sd, p⟩ := h
  refine ⟨g, s, sd, ?_⟩
  unfold dRetire at p
  cases q : f s with
  | bad => rw [q] at p; exact p.elim
  | err x s' => rw [q] at p; exact p.elim
  | ok fl s' =>
    rw [q] at p
    cases fl with
    | nx => exact p.elim
    | bk => exact p.elim
    | ct => exact p.elim
    | rt t =>
      cases t with
      | fz d => exact p.elim
      | ow d =>
        cases d with
        | dk kvs =>
          have p : PostS K Wx D g H σ s (retireS s.sto.length kvs s') := p
          unfold retireS at p
          cases qd : deref s'.sto s.sto.length kvs with
          | none => rw [qd] at p; exact p.elim
          | some kq =>
            rw [qd] at p
            simp only at p
            by_cases z : s'.env.all notHeldW = true ∧ (s'.sto.take s.sto.length).all noPtrM = true ∧ s.sto.length ≤ s'.sto.length
            · rw [if_pos z] at p
              obtain ⟨z1, z2, z3⟩ := z
              intro v σ' g' H' sd' ev rr
              obtain ⟨a, o, rfl, fr, ho, ks, rfl, hk, rk⟩ := rr.at_
              obtain ⟨k1, k2⟩ := deref_reps (n := s.sto.length) sd' qd hk rk
              obtain ⟨n1, n2⟩ := rr.new _ a rfl rfl
              refine p (.ref a) σ' (g'.retire H' s.sto.length) H' (sd'.retired z2 z3 fun _ _ _ _ _ _ _ => trivial) (ev.retired sd' z1 rfl sd.stl) ⟨⟨a, _, rfl, ⟨(retire_old fr.2.1).trans fr.1, fun w => fr.2.1 (List.mem_of_mem_take (show a ∈ g'.η.take _ from w)), fr.2.2⟩, ho, ks, rfl, k1, k2⟩, fun d b e1 e2 => ?_⟩
              cases e2
              refine ⟨n1, fun ⟨i, w, e, _⟩ => ?_⟩
              have e : (s'.env.map fun _ => (none : Option W))[i]? = some (some w) := e
              rw [List.getElem?_map] at e
              cases q : s'.env[i]? <;> rw [q] at e <;> cases e
            · rw [if_neg z] at p; exact p.elim
        | _ => exact p.elim
end
theorem FnOk.retire {P : Program} {w : World} {K : PySem.W.Frag} {mg : Str → Option Value} {base : Heap} {cx : CXT} {f : Addr} {fd : FuncData} {N ps : List Str} {k : Nat} {b : M Flow} (h : FnOk P w K mg base cx k f fd ps (spF K ps N b)) : FnOk P w K mg base cx k f fd ps (spF K ps N (dRetire b)) where
  len := fun xs Hx Qx Ex q => q.1
  run := fun A0 out st Hx ar us xs Qx Ex hr e0 hb hv q => h.run A0 out st Hx ar us xs Qx Ex hr e0 hb hv ⟨q.1, tS_retire q.2⟩
end DL
set_option Elab.async false
set_option linter.all false
set_option maxRecDepth 100000
set_option maxHeartbeats 1000000
namespace DL
open PySem PySem.Spec PyProof.Rows L2
structure DFn (K : PySem.W.Frag) (x qual : Str) (st : Stmt) (f : Addr) (fd : FuncData) (cdv : Value) : Prop where
  ex : ∃ (oc : Value) (od : Option Addr) (dV kV doc pm : Value) (an : Option Addr) (ct : Value) (osl : Array (Option Value)),
    fd = PySem.W.fnOf x qual (defArgs st) (defBody st) (defScope st) dV kV doc pm an cdv ct ∧ K.lookup f = some ⟨oc, od, .func fd, osl⟩ ∧ PySem.W.codeIn K cdv qual = true
  kp : PySem.W.keepIn K (.ref f) = true
section
variable {K : PySem.W.Frag} {x qual : Str} {st : Stmt} {f : Addr} {fd : FuncData} {cdv : Value}
theorem dfn_mk {oc : Value} {od an : Option Addr} {osl : Array (Option Value)} {dV kV doc pm ct : Value} (l : K.lookup f = some ⟨oc, od, .func (PySem.W.fnOf x qual (defArgs st) (defBody st) (defScope st) dV kV doc pm an cdv ct), osl⟩)
    (c : PySem.W.codeIn K cdv qual = true) (k : PySem.W.keepIn K (.ref f) = true) : DFn K x qual st f (PySem.W.fnOf x qual (defArgs st) (defBody st) (defScope st) dV kV doc pm an cdv ct) cdv := ⟨⟨oc, od, dV, kV, doc, pm, an, ct, osl, rfl, l, c⟩, k⟩
theorem DFn.binds {ps : List Str} (F : DFn K x qual st f fd cdv)
    (h : ∀ (dV kV doc pm : Value) (an : Option Addr) (ct : Value) (us : List Value), us.length = ps.length → bindArgs (PySem.W.fnOf x qual (defArgs st) (defBody st) (defScope st) dV kV doc pm an cdv ct) ⟨us, []⟩ = pure (ps.zip us)) : Binds K fd ps [] := by
  obtain ⟨oc, od, dV, kV, doc, pm, an, ct, osl, rfl, lk, hcd⟩ := F.ex
  exact .all (h dV kV doc pm an ct)
end
end DL
set_option Elab.async false
set_option linter.all false
set_option maxRecDepth 100000
set_option maxHeartbeats 1000000
namespace DL
open PySem PySem.Spec PyProof.Rows L2
section
variable {prog : Program} {w : World} {A : Around} {E : Value → Shared → Prop} {s : Shared} {T : String} {r d : Addr} {n : Nat} {P : Nat → Value → Prop} {OK : Heap → Prop}
end
section
variable {X : Cx}
end
section
variable {X : Cx} {Wx : WX} {tg e : Expr} {fa : M VR}
end
end DL
set_option Elab.async false
set_option linter.all false
set_option maxRecDepth 100000
set_option maxHeartbeats 1000000
namespace DL
open PySem PySem.Spec PyProof.Rows L2
section
variable {prog : Program} {w : World} {A : Around} {E : Value → Shared → Prop} {s : Shared}
end
section
variable {X : Cx}
end
end DL
set_option Elab.async false
set_option linter.all false
set_option maxRecDepth 100000
set_option maxHeartbeats 1000000
namespace PySem
open Sem (wp)
open AutoSeq1 (wpAny_loadPart')
end PySem
namespace PySem
open Sem (wp)
end PySem
namespace L2
open PySem PySem.Spec PyProof.Rows
end L2
namespace DL
open L2 PySem PySem.Spec
section
variable {K : PySem.W.Frag} {g : Gh} {H : Hp} {σ : Slots} {s : State}
end
section
variable {X : Cx} {Wx : WX} {tg : Expr} {p p1 pos : Pos} {e : Expr} {body : List Stmt} {pt : Pt} {fb : M Flow} {fl : M (List VR)}
end
end DL
namespace DL
open L2 PySem PySem.Spec
end DL
set_option Elab.async false
set_option linter.all false
set_option maxRecDepth 100000
set_option maxHeartbeats 1000000
namespace DL
open PySem PySem.Spec PyProof.Rows L2
section
variable {X : Cx} {Wx : WX} {a : Expr} {fa : M VR} {p p1 p2 pos : Pos}
end
end DL
set_option Elab.async false
set_option linter.all false
set_option maxRecDepth 100000
set_option maxHeartbeats 1000000
namespace DL
open PySem PySem.Spec PyProof.Rows L2
section
variable {X : Cx}
end
end DL
set_option Elab.async false
set_option linter.all false
set_option maxRecDepth 100000
set_option maxHeartbeats 1000000
namespace L2
open PySem PySem.Spec PyProof.Rows
end L2
namespace DL
open L2 PySem PySem.Spec
section
variable {X : Cx} {Wx : WX} {tg : Expr} {p p1 pos : Pos} {e : Expr} {body : List Stmt} {pt : Pt} {fb : M Flow} {fl : M (List VR)}
end
end DL
set_option linter.all false
set_option maxRecDepth 100000
namespace DL
open PySem PySem.W
def codeOf (o : Obj) : Option Addr := match o.data with
  | .func fd => (match fd.code with
    | .ref c => some c
    | _ => none)
  | _ => none
def tabOf (o : Obj) : Option Addr := match o.data with
  | .fields vs => (match (vs[11]? : Option Value) with
    | some (.ref P) => some P
    | _ => none)
  | _ => none
theorem tabIn_by {K : Frag} {x : Str} {f c P : Addr} {o o2 : Obj} (h1 : nsIn K mainGlobals x = some (some (.ref f))) (h2 : K.lookup f = some o) (h3 : codeOf o = some c) (h4 : K.lookup c = some o2) (h5 : tabOf o2 = some P) : tabIn K x = some (c, P) := by
  obtain ⟨a, b, d, e⟩ := o
  obtain ⟨a2, b2, d2, e2⟩ := o2
  unfold tabIn
  rw [h1]
  show (match K.lookup f with
      | some ⟨_, _, .func fd, _⟩ => (match fd.code with
        | .ref c => (match K.lookup c with
          | some ⟨_, _, .fields vs, _⟩ => (match (vs[11]? : Option Value) with
            | some (.ref P) => some (c, P)
            | _ => none)
          | _ => none)
        | _ => none)
      | _ => none) = _
  rw [h2]
  simp only [codeOf] at h3
  simp only [tabOf] at h5
  cases d with
  | func fd =>
    cases hc : fd.code with
    | ref c' =>
      simp [hc] at h3
      subst h3
      cases d2 with
      | fields vs =>
        cases hv : (vs[11]? : Option Value) with
        | none => simp [hv] at h5
        | some v =>
          cases v with
          | ref P' =>
            simp [hv] at h5
            subst h5
            simp [hc, h4, hv]
          | _ => simp [hv] at h5
      | _ => simp at h5
    | _ => simp [hc] at h3
  | _ => simp at h3
end DL
set_option linter.all false
namespace DL
open PySem PySem.W L2 PyProof.Rows
variable {X : Cx}
end DL
set_option Elab.async false
set_option linter.all false
set_option maxRecDepth 100000
set_option maxHeartbeats 1000000
namespace DL
open PySem PySem.Spec PyProof.Rows L2
def takeD (i : Nat) (h : D → Option (D × D)) : M T := fun s => match heldD i s with
  | some (w, d) => match h d with
    | some (x, d') => .ok (.fz x) (putE s i (w.re d'))
    | none => .bad
  | none => .bad
theorem takeD_res (i : Nat) (h : D → Option (D × D)) (s : State) : (∃ w d x d', heldD i s = some (w, d) ∧ h d = some (x, d') ∧ takeD i h s = .ok (.fz x) (putE s i (w.re d'))) ∨ takeD i h s = .bad := by
  unfold takeD
  cases e : heldD i s with
  | none => exact .inr rfl
  | some z =>
    obtain ⟨w, d⟩ := z
    cases q : h d with
    | none => exact .inr (by simp only [q])
    | some y => exact .inl ⟨w, d, y.1, y.2, rfl, q, by simp only [q]⟩
section
variable {K : PySem.W.Frag} {Wx : WX} {σ : Slots} {R : Gh → Hp → State → V → T → Prop} {Q : V → Hp → Prop} {g0 g1 : Gh} {H0 H1 : Hp} {s0 s1 : State}
theorem Cur.takeD {i : Nat} {h : D → Option (D × D)} (c : Cur K Wx σ R Q g0 H0 s0 (takeD i h s1) g1 H1 s1) :
    ∃ w d x d' a o, heldD i s1 = some (w, d) ∧ h d = some (x, d') ∧ σ[i]? = some (some (V.ref a)) ∧ H1 a = some o ∧ ObAt K g1 o d ∧
      ∀ o', ObAt K g1 o' d' → Cur K Wx σ R Q g0 H0 s0 (.ok (.fz x) (putE s1 i (w.re d'))) g1 (upd H1 a o') (putE s1 i (w.re d')) := by
  rcases takeD_res i h s1 with ⟨w, d, x, d', h1, h2, h3⟩ | h
  · rw [h3] at c
    obtain ⟨a, o, ea, eo, ob⟩ := heldD_at c.sd h1
    obtain ⟨e1, m, _⟩ := heldD_some h1
    refine ⟨w, d, x, d', a, o, h1, h2, ea, eo, ob, fun o' ob' => ?_⟩
    obtain ⟨sd2, ev2⟩ := c.sd.write e1 m ea ob'
    exact ⟨c.ev.trans ev2, sd2, c.post⟩
  · rw [h] at c; exact (c.notBad rfl).elim
end
theorem Reps.init {K : PySem.W.Frag} {g : Gh} {vs : List V} {ds : List D} (r : Reps K g vs ds) : Reps K g vs.dropLast ds.dropLast := by
  rw [List.dropLast_eq_take, List.dropLast_eq_take, r.length]
  exact r.take _
section
variable {X : Cx} {Wx : WX} {e : Expr}
end
end DL
set_option Elab.async false
set_option linter.all false
set_option maxRecDepth 100000
set_option maxHeartbeats 3200000
namespace DL
open PySem PySem.Spec PyProof.Rows L2
section
variable {prog : Program} {w : World} {A : Around} {E : Value → Shared → Prop} {s : Shared}
end
section
variable {X : Cx} {Wx : WX} {a : Expr} {ta : TE} {fa : M VR} {p p2 q pos : Pos}
end
end DL
set_option Elab.async false
set_option linter.all false
set_option maxRecDepth 100000
set_option maxHeartbeats 1000000
namespace DL
open PySem PySem.Spec PyProof.Rows L2
section
variable {prog : Program} {w : World} {K : Type} [DecidableEq K] {knd : KeyKind prog w K} {A : Around} {E : Value → Shared → Prop} {s : Shared}
end
section
variable {X : Cx} {Wx : WX} {pos : Pos} {k v e : Expr}
end
end DL
set_option Elab.async false
set_option linter.all false
set_option maxRecDepth 100000
set_option maxHeartbeats 1000000
namespace DL
open PySem PySem.Spec PyProof.Rows L2
section
variable {X : Cx} {Wx : WX} {k : Nat} {C f : Addr} {fd : FuncData} {N : List Str} {b : M Flow} {p pos : Pos} {o : Expr} {fl : M (List VR)} {am : AM}
end
end DL
set_option Elab.async false
set_option linter.all false
set_option maxRecDepth 100000
set_option maxHeartbeats 1000000
namespace DL
open PySem PySem.Spec PyProof.Rows L2
section
variable {X : Cx} {Wx : WX} {k : Nat} {C f : Addr} {fd : FuncData} {ps N : List Str} {b : M Flow} {d : D} {x : Str} {p pos : Pos} {e : Expr} {es : List Expr} {fl fl' : M (List VR)} {ms ms' : List AM}
end
end DL
set_option Elab.async false
set_option linter.all false
set_option maxRecDepth 100000
set_option maxHeartbeats 1000000
namespace DL
open PySem PySem.Spec PyProof.Rows L2
section
variable {X : Cx} {Wx : WX} {tg e : Expr} {i : Nat} {j : Int}
end
section
variable {X : Cx} {Wx : WX} {pos : Pos} {pt : Pt} {tg iter : Expr} {i : Nat} {j : Int} {h : D → Option (List D)} {body : List Stmt} {fb : M Flow}
end
end DL
set_option Elab.async false
set_option linter.all false
set_option maxRecDepth 100000
set_option maxHeartbeats 1000000
namespace DL
open PySem PySem.Spec PyProof.Rows L2
section
variable {X : Cx} {Wx : WX} {e : Expr} {te : TE} {p apos cpos pos : Pos} {fo : M VR}
end
section
variable {K : PySem.W.Frag} {g : Gh} {H H' : Hp} {σ : Slots} {s : State}
theorem SD.ext (sd : SD K g H σ s) (k : ∀ b o, H b = some o → H' b = some o) : SD K g H' σ s where
  gh := fun b u e => (sd.gh b u e).keep fun w q => k _ _ q
  len := sd.len
  slot := fun i w e => by
    obtain ⟨v, ev, wa⟩ := sd.slot i w e
    exact ⟨v, ev, wa.keep (.refl g) (fun b u eb hw q => k _ _ q) fun _ _ _ x => x⟩
  inj := sd.inj
  stl := sd.stl
  sto := fun i m b e1 e2 => by
    obtain ⟨u, q, m1⟩ := sd.sto i m b e1 e2
    exact ⟨u, k _ _ q, m1⟩
  nd := sd.nd
  ng := sd.ng
  dr := sd.dr.map fun x l d _ q => by
    obtain ⟨c, q1, q2⟩ := q.dict
    exact ⟨⟨c, k _ _ q1, q2⟩, k _ _ q.list, q.ne, q.ga, q.gl⟩
end
section
variable {X : Cx} {Wx : WX} {e : Expr} {p apos cpos pos : Pos} {fo : M VR}
end
end DL
set_option Elab.async false
set_option linter.all false
set_option maxRecDepth 100000
set_option maxHeartbeats 1000000
namespace DL
open PySem PySem.Spec PyProof.Rows L2
end DL
set_option Elab.async false
set_option linter.all false
set_option maxRecDepth 100000
set_option maxHeartbeats 1000000
namespace DL
open PySem PySem.Spec PyProof.Rows L2
section
variable {K : PySem.W.Frag} {g g0 : Gh} {H H0 : Hp} {σ σ0 : Slots} {s s0 : State} {n i : Nat} {kvs q : List (Key × D)} {ks : List Nat}
end
section
variable {X : Cx} {Wx : WX} {st1 st2 st3 : Stmt} {rest : List Stmt} {f1 f2 f3 k : M Flow} {i : Nat} {ks : List Nat}
end
end DL
set_option Elab.async false
set_option linter.all false
set_option maxRecDepth 100000
set_option maxHeartbeats 2000000
namespace DL
open PySem PySem.Spec PyProof.Rows L2
section
variable {prog : Program} {w : World} {A : Around} {s : Shared}
end
section
variable {X : Cx} {Wx : WX}
end
end DL
set_option Elab.async false
set_option linter.all false
set_option maxRecDepth 100000
set_option maxHeartbeats 1000000
namespace DL
open PySem PySem.Spec PyProof.Rows L2
section
variable {X : Cx} {Wx : WX} {pos : Pos} {ft : M Bool} {fe : M VR} {pt : Pt} {elt tg iter : Expr} {ifs : List Expr} {scope : Scope} {own : List (Str × Nat)} {i : Nat} {j : Int} {h : D → Option (List D)} {k : Nat}
end
end DL
set_option Elab.async false
set_option linter.all false
set_option maxRecDepth 100000
set_option maxHeartbeats 1000000
namespace DL
open PySem PySem.Spec PyProof.Rows L2
section
variable {X : Cx}
end
end DL
set_option Elab.async false
set_option linter.all false
set_option maxRecDepth 100000
set_option maxHeartbeats 1000000
namespace DL
open PySem PySem.Spec PyProof.Rows L2
section
variable {X : Cx} {Wx : WX} {e : Expr} {f : M T}
end
end DL
set_option Elab.async false
set_option linter.all false
set_option maxRecDepth 100000
set_option maxHeartbeats 1000000
namespace DL
open PySem PySem.Spec PyProof.Rows L2
section
variable {X : Cx} {Wx : WX}
end
end DL
set_option linter.all false
namespace DL
open PySem PySem.W L2 PyProof.Rows
variable {X : Cx}
end DL
set_option Elab.async false
set_option linter.all false
set_option maxRecDepth 100000
set_option maxHeartbeats 1000000
namespace DL
open PySem PySem.Spec PyProof.Rows L2
abbrev ZF (h : Heap) (z TI TO : Addr) (v : Value) (f : Bool) : Prop :=
  h.get? z = some { cls := .type "zip", dict := none, data := .fields #[v, .bool f, .bool false, .ref TI, .ref TO], slots := #[] }
section
variable {prog : Program} {w : World} {A : Around} {E : Value → Shared → Prop} {s : Shared} {z TI TO i1 i2 l1 l2 : Addr} {k : Nat} {xs ys : Array Value} {v : Value} {f : Bool}
def ZN (h : Heap) (z TI TO i1 i2 l1 l2 : Addr) (k : Nat) : Prop :=
  IsPair h TI (.ref i1) (.ref i2) ∧ h.IsTupleIter i1 l1 k ∧ h.IsTupleIter i2 l2 k ∧ (∃ x y, IsPair h TO x y) ∧ ∃ v f, ZF h z TI TO v f ∧ (v = .none ∨ ∃ T : Addr, v = rawInt T)
end
theorem ZN.lt {h : Heap} {z TI TO i1 i2 l1 l2 c : Addr} {k : Nat} (st : ZN h z TI TO i1 i2 l1 l2 k) (hc : c ∈ [z, TI, TO, i1, i2]) : c < h.objs.size := by
  obtain ⟨hTI, ⟨o1, e1, _⟩, ⟨o2, e2, _⟩, ⟨x, y, hTO⟩, v, f, hz, _⟩ := st
  have e' : c = z ∨ c = TI ∨ c = TO ∨ c = i1 ∨ c = i2 := by simpa using hc
  rcases e' with q | q | q | q | q
  · rw [q]; exact Heap.lt_size hz
  · rw [q]; exact Heap.lt_size hTI
  · rw [q]; exact Heap.lt_size hTO
  · rw [q]; exact Heap.lt_size e1
  · rw [q]; exact Heap.lt_size e2
section
variable {X : Cx} {Wx : WX} {e e2 : Expr} {fl : M (List VR)} {p p1 np : Pos} {x : Str}
end
end DL
set_option Elab.async false
set_option linter.all false
set_option maxRecDepth 100000
set_option maxHeartbeats 3200000
namespace DL
open PySem PySem.Spec PyProof.Rows L2
theorem metsS_mem {k : Str} : ∀ (xs acc : List Str), k ∈ metsS acc xs ↔ k ∈ acc ∨ k ∈ xs
  | [], acc => by unfold metsS; simp
  | x :: xs, acc => by
    show k ∈ metsS (metS acc x) xs ↔ _
    rw [metsS_mem xs, List.mem_cons]
    unfold metS
    split
    · rename_i h
      obtain ⟨y, hy, e⟩ := List.any_eq_true.mp h
      have := eq_of_beq e
      subst this
      constructor
      · rintro (h | h)
        · exact .inl h
        · exact .inr (.inr h)
      · rintro (h | rfl | h)
        · exact .inl h
        · exact .inl hy
        · exact .inr h
    · rw [List.mem_append, List.mem_singleton]
      exact or_assoc
theorem metsS_nodup : ∀ (xs acc : List Str), acc.Nodup → (metsS acc xs).Nodup
  | [], acc, h => h
  | x :: xs, acc, h => by
    show (metsS (metS acc x) xs).Nodup
    refine metsS_nodup xs _ ?_
    unfold metS
    split
    · exact h
    · rename_i q
      rw [List.nodup_append]
      refine ⟨h, by simp, fun a ha b hb => ?_⟩
      rw [List.mem_singleton] at hb
      subst hb
      intro e
      subst e
      exact q (List.any_eq_true.mpr ⟨_, ha, by simp⟩)
def txOf (e : Int × Value) : Str := match e.2 with | .str x _ => x | _ => Str.empty
def GoodT (w : World) (e : Int × Value) : Prop := ∃ x tk, e.2 = Value.str x tk ∧ e.1 = hashStr w x
def SetX (w : World) (h : Heap) (a : Addr) (S : Str → Bool) (n : Nat) : Prop :=
  ∃ o es ep t, h.get? a = some o ∧ o.ExactSet ∧ o.data = .set es ep t ∧ (∀ e ∈ es.toList, GoodT w e) ∧ (es.toList.map txOf).Nodup ∧ (∀ k, S k = true ↔ k ∈ es.toList.map txOf) ∧
    es.size < scanBound ∧ t.fits es.size = true ∧ es.size = n ∧ Ris t.place.toList ∧ (w.params.followText "set-order" = true ∨ t.led = true)
section
variable {P : Program} {w : World} {h h' : Heap} {a : Addr} {S : Str → Bool} {n : Nat}
theorem SetX.at (R : SetX w h a S n) (k : ∀ o, h.get? a = some o → h'.get? a = some o) : SetX w h' a S n := by
  obtain ⟨o, es, ep, t, ho, r⟩ := R
  exact ⟨o, es, ep, t, k o ho, r⟩
theorem SetX.congr {S' : Str → Bool} (R : SetX w h a S n) (e : ∀ k, S' k = S k) : SetX w h a S' n := by
  have q : S' = S := funext e
  rw [q]; exact R
end
section
variable {P : Program} {w : World} {A : Around} {E : Value → Shared → Prop} {s : Shared} {a : Addr} {S : Str → Bool} {n : Nat}
end
section
variable {prog : Program} {w : World} {A : Around} {E : Value → Shared → Prop} {s : Shared}
end
theorem perm_of_mem {l m : List Str} (hl : l.Nodup) (hm : m.Nodup) (h : ∀ k, k ∈ l ↔ k ∈ m) : l.Perm m := by
  rw [List.perm_ext_iff_of_nodup hl hm]; exact h
section
variable {X : Cx} {Wx : WX} {a : Expr} {ta : TE} {fa : M VR} {p p2 q pos : Pos}
theorem SetX.count {w : World} {h : Heap} {a : Addr} {ns : List Str} {n : Nat} (R : SetX w h a (fun j => decide (j ∈ ns)) n) : n = (metsS [] ns).length := by
  obtain ⟨o, es, ep, t, ho, hex, hd, g, nd, hm, hb, hf, hn, hr, hl⟩ := R
  have := (perm_of_mem nd (metsS_nodup ns [] .nil) fun k => by rw [← hm k, decide_eq_true_iff, metsS_mem]; simp).length_eq
  rw [List.length_map, Array.length_toList] at this
  omega
end
end DL
set_option Elab.async false
set_option linter.all false
set_option maxRecDepth 100000
set_option maxHeartbeats 1000000
namespace PySem
open Sem (wp)
section
variable {prog : Program} {w : World} {A : Around} {E : Value → Shared → Prop} {s : Shared}
end
section
variable {prog : Program} {w : World}
end
end PySem
namespace DL
open PySem PySem.Spec PyProof.Rows L2
section
variable {X : Cx} {Wx : WX} {a : Expr} {ta : TE} {fa : M VR} {p p2 q pos : Pos}
end
end DL
namespace DL
open PySem PySem.Spec PyProof.Rows L2
section
variable {X : Cx}
end
end DL
set_option Elab.async false
set_option linter.all false
set_option maxRecDepth 100000
set_option maxHeartbeats 1000000
namespace DL
open PySem PySem.Spec PyProof.Rows L2 RZ
section
variable {prog : Program} {w : World} {A : Around} {E : Value → Shared → Prop} {s : Shared}
end
section
variable {K : PySem.W.Frag} {g : Gh} {H : Hp} {σ : Slots} {s : State}
end
section
variable {X : Cx} {Wx : WX} {e e2 : Expr} {fl : M (List VR)} {p p1 p2 pos : Pos} {pt : Pt} {body : List Stmt} {fb : M Flow}
end
end DL
set_option Elab.async false
set_option linter.all false
set_option maxRecDepth 100000
set_option maxHeartbeats 1000000
namespace DL
open PySem PySem.Spec PyProof.Rows L2
section
variable {X : Cx} {Wx : WX} {e : Expr} {i : Nat} {j : Int} {apos cpos : Pos}
end
end DL
namespace DL
open PySem PySem.Spec PyProof.Rows L2
section
variable {X : Cx}
end
end DL
namespace DL
open PySem PySem.Spec PyProof.Rows L2
section
variable {X : Cx}
end
end DL
namespace DL
open PySem PySem.Spec PyProof.Rows L2
section
variable {X : Cx} {Wx : WX} {e e2 : Expr} {fl : M (List VR)} {p p1 : Pos}
end
end DL
set_option Elab.async false
set_option linter.all false
set_option maxRecDepth 100000
set_option maxHeartbeats 2000000
namespace DL
open PySem PySem.Spec PyProof.Rows L2
section
variable {X : Cx} {Wx : WX} {pos : Pos}
end
end DL
set_option Elab.async false
set_option linter.all false
set_option maxRecDepth 100000
set_option maxHeartbeats 1000000
namespace DL
open PySem PySem.Spec PyProof.Rows L2
section
variable {X : Cx} {Wx : WX} {pos : Pos} {e : Expr}
end
end DL
set_option Elab.async false
set_option linter.all false
set_option maxRecDepth 100000
set_option maxHeartbeats 3200000
namespace DL
open PySem PySem.Spec PyProof.Rows L2
section
variable {prog : Program} {w : World} {A : Around} {R : Result → Shared → Prop} {I : Addr} {fp wr : List Addr} {G : Array GenState → Array GenState → Prop} {n : Nat} {P : Nat → Value → Prop} {St : Nat → Shared → Prop}
end
section
variable {prog : Program} {w : World} {A : Around} {E : Value → Shared → Prop} {s : Shared}
end
section
variable {X : Cx} {Wx : WX} {a : Expr} {ta : TE} {fa : M VR} {p p2 q pos : Pos}
end
end DL
set_option Elab.async false
set_option linter.all false
set_option maxRecDepth 100000
set_option maxHeartbeats 2000000
namespace DL
open PySem PySem.Spec PyProof.Rows L2
section
variable {K : PySem.W.Frag} {Wx : WX} {σ : Slots} {β α : Type} {R : Gh → Hp → State → β → α → Prop} {Q : β → Hp → Prop} {g0 g1 : Gh} {H0 H1 : Hp} {s0 s1 : State}
end
section
variable {X : Cx} {Wx : WX} {a b : Expr} {fa fb : M VR} {pos : Pos}
end
mutual
def derefD (sto : List MO) (n : Nat) : D → Option D
  | .tup xs => (derefDs sto n xs).map .tup
  | .lst xs => (derefDs sto n xs).map .lst
  | .ptr i => match sto[i]? with
    | some (.lst ds) => if n ≤ i ∧ noPtrs ds = true then some (.lst ds) else none
    | _ => none
  | d => if noPtr d = true then some d else none
def derefDs (sto : List MO) (n : Nat) : List D → Option (List D)
  | [] => some []
  | d :: r => match derefD sto n d, derefDs sto n r with
    | some x, some y => some (x :: y)
    | _, _ => none
end
section
variable {K : PySem.W.Frag} {g : Gh} {H : Hp} {σ : Slots} {s : State} {n : Nat}
mutual
theorem Rep.deref (sd : SD K g H σ s) : ∀ {v : V} {d d' : D}, Rep K g v d → derefD s.sto n d = some d' → Rep K (g.retire H n) v d'
  | v, .tup xs, d', h, e => by
    have e : (derefDs s.sto n xs).map D.tup = some d' := by rw [← e]; unfold derefD; rfl
    cases q : derefDs s.sto n xs with
    | none => rw [q] at e; cases e
    | some ys =>
      rw [q] at e; cases e
      cases h with
      | tup a r => exact .tup ((SD.leP (n := n) sd).G _ _ a) (Reps.deref sd r q)
      | tup0 a =>
        have : ys = [] := by unfold derefDs at q; cases q; rfl
        subst this
        exact .tup0 (SqT.le (SD.leP (n := n) sd).G a)
  | v, .lst xs, d', h, e => by
    have e : (derefDs s.sto n xs).map D.lst = some d' := by rw [← e]; unfold derefD; rfl
    cases q : derefDs s.sto n xs with
    | none => rw [q] at e; cases e
    | some ys =>
      rw [q] at e; cases e
      cases h with
      | lst a r => exact .lst ((SD.leP (n := n) sd).G _ _ a) (Reps.deref sd r q)
  | v, .ptr i, d', h, e => by
    have e : (match s.sto[i]? with | some (.lst ds) => if n ≤ i ∧ noPtrs ds = true then some (D.lst ds) else none | _ => none) = some d' := by rw [← e]; unfold derefD; rfl
    cases q : s.sto[i]? with
    | none => rw [q] at e; cases e
    | some m =>
      rw [q] at e
      cases m with
      | ins C fs => cases e
      | tab P z => cases e
      | lst ds =>
        simp only at e
        by_cases z : n ≤ i ∧ noPtrs ds = true
        · rw [if_pos z] at e; cases e
          obtain ⟨a, rfl, hη⟩ := Rep.ptr_at h
          obtain ⟨o, ho, xs, rfl, rx⟩ := sd.sto i _ a q hη
          have md : a ∈ g.η.drop n := by
            refine List.mem_of_getElem? (i := i - n) ?_
            rw [List.getElem?_drop, show n + (i - n) = i by omega]
            exact hη
          exact .lst ((retire_new md).trans ho) (rx.noP sd.leP z.2)
        · rw [if_neg z] at e; cases e
  | v, .non, d', h, e => by cases e; exact h.noP sd.leP rfl
  | v, .bl b, d', h, e => by cases e; exact h.noP sd.leP rfl
  | v, .int b, d', h, e => by cases e; exact h.noP sd.leP rfl
  | v, .str b, d', h, e => by cases e; exact h.noP sd.leP rfl
  | v, .frl b, d', h, e => by cases e; exact h.noP sd.leP rfl
  | v, .draw, d', h, e => by cases e; exact h.noP sd.leP rfl
  | v, .dk kvs, d', h, e => by
    unfold derefD at e
    by_cases z : noPtr (.dk kvs) = true
    · rw [if_pos z] at e; cases e; exact h.noP sd.leP z
    · rw [if_neg z] at e; cases e
  | v, .dt kvs, d', h, e => by
    unfold derefD at e
    by_cases z : noPtr (.dt kvs) = true
    · rw [if_pos z] at e; cases e; exact h.noP sd.leP z
    · rw [if_neg z] at e; cases e
  | v, .obj C fs, d', h, e => by
    unfold derefD at e
    by_cases z : noPtr (.obj C fs) = true
    · rw [if_pos z] at e; cases e; exact h.noP sd.leP z
    · rw [if_neg z] at e; cases e
  | v, .exc C fs, d', h, e => by
    unfold derefD at e
    by_cases z : noPtr (.exc C fs) = true
    · rw [if_pos z] at e; cases e; exact h.noP sd.leP z
    · rw [if_neg z] at e; cases e
theorem Reps.deref (sd : SD K g H σ s) : ∀ {vs : List V} {ds ds' : List D}, Reps K g vs ds → derefDs s.sto n ds = some ds' → Reps K (g.retire H n) vs ds'
  | _, [], ds', h, e => by
    unfold derefDs at e; cases e
    cases h; exact .nil
  | _, d :: ds, ds', h, e => by
    have e : (match derefD s.sto n d, derefDs s.sto n ds with | some x, some y => some (x :: y) | _, _ => none) = some ds' := by rw [← e]; conv => rhs; unfold derefDs
    cases q1 : derefD s.sto n d with
    | none => rw [q1] at e; cases e
    | some x =>
      cases q2 : derefDs s.sto n ds with
      | none => rw [q1, q2] at e; cases e
      | some y =>
        rw [q1, q2] at e; cases e
        cases h with
        | cons ra rr => exact .cons (Rep.deref sd ra q1) (Reps.deref sd rr q2)
end
def retireT (n : Nat) (d : D) (s : State) : Rs Flow := match derefD s.sto n d with
  | some q => if s.env.all notHeldW = true ∧ (s.sto.take n).all noPtrM = true ∧ n ≤ s.sto.length then .ok (.rt (.fz q)) { env := s.env.map fun _ => none, sto := s.sto.take n, dr := s.dr } else .bad
  | none => .bad
def dRetireT (f : M Flow) : M Flow := fun s => match f s with
  | .ok (.rt (.fz d)) s' => retireT s.sto.length d s'
  | _ => .bad
theorem tS_retireT {Wx : WX} {D : Ends} {f : M Flow} (h : tS K Wx (dRetireT f) D σ H) : tS K Wx f D σ H := by
  obtain ⟨g, s, sd, p⟩ := h
  refine ⟨g, s, sd, ?_⟩
  unfold dRetireT at p
  cases q : f s with
  | bad => rw [q] at p; exact p.elim
  | err x s' => rw [q] at p; exact p.elim
  | ok fl s' =>
    rw [q] at p
    cases fl with
    | nx => exact p.elim
    | bk => exact p.elim
    | ct => exact p.elim
    | rt t =>
      cases t with
      | ow d => exact p.elim
      | fz d =>
        have p : PostS K Wx D g H σ s (retireT s.sto.length d s') := p
        unfold retireT at p
        cases qd : derefD s'.sto s.sto.length d with
        | none => rw [qd] at p; exact p.elim
        | some kq =>
          rw [qd] at p
          simp only at p
          by_cases z : s'.env.all notHeldW = true ∧ (s'.sto.take s.sto.length).all noPtrM = true ∧ s.sto.length ≤ s'.sto.length
          · rw [if_pos z] at p
            obtain ⟨z1, z2, z3⟩ := z
            intro v σ' g' H' sd' ev rr
            have rp : Rep K g' v d := rr.at_
            exact p v σ' (g'.retire H' s.sto.length) H' (sd'.retired z2 z3 fun _ _ _ _ _ _ _ => trivial) (ev.retired sd' z1 rfl sd.stl) ⟨Rep.deref sd' rp qd, fun _ _ z => nomatch z⟩
          · rw [if_neg z] at p; exact p.elim
end
theorem FnOk.retireT {P : Program} {w : World} {K : PySem.W.Frag} {mg : Str → Option Value} {base : Heap} {cx : CXT} {f : Addr} {fd : FuncData} {N ps : List Str} {k : Nat} {b : M Flow} (h : FnOk P w K mg base cx k f fd ps (spF K ps N b)) : FnOk P w K mg base cx k f fd ps (spF K ps N (dRetireT b)) where
  len := fun xs Hx Qx Ex q => q.1
  run := fun A0 out st Hx ar us xs Qx Ex hr e0 hb hv q => h.run A0 out st Hx ar us xs Qx Ex hr e0 hb hv ⟨q.1, tS_retireT q.2⟩
end DL
set_option Elab.async false
set_option linter.all false
set_option maxRecDepth 100000
set_option maxHeartbeats 2000000
namespace DL
open PySem PySem.Spec PyProof.Rows L2
section
variable {K : PySem.W.Frag} {g : Gh} {H : Hp} {σ : Slots} {s : State}
end
section
variable {X : Cx} {Wx : WX} {tg : Expr} {body : List Stmt} {pt : Pt} {fb : M Flow} {fl : M (List VR)} {p p1 pos : Pos}
end
end DL
set_option Elab.async false
set_option linter.all false
set_option maxRecDepth 100000
set_option maxHeartbeats 2000000
namespace DL
open PySem PySem.Spec PyProof.Rows L2
def isLstD : D → Bool
  | .lst _ => true
  | _ => false
section
variable {X : Cx} {Wx : WX}
end
end DL
set_option Elab.async false
set_option linter.all false
set_option maxRecDepth 100000
set_option maxHeartbeats 2000000
namespace DL
open PySem PySem.Spec PyProof.Rows L2
theorem exk_ok {P : Program} {w : World} {H : Hp} {h : Heap} {a C : Addr} {dx : Option Addr} {o : Obj} {vs : Array Value} (e : h.get? a = some o) (hc : o.cls = .ref C) (hd : o.dict = dx) (hf : o.data = .fields vs) : ObjOk P w H h a (exk a C dx) :=
  ⟨⟨o, vs, e, hc, hd, hf⟩, ⟨o, e⟩, fun _ _ ⟨u, v, q, r⟩ k => ⟨u, v, k u q, r⟩⟩
section
variable {X : Cx} {pins : List (Addr × Obj)} {σ : L2.St} {H : Hp} {s : Shared}
theorem regI {a : Addr} {o : HO} {u : Obj} {vs : Array Value} (I : Inv X pins σ H s) (na : H a = none) (n0 : X.s_0.heap.get? a = none) (hu : s.heap.get? a = some u) (hf : u.data = .fields vs) (nL : a ≠ X.env.locals) (np : ∀ p ∈ X.pn ++ pins, p.1 ≠ a) (new : ObjOk X.prog X.w (upd H a o) s.heap a o) : Inv X pins σ (upd H a o) s := by
  have up : ∀ {b : Addr} {q : HO}, H b = some q → upd H a o b = some q := fun {b q} e => by
    rw [upd_ne (fun z => by rw [z, na] at e; cases e)]; exact e
  refine ⟨I.ok, I.os, I.bare, ?_, I.loc, I.cell, ?_, fun x c hc => ?_, fun p hp => ?_, HOk.laidN I.hok (fun b v q => q) na new, I.len⟩
  · obtain ⟨k1, k2, k3, k4, k5, k6, k7⟩ := I.base
    refine ⟨k1, k2, fun b v e n hx => ?_, k4, fun b xs e => up (k5 b xs e), fun b v xs e => up (k6 b v xs e), fun b ps e => ?_⟩
    · rw [upd_ne (fun z => by rw [z, n0] at e; cases e)]
      exact k3 b v e n hx
    · obtain ⟨more, q⟩ := k7 b ps e
      exact ⟨more, up q⟩
  · rw [upd_ne nL.symm]; exact I.free
  · obtain ⟨v, w, e, d⟩ := I.cell x c hc
    rw [upd_ne (fun z => by rw [z, hu] at e; cases e; rw [hf] at d; cases d)]
    exact I.freeC x c hc
  · obtain ⟨p1, p2, p3, p4, p5⟩ := I.pin p hp
    exact ⟨p1, by rw [upd_ne (np p hp)]; exact p2, p3, p4, p5⟩
theorem new0 {a : Addr} {B : Heap} (I : Inv X pins σ H s) (nb : ∀ b o, s.heap.get? b = some o → b ∉ frs X.stack → B.get? b = some o) (nB : B.get? a = none) (nF : a ∉ frs X.stack) (hx : X.ex = []) : X.s_0.heap.get? a = none ∧ ∀ p ∈ X.pn ++ pins, p.1 ≠ a := by
  have no : s.heap.get? a = none := by
    cases e : s.heap.get? a with
    | none => rfl
    | some o => rw [nb a o e nF] at nB; cases nB
  refine ⟨?_, fun p hp z => ?_⟩
  · cases e : X.s_0.heap.get? a with
    | none => rfl
    | some o =>
      obtain ⟨o', q⟩ := I.base.there a o e (by rw [hx]; exact fun z => nomatch z)
      rw [no] at q; cases q
  · have := (I.pin p hp).1
    rw [z, no] at this; cases this
end
def wKeep (K : PySem.W.Frag) (c : Value) (i : Nat) (ts : Addr → Value → Option Addr → TS) (Wout : WX) (D : Ends) : WX := fun cls d σ H =>
  ∃ b, PySem.W.exmOne K cls c = some b ∧ (b = true → ∀ a, H a = none → ts a cls d { nx := fun σ' H' => ∃ C, cls = .ref C ∧ D.nx (σ'.set i none) (upd H' a (exk a C d)), rt := fun _ _ => False, bk := fun _ _ => False, ct := fun _ _ => False } (σ.set i (some (.ref a))) H) ∧
    (b = false → Wout cls d σ H)
section
variable {X : Cx} {x n : Str} {c : Value} {i : Nat} {body suite : List Stmt} {b₀ : Stmt} {np pos pos' : Pos} {tb : WX → TS} {ts : Addr → Value → Option Addr → TS} {Wout : WX}
theorem ps_try_keep (hx : X.ex = []) (hs : X.stack = X.env :: X.outer) (hf : X.env.frame = some X.env.locals) (hN : X.N.Nodup) (hi : X.N[i]? = some n) (hln : X.env.kindOf n = some .local) (hc : Names X x c) (tk : Takes X Wout)
    (hb : ∀ (W : WX) (pn : List (Addr × Obj)) (xe : Value → Shared → Prop), Takes (X.tr pn xe) W → PassesOwn (model X.prog X.w) X.A X.env xe → PSs (X.tr pn xe) body (tb W))
    (hsu : ∀ (a : Addr) (oe : Obj) (cls : Value) (d : Option Addr) (pn : List (Addr × Obj)), Zc cls d oe → (∃ vs, oe.data = .fields vs) → PSs (X.suite a ((a, oe) :: pn)) (b₀ :: suite) (ts a cls d)) :
    PS X (.Try body [.ExceptHandler (some (.Name x np)) (some n) (b₀ :: suite) pos'] [] [] pos) (fun D σ H => tb (wKeep X.K c i ts Wout D) D σ H) := by
  refine ⟨fun pins s σ H D I h => ?_⟩
  have ok := I.ok
  have hfr : X.A.frames = some (X.env :: X.outer) := by rw [ok.frames, hs]
  -- what the clause does with an exception
  have catch_ : ∀ u s', XE (X.tr (X.pn ++ pins) (fun e s₁ => wpAny (model X.prog X.w) X.A (noteFrame e X.env) (fun _ s₂ => wpAny (model X.prog X.w) X.A (setFlight e none) (fun _ s₃ =>
    wpAny (model X.prog X.w) X.A (handleBy e X.env [.ExceptHandler (some (.Name x np)) (some n) (b₀ :: suite) pos']) (SP X pins D) X.xe s₃) X.xe s₂) X.xe s₁)) (wKeep X.K c i ts Wout D) u s' →
      wpAny (model X.prog X.w) X.A (noteFrame u X.env) (fun _ s₂ => wpAny (model X.prog X.w) X.A (setFlight u none) (fun _ s₃ =>
    wpAny (model X.prog X.w) X.A (handleBy u X.env [.ExceptHandler (some (.Name x np)) (some n) (b₀ :: suite) pos']) (SP X pins D) X.xe s₃) X.xe s₂) X.xe s' := by
    rintro u s' ⟨a, B, sI, pins', σ', H', cls, d, rfl, J', nb, up, sky, na, os, ag, b, hb1, hyes, hno⟩
    have J : Inv X pins σ' H' sI := J'.ofTry ok
    have sky1 : Sky B (X.env :: X.outer) a (Zc cls d) X.env.locals s'.heap := by rw [← hs]; exact sky
    refine Sky.land Zc.steady hfr hf sky1 fun h3 fl3 up3 => ?_
    have J3 : Inv X pins σ' H' { s' with heap := h3 } := J.landed nb fl3.1 (up.trans up3) os ag
    obtain ⟨oe3, vs3, he3, hz3, hd3⟩ := fl3.there
    have far : a ∉ frs (X.env :: X.outer) := fun hm => by
      obtain ⟨_, o', e', hnf⟩ := fl3.2.2.1.mem hm
      rw [he3] at e'; cases e'
      exact hnf _ hd3
    have nL : a ≠ X.env.locals := fun z => far (List.mem_filterMap.mpr ⟨X.env, List.mem_cons_self, by rw [hf, z]⟩)
    have nF : a ∉ X.fs := fun hm => by
      obtain ⟨e, he, q⟩ := List.mem_filterMap.mp hm
      exact far (List.mem_filterMap.mpr ⟨e, List.mem_cons_of_mem _ he, q⟩)
    obtain ⟨n0, npn⟩ := new0 J nb fl3.2.1 (by rw [hs]; exact far) hx
    have S3 := J3.suite he3 hd3 na nL nF
    have LT : PySem.W.Looks (model X.prog X.w) h3 (typeOf (.ref a)) cls := fun A Q E s k q => wpAny_typeOf_ref (k _ _ he3) (by rw [hz3.1]; exact q)
    have LM := PySem.W.exm_one (M := model X.prog X.w) (J3.kIn) LT hb1
    refine wpAny_handleBy_cons (codeAny_handlers_test ?_) (by intro q; cases q)
    have test : ∀ {Q : Value → Shared → Prop} {E : Value → Shared → Prop}, Q c { s' with heap := h3 } → wpAny (model X.prog X.w) (X.A.mark (some (.ref a))) (eval (.Name x np) X.env) Q E { s' with heap := h3 } := fun {Q E} q => by
      obtain ⟨hg, hdbg, hm | ⟨hm, hv, hnn⟩⟩ := hc
      · exact ld_glob (X := X.suite a ((a, oe3) :: (X.pn ++ pins))) S3 hg hm q hdbg
      · exact ld_blt (X := X.suite a ((a, oe3) :: (X.pn ++ pins))) S3 hg hm hv q hnn hdbg
    refine test (LM.here ?_)
    cases b with
    | false =>
      show wpAny _ X.A (handleBy (.ref a) X.env []) _ _ _
      refine wpAny_handleBy_nil ?_
      obtain ⟨_, _, _, oe, vs, T, _, _, he, _, hd, h1, _⟩ := id fl3
      unfold PySem.passOn
      refine wpAny_bind (wpAny_field he hd h1 ?_)
      rw [if_neg (show ¬ ((Value.ref T == Value.none) = true) from by simp)]
      have fin_ : wpAny (model X.prog X.w) X.A (setFlight (.ref a) X.env.frame) (fun _ s4 => wpAny (model X.prog X.w) X.A (throw (.ref a) : Sem PySem.Flow) (SP X pins D) X.xe s4) X.xe { s' with heap := h3 } := by
        rw [hf]
        refine HandSPX.setFlight_upZ fl3 fun h4 hh4 up4 => wpAny_throw (tk _ _ ?_)
        exact ⟨a, B, sI, pins, σ', H', cls, d, rfl, J, nb, (up.trans up3).trans up4, .inr (.inr (by rw [hs]; exact hh4)), na, os, ag, hno rfl⟩
      first
        | exact wpAny_bind (wpAny_pure (wpAny_bind fin_))
        | exact wpAny_bind fin_
    | true =>
      refine codeAny_handlers_suite_as ?_
      refine HandSPX.lands_againZ fl3 fun h4 fl4 up4 => ?_
      have J4 : Inv X pins σ' H' { s' with heap := h4 } := J.landed nb fl4.1 ((up.trans up3).trans up4) os ag
      obtain ⟨oe4, vs4, he4, hz4, hd4⟩ := fl4.there
      have S4 := J4.suite he4 hd4 na nL nF
      refine store_ok (X := X.suite a ((a, oe4) :: (X.pn ++ pins))) (v := .ref a) S4 hN hi (.inl hln) rfl (fun s5 S5 => ?_) (.inr hln)
      refine wpAny_mono ((hsu a oe4 cls d (X.pn ++ pins) hz4 ⟨_, hd4⟩).run [] s5 _ H' _ S5 (hyes rfl a na)) (fun f s6 hsp => ?_) (fun _ _ z => False.elim z)
      cases f with
      | next =>
        obtain ⟨σ6, H6, S6, C, eC, q6⟩ := hsp
        have pa := S6.pin (a, oe4) (List.mem_append_left _ List.mem_cons_self)
        have J6 := S6.unsuite ok
        have K6 : Inv X pins σ6 (upd H6 a (exk a C d)) s6 := regI J6 pa.2.1 n0 pa.1 hd4 nL npn (exk_ok pa.1 (hz4.1.trans eC) hz4.2 hd4)
        exact gone_ok K6 hN hi hln fun s7 J7 => ⟨_, _, J7, q6⟩
      | brk =>
        obtain ⟨_, _, _, q6⟩ := hsp
        exact q6.elim
      | cont =>
        obtain ⟨_, _, _, q6⟩ := hsp
        exact q6.elim
      | ret u =>
        obtain ⟨_, _, _, _, _, q6⟩ := hsp
        exact q6.elim
  refine wpAny_Try_except ?_
  refine wpAny_mono ((hb (wKeep X.K c i ts Wout D) (X.pn ++ pins) _ (fun u s' xx => catch_ u s' xx) PassesOwn.looking).run [] s σ H D (I.toTry _) h) (fun f s1 hsp => ?_) (fun e s1 he => he)
  cases f with
  | next =>
    obtain ⟨σ', H', J', q⟩ := hsp
    exact wpAny_execs_nil ⟨σ', H', J'.ofTry ok, q⟩
  | brk =>
    obtain ⟨σ', H', J', q⟩ := hsp
    exact ⟨σ', H', J'.ofTry ok, q⟩
  | cont =>
    obtain ⟨σ', H', J', q⟩ := hsp
    exact ⟨σ', H', J'.ofTry ok, q⟩
  | ret u =>
    obtain ⟨v, σ', H', J', r, q⟩ := hsp
    exact ⟨v, σ', H', J'.ofTry ok, r, q⟩
end
end DL
set_option Elab.async false
set_option linter.all false
set_option maxRecDepth 100000
set_option maxHeartbeats 2000000
namespace DL
open PySem PySem.Spec PyProof.Rows L2
section
variable {K : PySem.W.Frag} {g : Gh} {H : Hp} {σ : Slots} {s : State}
theorem SD.xdFree (sd : SD K g H σ s) {dd : Addr} {fs : List (Str × V)} (h : H dd = some (.xd fs)) : g.G dd = some (.xd fs) ∨ (Free1 g dd ∧ ¬ Hd σ s dd) := by
  cases q : g.G dd with
  | some o =>
    refine .inl ?_
    rcases sd.gh dd o q with e | ⟨_, ob, e⟩
    · rw [h] at e; cases e; rfl
    · rw [h] at e; cases e
  | none =>
    refine .inr ⟨⟨q, fun m => ?_, fun z => ?_⟩, fun ⟨i, w, e, hw, x⟩ => ?_⟩
    · obtain ⟨i, hi, e⟩ := List.getElem_of_mem m
      have e' : g.η[i]? = some dd := by rw [List.getElem?_eq_getElem hi, e]
      have hs : i < s.sto.length := by rw [sd.stl]; exact hi
      obtain ⟨o, q1, ob⟩ := sd.sto i s.sto[i] dd (List.getElem?_eq_getElem hs) e'
      rw [h] at q1; cases q1
      cases m2 : s.sto[i] with
      | ins C ds => rw [m2] at ob; obtain ⟨_, _, z, _⟩ := ob; cases z
      | lst ds => rw [m2] at ob; obtain ⟨_, z, _⟩ := ob; cases z
      | tab P z => rw [m2] at ob; obtain ⟨_, _, z, _⟩ := ob; cases z
    · obtain ⟨x, l, e, z⟩ := z
      have q1 := sd.dr
      rw [e] at q1
      cases r : s.dr with
      | none => rw [r] at q1; exact False.elim q1
      | some d =>
        rw [r] at q1
        have q1 : DrAt g H x l d := q1
        rcases z with rfl | rfl
        · obtain ⟨c, q2, _⟩ := q1.dict
          rw [h] at q2; cases q2
        · have q2 := q1.list
          rw [h] at q2; cases q2
    · obtain ⟨v, ev, wa⟩ := sd.slot i w e
      rw [x] at ev; cases ev
      exact wa.noTup hw rfl ⟨_, h, .inr ⟨fs, rfl⟩⟩
theorem Ev.freezeXd {g0 : Gh} {H0 : Hp} {σ0 : Slots} {s0 : State} (e : Ev g0 H0 σ0 s0 g H σ s) {dd : Addr} {fs : List (Str × V)} (f : Free1 g dd) (h : H dd = some (.xd fs)) : Ev g0 H0 σ0 s0 (g.frz dd (.xd fs)) H σ s where
  le := e.le.trans (Gh.frz_le f.1)
  keep := e.keep
  live := e.live
  frz := fun b l q => by
    by_cases z : b = dd
    · subst z
      cases y : H0 b with
      | none => exact absurd y l
      | some o =>
        by_cases m : Mu g0 σ0 s0 b
        · exact .inr (.inl m)
        · have y2 := e.keep b o y m
          rw [h] at y2; cases y2
          exact .inr (.inr ⟨_, y, .inr ⟨fs, rfl⟩⟩)
    · have q' : upd g.G dd (.xd fs) b ≠ none := q
      rw [upd_ne z] at q'
      exact e.frz b l q'
  eta := e.eta
  mu := e.mu
  hd := e.hd
  ow := e.ow
  fix := e.fix
  lk := e.lk
  lkl := e.lkl
theorem SD.newExc (sd : SD K g H σ s) {a : Addr} {cls : Value} {d : Option Addr} {x : Ex} (na : H a = none) (ea : ErrAt K g H cls d x) : ∃ g3, SD K g3 (upd H a (exk a x.cls d)) σ s ∧ Ev g H σ s g3 (upd H a (exk a x.cls d)) σ s ∧ Rep K g3 (.ref a) (.exc x.cls x.fs) := by
  obtain ⟨_, ea⟩ := ea
  rcases ea with ⟨ef, rfl⟩ | ⟨dd, fs, rfl, hd, k, r⟩
  · have f1 := sd.free1 na
    refine ⟨g.frz a (exk a x.cls none), (sd.alloc (o := exk a x.cls none) na).freeze f1 (sd.noHd na) upd_same, (sd.allocEv na).freeze f1 na, ?_⟩
    rw [ef]
    exact .exc Gh.frz_at (.inl ⟨rfl, rfl⟩) rfl .nil
  · have ne : dd ≠ a := fun z => by rw [z, na] at hd; cases hd
    rcases sd.xdFree hd with q | ⟨f, nh⟩
    · have f1 := sd.free1 na
      refine ⟨g.frz a (exk a x.cls (some dd)), (sd.alloc (o := exk a x.cls (some dd)) na).freeze f1 (sd.noHd na) upd_same, (sd.allocEv na).freeze f1 na, ?_⟩
      exact .exc Gh.frz_at (.inr ⟨dd, rfl, (Gh.frz_le f1.1).G _ _ q⟩) k (r.mono (Gh.frz_le f1.1))
    · have sd1 := sd.freeze f nh hd
      have ev1 : Ev g H σ s (g.frz dd (.xd fs)) H σ s := Ev.freezeXd .refl f hd
      have f1 := sd1.free1 na
      refine ⟨(g.frz dd (.xd fs)).frz a (exk a x.cls (some dd)), (sd1.alloc (o := exk a x.cls (some dd)) na).freeze f1 (sd1.noHd na) upd_same, ev1.trans ((sd1.allocEv na).freeze f1 na), ?_⟩
      have le := (Gh.frz_le (o := exk a x.cls (some dd)) f1.1)
      exact .exc Gh.frz_at (.inr ⟨dd, rfl, le.G _ _ Gh.frz_at⟩) k ((r.mono (Gh.frz_le f.1)).mono le)
end
end DL
set_option Elab.async false
set_option linter.all false
set_option maxRecDepth 100000
set_option maxHeartbeats 2000000
namespace DL
open PySem PySem.Spec PyProof.Rows L2
section
variable {K : PySem.W.Frag} {g g0 : Gh} {H H0 : Hp} {σ σ0 : Slots} {s s0 : State} {i : Nat}
end
section
variable {X : Cx} {Wx : WX} {x n : Str} {c : Value} {i j : Nat} {body suite : List Stmt} {b₀ : Stmt} {np pos pos' : Pos} {fb : M Flow} {tsu : TS} {mt : Addr → Option Bool}
end
end DL
set_option Elab.async false
set_option linter.all false
set_option maxRecDepth 100000
set_option maxHeartbeats 2000000
namespace DL
open PySem PySem.Spec PyProof.Rows L2
section
variable {X : Cx} {Wx : WX} {C : Addr} {bmB : List Value} {B newId initId : String}
end
end DL
set_option Elab.async false
set_option linter.all false
set_option maxRecDepth 100000
set_option maxHeartbeats 2000000
namespace DL
open PySem PySem.Spec PyProof.Rows L2
section
variable {X : Cx} {Wx : WX} {x n m : Str} {c : Value} {i j k : Nat} {body : List Stmt} {np p1 p2 pos pos1 pos' : Pos} {fb : M Flow} {mt : Addr → Option Bool}
theorem Bd.tr (b : Bd X Wx k) {W : WX} {pn : List (Addr × Obj)} {xe : Value → Shared → Prop} (t : Takes (X.tr pn xe) W) (o : PassesOwn (model X.prog X.w) X.A X.env xe) : Bd (X.tr pn xe) W k := ⟨b.calm, b.room, t, o, b.nd⟩
theorem suite_keep (hN : X.N.Nodup) (hi : X.N[i]? = some n) (hv : Vis X.env.scope n) (hj : X.N[j]? = some m) (hl : Loc X.env.scope m) (hf : X.fn m = true ∨ X.env.scope.names.lookup m = some .local) (hd : (n == ("__debug__" : Str)) = false) (hcd : (n == ("__classdict__" : Str)) = false)
    (hs : swapsWithSole [.Name m p1] (.Name n p2) pos1.line X.env = pure false) (hw : swappedStores [.Name m p1] (.Name n p2) X.env = pure none) (h1 : (assignEach [.Name m p1] X.env).map (·.2) = [assign (.Name m p1) X.env]) (a : Addr) (oe : Obj) (pn : List (Addr × Obj)) :
    PSs (X.suite a ((a, oe) :: pn)) [.Assign [.Name m p1] (.Name n p2) pos1] (tSeq (tAsg (tVar i) (gName j)) tNext) :=
  pss_cons (ps_asg (pe_var (X := X.suite a ((a, oe) :: pn)) hi hv hd hcd) (pg_name (X := X.suite a ((a, oe) :: pn)) hN hj hl hf) hs hw h1) pss_nil
end
end DL
set_option Elab.async false
set_option linter.all false
set_option maxRecDepth 100000
set_option maxHeartbeats 2000000
namespace DL
open PySem PySem.Spec PyProof.Rows L2
structure ExcK (K : PySem.W.Frag) (C : Addr) : Prop where
  cl : (PySem.W.clsIn K C).isSome = true
  ga : PySem.W.findIn K (.ref C) "__getattribute__" = some (some (.builtin "BaseException.__getattribute__"))
  gt : PySem.W.findIn K (.ref C) "__getattr__" = some none
  sub : PySem.W.subIn K (.ref C) (.type "BaseException") = some true
  at_ : PySem.W.findIn K (.ref C) "__class__" = some (some (.builtin "object.__class__"))
  sp : PySem.W.specialIn K (.builtin "object.__class__") "__get__" = some (some (.builtin "getset_descriptor.__get__"))
  tk : PySem.W.takesIn K (.builtin "object.__class__") = some true
  mro : PySem.W.mroIn K C (.type "object") = some true
def rIsiX (K : PySem.W.Frag) : List V → Hp → VK → Prop := fun xs H Q => ∃ (a C : Addr) (dx : Option Addr) (fs : List (Str × V)) (c : V) (u : Value) (b : Bool), xs = [.ref a, c] ∧ ClsV c u ∧ H a = some (exk a C dx) ∧ XdAt H dx fs ∧ ExcK K C ∧ PySem.W.kitOne K (.ref C) u = some b ∧ Q (.bl b) H
theorem call_isiX {X : Cx} : CallR X (.builtin "isinstance") (rIsiX X.K) := by
  intro pins s σ H xs us Q I r h
  obtain ⟨a, C, dx, fs, c, u, b, rfl, k, ea, xd, ek, e, q⟩ := h
  obtain ⟨u1, u2, rfl, r1, r2⟩ := vals2 r
  have e2 := k.eq r2
  subst e2
  cases (show u1 = Value.ref a from r1)
  obtain ⟨⟨o, vs, e1, e3, e4, e5⟩, _, _⟩ := I.hok a _ ea
  have no : PySem.W.notCls o = true := by unfold PySem.W.notCls; rw [e5]
  have at_ : ∃ od, PySem.W.InstAt s.heap a o C od := by
    rcases xd with ⟨rfl, _⟩ | ⟨dd, rfl, hd⟩
    · exact ⟨none, e1, e3, no, by rw [e4]; trivial⟩
    · obtain ⟨mA, ⟨od, es, ep, ho, _⟩, _⟩ := I.hok dd _ hd
      exact ⟨some od, e1, e3, no, by rw [e4]; exact ho⟩
  obtain ⟨od, at_⟩ := at_
  exact PySem.W.kia_one (PySem.W.kitx_exc (od := od) ek.cl ek.ga ek.gt ek.sub ek.at_ ek.sp ek.tk ek.mro) I.kIn at_ e (fun z => nomatch z) fun tk => ⟨.bl b, H, I.tok tk, rfl, q⟩
def isX (ct : Addr → Option Bool) : D → Option T
  | .exc C _ => (ct C).map fun b => .fz (.bl b)
  | .non => some (.fz (.bl false))
  | _ => none
def dIsX (ct : Addr → Option Bool) (fa : M VR) : M T := fa >>= fun x => readV x >>= fun d => opt (isX ct d)
section
variable {X : Cx} {Wx : WX} {e : Expr} {fa : M VR} {p p1 pos : Pos} {x1 : Str} {C1 : Addr} {ct : Addr → Option Bool}
theorem de_isX (ha : DV X Wx e fa) (hg : Gl X "isinstance") (hm : X.mg "isinstance" = none) (hg1 : Gl X x1) (hm1 : X.mg x1 = some (.ref C1)) (hk : ∀ C b, ct C = some b → ExcK X.K C ∧ PySem.W.kitOne X.K (.ref C) (.ref C1) = some b) (hn : PySem.W.kitOne X.K (.type "NoneType") (.ref C1) = some false) (hd1 : (x1 == ("__debug__" : Str)) = false := by decide)
    (hs1 : starEach [e, .Name x1 p1] X.env = (false, eval e X.env) :: starEach [.Name x1 p1] X.env := by rfl) (hs2 : starEach [.Name x1 p1] X.env = (false, eval (.Name x1 p1) X.env) :: starEach [] X.env := by rfl)
    (hpl : (backTo pos (starEach [.Name x1 p1] X.env)).any (·.1) = false := by rfl) :
    DE X Wx (.Call (.Name "isinstance" p) [e, .Name x1 p1] [] pos) (dIsX ct fa) := by
  have both : CallR X (.builtin "isinstance") (fun xs H Q => rIsi X.K xs H Q ∨ rIsiX X.K xs H Q) := fun pins s σ H xs us Q I r h => h.elim (call_isi pins s σ H xs us Q I r) (call_isiX pins s σ H xs us Q I r)
  refine ⟨fun pins s σ H Q I q => (pe_callB both hg hm (by decide +kernel) (pa_cons ha (pa_cons (pe_glob (v := .ref C1) hg1 hm1 rfl hd1) pa_nil hs2) hs1) (by decide) (by decide) hs1 hpl).run pins s σ H Q I ?_⟩
  obtain ⟨g, s, c⟩ := q.start
  show tV X.K Wx fa σ H _
  refine c.bind.mono fun x H1 ⟨x', g1, s1, c1, r1, e1⟩ => ?_
  obtain ⟨d, c3, v1⟩ := c1.read r1
  cases q : isX ct d with
  | none => exact (c3.notBad (by rw [q]; rfl)).elim
  | some t =>
    have f := c3.fin (t := t) (by rw [q]; rfl)
    unfold isX at q
    split at q
    · rename_i C fs
      cases qc : ct C with
      | none => rw [qc] at q; cases q
      | some b =>
        rw [qc] at q; cases q
        obtain ⟨k1, k2⟩ := hk C b qc
        cases v1.sc (fun _ z => z) with
        | exc ga xd ek rr =>
          have ea := c1.sd.here ga rfl
          have xh : XdAt H1 _ _ := xd.elim .inl fun ⟨dd, e, h⟩ => .inr ⟨dd, e, c1.sd.here h rfl⟩
          exact .inr ⟨_, C, _, _, .ref C1, .ref C1, b, rfl, .own C1, ea, xh, k1, k2, f.fz c1.sd (.bl b)⟩
    · cases q
      cases v1.non
      exact .inl ⟨.non, .ref C1, .type "NoneType", .ref C1, false, rfl, .own C1, .base .non, hn, f.fz c1.sd (.bl false)⟩
    · cases q
end
end DL
set_option Elab.async false
set_option linter.all false
set_option maxRecDepth 100000
set_option maxHeartbeats 2000000
namespace DL
open PySem PySem.Spec PyProof.Rows L2
def tExf (K : PySem.W.Frag) (n : Str) (te : TE) : TE := fun σ H Q => te σ H fun x H1 => ∃ (a C dd : Addr) (fs : List (Str × V)) (v : V), x = .ref a ∧ XfC K C ∧ PySem.W.findIn K (.ref C) n = some none ∧ H1 a = some (exk a C (some dd)) ∧ H1 dd = some (.xd fs) ∧ fs.lookup n = some v ∧ Q v H1
theorem pe_exf {X : Cx} {e : Expr} {te : TE} {pos : Pos} {n : Str} (he : PE X e te) (hb : attributeBase e n X.env (eval e X.env) = eval e X.env := by rfl) : PE X (.Attribute e n pos) (tExf X.K n te) := by
  refine ⟨fun pins s σ H Q I h => ?_⟩
  refine attr_of hb (thn (he.run pins s σ H _ I h) fun u s1 hh => ?_)
  obtain ⟨x, H1, I1, rx, a, C, dd, fs, v, rfl, T, hno, ea, ed, l, q⟩ := hh
  obtain rfl : u = Value.ref a := rx
  obtain ⟨⟨o, vs, e1, e3, e4, e5⟩, _, _⟩ := I1.hok a _ ea
  obtain ⟨mA, hns, hr⟩ := (show ObjOk X.prog X.w H1 s1.heap dd (.xd fs) from I1.hok dd _ ed)
  obtain ⟨od, ho, hl⟩ := lookIn_ns hns
  obtain ⟨u, hu, ru⟩ := RelO.some_of (v := v) (o := mA n) (by rw [← l]; exact hr n)
  have J : PySem.W.InstAt s1.heap a o C (some od) := ⟨e1, e3, by unfold PySem.W.notCls; rw [e5], by rw [e4]; exact ho⟩
  exact HandSPX.exc_get I1.kIn J T.ga T.gg T.exC (PySem.W.findObj_own T.hdC hno rfl (by rw [hl, hu])) (handed_of ru) ⟨v, H1, I1.tok _, ru, q⟩
theorem lookup_rep {K : PySem.W.Frag} {g : Gh} {n : Str} : ∀ {fs : List (Str × V)} {ds : List (Str × D)} {d : D}, fs.map Prod.fst = ds.map Prod.fst → Reps K g (fs.map Prod.snd) (ds.map Prod.snd) → ds.lookup n = some d → ∃ v, fs.lookup n = some v ∧ Rep K g v d
  | [], [], _, _, _, h => by cases h
  | [], _ :: _, _, e, _, _ => by cases e
  | _ :: _, [], _, e, _, _ => by cases e
  | (k, v) :: fs, (k', d') :: ds, d, e, r, h => by
    rw [List.map_cons, List.map_cons] at e
    injection e with e1 e2
    have e1 : k = k' := e1
    subst e1
    rw [List.map_cons, List.map_cons] at r
    cases r with
    | cons ra rr =>
      rw [List.lookup_cons] at h ⊢
      cases q : n == k with
      | true => rw [q] at h; cases h; exact ⟨v, rfl, ra⟩
      | false => rw [q] at h; exact lookup_rep e2 rr h
def exF (cs : Addr → Bool) (n : Str) : D → Option T
  | .exc C fs => if cs C = true then (fs.lookup n).map .fz else none
  | _ => none
def dExF (cs : Addr → Bool) (n : Str) (fa : M VR) : M T := fa >>= fun x => readV x >>= fun d => opt (exF cs n d)
section
variable {X : Cx} {Wx : WX} {e : Expr} {fa : M VR} {pos : Pos} {n : Str} {cs : Addr → Bool}
theorem de_exF (ha : DV X Wx e fa) (hk : ∀ C, cs C = true → XfC X.K C ∧ PySem.W.findIn X.K (.ref C) n = some none) (hb : attributeBase e n X.env (eval e X.env) = eval e X.env := by rfl) : DE X Wx (.Attribute e n pos) (dExF cs n fa) := by
  refine ⟨fun pins s σ H Q I q => (pe_exf ha hb).run pins s σ H Q I ?_⟩
  obtain ⟨g, s, c⟩ := q.start
  show tV X.K Wx fa σ H _
  refine c.bind.mono fun x H1 ⟨x', g1, s1, c1, r1, e1⟩ => ?_
  obtain ⟨d, c3, v1⟩ := c1.read r1
  cases q : exF cs n d with
  | none => exact (c3.notBad (by rw [q]; rfl)).elim
  | some t =>
    have f := c3.fin (t := t) (by rw [q]; rfl)
    unfold exF at q
    split at q
    · rename_i C fs
      by_cases hc : cs C = true
      · rw [if_pos hc] at q
        cases ql : fs.lookup n with
        | none => rw [ql] at q; cases q
        | some y =>
          rw [ql] at q; cases q
          obtain ⟨k1, k2⟩ := hk C hc
          cases v1.sc (fun _ z => z) with
          | exc ga xd ek rr =>
            obtain ⟨v, lv, rv⟩ := lookup_rep ek rr ql
            rcases xd with ⟨_, h⟩ | ⟨dd, e, h⟩
            · subst h; cases lv
            · subst e
              exact ⟨_, C, dd, _, v, rfl, k1, k2, c1.sd.here ga rfl, c1.sd.here h rfl, lv, f.fz c1.sd rv⟩
      · rw [if_neg hc] at q; cases q
    · cases q
end
end DL
set_option Elab.async false
set_option linter.all false
set_option maxRecDepth 100000
set_option maxHeartbeats 2000000
namespace DL
open PySem PySem.Spec PyProof.Rows L2
section
variable {X : Cx} {pins : List (Addr × Obj)} {σ : L2.St} {H : Hp} {s : Shared}
theorem lam_makeC {c P : Addr} {params : Arguments} {body : Expr} {scope : Scope} {pos : Pos} {ps : Array Value} {E : Value → Shared → Prop} {Q : Value → Shared → Prop} (I : Inv X pins σ H s) (TB : LamX.TabB X.base X.mg c P) (hcode : X.env.code = .ref c)
    (hP : H P = some (.tbl ps)) (ht : TriplesOk ps.toList) (ha : ∀ (pos : Pos) (cv : Value), codeAmong pos ps.toList = some cv → ∃ c', cv = .ref c' ∧ H c' = some (LamX.CodeO c' (X.env.qual ++ "<lambda>")))
    (hdef : defaultsOf params X.env = ([], [])) (hfree : ∀ y ∈ scope.names, y.2 = .free → ∃ c, X.env.cells.lookup y.1 = some c)
    (h : ∀ (f c' : Addr) (pm ctv : Value) (H1 : Hp) (s' : Shared), Inv X pins σ H1 s' → LamMade H P (X.env.qual ++ "<lambda>") ps c' H1 →
      s'.heap.get? f = some (PySem.W.kla_obj "<lambda>" (X.env.qual ++ "<lambda>") params body scope (cloFrom X.env.cells scope.names []) pm c' ctv) → H1 f = none → f ∉ frs X.stack → Q (.ref f) s') :
    wpAny (model X.prog X.w) X.A (eval (.Lambda params body scope pos) X.env) Q E s := by
  refine PySem.W.kla_eval hdef ?_
  have bP : s.heap.BuiltinsAt X.mg P := TB.bm.keeps I.bk
  have hP' : s.heap.get? P = some { cls := .none, data := .fields ps } := I.hok P _ hP
  have nofr : ∀ f, s.heap.objs.size ≤ f → f ∉ frs X.stack := fun f hf z => by
    rcases List.mem_cons.mp (I.stkSub _ z) with e | e
    · have h1 := I.lt
      rw [← e] at h1
      exact Nat.lt_irrefl _ (Nat.lt_of_lt_of_le h1 hf)
    · exact I.nofs hf e
  cases hc : codeAmong pos ps.toList with
  | none =>
    refine PySem.W.kla_makeFunction (mg := X.mg) (c := c) (P := P) (ps := ps) (closure_ok hfree) I.ok.glob (I.mod.glob.keeps I.bk) hcode (TB.code.keeps I.bk) hP' ht hc TB.gP bP fun c' ctv h' tk hx hge hlt hrec htb => ?_
    obtain ⟨c2, oc, vs, t, e2, hoc, hd, hv⟩ := hrec
    cases e2
    have hsz : s.heap.objs.size ≤ h'.objs.size := Nat.le_trans hge (Nat.le_of_lt hlt)
    have nC : H c' = none := I.hok.fresh hge
    have I1 := LamX.inv_table (t' := tk) (more := #[rawInt pos.line, rawInt pos.col, .ref c']) (h' := h'.push (PySem.W.kla_obj "<lambda>" (X.env.qual ++ "<lambda>") params body scope (cloFrom X.env.cells scope.names []) ((X.mg "__name__").getD .none) c' ctv)) I hP
      (fun b o hb e => Heap.get?_push_of_some _ (hx b o hb e)) (Heap.get?_push_of_some _ htb) hge ⟨oc, vs, t, Heap.get?_push_of_some _ hoc, hd, hv⟩
    have nPc : c' ≠ P := fun z => by rw [z, hP] at nC; cases nC
    refine h h'.objs.size c' ((X.mg "__name__").getD .none) ctv _ _ I1 (.inr ⟨pos, nC, nPc, rfl⟩) (Heap.get?_push_size _ rfl) ?_ (nofr _ hsz)
    have n1 : h'.objs.size ≠ c' := Nat.ne_of_gt hlt
    have n2 : h'.objs.size ≠ P := Nat.ne_of_gt (Nat.lt_of_lt_of_le (Heap.lt_size hP') hsz)
    rw [upd_ne n1, upd_ne n2]
    exact I.hok.fresh hsz
  | some cv =>
    obtain ⟨c', e, hco⟩ := ha pos cv hc
    subst e
    refine PySem.W.kla_makeFunctionHit (mg := X.mg) (c := c) (P := P) (ps := ps) (closure_ok hfree) I.ok.glob (I.mod.glob.keeps I.bk) hcode (TB.code.keeps I.bk) hP' ht hc bP fun ctv h' tk hx hsz => ?_
    have I1 : Inv X pins σ H { s with heap := h'.push (PySem.W.kla_obj "<lambda>" (X.env.qual ++ "<lambda>") params body scope (cloFrom X.env.cells scope.names []) ((X.mg "__name__").getD .none) c' ctv), toks := tk } := I.kept fun b o e => Heap.get?_push_of_some _ (hx b o e)
    exact h h'.objs.size c' ((X.mg "__name__").getD .none) ctv H _ I1 (.inl ⟨hco, rfl⟩) (Heap.get?_push_size _ rfl) (I.hok.fresh hsz) (nofr _ hsz)
end
section
variable {K : PySem.W.Frag} {g g' : Gh} {H H' : Hp} {σ σ' τ : Slots} {s sc : State}
def oneSt (n j : Nat) (d : D) (s : State) : State := { env := (List.replicate n none).set j (some (.fz d)), sto := s.sto, dr := s.dr }
theorem oneSt_get {n j i : Nat} {d : D} {w : W} (h : (oneSt n j d s).env[i]? = some (some w)) : i = j ∧ w = .fz d := by
  have h : ((List.replicate n (none : Option W)).set j (some (.fz d)))[i]? = some (some w) := h
  rw [List.getElem?_set] at h
  split at h
  · rename_i e
    split at h
    · cases h; exact ⟨e.symm, rfl⟩
    · cases h
  · rw [List.getElem?_replicate] at h
    split at h <;> cases h
theorem SD.one (sd : SD K g H σ s) {n j : Nat} {d : D} {v : V} (hl : τ.length = n) (hv : τ[j]? = some (some v)) (r : Rep K g v d) : SD K g H τ (oneSt n j d s) where
  gh := sd.gh
  len := by
    show ((List.replicate n (none : Option W)).set j (some (.fz d))).length = _
    rw [List.length_set, List.length_replicate, hl]
  slot := fun i w e => by
    obtain ⟨rfl, rfl⟩ := oneSt_get e
    exact ⟨v, hv, r⟩
  inj := fun i k w u a e1 e2 h1 => by
    obtain ⟨_, rfl⟩ := oneSt_get e1
    cases h1
  stl := sd.stl
  sto := sd.sto
  nd := sd.nd
  ng := sd.ng
  dr := sd.dr
theorem SD.back0 {n j : Nat} {d : D} (sd : SD K g H σ s) (sdc : SD K g' H' σ' sc) (ev : Ev g H τ (oneSt n j d s) g' H' σ' sc) :
    SD K g' H' σ { env := s.env, sto := sc.sto, dr := sc.dr } ∧ Ev g H σ s g' H' σ { env := s.env, sto := sc.sto, dr := sc.dr } ∧ (∀ a, ¬ OwnA τ (oneSt n j d s) a) ∧ ∀ a, Hd σ { env := s.env, sto := sc.sto, dr := sc.dr } a → Hd σ s a := by
  have muIn : ∀ a, Mu g τ (oneSt n j d s) a → a ∈ g.η ∨ IsDr g a := fun a m => by
    rcases m with ⟨i, w, e, m, _⟩ | m
    · obtain ⟨_, rfl⟩ := oneSt_get e; cases m
    · exact m
  have muUp : ∀ a, Mu g τ (oneSt n j d s) a → Mu g σ s a := fun a m => .inr (muIn a m)
  have hdUp : ∀ a, Hd σ { env := s.env, sto := sc.sto, dr := sc.dr } a → Hd σ s a := fun a h => h
  have noOwn : ∀ a, ¬ OwnA τ (oneSt n j d s) a := fun a ⟨i, x, h, _⟩ => by
    rcases h with h | h
    · have := (oneSt_get h).2; cases this
    · have := (oneSt_get h).2; cases this
  refine ⟨⟨sdc.gh, sd.len, fun i w hi => ?_, fun i j w u a h1 h2 h3 h4 h5 h6 => sd.inj i j w u a h1 h2 h3 h4 h5 h6, sdc.stl, sdc.sto, sdc.nd, sdc.ng, sdc.dr⟩,
    ⟨ev.le, fun a ob h nm => ev.keep a ob h fun m => nm (muUp a m), ev.live, fun a l z => (ev.frz a l z).imp id (Or.imp (muUp a) id), ev.eta, fun a m => ?_, fun a m => .inl (hdUp a m), fun a m => .inl m, fun i x h => ⟨rfl, x, .inl h⟩, fun i x h => ⟨rfl, h⟩, fun i x h => ⟨rfl, h⟩⟩, noOwn, hdUp⟩
  · have hi : s.env[i]? = some (some w) := hi
    obtain ⟨v, ev', wa⟩ := sd.slot i w hi
    have nm : ∀ b, v = .ref b → w.held = true → Free1 g b → ¬ Mu g τ (oneSt n j d s) b := fun b eb hw f m => by
      rcases muIn b m with m | m
      · exact f.2.1 m
      · exact f.2.2 m
    have nt : ∀ b, v = .ref b → w.held = true → ¬ IsTup H b := fun b eb hw => wa.noTup hw eb
    have fr : ∀ b, v = .ref b → w.held = true → H b ≠ none → Free1 g b → Free1 g' b := fun b eb hw lv f => by
      refine ⟨?_, fun z => f.2.1 (ev.eta b lv z), fun z => f.2.2 (z.eq ev.le.dr)⟩
      cases q : g'.G b with
      | none => rfl
      | some ob => exact ((ev.frz b lv (by rw [q]; simp)).elim (fun z => z f.1) fun z => z.elim (nm b eb hw f) (nt b eb hw)).elim
    refine ⟨v, ev', ?_⟩
    have free : w.held = true → ∀ b, v = .ref b → Free1 g b := fun hw b eb => by
      cases w with
      | fz d => cases hw
      | own d => obtain ⟨c, _, ec, f, _⟩ := wa; rw [ec] at eb; cases eb; exact f
      | lent d => obtain ⟨c, _, ec, f, _⟩ := wa; rw [ec] at eb; cases eb; exact f
      | lk d => obtain ⟨c, _, ec, f, _⟩ := wa; rw [ec] at eb; cases eb; exact f
      | lkl d => obtain ⟨c, _, ec, f, _⟩ := wa; rw [ec] at eb; cases eb; exact f
    refine wa.keep ev.le (fun b u eb hw h => ev.keep b u h (nm b eb hw (free hw b eb))) fun b eb hw f => fr b eb hw (sd.hdLive ⟨i, w, hi, hw, by rw [ev', eb]⟩) f
  · rcases m with ⟨i, w, h1, h2, h3⟩ | m
    · exact .inl (.inl ⟨i, w, h1, h2, h3⟩)
    · rcases ev.mu a (.inr m) with z | z
      · exact .inl (muUp a z)
      · exact .inr z
end
def endR (s : State) : Rs Flow → Rs T
  | .ok (.rt t) sc => .ok t { env := s.env, sto := sc.sto, dr := sc.dr }
  | .ok .nx sc => .ok (.fz .non) { env := s.env, sto := sc.sto, dr := sc.dr }
  | .ok _ _ => .bad
  | .err x sc => .err x { env := s.env, sto := sc.sto, dr := sc.dr }
  | .bad => .bad
def dLamG (nt : Nat) (P : Addr) (q : Str) (n j : Nat) (mt : Addr → Option Bool) (fr : M Flow) (fb : M T) : M T := fun s =>
  if isTab s nt P q = true then (match fb s with
    | .ok _ s1 => endR s1 (fr (oneSt n j .non s1))
    | .err x s1 => (match mt x.cls with
      | some true => endR s1 (fr (oneSt n j (.exc x.cls x.fs) s1))
      | _ => .bad)
    | .bad => .bad) else .bad
def RestOk (prog : Program) (wd : World) (K : PySem.W.Frag) (mg : Str → Option Value) (base : Heap) (N : List Str) (qual : Str) (sc : Scope) (f : Addr) (cdv : Value) (k : Nat) (rest : List Stmt) (fr : M Flow) : Prop :=
  ∀ (A : Around) (outer : List Env) (s : Shared) (H : Hp) (E : XK) (X : Cx), X = cxOf (L2.CX prog wd) prog wd K mg base N qual sc f cdv A outer s H E → Bd X (fun cls d _ H' => E cls d H') k → DSs X (fun cls d _ H' => E cls d H') rest fr
section
variable {K : PySem.W.Frag} {Wx : WX} {g0 g : Gh} {H0 H : Hp} {σ τ : Slots} {s0 s1 : State} {Q : V → Hp → Prop} {fr : M Flow} {n j : Nat} {d : D} {v : V} {Hq : Hp}
theorem rest_run (c : Cur K Wx σ (fun g H s v t => RT K Hq g H σ s v t) Q g0 H0 s0 (endR s1 (fr (oneSt n j d s1))) g H s1) (lv : ∀ a, Hq a ≠ none → H a ≠ none) (hl : τ.length = n) (hv : τ[j]? = some (some v)) (r : Rep K g v d) :
    tS K (fun cls dd _ H' => Wx cls dd σ H') fr { nx := fun _ H' => Q .non H', rt := Q, bk := fun _ _ => False, ct := fun _ _ => False } τ H := by
  refine ⟨g, _, c.sd.one hl hv r, ?_⟩
  have p := c.post
  cases q : fr (oneSt n j d s1) with
  | bad => rw [q] at p; exact p
  | err x sc =>
    rw [q] at p
    intro cls dd σ' g' H' sdc ev er
    obtain ⟨k1, k2, _⟩ := c.sd.back0 sdc ev
    exact p cls dd g' H' k1 (c.ev.trans k2) er
  | ok fl sc =>
    rw [q] at p
    cases fl with
    | bk => exact p.elim
    | ct => exact p.elim
    | nx =>
      intro σ' g' H' sdc ev
      obtain ⟨k1, k2, _⟩ := c.sd.back0 sdc ev
      exact p .non g' H' k1 (c.ev.trans k2) ⟨.non, fun _ _ z => nomatch z⟩
    | rt t =>
      intro v σ' g' H' sdc ev rr
      obtain ⟨k1, k2, k3, k4⟩ := c.sd.back0 sdc ev
      refine p v g' H' k1 (c.ev.trans k2) (RT.past lv ⟨rr.at_, fun d a h1 h2 => ?_⟩)
      have hn : H a = none := ((rr.new d a h1 h2).1).elim id fun z => (k3 a z).elim
      exact ⟨hn, fun z => c.sd.hdLive (k4 a z) hn⟩
end
end DL
set_option Elab.async false
set_option linter.all false
set_option maxRecDepth 100000
set_option maxHeartbeats 2000000
namespace DL
open PySem PySem.Spec PyProof.Rows L2
open LamX (LamS lamEnv lamCx CodeO TabB)
section
variable {X : Cx} {pins : List (Addr × Obj)} {σ : L2.St} {H : Hp} {s : Shared}
theorem pe_actD {E0 : XK} {Ng : List Str} {qg : Str} {sg : Scope} {fg f c' : Addr} {cdg pm ctv : Value} {params : Arguments} {body : Expr} {scope : Scope} {k : Nat} {a : Str} {pn : List (Addr × Obj)} {xe : Value → Shared → Prop} {W : WX} {tb : XK → TE} {p1 p2 : Pos}
    (I : Inv X pins σ H s) (L : LamS X.env.scope scope) (hf : s.heap.get? f = some (PySem.W.kla_obj "<lambda>" (X.env.qual ++ "<lambda>") params body scope (cloFrom X.env.cells scope.names []) pm c' ctv)) (fresh : H f = none ∧ f ∉ frs X.stack)
    (hbind : bindArgs (PySem.W.kla_fn "<lambda>" (X.env.qual ++ "<lambda>") params body scope (cloFrom X.env.cells scope.names []) pm (.ref c') ctv) ⟨[], []⟩ = pure [])
    (tk : Takes ((cxOf (L2.CX X.prog X.w) X.prog X.w X.K X.mg X.base Ng qg sg fg cdg X.A X.stack s H E0).tr pn xe) W) (room : Room (k + 1) (X.A.deeper (envOfC qg sg s.heap.objs.size fg cdg)))
    (reads : ∀ (A : Around) (outer : List Env) (sz : Shared) (Hz : Hp) (E : XK), Room k (A.deeper (lamEnv X scope sz.heap.objs.size f c')) → PE (lamCx X A outer sz Hz E scope f c') body (tb E))
    (h0 : Ng[0]? = some a) (hv : Vis sg a) (hd : (a == ("__debug__" : Str)) = false) (hcd : (a == ("__classdict__" : Str)) = false) :
    PE ((cxOf (L2.CX X.prog X.w) X.prog X.w X.K X.mg X.base Ng qg sg fg cdg X.A X.stack s H E0).tr pn xe) (.Call (.Name a p1) [] [] p2)
      (fun τ Hz Q => τ[0]? = some (some (.ref f)) ∧ Hz c' = some (CodeO c' (X.env.qual ++ "<lambda>")) ∧ tb (fun cls d H' => W cls d τ H') σ Hz Q) where
  run := by
    rintro pinsZ sz τ Hz Q IZ ⟨slot0, code, want⟩
    refine wpAny_Call_Name_kw (thn ((pe_var (pos := p1) (i := 0) h0 hv hd hcd).run pinsZ sz τ Hz (fun v H1 => v = .ref f ∧ H1 = Hz) IZ ⟨_, slot0, rfl, rfl⟩) ?_)
    rintro u s1 ⟨_, _, I1, r1, rfl, rfl⟩
    rename_i H1
    obtain rfl : u = Value.ref f := r1
    have here := I1.base.keep f _ hf fresh.1 fresh.2 (List.not_mem_nil (a := f))
    have since : Un (frs X.stack) [] H H1 s.heap s1.heap := I1.base
    have coded : ∃ (oc : Obj) (vs : Array Value) (t : Tok), s1.heap.get? c' = some oc ∧ oc.data = .fields vs ∧ vs[1]? = some (.str (X.env.qual ++ "<lambda>") t) := (I1.hok c' _ code).1
    have ran : codeAny (model X.prog X.w) (X.A.deeper (envOfC qg sg s.heap.objs.size fg cdg)) (.call (.ref f) ⟨[], []⟩) (CR (L2.CX X.prog X.w) (envOfC qg sg s.heap.objs.size fg cdg :: X.stack) X.prog X.w H1 s1 Q (fun cls d H' => W cls d τ H')) s1 := by
      obtain ⟨oc, vs, t, b1, b2, b3⟩ := coded
      refine PySem.W.kla_callFunE room.depth here rfl L.co L.gen rfl ⟨c', oc, vs, t, rfl, b1, b2, b3⟩ ?_
      rw [hbind]
      refine wpAny_pure (wpAny_newFunctionEnv (fun y hy => (L.own y hy).2) (fun y hy => (List.not_mem_nil hy).elim) (fun h1 ns fr => ⟨I1.nolimit.fresh _ fr, ?_⟩) L.kind)
      have J := LamX.lam_start2 (A := X.A.deeper (envOfC qg sg s.heap.objs.size fg cdg)) (outer := envOfC qg sg s.heap.objs.size fg cdg :: X.stack) (E := fun cls d H' => W cls d τ H') (f := f) (c' := c') (h₁ := h1) (tk := s1.toks + ([] : List (Str × Value)).length) I L I1.env0 room.old.hd since ns
        fun b o z => fr.extBut b o (Nat.ne_of_lt (Heap.lt_size z)) (Heap.get?_push_of_some _ z)
      show codeAny _ _ (.expr body (lamEnv X scope s1.heap.objs.size f c')) _ _
      refine PySem.W.kla_codeExpr (wpAny_mono ((reads _ _ s1 H1 _ (room.deeper _)).run [] _ _ H1 Q J want) ?_ fun e s' z => z)
      rintro v s' ⟨w', H', J', rv, q⟩
      exact ⟨w', H', J'.os, J'.bare, J'.base, J'.hok, rv, q⟩
    refine PySem.W.callWith_F0 ⟨_, _, _, _, here⟩ (wpAny_call (codeAny_mono ran ?_))
    · intro res s2 out
      match res, out with
      | .error er, out => exact tk er s2 (XE.of_call I1 (fun cls d H' h => h) out)
      | .ok (.ret u2), out => exact I1.after out
      | .ok .next, out => exact out.elim
      | .ok .brk, out => exact out.elim
      | .ok .cont, out => exact out.elim
end
section
variable {X : Cx} {Wx : WX}
theorem de_lamG {nt k n i j ja : Nat} {c P fg : Addr} {cX cdv : Value} {x a m nE xe q : Str} {stg : Stmt} {fd : FuncData} {Ng : List Str} {rest : List Stmt} {fr : M Flow} {fb : M T} {mt : Addr → Option Bool} {pa1 pa2 pa3 p1 p2 p3 p4 p5 p6 p7 p8 np p lpos pos : Pos}
    {params : Arguments} {body : Expr} {scope : Scope} (hm : X.mg x = some (.ref fg)) (Fg : DFn X.K x x stg fg fd cdv) (Sg : FnScope Ng [a] (defScope stg)) (hb : Binds X.K fd [a] [])
    (hbd : defBody stg = .Assign [.Name m pa1] (.Constant .none ja pa2) pa3 :: .Try [.Expr (.Call (.Name a p1) [] [] p2) p3] [.ExceptHandler (some (.Name xe np)) (some nE) [.Assign [.Name m p4] (.Name nE p5) p6] p7] [] [] p8 :: rest)
    (hn : Ng.length = n) (h0 : Ng[0]? = some a) (hi : Ng[i]? = some nE) (hj : Ng[j]? = some m) (i0 : i ≠ 0) (j0 : j ≠ 0) (ij : i ≠ j) (hva : Vis (defScope stg) a) (hvn : Vis (defScope stg) nE) (hlm : Loc (defScope stg) m) (hln : (defScope stg).names.lookup nE = some .local)
    (hge : (defScope stg).names.lookup xe = some .globalImplicit) (hme : X.mg xe = some cX) (hde : (xe == ("__debug__" : Str)) = false) (hmt : ∀ C b, mt C = some b → PySem.W.exmOne X.K (.ref C) cX = some b)
    (hR : RestOk X.prog X.w X.K X.mg X.base Ng x (defScope stg) fg cdv k rest fr)
    (TB : TabB X.base X.mg c P) (hcode : X.env.code = .ref c) (hq : q = X.env.qual ++ "<lambda>") (room : Room (k + 2) X.A) (tk : Takes X Wx) (nd : X.N.Nodup) (L : LamS X.env.scope scope) (hdef : defaultsOf params X.env = ([], []))
    (hbind : ∀ (q : Str) (cl : List (Str × Addr)) (pm cv ctv : Value), bindArgs (PySem.W.kla_fn "<lambda>" q params body scope cl pm cv ctv) ⟨[], []⟩ = pure [])
    (hbody : ∀ (A : Around) (outer : List Env) (s : Shared) (H : Hp) (E : XK) (f c' : Addr) (Y : Cx), Y = lamCx X A outer s H E scope f c' → Bd Y (fun cls d _ H' => E cls d H') k → DE Y (fun cls d _ H' => E cls d H') body fb)
    (hg : Gl X x := by rfl) (hdb : (x == ("__debug__" : Str)) = false := by decide) (hda : (a == ("__debug__" : Str)) = false := by decide) (hcda : (a == ("__classdict__" : Str)) = false := by decide)
    (hdn : (nE == ("__debug__" : Str)) = false := by decide) (hcdn : (nE == ("__classdict__" : Str)) = false := by decide) :
    DE X Wx (.Call (.Name x p) [.Lambda params body scope lpos] [] pos) (dLamG nt P q n j mt fr fb) := by
  subst hq
  refine ⟨fun pins s σ H Q I h => ?_⟩
  obtain ⟨g, st, cu⟩ := h.start
  have ht : isTab st nt P (X.env.qual ++ "<lambda>") = true := by
    by_cases z : isTab st nt P (X.env.qual ++ "<lambda>") = true
    · exact z
    · exact (cu.notBad (if_neg z)).elim
  have tabE := isTab_eq ht
  obtain ⟨eta, ps, hP, tri, told⟩ := cu.sd.tab tabE
  refine wpAny_Call_Name_kw (ld_glob I hg hm ?_ hdb)
  refine PySem.W.callWith_K (h₀ := X.base) I.ok.mod.kin Fg.kp ?_ (by rfl) (by rfl)
  show wpAny _ _ (spliced ((false, eval (.Lambda params body scope lpos) X.env) :: backTo pos (starEach [] X.env))) _ _ s
  refine Calls.spliced_cons (lam_makeC I TB hcode hP tri (fun pos cv hcv => ?_) hdef (L.has I.ok) fun f c' pm ctv H1 s1 I1 made hf hfn hfr => ?_)
  · obtain ⟨c0, e1, e2⟩ := told pos cv hcv
    exact ⟨c0, e1, cu.sd.here e2 rfl⟩
  refine Calls.spliced_nil ⟨I1.kIn, ?_⟩
  obtain ⟨g1, sd1, ev1, hco⟩ := cu.sd.lamMade tabE hP made
  obtain ⟨oc, od, dV, kV, doc, pm', an, ct, osl, rfl, lk, hcg⟩ := Fg.ex
  -- the caller's wishes, at the lambda's call
  have c1 : Cur X.K Wx σ (fun g H' s v t => RT X.K H g H' σ s v t) Q g H st (dLamG nt P (X.env.qual ++ "<lambda>") n j mt fr fb st) g1 H1 st := ⟨cu.ev.trans ev1, sd1, cu.post⟩
  have e0 : dLamG nt P (X.env.qual ++ "<lambda>") n j mt fr fb st = (match fb st with
      | .ok _ s1 => endR s1 (fr (oneSt n j .non s1))
      | .err x s1 => (match mt x.cls with
        | some true => endR s1 (fr (oneSt n j (.exc x.cls x.fs) s1))
        | _ => .bad)
      | .bad => .bad) := if_pos ht
  rw [e0] at c1
  let E : XK := fun cls d H' => Wx cls d σ H'
  have rc : codeAny (model X.prog X.w) X.A (.call (.ref fg) ⟨[.ref f], []⟩) (CR (L2.CX X.prog X.w) X.stack X.prog X.w H1 s1 Q E) s1 := by
    refine LamX.run_ofS (N := Ng) (ps := [a]) (us := [.ref f]) (vs := [.ref f]) (k := k + 1) lk hcg Sg room.old I1.env0 (hb s1 [.ref f] I1.kIn rfl) (.cons rfl .nil) rfl fun hr' => ?_
    have room' : Room (k + 1) (X.A.deeper (envOfC x (defScope stg) s1.heap.objs.size fg cdv)) := room.deeper _
    let Xg : Cx := cxOf (L2.CX X.prog X.w) X.prog X.w X.K X.mg X.base Ng x (defScope stg) fg cdv X.A X.stack s1 H1 E
    have tkg : Takes Xg (fun cls d _ H' => E cls d H') := takes_of rfl rfl rfl rfl
    have bdg : Bd Xg (fun cls d _ H' => E cls d H') (k + 1) := ⟨rfl, room', tkg, passes_of rfl, Sg.nd⟩
    have rest_ : PSs Xg rest (tS X.K (fun cls d _ H' => E cls d H') fr) := hR _ _ _ _ _ Xg rfl ⟨rfl, room'.mono (Nat.le_succ _), tkg, passes_of rfl, Sg.nd⟩
    have lN : (L2.start Ng [V.ref f]).length = n := by
      rw [start_len, hn]
      have := (List.getElem?_eq_some_iff.mp h0).1
      show 1 + (n - 1) = n
      omega
    have jl : j < n := by rw [← hn]; exact (List.getElem?_eq_some_iff.mp hj).1
    have il : i < n := by rw [← hn]; exact (List.getElem?_eq_some_iff.mp hi).1
    have s0 : (L2.start Ng [V.ref f])[0]? = some (some (.ref f)) := start_at rfl
    rw [hbd]
    let ts : TS := tSeq (tAsg (tVar i) (gName j)) tNext
    let D0 : Ends := { nx := fun _ H' => Q .non H', rt := Q }
    let D1 : Ends := { D0 with nx := tS X.K (fun cls d _ H' => E cls d H') fr D0 }
    refine ⟨_, pss_cons (ps_asg pe_non (pg_name (X := Xg) Sg.nd hj hlm (.inl rfl))) (pss_cons (ps_try_keep (X := Xg) (c := cX) (Wout := fun cls d _ H' => E cls d H')
      (tb := fun W D τ Hz => τ[0]? = some (some (.ref f)) ∧ Hz c' = some (CodeO c' (X.env.qual ++ "<lambda>")) ∧ tE X.K (fun cls d _ H' => W cls d τ H') fb σ Hz fun _ H' => D.nx τ H')
      (ts := fun _ _ _ => ts) rfl rfl rfl Sg.nd hi hln ⟨hge, hde, .inl hme⟩ tkg (fun W pn xe tkw _ => ?_) (fun a oe cls d pn _ _ => suite_keep (X := Xg) Sg.nd hi hvn hj hlm (.inl rfl) hdn hcdn rfl rfl rfl a oe pn)) rest_), ?_⟩
    · refine ⟨fun pins2 s2 τ Hz D I2 ⟨h1, h2, h3⟩ => ?_⟩
      have act := pe_actD (E0 := E) (p1 := p1) (p2 := p2) (k := k) (W := W) I1 L hf ⟨hfn, hfr⟩ (hbind _ _ _ _ _) tkw room' (tb := fun Ech => tE X.K (fun cls d _ H' => Ech cls d H') fb) (fun A outer sz Hz Ech hr => hbody A outer sz Hz Ech f c' _ rfl ⟨rfl, hr, takes_of rfl rfl rfl rfl, passes_of rfl, nd⟩) h0 hva hda hcda
      exact (pss_one (ps_expr (pos := p3) act)).run pins2 s2 τ Hz D I2 ⟨h1, h2, h3⟩
    · -- what the def is asked for
      show ((L2.start Ng [V.ref f]).set j (some .non))[0]? = some (some (.ref f)) ∧ H1 c' = some (CodeO c' (X.env.qual ++ "<lambda>")) ∧ tE X.K (fun cls d _ H' => wKeep X.K cX i (fun _ _ _ => ts) (fun cls d _ H' => E cls d H') D1 cls d ((L2.start Ng [V.ref f]).set j (some .non)) H') fb σ H1 fun _ H' => D1.nx ((L2.start Ng [V.ref f]).set j (some .non)) H'
      refine ⟨by rw [List.getElem?_set_ne j0]; exact s0, hco, g1, st, c1.sd, ?_⟩
      have p := c1.post
      cases qf : fb st with
      | bad => rw [qf] at p; exact p
      | ok t s2 =>
        rw [qf] at p
        intro b g2 H2 sd2 ev2 _
        have c2 : Cur X.K Wx σ (fun g H' s v t => RT X.K H g H' σ s v t) Q g H st (endR s2 (fr (oneSt n j .non s2))) g2 H2 s2 := ⟨c1.ev.trans ev2, sd2, p⟩
        exact rest_run c2 c2.ev.live (by rw [List.length_set]; exact lN) (List.getElem?_set_self (by rw [lN]; exact jl)) .non
      | err y s2 =>
        rw [qf] at p
        intro cls d g2 H2 sd2 ev2 ea
        simp only at p
        cases qm : mt y.cls with
        | none => rw [qm] at p; exact p.elim
        | some b =>
          rw [qm] at p
          cases b with
          | false => exact p.elim
          | true =>
            refine ⟨true, by rw [ea.1]; exact hmt _ _ qm, fun _ a na => ?_, fun z => nomatch z⟩
            obtain ⟨g3, sd3, ev3, rp⟩ := sd2.newExc na ea
            have c2 : Cur X.K Wx σ (fun g H' s v t => RT X.K H g H' σ s v t) Q g H st (endR s2 (fr (oneSt n j (.exc y.cls y.fs) s2))) g3 (upd H2 a (exk a y.cls d)) s2 := ⟨(c1.ev.trans ev2).trans ev3, sd3, p⟩
            refine ⟨.ref a, List.getElem?_set_self (by rw [List.length_set, lN]; exact il), y.cls, ea.1, ?_⟩
            refine rest_run c2 c2.ev.live (by rw [List.length_set, List.length_set, List.length_set, List.length_set]; exact lN) ?_ rp
            rw [List.getElem?_set_ne ij]
            exact List.getElem?_set_self (by rw [List.length_set, List.length_set, lN]; exact jl)
  refine wpAny_call (codeAny_mono rc fun r s2 out => ?_)
  match r, out with
  | .error er, out => exact passAt tk σ pins H1 s1 er s2 I1 out
  | .ok (.ret u2), out => exact I1.after out
  | .ok .next, out => exact out.elim
  | .ok .brk, out => exact out.elim
  | .ok .cont, out => exact out.elim
end
end DL
set_option Elab.async false
set_option linter.all false
set_option maxRecDepth 100000
set_option maxHeartbeats 2000000
namespace DL
open PySem PySem.Spec PyProof.Rows L2
def ctL (l : List (Addr × Bool)) : Addr → Option Bool := fun C => l.lookup C
theorem ct_nil {P : Addr → Bool → Prop} : ∀ C b, ctL [] C = some b → P C b := fun _ _ h => by cases h
theorem ct_cons {P : Addr → Bool → Prop} {C0 : Addr} {b0 : Bool} {l : List (Addr × Bool)} (h : P C0 b0) (r : ∀ C b, ctL l C = some b → P C b) : ∀ C b, ctL ((C0, b0) :: l) C = some b → P C b := fun C b e => by
  unfold ctL at e
  rw [List.lookup_cons] at e
  split at e
  · rename_i z
    cases e
    rw [beq_iff_eq] at z
    subst z
    exact h
  · exact r C b e
def csL (l : List Addr) : Addr → Bool := fun C => l.contains C
theorem cs_nil {P : Addr → Prop} : ∀ C, csL [] C = true → P C := fun _ h => by cases h
theorem cs_cons {P : Addr → Prop} {C0 : Addr} {l : List Addr} (h : P C0) (r : ∀ C, csL l C = true → P C) : ∀ C, csL (C0 :: l) C = true → P C := fun C e => by
  unfold csL at e
  rw [List.contains_cons, Bool.or_eq_true, beq_iff_eq] at e
  rcases e with z | z
  · rw [z]; exact h
  · exact r C z
section
variable {K : PySem.W.Frag} {C C1 : Addr} {b : Bool} {t : Value}
structure XCls (K : PySem.W.Frag) (C : Addr) : Prop where
  hd : PySem.W.hasDictIn K C = true
  ty : PySem.W.typeIn K (.ref C) = some (.type "type")
  sub : PySem.W.subIn K (.ref C) (.type "BaseException") = some true
  ga : PySem.W.findIn K (.ref C) "__getattribute__" = some (some (.builtin "BaseException.__getattribute__"))
  gt : PySem.W.findIn K (.ref C) "__getattr__" = some none
  at_ : PySem.W.findIn K (.ref C) "__class__" = some (some (.builtin "object.__class__"))
  sp : PySem.W.specialIn K (.builtin "object.__class__") "__get__" = some (some (.builtin "getset_descriptor.__get__"))
  tk : PySem.W.takesIn K (.builtin "object.__class__") = some true
  mro : PySem.W.mroIn K C (.type "object") = some true
theorem XCls.cl (x : XCls K C) : (PySem.W.clsIn K C).isSome = true := by
  obtain ⟨cd, hc, _⟩ := PySem.W.any_some x.hd
  rw [hc]; rfl
theorem XCls.k (x : XCls K C) : ExcK K C := ⟨x.cl, x.ga, x.gt, x.sub, x.at_, x.sp, x.tk, x.mro⟩
theorem XCls.f (x : XCls K C) : XfC K C := ⟨x.ga, x.gt, x.sub, x.hd⟩
theorem kit_ref (x : XCls K C1) (h : PySem.W.subIn K t (.ref C1) = some b) (ne : t = .ref C1 → b = true) : PySem.W.kitOne K t (.ref C1) = some b := by
  unfold PySem.W.kitOne
  by_cases z : (t == Value.ref C1) = true
  · rw [if_pos z, ne (beq_iff_eq.mp z)]
  · rw [if_neg z]
    have e2 : ((PySem.W.clsIn K C1).isSome && PySem.W.typeIn K (.ref C1) == some (.type "type")) = true := by rw [x.cl, x.ty] <;> rfl
    show (if ((PySem.W.clsIn K C1).isSome && PySem.W.typeIn K (.ref C1) == some (.type "type")) = true then PySem.W.subIn K t (.ref C1) else none) = some b
    rw [if_pos e2, h]
theorem kit_t (x : XCls K C1) (h : PySem.W.subIn K (.ref C) (.ref C1) = some true) : PySem.W.kitOne K (.ref C) (.ref C1) = some true := kit_ref x h fun _ => rfl
theorem kit_f (x : XCls K C1) (h : PySem.W.subIn K (.ref C) (.ref C1) = some false) (ne : C ≠ C1) : PySem.W.kitOne K (.ref C) (.ref C1) = some false := kit_ref x h fun z => by cases z; exact absurd rfl ne
theorem kit_n (x : XCls K C1) (h : PySem.W.subIn K (.type "NoneType") (.ref C1) = some false) : PySem.W.kitOne K (.type "NoneType") (.ref C1) = some false := kit_ref x h fun z => nomatch z
theorem xm_of (x : XCls K C1) (h : PySem.W.subIn K t (.ref C1) = some b) : PySem.W.exmOne K t (.ref C1) = some b := PySem.W.exm_ref x.sub x.hd x.ty h
end
section
variable {P : Program} {w : World} {K : PySem.W.Frag} {mg : Str → Option Value} {base : Heap}
theorem Bd.mono {X : Cx} {Wx : WX} {k k' : Nat} (b : Bd X Wx k') (h : k ≤ k') : Bd X Wx k := ⟨b.calm, b.room.mono h, b.tk, b.own, b.nd⟩
theorem RestOk.mono {N : List Str} {qual : Str} {sc : Scope} {f : Addr} {cdv : Value} {k k' : Nat} {rest : List Stmt} {fr : M Flow} (r : RestOk P w K mg base N qual sc f cdv k rest fr) (h : k ≤ k') : RestOk P w K mg base N qual sc f cdv k' rest fr :=
  fun A outer s H E X hX B => r A outer s H E X hX (B.mono h)
theorem DFn.okG {x qual : Str} {st : Stmt} {f : Addr} {fd : FuncData} {cdv : Value} {N par : List Str} {n : Nat} {pr : Sp} (F : DFn K x qual st f fd cdv) (sc : FnScope N par (defScope st)) (hlen : ∀ xs Hx Qx Ex, pr xs Hx Qx Ex → xs.length = par.length)
    (body : ∀ (A0 : Around) (out : List Env) (s : Shared) (Hx : Hp) (xs : List V) (Qx : VK) (Ex : XK), Room n (A0.deeper (envOfC qual (defScope st) s.heap.objs.size f cdv)) → pr xs Hx Qx Ex →
      ∃ rd, PSs (cxOf (L2.CX P w) P w K mg base N qual (defScope st) f cdv A0 out s Hx Ex) (defBody st) rd ∧ rd { nx := fun _ Hy => Qx .non Hy, rt := Qx } (start N xs) Hx) : FnOk P w K mg base (L2.CX P w) (n + 1) f fd par pr := by
  obtain ⟨_, _, _, _, _, _, _, _, _, rfl, hl, hc⟩ := F.ex
  exact fn_okG hl hc sc hlen body
end
def isBlD : D → Bool
  | .bl _ => true
  | _ => false
def idxB : List D → Bool → Option Nat
  | [], _ => none
  | .bl y :: ds, k => if y = k then some 0 else (idxB ds k).map (· + 1)
  | _ :: _, _ => none
def indexB : D → D → Option T
  | .lst ds, .bl k => if ds.all isBlD = true then (idxB ds k).map fun j => .fz (.int (j : Nat)) else none
  | _, _ => none
def dIndexB (fo fe : M VR) : M T := fo >>= fun x => readV x >>= fun d0 => chk (isLstD d0) >>= fun _ => fe >>= fun y => readV x >>= fun d => readV y >>= fun e => opt (indexB d e)
theorem bls_flat {K : PySem.W.Frag} {g : Gh} : ∀ {vs : List V} {es : List D}, Reps K g vs es → es.all isBlD = true → vs.all flatV = true
  | _, [], .nil, _ => rfl
  | _, d :: es, .cons a b, al => by
    rw [List.all_cons, Bool.and_eq_true] at al
    rw [List.all_cons, Bool.and_eq_true]
    refine ⟨?_, bls_flat b al.2⟩
    cases d with
    | bl y => cases a; rfl
    | _ => cases al.1
theorem idxB_run {K : PySem.W.Frag} {g : Gh} {k : Bool} : ∀ {ys : List V} {ds : List D} {j : Nat}, Reps K g ys ds → ds.all isBlD = true → idxB ds k = some j → (∃ z, ys[j]? = some z ∧ eqV z (.bl k) = true) ∧ ∀ (m : Nat) (z' : V), m < j → ys[m]? = some z' → eqV z' (.bl k) = false
  | _, [], _, _, _, e => by cases e
  | _, d :: ds, j, r, al, e => by
    cases r with
    | cons ra rr =>
      rw [List.all_cons, Bool.and_eq_true] at al
      cases d with
      | bl y =>
        cases ra
        have e : (if y = k then some 0 else (idxB ds k).map (· + 1)) = some j := e
        by_cases c : y = k
        · subst c
          rw [if_pos rfl] at e; cases e
          refine ⟨⟨_, rfl, ?_⟩, fun m z' lt => absurd lt (Nat.not_lt_zero _)⟩
          show eqV (.bl y) (.bl y) = true
          simp [eqV]
        · rw [if_neg c] at e
          cases q : idxB ds k with
          | none => rw [q] at e; cases e
          | some j' =>
            rw [q] at e; cases e
            obtain ⟨⟨z, a2, a3⟩, a4⟩ := idxB_run rr al.2 q
            refine ⟨⟨z, a2, a3⟩, fun m z' lt h => ?_⟩
            cases m with
            | zero =>
              have h : some (V.bl y) = some z' := h
              cases h
              show eqV (.bl y) (.bl k) = false
              cases y <;> cases k <;> first | rfl | exact absurd rfl c | decide
            | succ m => exact a4 m z' (by have lt : m + 1 < j' + 1 := lt; omega) h
      | _ => cases al.1
end DL
namespace DL
open PySem PySem.Spec PyProof.Rows L2
section
variable {X : Cx} {Wx : WX}
theorem de_indexB {o e : Expr} {fo fe : M VR} {apos cpos : Pos} (ho : DV X Wx o fo) (he : DV X Wx e fe)
    (h1 : attributeBase o "index" X.env (eval o X.env) = eval o X.env := by rfl)
    (h2 : ((backTo cpos (starEach (e :: []) X.env)).all (fun x => !x.1) && (backToKw cpos (keywordEach [] X.env)).all (fun x => x.1.isSome) && decide ((e :: []).length + ([] : List Keyword).length + (if ([] : List Keyword).isEmpty then 0 else 1) < 30)) = true := by rfl)
    (h3 : (apos.endLine == cpos.line) = true := by rfl) (h4 : starEach (e :: []) X.env = (false, eval e X.env) :: starEach [] X.env := by rfl) (h5 : (backTo cpos (starEach [] X.env)).any (·.1) = false := by rfl) :
    DE X Wx (.Call (.Attribute o "index" apos) [e] [] cpos) (dIndexB fo fe) := by
  exact ⟨fun pins s σ H Q I q => (pe_bm PySem.F.plainAttrs_list PySem.F.slot_list_index PySem.F.type_list_index mt_index ho (pa_cons he pa_nil h4) h1 h2 h3 h4 h5).run pins s σ H Q I (by
  obtain ⟨g, s, c⟩ := q.start
  refine c.bind.mono fun x H1 ⟨x', g1, s1, c1, r1, e1⟩ => ?_
  obtain ⟨d0, c2, v2⟩ := c1.read r1
  obtain ⟨hd, c3⟩ := c2.chk
  cases d0 with
  | lst ds0 =>
    obtain ⟨a, xs, rfl, hx, _⟩ := v2.lst c1.sd
    refine ⟨.inl ⟨rfl, xs, .of hx⟩, c3.bind.mono fun y H2 ⟨y', g2, s2, c4, r4, e4⟩ => ?_⟩
    obtain ⟨d, c5, v5⟩ := c4.read (r1.ev e4)
    obtain ⟨k, c6, v6⟩ := c5.read r4
    cases q : indexB d k with
    | none => exact (c6.notBad (by rw [q]; rfl)).elim
    | some t =>
      have f := c6.fin (t := t) (by rw [q]; rfl)
      unfold indexB at q
      split at q
      · rename_i ds k
        split at q
        · rename_i al
          cases qj : idxB ds k with
          | none => rw [qj] at q; cases q
          | some j =>
            rw [qj] at q; cases q
            obtain ⟨a', ys, ea, hy, ry⟩ := v5.lst c4.sd
            cases ea
            cases v6.bl
            obtain ⟨⟨z, f2, f3⟩, f4⟩ := idxB_run ry al qj
            exact ⟨a, ys, .bl k, j, z, rfl, rfl, .of hy, rfl, bls_flat ry al, f2, f3, f4, f.fz c4.sd (.int _)⟩
        · cases q
      · cases q
  | _ => cases hd)⟩
end
section
variable {K : PySem.W.Frag} {σ : Slots} {H0 H1 H2 : Hp} {g1 g2 : Gh} {s1 s2 : State}
end
section
variable {X : Cx} {Wx : WX} {e : Expr} {es : List Expr} {kws : List Keyword} {k m : Nat} {C f0 : Addr} {fd : FuncData} {ps N ks : List Str} {b : M Flow} {x : Str} {p pos : Pos} {ms : List AM} {π : List Nat} {fa fl : M (List VR)}
end
end DL
namespace DL
open PySem PySem.Spec PyProof.Rows L2
section
variable {X : Cx} {Wx : WX} {e e2 : Expr} {fl : M (List VR)} {p p1 : Pos}
end
end DL
set_option Elab.async false
set_option linter.all false
set_option maxRecDepth 100000
set_option maxHeartbeats 1000000
namespace DL
open PySem
def toRs {α : Type} (r : Except Ex α) (s : State) : Rs α := match r with
  | .ok a => .ok a s
  | .error x => .err x s
def toFl (r : Except Ex T) (s : State) : Rs Flow := match r with
  | .ok t => .ok (.rt t) s
  | .error x => .err x s
section
variable {α β : Type} {s s1 s2 : State} {x : Ex}
theorem dSeq_er {f k : M Flow} (h : f s = .err x s1) : dSeq f k s = .err x s1 := by unfold dSeq; rw [h]
def resG (F : M Flow) (n : Nat) (ws : List W) (r : Except Ex T) : Prop := ∀ (sto : List MO) (dr : Option DrawSt), ∃ e', F { env := ws.map some ++ List.replicate (n - ws.length) none, sto := sto, dr := dr } = toFl r { env := e', sto := sto, dr := dr } ∧ ws.length ≤ e'.length
theorem pureG.res {F : M Flow} {n : Nat} {ws : List W} {v : T} (h : pureG F n ws v) : resG F n ws (.ok v) := h
theorem resG.pure {F : M Flow} {n : Nat} {ws : List W} {v : T} (h : resG F n ws (.ok v)) : pureG F n ws v := h
theorem resG.er {F : M Flow} {n : Nat} {ws : List W} {e' : List (Option W)} (hl : ws.length ≤ e'.length) (h : ∀ (sto : List MO) (dr : Option DrawSt), F { env := ws.map some ++ List.replicate (n - ws.length) none, sto := sto, dr := dr } = .err x { env := e', sto := sto, dr := dr }) : resG F n ws (.error x) := fun sto dr => ⟨e', h sto dr, hl⟩
variable {F : M Flow} {n : Nat} {ms : List AM} {fl : M (List VR)} {rs : List VR} {hs : List HS} {ws : List W} {r : Except Ex T}
theorem callR_res {e' : List (Option W)} (e5 : ws.all notLent = true) (hl : ws.length ≤ e'.length) (lh : hs.length = ws.length) : callR hs ws s (toFl r { env := e', sto := s.sto, dr := s.dr }) = toRs r s := by
  have b : backS hs ws s { env := e', sto := s.sto, dr := s.dr } = some s := by
    unfold backS
    rw [backs_no lh e5 hl]
  cases r with
  | ok t =>
    show (match backS hs ws s { env := e', sto := s.sto, dr := s.dr } with | some s' => Rs.ok t s' | none => .bad) = _
    rw [b]; rfl
  | error x =>
    show (match backS hs ws s { env := e', sto := s.sto, dr := s.dr } with | some s' => Rs.err x s' | none => .bad) = _
    rw [b]; rfl
theorem pass_res (e2 : toHMs ms rs s = .ok hs s1) (e3 : ents ms hs s1 = some ws) (e4 : oneEach hs = true) (e5 : ws.all notLent = true) (h : resG F n ws r) : dPass n ms [] F rs s = toRs r s1 := by
  obtain ⟨e', q, hl⟩ := h s1.sto s1.dr
  unfold dPass
  rw [bind_eq, e2]
  show pass2 n ms [] F hs s1 = _
  unfold pass2
  rw [e3]
  simp only
  rw [if_pos e4]
  have e6 : { env := (ws ++ ([] : List D).map W.fz).map some ++ List.replicate (n - (ws.length + ([] : List D).length)) none, sto := s1.sto, dr := s1.dr : State } = { env := ws.map some ++ List.replicate (n - ws.length) none, sto := s1.sto, dr := s1.dr } := by simp
  rw [e6, q, callR_res e5 hl (ents_length e3).symm]
theorem call_res (h : resG F n ws r) (e : fl s = .ok rs s1) (e2 : toHMs ms rs s1 = .ok hs s2) (e3 : ents ms hs s2 = some ws) (e4 : oneEach hs = true) (e5 : ws.all notLent = true) : dCall n ms [] F fl s = toRs r s2 := by
  unfold dCall
  rw [bind_eq, e]
  exact pass_res e2 e3 e4 e5 h
end
section
variable {s s1 s2 s3 : State} {x : Ex} {C : Addr} {n : Nat} {ms : List AM} {F : M Flow} {rs zs : List VR} {ds : List D} {fs : List (Str × D)} {e' : List (Option W)} {sto : List MO} {dr : Option DrawSt} {fa fl : M (List VR)} {π : List Nat}
variable {nt j : Nat} {P : Addr} {qn : Str} {mt : Addr → Option Bool} {fr : M Flow} {fb : M T} {t v : T} {sc : State}
theorem lamG_er (ht : isTab s nt P qn = true) (h : fb s = .err x s1) (hm : mt x.cls = some true) (hr : fr (oneSt n j (.exc x.cls x.fs) s1) = .ok (.rt v) sc) : dLamG nt P qn n j mt fr fb s = .ok v { env := s1.env, sto := sc.sto, dr := sc.dr } := by
  unfold dLamG
  rw [if_pos ht, h]
  simp only
  rw [hm]
  simp only
  rw [hr]
  rfl
theorem dIsX_eq {ct : Addr → Option Bool} {fo : M VR} {y : VR} {d : D} {t : T} (e : fo s = .ok y s1) (hd : readV y s1 = .ok d s1) (h : isX ct d = some t) : dIsX ct fo s = .ok t s1 := by
  unfold dIsX
  simp only [bind_eq, e, hd, h]
  rfl
end
end DL
set_option Elab.async false
set_option linter.all false
set_option maxRecDepth 100000
set_option maxHeartbeats 2000000
namespace DL
open PySem PySem.Spec PyProof.Rows L2
open PySem.W (kxs_mw)
section
variable {prog : Program} {w : World} {A : Around} {E : Value → Shared → Prop} {R : Result → Shared → Prop} {h : Heap} {g : Array GenState} {d : Drawn} {t : Nat} {os : OsState}
variable {nm q : Str} {C N : Addr} {bs bm : List Value} {hdct : Bool} {sn : List Str} {sub : List Value} {ab : Bool} {col : Option Bool} {dd : Option Addr} {k0 k1 k2 k3 k5 : Option Value}
theorem sup_call {u e t0 : Addr} {rest : List Value} {Q : Value → Shared → Prop} (hC : h.get? C = some (excClassObj nm q C N bs bm hdct sn sub ab col dd k0 k1 k2 k3 k5 "ValueError.__new__")) (he : h.get? e = some (PySem.HandSPX.excO C t0)) (hu : h.get? u = some (kxs_mw "ValueError.__init__" e)) (hz : rest.length ≤ sizeLine)
    (hq : ∀ h' t1, (∀ b o, b ≠ e → h.get? b = some o → h'.get? b = some o) → h'.get? e = some (PySem.HandSPX.excO C t1) → Q .none ⟨h', g, d, t, os⟩) : wpAny (model prog w) A (call (.ref u) rest) Q E ⟨h, g, d, t, os⟩ := by
  refine wpAny_call (codeAny_of_tree ?_)
  show wpAny _ A.in1 (callAny (.ref u) ⟨rest, []⟩) _ _ _
  simp only [callAny]
  refine wpAny_bind (wpAny_load hu ?_)
  simp only [kxs_mw, show (Value.type "method-wrapper" == Value.type "method" || Value.type "method-wrapper" == Value.type "builtin_function_or_method" || Value.type "method-wrapper" == Value.type "method-wrapper") = true by decide, if_true]
  refine PySem.W.KFB.if_so (by decide) ?_
  refine wpAny_bind (PySem.W.check_bound_init PySem.F.excBase_ValueError.toExcCallFacts hC he rfl ?_)
  refine wpAny_bind (wpAny_pure (wpAny_pure ⟨plainId_quiet PySem.F.excBase_ValueError.init.plain _, codeAny_builtin PySem.F.excBase_ValueError.initEntry ?_⟩))
  exact PySem.W.exc_init_tree (cls := .ref C) (t0 := t0) (dv := none) (c2 := .none) (c3 := .none) (b4 := .bool false) he hz fun h' k e' _ => hq h' _ k e'
end
structure SupC (prog : Program) (K : PySem.W.Frag) (mg : Str → Option Value) (C fI : Addr) (fn : Str) : Prop where
  oex : OexC K C
  ini : PySem.W.findIn K (.ref C) "__init__" = some (some (.ref fI))
  tyI : PySem.W.typeIn K (.ref fI) = some (.type "function")
  no : PySem.W.findIn K (.ref C) fn = some none
  opq : PySem.W.nsIn K cStatics "thirdparty.any" = some none
  sup : PySem.W.ks_superIn K C C "__init__" = some (some (.builtin "ValueError.__init__"))
  isV : PySem.W.subIn K (.ref C) (.type "ValueError") = some true
  own : PySem.W.mroIn K C (.ref C) = some true
  gl : mg "super" = none
  fun_ : ∃ (oc : Value) (od : Option Addr) (qual : Str) (params : Arguments) (body : List Stmt) (scope : Scope) (dV kV doc pm ct : Value) (an : Option Addr) (cda cc : Addr) (osl : Array (Option Value)),
    K.lookup fI = some ⟨oc, od, .func (PySem.W.ksFn "__init__" qual params body scope dV kV doc pm an (.ref cda) ct cc), osl⟩ ∧ PySem.W.codeIn K (.ref cda) qual = true ∧
    (∃ (ccl : Value) (cdd : Option Addr) (vs : Array Value) (ccs : Array (Option Value)) (file : Str) (tf : Tok), K.lookup cda = some ⟨ccl, cdd, .fields vs, ccs⟩ ∧ vs[2]? = some (.str file tf) ∧ ((prog.main.file : Str) == file) = true) ∧
    (∃ (cl : Value) (cld : Option Addr) (csl : Array (Option Value)), K.lookup cc = some ⟨cl, cld, .cell (some (.ref C)), csl⟩) ∧
    (∃ ar, (params.posonlyargs ++ params.args).head? = some ar ∧ ar.arg = "self") ∧
    (∃ (msg : Str) (j : Nat) (p0 p1 p2 p3 p4 p5 q0 q1 q2 q3 : Pos), body = [.Expr (.Call (.Attribute (.Call (.Name "super" p0) [] [] p1) "__init__" p2) [.Constant (.str msg) j p3] [] p4) p5, .Assign [.Attribute (.Name "self" q0) fn q1] (.Name fn q2) q3] ∧ ∃ pl : Sem Bool, ∀ L : Addr, eval (.Call (.Attribute (.Call (.Name "super" p0) [] [] p1) "__init__" p2) [.Constant (.str msg) j p3] [] p4) (callEnv (PySem.W.ksFn "__init__" qual params body scope dV kV doc pm an (.ref cda) ct cc) L fI) = (do
      let ov ← attributeBase (.Call (.Name "super" p0) [] [] p1) "__init__" (callEnv (PySem.W.ksFn "__init__" qual params body scope dV kV doc pm an (.ref cda) ct cc) L fI) (eval (.Call (.Name "super" p0) [] [] p1) (callEnv (PySem.W.ksFn "__init__" qual params body scope dV kV doc pm an (.ref cda) ct cc) L fI))
      standAt p2.atName
      let (f, first) ← holding [ov] (getMethod ov "__init__" pl)
      callWith p4 f first (backTo p4 (starEach [.Constant (.str msg) j p3] (callEnv (PySem.W.ksFn "__init__" qual params body scope dV kV doc pm an (.ref cda) ct cc) L fI))) [])) ∧
    (scope.names.lookup ("self" : Str) = some .local ∧ scope.names.lookup fn = some .local ∧ scope.names.lookup ("super" : Str) = some .globalImplicit ∧ scope.names.lookup ("__class__" : Str) = some .free) ∧
    ((∀ x ∈ scope.names, x.2 ≠ .cell) ∧ scope.isCoroutine = false ∧ scope.isGenerator = false ∧ scope.kind = .function) ∧
    (∀ a v : Value, bindArgs (PySem.W.ksFn "__init__" qual params body scope dV kV doc pm an (.ref cda) ct cc) ⟨[a, v], []⟩ = pure [(("self" : Str), a), (fn, v)]) ∧ (∀ a v : Value, bindArgs (PySem.W.ksFn "__init__" qual params body scope dV kV doc pm an (.ref cda) ct cc) ⟨[a], [(fn, v)]⟩ = pure [(("self" : Str), a), (fn, v)]) ∧ (fn == ("self" : Str)) = false ∧ (fn == ("__debug__" : Str)) = false ∧ (fn == ("__classdict__" : Str)) = false
def supArgs (b : Bool) (fn : Str) (a v : Value) : Args := match b with
  | false => ⟨[a, v], []⟩
  | true => ⟨[a], [(fn, v)]⟩
section
variable {prog : Program} {w : World} {A : Around} {E : Value → Shared → Prop} {R : Result → Shared → Prop} {K : PySem.W.Frag} {mg : Str → Option Value} {C fI : Addr} {fn : Str}
theorem sup_init (kb : Bool) (S : SupC prog K mg C fI fn) (htop : (prog.main.scope.names.lookup ("super" : Str)).isSome = false) {s : Shared} {e t0 : Addr} {v : Value} (X : K.In s.heap) (hg : s.heap.Ns mainGlobals mg) (hb : ∃ bl, s.heap.Ns builtinsNs bl ∧ bl "super" = some (.type "super")) (hlim : s.heap.NoLimit) (hroom : A.depth < recursionLimit)
    (he : s.heap.get? e = some (PySem.HandSPX.excO C t0)) (nK : K.lookup e = none)
    (hq : ∀ h' tk' dx t1, (∀ b o, b ≠ e → s.heap.get? b = some o → h'.get? b = some o) → s.heap.get? dx = none → dx ≠ e → h'.get? e = some ({ cls := .ref C, dict := some dx, data := .fields #[.ref t1, .none, .none, .none, .bool false, .none] } : Obj) → h'.Ns1 dx (fun y => if y = fn then some v else none) → R (.ok (.ret .none)) ⟨h', s.gens, s.drawn, tk', s.os⟩) :
    codeAny (model prog w) A (.call (.ref fI) (supArgs kb fn (.ref e) v)) R s := by
  obtain ⟨oc, od, qual, params, body, scope, dV, kV, doc, pm, ct, an, cda, cc, osl, lk, hcd, ⟨ccl, cdd, vs, ccs, file, tf, hcode, hvs, hfile⟩, ⟨cl, cld, csl, hcell⟩, ⟨ar, hp, har⟩, ⟨msg, j, p0, p1, p2, p3, p4, p5, q0, q1, q2, q3, rfl, pl, hev⟩, ⟨n1, n2, n3, n4⟩, ⟨c1, c2, c3, c4⟩, bind, bindK, ns1, ns2, ns3⟩ := S.fun_
  obtain ⟨nm, qn, N, bs, bm, sn, sub, ab, col, dd, k0, k1, k2, k3, k5, hC, hbm⟩ := S.oex.cls
  obtain ⟨bl, hbl, hsup⟩ := hb
  have hcl : PySem.W.clsIn K C = some { name := nm, bases := bs, mro := .ref C :: bm, ns := N, qualname := qn, hasDict := true, slotNames := sn, subclasses := sub, abstract := ab, collection := col, hasDel := false } := by unfold PySem.W.clsIn; rw [hC] <;> rfl
  obtain ⟨hp0, g, d, t, os⟩ := s
  refine PySem.ks_codeAny_call_defAt hroom (X _ _ lk) rfl hlim (PySem.W.codeRec_of X hcd) rfl (show BindsTo _ _ (supArgs kb fn (.ref e) v) _ from by cases kb; exact BindsTo.of_eq (bind (.ref e) v); exact BindsTo.of_eq (bindK (.ref e) v)) c1 ?_ (fun h1 hns kp1 => ?_) c2 c3 c4
  · intro x hx
    rcases List.mem_cons.mp hx with rfl | hx
    · exact n1
    · rw [List.mem_singleton.mp hx]; exact n2
  have X1 : K.In h1 := X.keeps kp1
  have hs1 : ([(("self" : Str), Value.ref e), (fn, v)] : List (Str × Value)).reverse.lookup ("self" : Str) = some (.ref e) := by
    show List.lookup ("self" : Str) [(fn, v), (("self" : Str), Value.ref e)] = _
    rw [List.lookup_cons]
    have : (("self" : Str) == fn) = false := by
      rw [beq_eq_false_iff_ne] at ns1 ⊢
      exact fun z => ns1 z.symm
    rw [this]
    rfl
  have hs2 : ([(("self" : Str), Value.ref e), (fn, v)] : List (Str × Value)).reverse.lookup fn = some v := by
    show List.lookup fn [(fn, v), (("self" : Str), Value.ref e)] = _
    rw [List.lookup_cons, beq_self_eq_true]
  have hC1 := X1 _ _ hC
  have he1 := kp1 _ _ he
  have hint : ∀ (fd : FuncData) (L : Addr), fd.scope = scope → interactive (callEnv fd L fI) = false := fun fd L z => by
    show (fd.scope.kind == .module && _) = false
    rw [z, c4]; rfl
  refine PySem.ks_wpAt_execs_cons (PySem.ks_wpAt_Expr_any (PySem.ks_wpAt_MethodCall (pl := pl) ?_ (hev _)) (hint _ _ rfl) rfl)
  refine PySem.ks_wpAt_super_base n3 n4 rfl rfl (X1 _ _ lk) rfl hp rfl (X1 _ _ hcode) rfl hvs hfile htop ?_
  refine PySem.W.ks_loadName_global c4 n3 (PySem.Calls.loadGlobal_builtin (hg.keeps kp1) S.gl (hbl.keeps kp1) hsup ⟨rfl, ?_⟩)
  refine wpAny_loadName_free c4 n4 rfl ⟨_, X1 _ _ hcell, rfl⟩ ?_
  rw [har]
  refine wpAny_loadName_local c4 n1 hns hs1 ?_
  refine PySem.ks_wpAny_isType_cls hC1 rfl ⟨rfl, ?_⟩
  refine PySem.ks_wpAny_call_super hC1 rfl he1 rfl (fun c z => nomatch z) (PySem.W.looks_mroIn X1 S.own) (fun h2 e2 kp2 => ?_)
  have X2 : K.In h2 := X1.keeps kp2
  have I2 : PySem.W.InstAt h2 e (PySem.HandSPX.excO C t0) C none := ⟨kp2 _ _ he1, rfl, rfl, trivial⟩
  have hm := S.sup
  unfold PySem.W.ks_superIn at hm
  rw [hcl] at hm
  refine PySem.W.kxs_getMethod PySem.W.kxs_ValueError e2 (PySem.W.looks_opaque X2 S.opq) (l₀ := .ref C :: bm) ?_ rfl X2 hm (I2.type.andThen (PySem.W.looks_subIn X2 S.isV)) (PySem.W.ks_ne X2 I2 hcl) rfl ?_
  · exact fun A Q E s k q => wpAny_bind ((PySem.W.looks_clsIn X2 hcl) A _ E s k (wpAny_pure q))
  -- the call of the bound one
  show wpAny _ _ (callWith p4 (.ref h2.objs.size) [] (backTo p4 (starEach [.Constant (.str msg) j p3] _)) []) _ _ _
  have hu : (h2.push (kxs_mw "ValueError.__init__" e)).get? h2.objs.size = some (kxs_mw "ValueError.__init__" e) := Heap.get?_push_size _ rfl
  have kp3 : ∀ b o, h2.get? b = some o → (h2.push (kxs_mw "ValueError.__init__" e)).get? b = some o := fun b o z => Heap.get?_push_of_some _ z
  refine PySem.W.kxs_callWith (i := "ValueError.__init__") (x := e) rfl (PySem.Calls.evalArgs_plain ?_)
  refine Calls.spliced_cons (Calls.Constant_str (pos := p3) (k := j) (Calls.spliced_nil ⟨hu, ?_⟩))
  refine sup_call (X2.keeps kp3 _ _ hC) (kp3 _ _ (kp2 _ _ he1)) hu (show 1 ≤ sizeLine by decide) fun h4 t1 kp4 e4 => ?_
  have X4 : K.In h4 := fun b o z => kp4 b o (fun be => by rw [be, nK] at z; cases z) (X2.keeps kp3 b o z)
  have all : ∀ b o, b ≠ e → hp0.get? b = some o → h4.get? b = some o := fun b o be z => kp4 b o be (kp3 _ _ (kp2 _ _ (kp1 _ _ z)))
  have ns4 : h4.Ns hp0.objs.size (fun y => ([(("self" : Str), Value.ref e), (fn, v)] : List (Str × Value)).reverse.lookup y) := by
    obtain ⟨o, es, ep, g1, g2, g3⟩ := hns
    exact ⟨o, es, ep, kp4 _ _ (fun z => Nat.lt_irrefl e (by have := Heap.lt_size he; rw [z] at this; exact absurd this (Nat.lt_irrefl _))) (kp3 _ _ (kp2 _ _ g1)), g2, g3⟩
  refine PySem.ks_wpAt_execs_cons (PySem.ks_wpAt_Assign_Attr ?_ rfl)
  refine wpAt_of_wpAny (wpAny_Name ?_ ns2)
  refine wpAny_loadName_local c4 n2 ns4 hs2 ?_
  refine wpAny_Name ?_ (by rfl)
  refine wpAny_loadName_local c4 n1 ns4 hs1 ?_
  refine PySem.W.set_plain X4 (ox := PySem.HandSPX.excO C t1) (od := none) ⟨e4, rfl, rfl, trivial⟩ S.oex.sa ?_
  refine PySem.HandSPX.exc_osa X4 e4 hcl (show PySem.HandSPX.refsVE (.ref C :: bm) = true from hbm) rfl S.no (fun h5 tk5 dx kp5 dn dne hx hn => ?_)
  refine wpAt_of_wpAny (wpAny_execs_nil ?_)
  refine hq h5 tk5 dx t1 (fun b o be z => kp5 b o be (all b o be z)) ?_ dne hx hn
  cases z : hp0.get? dx with
  | none => rfl
  | some o => exact absurd (Heap.lt_size (all dx o dne z)) (Nat.not_lt_of_le dn)
end
end DL
set_option Elab.async false
set_option linter.all false
set_option maxRecDepth 100000
set_option maxHeartbeats 2000000
namespace DL
open PySem PySem.Spec PyProof.Rows L2
section
variable {X : Cx} {C fI : Addr} {fn : Str}
end
def dRaiseF (C : Addr) (fn : Str) (fv : M VR) : M Flow := fv >>= fun r => frz r >>= fun d s => .err ⟨C, [(fn, d)]⟩ s
section
variable {X : Cx} {Wx : WX} {C fI : Addr} {fn : Str}
end
end DL
set_option Elab.async false
set_option linter.all false
set_option maxRecDepth 100000
set_option maxHeartbeats 2000000
namespace PySem
open W PySem.Calls PyProof.Rows PyProof.V PySem.Spec HandSPX
section
variable {prog : Program} {w : World} {M : Model} {A : Around} {E : Value → Shared → Prop} {R : Result → Shared → Prop} {h : Heap} {g : Array GenState} {d : Drawn} {t : Nat} {os : OsState}
variable {nm q : Str} {C N : Addr} {bs bm bmB : List Value} {hdct : Bool} {sn : List Str} {sub : List Value} {ab : Bool} {col : Option Bool} {dd : Option Addr} {k0 k1 k2 k3 k5 : Option Value} {B newId initId : String} {rest : List Value} {kw : List (Str × Value)}
theorem kw_check_tc {Q : Unit → Shared → Prop} (hC : h.get? C = some (excClassObj nm q C N bs bm hdct sn sub ab col dd k0 k1 k2 k3 k5 newId)) (hq : Q () ⟨h, g, d, t, os⟩) : wpAny M A (checkBuiltinCall "type.__call__" ⟨.ref C :: rest, kw⟩) Q E ⟨h, g, d, t, os⟩ := by
  have f3 := tc_sub
  have hT : (⟨h, g, d, t, os⟩ : Shared).TypeIs (.ref C) "type" := ⟨_, hC, rfl⟩
  simp only [checkBuiltinCall, tc_kind, tc_split]
  repeat (any_goals (first | assumption | with_reducible refine wpAny_loadPart_at hC ?_ | with_reducible refine wpAny_onRaise ?_ | with_reducible refine wpAny_map ?_ | wp_step))
theorem kw_check_new (F : ExcBaseFacts B newId initId bmB) (hT : ∀ X : String, bm.contains (.type X) = bmB.contains (.type X)) {Q : Unit → Shared → Prop}
    (hC : h.get? C = some (excClassObj nm q C N bs bm hdct sn sub ab col dd k0 k1 k2 k3 k5 newId)) (hq : Q () ⟨h, g, d, t, os⟩) : wpAny M A (checkBuiltinCall newId ⟨.ref C :: rest, kw⟩) Q E ⟨h, g, d, t, os⟩ := by
  have hcont : (Value.ref C :: bm).contains (.type B) = true := by rw [List.contains_cons, hT, F.hasB, Bool.or_true]
  have hstar := F.noStar
  simp only [checkBuiltinCall, F.newKind, F.newSplit, F.newRow]
  repeat (first | refine wpAny_loadPart_at hC ?_ | (refine wpAny_isSubtype_exc hC ?_; rw [hcont]) | refine wpAny_staticBase_exc hC ?_ | refine wpAny_madeBy_exc hC ?_ | simp only [bne_self_eq_false, Bool.false_eq_true, if_false] | wp_step)
  exact hq
theorem kw_new (F : ExcBaseFacts B newId initId bmB) (hT : ∀ X : String, bm.contains (.type X) = bmB.contains (.type X))
    (hC : h.get? C = some (excClassObj nm q C N bs bm hdct sn sub ab col dd k0 k1 k2 k3 k5 newId))
    (hq : R (.ok (.ret (.ref (h.objs.size + 1)))) ⟨(h.push { cls := .type "tuple", data := .seq rest.toArray }).push { cls := .ref C, data := .fields #[.ref h.objs.size, .none, .none, .none, .bool false, .none] }, g, d, t, os⟩) (hrest : rest.length ≤ sizeLine) :
    codeAny (model prog w) A (.builtin newId ⟨.ref C :: rest, kw⟩) R ⟨h, g, d, t, os⟩ := by
  have hends := F.ends
  have hcB : (Value.ref C :: bm).contains (.type B) = true := by rw [List.contains_cons, hT, F.hasB, Bool.or_true]
  have hcA : (Value.ref C :: bm).contains (.type "AttributeError") = false := by rw [List.contains_cons, hT, F.noAttr]; rfl
  have hcN : (Value.ref C :: bm).contains (.type "NameError") = false := by rw [List.contains_cons, hT, F.noName]; rfl
  refine codeAny_builtinAt F.entry ?_
  unfold Builtin.«BaseException.__new__»
  refine wpAt_bind ?_
  show wpAt _ _ _ (stack >>= _) _ _ _
  refine wpAt_bind (wpAt_stack fun p below => wpAt_of_wpAny ?_)
  wp_walk
  refine wpAt_of_wpAny ?_
  rw [F.owner]
  repeat (first | with_reducible refine wpAny_madeHere_exc F.canon hC ?_ | with_reducible refine wpAny_loadPart_at hC ?_ | (with_reducible refine wpAny_isSubtype_exc hC ?_; first | rw [hcB] | rw [hcA] | rw [hcN]) | wp_step)
  show R _ _
  rw [Heap.size_push]
  exact hq
theorem kw_type_call (F : ExcBaseFacts B newId initId bmB) (hT : ∀ X : String, bm.contains (.type X) = bmB.contains (.type X)) {fI : Addr} {Q : Fin → Shared → Prop}
    (hC : h.get? C = some (excClassObj nm q C N bs bm hdct sn sub ab col dd k0 k1 k2 k3 k5 newId))
    (hi : W.Looks (model prog w) h (typeLookup (.ref C) "__init__") (some (.ref fI))) (hb : ∀ self, W.Looks (model prog w) h (bindSpecial (.ref fI) self) (.ref fI, [self])) (hrest : rest.length ≤ sizeLine)
    (hq : codeAny (model prog w) A (.call (.ref fI) ⟨.ref (h.objs.size + 1) :: rest, kw⟩)
      (fun r s' => match r with | .ok (.ret v) => v = .none ∧ Q (.done (.ret (.ref (h.objs.size + 1)))) s' | .ok _ => False | .error e => E e s')
      ⟨(h.push (W.kdv_tup rest)).push (excO C h.objs.size), g, d, t, os⟩) :
    wpAny (model prog w) A (Builtin.«type.__call__» ⟨.ref C :: rest, kw⟩) Q E ⟨h, g, d, t, os⟩ := by
  repeat (first | with_reducible refine wpAny_loadPart_at hC ?_ | with_reducible refine wpAny_madeBy_exc hC ?_ | wp_step)
  refine codeAny_call_builtin_code (Code.quiet_builtin _ F.quiet) (kw_check_new F hT hC ?_)
  refine kw_new F hT hC ?_ hrest
  show wpAny _ _ _ _ _ _
  have k : ∀ b o, h.get? b = some o → ((h.push (W.kdv_tup rest)).push (excO C h.objs.size)).get? b = some o := fun b o e => Heap.get?_push_of_some _ (Heap.get?_push_of_some _ e)
  have hC₁ := k _ _ hC
  have hget : ((h.push (W.kdv_tup rest)).push (excO C h.objs.size)).get? (h.objs.size + 1) = some (excO C h.objs.size) := by heap_get
  have hcC : (Value.ref C :: bm).contains (.ref C) = true := by simp
  have i1 := hi.keeps k
  have b1 := (hb (.ref (h.objs.size + 1))).keeps k
  unfold isInstance
  repeat (first | with_reducible refine wpAny_loadPart_at hget ?_ | (with_reducible refine wpAny_isSubtype_exc hC₁ ?_; rw [hcC]) | wp_step)
  show wpAny _ _ (typeLookup (.ref C) _) _ _ _
  refine i1.at ?_
  refine wpAny_holding (wpAny_bind (b1.at ?_))
  refine wpAny_bind (wpAny_call (codeAny_mono hq fun r s' z => ?_))
  rcases r with e | (v | _ | _ | _) <;> first | exact z | exact z.elim | skip
  obtain ⟨rfl, z⟩ := z
  first
    | exact wpAny_pure (wpAny_pure z)
    | (wp_walk; exact z)
theorem kw_call_own (F : ExcBaseFacts B newId initId bmB) (hT : ∀ X : String, bm.contains (.type X) = bmB.contains (.type X)) {fI : Addr}
    (hC : h.get? C = some (excClassObj nm q C N bs bm hdct sn sub ab col dd k0 k1 k2 k3 k5 newId))
    (hi : W.Looks (model prog w) h (typeLookup (.ref C) "__init__") (some (.ref fI))) (hb : ∀ self, W.Looks (model prog w) h (bindSpecial (.ref fI) self) (.ref fI, [self])) (hrest : rest.length ≤ sizeLine)
    (hq : codeAny (model prog w) (A.under (.builtin "type.__call__" ⟨.ref C :: rest, kw⟩)) (.call (.ref fI) ⟨.ref (h.objs.size + 1) :: rest, kw⟩) (W.InitBack (h.objs.size + 1) R)
      ⟨(h.push (W.kdv_tup rest)).push (excO C h.objs.size), g, d, t, os⟩) :
    codeAny (model prog w) A (.call (.ref C) ⟨rest, kw⟩) R ⟨h, g, d, t, os⟩ := by
  have f1 := tc_lookup
  have f2 := tc_bind (.ref C)
  have hTy : (⟨h, g, d, t, os⟩ : Shared).TypeIs (.ref C) "type" := ⟨_, hC, rfl⟩
  refine codeAny_of_tree ?_
  show wpAny _ _ (callAny (.ref C) _) _ _ _
  repeat (any_goals (first | assumption | with_reducible refine wpAny_loadPart_at hC ?_ | wp_step))
  refine ⟨rfl, ?_⟩
  refine codeAny_call_builtin_at (Code.quiet_builtin _ (by decide +kernel)) entry_typeCall (kw_check_tc hC (kw_type_call F hT hC hi hb hrest ?_))
  refine codeAny_mono hq fun r s' z => ?_
  rcases r with e | (v | _ | _ | _) <;> exact z
end
end PySem
namespace DL
open PySem PySem.Spec PyProof.Rows L2
section
variable {X : Cx} {C fI : Addr} {fn : Str}
theorem pmk_supK {k : Nat} {x : Str} {kws : List Keyword} {ta : TA} {p pos : Pos} (S : SupC X.prog X.K X.mg C fI fn) (htop : (X.prog.main.scope.names.lookup ("super" : Str)).isSome = false) (room : L2.Room (k + 1) X.A) (hg : Gl X x) (hm : X.mg x = some (.ref C)) (ha : PK X kws ta)
    (hall : (backToKw pos (keywordEach kws X.env)).all (·.1.isSome) = true := by rfl) (hks : (backToKw pos (keywordEach kws X.env)).filterMap (·.1) = [fn] := by rfl) (hdb : (x == ("__debug__" : Str)) = false := by decide)
    (hpl : ((backTo pos (starEach [] X.env)).any (·.1) || (backToKw pos (keywordEach kws X.env)).any (·.1.isNone)) = false := by rfl) :
    PMk X (.Call (.Name x p) [] kws pos) (fun σ H Q => ta σ H fun vs H1 => ∃ y, vs = [y] ∧ ∀ dx, H1 dx = none → Q (.ref C) (some dx) (upd H1 dx (.xd [(fn, y)]))) := by
  intro pins s σ H Q I h
  obtain ⟨nm, q, N, bs, bm, sn, sub, ab, col, dd, k0, k1, k2, k3, k5, hC, hbm⟩ := S.oex.cls
  refine wpAny_Call_Name_kw (ld_glob I hg hm ?_ hdb)
  refine PySem.W.callWith_KW0 (h₀ := X.base) I.ok.mod.kin S.oex.kC hall (thn (ha.run pos pins s σ H _ I h) fun us s1 ⟨vs, H1, I1, r1, y, ev, q1⟩ => ⟨I1.kIn, ?_⟩) hpl
  subst ev
  obtain ⟨u, rfl, ru⟩ := vals1 r1
  rw [hks]
  show wpAny _ _ (call (.ref C) [] [(fn, u)]) _ _ _
  obtain ⟨hp, g, dr, tk, os⟩ := s1
  have kk : ∀ b o, hp.get? b = some o → ((hp.push (PySem.W.kdv_tup [])).push (PySem.HandSPX.excO C hp.objs.size)).get? b = some o := fun b o z => Heap.get?_push_of_some _ (Heap.get?_push_of_some _ z)
  have hget : ((hp.push (PySem.W.kdv_tup [])).push (PySem.HandSPX.excO C hp.objs.size)).get? (hp.objs.size + 1) = some (PySem.HandSPX.excO C hp.objs.size) := by heap_get
  have no : hp.get? (hp.objs.size + 1) = none := by
    cases z : hp.get? (hp.objs.size + 1) with
    | none => rfl
    | some o => exact absurd (Heap.lt_size z) (Nat.not_lt.mpr (Nat.le_succ _))
  have kIn : X.K.In hp := I1.kIn
  refine wpAny_call (PySem.kw_call_own PySem.F.excBase_ValueError (fun Y => PySem.HandSPX.refsVE_contains Y bm hbm) (kIn _ _ hC) (PySem.W.looks_findIn kIn S.ini) (fun self => PySem.W.bind_fn kIn self S.tyI) (show 0 ≤ sizeLine by decide) ?_)
  have glob : hp.Ns mainGlobals X.mg := I1.ok.mod.glob.keeps I1.bk
  obtain ⟨mb, b1, b2⟩ := I1.ok.mod.blt
  have hlim : hp.NoLimit := I1.nolimit
  refine sup_init true S htop (s := ⟨(hp.push (PySem.W.kdv_tup [])).push (PySem.HandSPX.excO C hp.objs.size), g, dr, tk, os⟩) (kIn.keeps kk) (glob.keeps kk) ⟨mb, (b1.keeps I1.bk).keeps kk, (b2 _ (by decide)).trans rfl⟩ (hlim.keeps kk) (room.make C [] [(fn, u)]).depth hget ?_ ?_
  · cases z : X.K.lookup (hp.objs.size + 1) with
    | none => rfl
    | some o => have := kIn _ _ z; rw [no] at this; cases this
  · intro h' tk' dx t1 kp hdx dne hx hn
    refine ⟨rfl, ?_⟩
    obtain ⟨G, g1, g2⟩ := restrict h' fun b => decide (b ≠ hp.objs.size + 1)
    have gk : ∀ b, b ≠ hp.objs.size + 1 → G.get? b = h'.get? b := fun b hb => g1 b (decide_eq_true hb)
    have ge : G.get? (hp.objs.size + 1) = none := g2 _ (by simp)
    have up : ∀ b o, hp.get? b = some o → G.get? b = some o := fun b o z => by
      have hb : b ≠ hp.objs.size + 1 := fun w => by rw [w, no] at z; cases z
      rw [gk b hb]
      exact kp b o hb (kk b o z)
    have dn : hp.get? dx = none := by
      cases z : hp.get? dx with
      | none => rfl
      | some o => have := kk _ _ z; rw [hdx] at this; cases this
    have Hd : H1 dx = none := I1.hok.gone dn
    have J : Inv X pins σ (upd H1 dx (.xd [(fn, y)])) ⟨G, g, dr, tk', os⟩ := I1.laidN (t' := tk') up dn Hd (show ObjOk X.prog X.w _ _ _ (.xd [(fn, y)]) from ⟨_, hn.at fun o z => (gk dx dne).trans z, relO_put (fs := []) ru fun g => True.intro⟩)
    have Ha : (upd H1 dx (.xd [(fn, y)])) (hp.objs.size + 1) = none := by
      rw [upd_ne (Ne.symm dne)]
      exact I1.hok.gone no
    refine ⟨hp.objs.size + 1, _, _, ⟨G, g, dr, tk', os⟩, _, .ref C, some dx, rfl, J, fun b o z => ?_, ge, hx, ⟨rfl, rfl⟩, rfl, rfl, Ha, rfl, I1.bare, raises_own S.oex.exC S.oex.tyC, q1 dx Hd⟩
    by_cases hb : b = hp.objs.size + 1
    · have z : G.get? b = some o := z
      rw [hb, ge] at z; cases z
    · exact (gk b hb).symm.trans z
end
section
variable {X : Cx} {Wx : WX} {C fI : Addr} {fn : Str}
theorem ds_raiseK {k : Nat} {x : Str} {e : Expr} {fv : M VR} {p pos pos' kp : Pos} (B : Bd X Wx (k + 1)) (S : SupC X.prog X.K X.mg C fI fn) (htop : (X.prog.main.scope.names.lookup ("super" : Str)).isSome = false) (hm : X.mg x = some (.ref C)) (ha : DV X Wx e fv) (hg : Gl X x := by rfl)
    (hall : (backToKw pos (keywordEach [⟨some fn, e, kp⟩] X.env)).all (·.1.isSome) = true := by rfl) (hks : (backToKw pos (keywordEach [⟨some fn, e, kp⟩] X.env)).filterMap (·.1) = [fn] := by rfl) (hdb : (x == ("__debug__" : Str)) = false := by decide)
    (hpl : ((backTo pos (starEach [] X.env)).any (·.1) || (backToKw pos (keywordEach [⟨some fn, e, kp⟩] X.env)).any (·.1.isNone)) = false := by rfl) :
    DS X Wx (.Raise (some (.Call (.Name x p) [] [⟨some fn, e, kp⟩] pos)) none pos') (dRaiseF C fn fv) := ⟨fun pins s σ H D I h => (ps_raise B.calm B.tk (pmk_supK S htop B.room.old hg hm (pk_cons ha pk_nil) hall hks hdb hpl)).run pins s σ H D I (by
  obtain ⟨g, s, c⟩ := h.start
  refine c.bind.mono fun y H1 ⟨r, g1, s1, c1, r1, e1⟩ => ?_
  show ∃ y', [y] = [y'] ∧ _
  refine ⟨y, rfl, fun dx hd => ?_⟩
  rcases frz_res r s1 with ⟨d, s2, q⟩ | q
  · obtain ⟨g2, sd2, ev2, rp, _, _⟩ := frz_run q c1.ev c1.sd r1
    have p := c1.post
    rw [bind_eq, q] at p
    exact p (.ref C) (some dx) σ g2 _ (sd2.alloc hd) (ev2.trans (sd2.allocEv hd)) ⟨rfl, .inr ⟨dx, [(fn, y)], rfl, upd_same, rfl, .cons rp .nil⟩⟩
  · exact (c1.notBad (by rw [bind_eq, q])).elim)⟩
def dRaise1 (C : Addr) (fe : M T) : M Flow := fe >>= fun _ => fun s => .err ⟨C, []⟩ s
theorem ds_raise1 {x : Str} {e : Expr} {fe : M T} {p pos pos' : Pos} {bmB : List Value} {B newId initId : String} (hc : X.calm = true) (tk : Takes X Wx) (F : ExcBaseFacts B newId initId bmB) (q : PySem.W.excIn X.K C bmB newId = true) (gC : X.mg x = some (.ref C)) (kC : PySem.W.keepIn X.K (.ref C) = true) (r : Raises X (.ref C)) (he : DE X Wx e fe) (hg : Gl X x := by rfl)
    (hs : starEach [e] X.env = (false, eval e X.env) :: starEach [] X.env := by rfl) (hdb : (x == ("__debug__" : Str)) = false := by decide) : DS X Wx (.Raise (some (.Call (.Name x p) [e] [] pos)) none pos') (dRaise1 C fe) :=
  ⟨fun pins s σ H D I h => (ps_raise hc tk (SkE.pmk_own1 F q gC kC r hg he hs hdb)).run pins s σ H D I (by
    obtain ⟨g, s, c⟩ := h.start
    refine c.bind.mono fun y H1 ⟨t, g1, s1, c1, r1, e1⟩ => ?_
    exact c1.post (.ref C) none σ g1 H1 c1.sd c1.ev ⟨rfl, .inl ⟨rfl, rfl⟩⟩)⟩
end
end DL
set_option Elab.async false
set_option linter.all false
set_option maxRecDepth 100000
set_option maxHeartbeats 2000000
namespace DL
open PySem PySem.Spec PyProof.Rows L2
def txtOf : PyData → Str
  | .str x => x
  | p => p.shown
def strAD : List D → Option T
  | [d] => match toPy d with
    | some p => if shows p = true then some (.fz (.str (txtOf p))) else none
    | none => none
  | _ => none
theorem call_strAD {X : Cx} (hg : X.A.guards = some []) (hu : X.A.units + 64 < cLine) : CallR X (.type "str") (fun xs H Q => ∃ v p, xs = [v] ∧ Dp X.K H v p ∧ shows p = true ∧ Q (.str (txtOf p)) H) := by
  intro pins s σ H xs us Q I r h
  obtain ⟨v, p, rfl, hp, hs, q⟩ := h
  obtain ⟨u, rfl, ru⟩ := vals1 r
  unfold shows at hs
  rw [Bool.and_eq_true, Bool.and_eq_true, decide_eq_true_eq, decide_eq_true_eq] at hs
  obtain ⟨⟨h1, h2⟩, h3⟩ := hs
  obtain ⟨as, rd⟩ := hp.reads I p v u ru
  have hd := pyNoDict hp
  have fin : ∀ {a : Addr}, u = .ref a → (∀ x, p ≠ .str x) → wpAny (model X.prog X.w) X.A (call (.type "str") [u]) (EP X pins σ Q) X.xe s := by
    rintro a rfl no
    have e : txtOf p = p.shown := by
      cases p with
      | str x => exact absurd rfl (no x)
      | _ => rfl
    rw [e] at q
    exact str_of_reads rd h1 (PyData.noDict_hsm hd) hg (by omega) (fun _ _ e => e) (fun h' t tk k => ⟨.str _, H, I.kept k, ⟨_, rfl⟩, q⟩) h2
  cases p with
  | none => cases hp; cases ru; exact PySem.P.str_of_none ⟨.str _, H, I.tok _, ⟨_, rfl⟩, q⟩
  | bool b => cases hp; cases ru; exact PySem.P.str_of_bool ⟨.str _, H, I.tok _, ⟨_, rfl⟩, q⟩
  | int i => cases hp; obtain ⟨t, rfl⟩ := ru; exact PySem.P.str_of_int (of_decide_eq_true h1) ⟨.str _, H, I.tok _, ⟨_, rfl⟩, q⟩
  | str x => cases hp; obtain ⟨t, rfl⟩ := ru; exact PySem.P.str_of_str ⟨.str _, H, I.tok _, ⟨_, rfl⟩, q⟩
  | list ps => cases hp; exact fin ru fun _ z => nomatch z
  | tuple ps => cases hp; exact fin ru fun _ z => nomatch z
  | dict _ => cases hp
theorem c_strA {X : Cx} {k : Nat} (room : Room k X.A) : CallD X (.type "str") strAD := by
  refine ⟨_, call_strAD room.gd room.units, fun g H σ s xs ds t Q sd hxs hh f => ?_⟩
  unfold strAD at hh
  split at hh
  · rename_i d
    obtain ⟨x, rfl, hx⟩ := hxs.one
    cases e : toPy d with
    | none => simp only [e] at hh; cases hh
    | some p =>
      simp only [e] at hh
      by_cases hs : shows p = true
      · rw [if_pos hs] at hh; cases hh
        exact ⟨x, p, rfl, hx.dp sd e, hs, f.fz sd (.str _)⟩
      · rw [if_neg hs] at hh; cases hh
  · cases hh
def bEq (k : Bool) : Value → Bool
  | .bool c => c == k
  | _ => false
theorem bools_of {bs : List Bool} : ∀ {its : List Value}, Vals (bs.map V.bl) its → its = bs.map Value.bool := by
  induction bs with
  | nil => intro its h; cases h; rfl
  | cons b bs ih =>
    intro its h
    cases h with
    | cons a r => cases (show _ = Value.bool b from a); rw [ih r]; rfl
def rCntB (K : PySem.W.Frag) : V → List V → Hp → VK → Prop := fun x xs H Q => ∃ (p : Addr) (bs : List Bool) (k : Bool), x = .ref p ∧ xs = [.bl k] ∧ SqL K H p (bs.map V.bl) ∧ Q (.int (bs.count k : Nat)) H
theorem mt_countB {X : Cx} : MtR X "list.count" (rCntB X.K) := by
  intro pins s σ H x xs v us Q I rx rxs h
  obtain ⟨p, bs, k, rfl, rfl, hs, q⟩ := h
  cases rx
  obtain ⟨u, rfl, ru⟩ := rxs.one
  cases (show u = Value.bool k from ru)
  obtain ⟨its, rv, ⟨⟨cls, dd, data, sl⟩, n, ho, hc, hdn, hd⟩, hlen⟩ := I.list hs
  simp only at hc hd
  subst hc hd
  obtain rfl := bools_of rv
  refine call_meets PySem.F.slot_list_count ⟨_, ho, rfl⟩ PySem.F.entry_list_count (PySem.F.args_list_count_2 _ _)
    (SeqAt.list_countAt p (bs.map Value.bool).toArray n dd sl (.bool k) (bEq k)) ⟨ho, fun y hy => ?_, ?_⟩
  · have hy : y ∈ bs.map Value.bool := by simpa using hy
    obtain ⟨b, _, rfl⟩ := List.mem_map.mp hy
    exact SeqAt.EqAt.bool_bool b k
  · have ec : (bs.map Value.bool).toArray.toList.countP (bEq k) = bs.count k := by
      show (bs.map Value.bool).countP (bEq k) = bs.count k
      rw [List.countP_map]; rfl
    refine ⟨.int (bs.count k : Nat), H, I.tok _, ⟨s.toks, ?_⟩, q⟩
    show Value.int (((bs.map Value.bool).toArray.toList.countP (bEq k) : Nat) : Int) s.toks = Value.int ((bs.count k : Nat) : Int) s.toks
    rw [ec]
def blsOf : List D → Option (List Bool)
  | [] => some []
  | .bl b :: ds => (blsOf ds).map (b :: ·)
  | _ :: _ => none
theorem blsOf_reps {K : PySem.W.Frag} {g : Gh} : ∀ {ds : List D} {ys : List V} {bs : List Bool}, Reps K g ys ds → blsOf ds = some bs → ys = bs.map V.bl
  | [], _, _, .nil, e => by cases e; rfl
  | d :: ds, _, bs, .cons a r, e => by
    cases d with
    | bl b =>
      cases a
      have e : (blsOf ds).map (b :: ·) = some bs := e
      cases q : blsOf ds with
      | none => rw [q] at e; cases e
      | some bs' => rw [q] at e; cases e; rw [blsOf_reps r q]; rfl
    | _ => cases e
def countB : D → D → Option T
  | .lst ds, .bl k => (blsOf ds).map fun bs => .fz (.int ((bs.count k : Nat) : Int))
  | _, _ => none
def dCountB (fo fe : M VR) : M T := fo >>= fun x => readV x >>= fun d0 => chk (isLstD d0) >>= fun _ => fe >>= fun y => readV x >>= fun d => readV y >>= fun e => opt (countB d e)
section
variable {X : Cx} {Wx : WX}
theorem de_countB {o e : Expr} {fo fe : M VR} {apos cpos : Pos} (ho : DV X Wx o fo) (he : DV X Wx e fe)
    (h1 : attributeBase o "count" X.env (eval o X.env) = eval o X.env := by rfl)
    (h2 : ((backTo cpos (starEach (e :: []) X.env)).all (fun x => !x.1) && (backToKw cpos (keywordEach [] X.env)).all (fun x => x.1.isSome) && decide ((e :: []).length + ([] : List Keyword).length + (if ([] : List Keyword).isEmpty then 0 else 1) < 30)) = true := by rfl)
    (h3 : (apos.endLine == cpos.line) = true := by rfl) (h4 : starEach (e :: []) X.env = (false, eval e X.env) :: starEach [] X.env := by rfl) (h5 : (backTo cpos (starEach [] X.env)).any (·.1) = false := by rfl) :
    DE X Wx (.Call (.Attribute o "count" apos) [e] [] cpos) (dCountB fo fe) := by
  exact ⟨fun pins s σ H Q I q => (pe_bm PySem.F.plainAttrs_list PySem.F.slot_list_count PySem.F.type_list_count mt_countB ho (pa_cons he pa_nil h4) h1 h2 h3 h4 h5).run pins s σ H Q I (by
  obtain ⟨g, s, c⟩ := q.start
  refine c.bind.mono fun x H1 ⟨x', g1, s1, c1, r1, e1⟩ => ?_
  obtain ⟨d0, c2, v2⟩ := c1.read r1
  obtain ⟨hd, c3⟩ := c2.chk
  cases d0 with
  | lst ds0 =>
    obtain ⟨a, xs, rfl, hx, _⟩ := v2.lst c1.sd
    refine ⟨.inl ⟨rfl, xs, .of hx⟩, c3.bind.mono fun y H2 ⟨y', g2, s2, c4, r4, e4⟩ => ?_⟩
    obtain ⟨d, c5, v5⟩ := c4.read (r1.ev e4)
    obtain ⟨k, c6, v6⟩ := c5.read r4
    cases q : countB d k with
    | none => exact (c6.notBad (by rw [q]; rfl)).elim
    | some t =>
      have f := c6.fin (t := t) (by rw [q]; rfl)
      unfold countB at q
      split at q
      · rename_i ds k
        cases qj : blsOf ds with
        | none => rw [qj] at q; cases q
        | some bs =>
          rw [qj] at q; cases q
          obtain ⟨a', ys, ea, hy, ry⟩ := v5.lst c4.sd
          cases ea
          cases v6.bl
          obtain rfl := blsOf_reps ry qj
          exact ⟨a, bs, k, rfl, rfl, .of hy, f.fz c4.sd (.int _)⟩
      · cases q
  | _ => cases hd)⟩
theorem bt_ValueError : bootBuiltins "ValueError" = some (.type "ValueError") := by decide +kernel
variable {e : Expr} {fa : M VR} {p p1 pos : Pos} {x1 nt : Str} {ct : Addr → Option Bool}
theorem de_isXT {nt : String} {x1 : Str} (ha : DV X Wx e fa) (hg : Gl X "isinstance") (hm : X.mg "isinstance" = none) (hg1 : Gl X x1) (hm1 : X.mg x1 = none) (hb : bootBuiltins x1 = some (.type nt)) (hk : ∀ C b, ct C = some b → ExcK X.K C ∧ PySem.W.kitOne X.K (.ref C) (.type nt) = some b) (hn : PySem.W.kitOne X.K (.type "NoneType") (.type nt) = some false) (hn1 : x1 ≠ "__name__" := by decide) (hd1 : (x1 == ("__debug__" : Str)) = false := by decide)
    (hs1 : starEach [e, .Name x1 p1] X.env = (false, eval e X.env) :: starEach [.Name x1 p1] X.env := by rfl) (hs2 : starEach [.Name x1 p1] X.env = (false, eval (.Name x1 p1) X.env) :: starEach [] X.env := by rfl)
    (hpl : (backTo pos (starEach [.Name x1 p1] X.env)).any (·.1) = false := by rfl) :
    DE X Wx (.Call (.Name "isinstance" p) [e, .Name x1 p1] [] pos) (dIsX ct fa) := by
  have both : CallR X (.builtin "isinstance") (fun xs H Q => rIsi X.K xs H Q ∨ rIsiX X.K xs H Q) := fun pins s σ H xs us Q I r h => h.elim (call_isi pins s σ H xs us Q I r) (call_isiX pins s σ H xs us Q I r)
  refine ⟨fun pins s σ H Q I q => (pe_callB both hg hm (by decide +kernel) (pa_cons ha (pa_cons (pe_bltn (v := .ty nt) hg1 hm1 hb rfl hn1 hd1) pa_nil hs2) hs1) (by decide) (by decide) hs1 hpl).run pins s σ H Q I ?_⟩
  obtain ⟨g, s, c⟩ := q.start
  show tV X.K Wx fa σ H _
  refine c.bind.mono fun x H1 ⟨x', g1, s1, c1, r1, e1⟩ => ?_
  obtain ⟨d, c3, v1⟩ := c1.read r1
  cases q : isX ct d with
  | none => exact (c3.notBad (by rw [q]; rfl)).elim
  | some t =>
    have f := c3.fin (t := t) (by rw [q]; rfl)
    unfold isX at q
    split at q
    · rename_i C fs
      cases qc : ct C with
      | none => rw [qc] at q; cases q
      | some b =>
        rw [qc] at q; cases q
        obtain ⟨k1, k2⟩ := hk C b qc
        cases v1.sc (fun _ z => z) with
        | exc ga xd ek rr =>
          have ea := c1.sd.here ga rfl
          have xh : XdAt H1 _ _ := xd.elim .inl fun ⟨dd, e, h⟩ => .inr ⟨dd, e, c1.sd.here h rfl⟩
          exact .inr ⟨_, C, _, _, .ty nt, .type nt, b, rfl, .ty nt, ea, xh, k1, k2, f.fz c1.sd (.bl b)⟩
    · cases q
      cases v1.non
      exact .inl ⟨.non, .ty nt, .type "NoneType", .type nt, false, rfl, .ty nt, .base .non, hn, f.fz c1.sd (.bl false)⟩
    · cases q
end
end DL
set_option Elab.async false
set_option linter.all false
set_option maxRecDepth 100000
set_option maxHeartbeats 2000000
namespace DL
open PySem PySem.Spec PyProof.Rows L2
section
variable {K : PySem.W.Frag} {C : Addr}
theorem kitM_V : PySem.W.kitMeta "ValueError" = true := by decide +kernel
theorem kit_vt (h : PySem.W.subIn K (.ref C) (.type "ValueError") = some true) : PySem.W.kitOne K (.ref C) (.type "ValueError") = some true := by
  unfold PySem.W.kitOne
  rw [if_neg (show ¬ ((Value.ref C == Value.type "ValueError") = true) from fun z => nomatch (beq_iff_eq.mp z))]
  show (if PySem.W.kitMeta "ValueError" = true then PySem.W.subIn K (.ref C) (.type "ValueError") else none) = some true
  rw [if_pos kitM_V, h]
theorem kit_vn (h : PySem.W.subIn K (.type "NoneType") (.type "ValueError") = some false) : PySem.W.kitOne K (.type "NoneType") (.type "ValueError") = some false := by
  unfold PySem.W.kitOne
  rw [if_neg (show ¬ ((Value.type "NoneType" == Value.type "ValueError") = true) from by decide)]
  show (if PySem.W.kitMeta "ValueError" = true then PySem.W.subIn K (.type "NoneType") (.type "ValueError") else none) = some false
  rw [if_pos kitM_V, h]
end
structure SupS (st : Stmt) (qual fn : Str) : Prop where
  ar : ∃ ar, ((defArgs st).posonlyargs ++ (defArgs st).args).head? = some ar ∧ ar.arg = "self"
  body : ∃ (msg : Str) (j : Nat) (p0 p1 p2 p3 p4 p5 q0 q1 q2 q3 : Pos), defBody st = [.Expr (.Call (.Attribute (.Call (.Name "super" p0) [] [] p1) "__init__" p2) [.Constant (.str msg) j p3] [] p4) p5, .Assign [.Attribute (.Name "self" q0) fn q1] (.Name fn q2) q3] ∧ ∃ pl : Sem Bool, ∀ (kV doc pm ct : Value) (an : Option Addr) (cda cc fI L : Addr), eval (.Call (.Attribute (.Call (.Name "super" p0) [] [] p1) "__init__" p2) [.Constant (.str msg) j p3] [] p4) (callEnv (PySem.W.ksFn "__init__" qual (defArgs st) (defBody st) (defScope st) .none kV doc pm an (.ref cda) ct cc) L fI) = (do
      let ov ← attributeBase (.Call (.Name "super" p0) [] [] p1) "__init__" (callEnv (PySem.W.ksFn "__init__" qual (defArgs st) (defBody st) (defScope st) .none kV doc pm an (.ref cda) ct cc) L fI) (eval (.Call (.Name "super" p0) [] [] p1) (callEnv (PySem.W.ksFn "__init__" qual (defArgs st) (defBody st) (defScope st) .none kV doc pm an (.ref cda) ct cc) L fI))
      standAt p2.atName
      let (f, first) ← holding [ov] (getMethod ov "__init__" pl)
      callWith p4 f first (backTo p4 (starEach [.Constant (.str msg) j p3] (callEnv (PySem.W.ksFn "__init__" qual (defArgs st) (defBody st) (defScope st) .none kV doc pm an (.ref cda) ct cc) L fI))) [])
  sc : (defScope st).names.lookup ("self" : Str) = some .local ∧ (defScope st).names.lookup fn = some .local ∧ (defScope st).names.lookup ("super" : Str) = some .globalImplicit ∧ (defScope st).names.lookup ("__class__" : Str) = some .free
  sk : (∀ x ∈ (defScope st).names, x.2 ≠ .cell) ∧ (defScope st).isCoroutine = false ∧ (defScope st).isGenerator = false ∧ (defScope st).kind = .function
  b1 : ∀ (kV doc pm ct : Value) (an : Option Addr) (cda cc : Addr) (a v : Value), bindArgs (PySem.W.ksFn "__init__" qual (defArgs st) (defBody st) (defScope st) .none kV doc pm an (.ref cda) ct cc) ⟨[a, v], []⟩ = pure [(("self" : Str), a), (fn, v)]
  b2 : ∀ (kV doc pm ct : Value) (an : Option Addr) (cda cc : Addr) (a v : Value), bindArgs (PySem.W.ksFn "__init__" qual (defArgs st) (defBody st) (defScope st) .none kV doc pm an (.ref cda) ct cc) ⟨[a], [(fn, v)]⟩ = pure [(("self" : Str), a), (fn, v)]
  n1 : (fn == ("self" : Str)) = false
  n2 : (fn == ("__debug__" : Str)) = false
  n3 : (fn == ("__classdict__" : Str)) = false
theorem supC_mk {prog : Program} {K : PySem.W.Frag} {mg : Str → Option Value} {C fI N cda cc : Addr} {fn nm q qual file : Str} {st : Stmt} {bs bm : List Value} {sn : List Str} {sub : List Value} {ab : Bool} {col : Option Bool} {dd od an cdd cld : Option Addr} {k0 k1 k2 k3 k5 : Option Value} {oc kV doc pm ct ccl cl : Value} {osl ccs csl : Array (Option Value)} {vs : Array Value} {tf : Tok} (S : SupS st qual fn)
    (xL : K.lookup C = some (excClassObj nm q C N bs bm true sn sub ab col dd k0 k1 k2 k3 k5 "ValueError.__new__")) (hv : PySem.HandSPX.refsVE bm = true)
    (sa : PySem.W.findIn K (.ref C) "__setattr__" = some (some (.builtin "object.__setattr__"))) (exC : PySem.W.subIn K (.ref C) (.type "BaseException") = some true) (tyC : PySem.W.typeIn K (.ref C) = some (.type "type")) (kC : PySem.W.keepIn K (.ref C) = true)
    (ini : PySem.W.findIn K (.ref C) "__init__" = some (some (.ref fI))) (tyI : PySem.W.typeIn K (.ref fI) = some (.type "function")) (no : PySem.W.findIn K (.ref C) fn = some none) (opq : PySem.W.nsIn K cStatics "thirdparty.any" = some none)
    (sup : PySem.W.ks_superIn K C C "__init__" = some (some (.builtin "ValueError.__init__"))) (isV : PySem.W.subIn K (.ref C) (.type "ValueError") = some true) (own : PySem.W.mroIn K C (.ref C) = some true) (gl : mg "super" = none)
    (l : K.lookup fI = some ⟨oc, od, .func (PySem.W.ksFn "__init__" qual (defArgs st) (defBody st) (defScope st) .none kV doc pm an (.ref cda) ct cc), osl⟩) (hcd : PySem.W.codeIn K (.ref cda) qual = true)
    (hcode : K.lookup cda = some ⟨ccl, cdd, .fields vs, ccs⟩) (hvs : vs[2]? = some (.str file tf)) (hfile : ((prog.main.file : Str) == file) = true) (hcell : K.lookup cc = some ⟨cl, cld, .cell (some (.ref C)), csl⟩) : SupC prog K mg C fI fn where
  oex := ⟨⟨nm, q, N, bs, bm, sn, sub, ab, col, dd, k0, k1, k2, k3, k5, xL, hv⟩, sa, exC, tyC, kC⟩
  ini := ini
  tyI := tyI
  no := no
  opq := opq
  sup := sup
  isV := isV
  own := own
  gl := gl
  fun_ := by
    obtain ⟨msg, j, p0, p1, p2, p3, p4, p5, q0, q1, q2, q3, eb, pl, ev⟩ := S.body
    exact ⟨oc, od, qual, _, _, _, _, kV, doc, pm, ct, an, cda, cc, osl, l, hcd, ⟨ccl, cdd, vs, ccs, file, tf, hcode, hvs, hfile⟩, ⟨cl, cld, csl, hcell⟩, S.ar, ⟨msg, j, p0, p1, p2, p3, p4, p5, q0, q1, q2, q3, eb, pl, fun L => ev kV doc pm ct an cda cc fI L⟩, S.sc, S.sk, S.b1 kV doc pm ct an cda cc, S.b2 kV doc pm ct an cda cc, S.n1, S.n2, S.n3⟩
end DL
set_option linter.all false
set_option maxRecDepth 100000
namespace Law
open PySem DL
def F_law_caught (a_HourError : Addr) : M DL.Flow := dRetV 1
def F_law_raised (a_NoEvent : Addr) (a_NoSource : Addr) (a_NoStation : Addr) (a_NoOperation : Addr) (a_TooMany : Addr) (a_InvalidText : Addr) (a_NoNetwork : Addr) (a_NoMoment : Addr) (a_NoClock : Addr) (a_NoSpans : Addr) (a_NoReading : Addr) (a_NoPoint : Addr) (a_NothingLeft : Addr) : M DL.Flow := dSeq (dIf (dB (dOp2 eqT (dSlot 0) (dV (dC (.str "event"))))) (dRaiseF a_NoEvent "index" (dSlot 1)) (dNx)) 
        (dSeq (dIf (dB (dOp2 eqT (dSlot 0) (dV (dC (.str "source"))))) (dRaiseF a_NoSource "name" (dSlot 1)) (dNx)) 
        (dSeq (dIf (dB (dOp2 eqT (dSlot 0) (dV (dC (.str "station"))))) (dRaiseF a_NoStation "name" (dSlot 1)) (dNx)) 
        (dSeq (dIf (dB (dOp2 eqT (dSlot 0) (dV (dC (.str "operation"))))) (dRaiseF a_NoOperation "index" (dSlot 1)) (dNx)) 
        (dSeq (dIf (dB (dOp2 eqT (dSlot 0) (dV (dC (.str "many"))))) (dRaiseF a_TooMany "most" (dSlot 1)) (dNx)) 
        (dSeq (dIf (dB (dOp2 eqT (dSlot 0) (dV (dC (.str "text"))))) (dRaiseF a_InvalidText "line" (dSlot 1)) (dNx)) 
        (dSeq (dIf (dB (dOp2 eqT (dSlot 0) (dV (dC (.str "network"))))) (dRaise1 a_NoNetwork (dCallB strAD (dCons (dSlot 1) (dNil)))) (dNx)) 
        (dSeq (dIf (dB (dOp2 eqT (dSlot 0) (dV (dC (.str "moment"))))) (dRaise1 a_NoMoment (dCallB strAD (dCons (dSlot 1) (dNil)))) (dNx)) 
        (dSeq (dIf (dB (dOp2 eqT (dSlot 0) (dV (dC (.str "clock"))))) (dRaise1 a_NoClock (dCallB strAD (dCons (dSlot 1) (dNil)))) (dNx)) 
        (dSeq (dIf (dB (dOp2 eqT (dSlot 0) (dV (dC (.str "spans"))))) (dRaise1 a_NoSpans (dCallB strAD (dCons (dSlot 1) (dNil)))) (dNx)) 
        (dSeq (dIf (dB (dOp2 eqT (dSlot 0) (dV (dC (.str "reading"))))) (dRaise1 a_NoReading (dCallB strAD (dCons (dSlot 1) (dNil)))) (dNx)) 
        (dSeq (dIf (dB (dOp2 eqT (dSlot 0) (dV (dC (.str "point"))))) (dRaise1 a_NoPoint (dCallB strAD (dCons (dSlot 1) (dNil)))) (dNx)) 
        (dRaise1 a_NothingLeft (dCallB strAD (dCons (dSlot 1) (dNil)))))))))))))))
def F_law_field (a_NoEvent : Addr) (a_NoSource : Addr) (a_NoStation : Addr) (a_NoOperation : Addr) (a_TooMany : Addr) (a_InvalidText : Addr) (a_NoNetwork : Addr) (a_NoMoment : Addr) (a_NoClock : Addr) (a_NoSpans : Addr) (a_NoReading : Addr) (a_NoPoint : Addr) (a_NothingLeft : Addr) : M DL.Flow := dSeq (dAsg 1 (dLst (dCons (dV (dIsX (ctL [(a_NoEvent, true), (a_NoSource, false), (a_NoStation, false), (a_NoOperation, false), (a_TooMany, false), (a_InvalidText, false), (a_NoNetwork, false), (a_NoMoment, false), (a_NoClock, false), (a_NoSpans, false), (a_NoReading, false), (a_NoPoint, false), (a_NothingLeft, false)]) (dSlot 0))) (dCons (dV (dIsX (ctL [(a_NoEvent, false), (a_NoSource, true), (a_NoStation, false), (a_NoOperation, false), (a_TooMany, false), (a_InvalidText, false), (a_NoNetwork, false), (a_NoMoment, false), (a_NoClock, false), (a_NoSpans, false), (a_NoReading, false), (a_NoPoint, false), (a_NothingLeft, false)]) (dSlot 0))) (dCons (dV (dIsX (ctL [(a_NoEvent, false), (a_NoSource, false), (a_NoStation, true), (a_NoOperation, false), (a_TooMany, false), (a_InvalidText, false), (a_NoNetwork, false), (a_NoMoment, false), (a_NoClock, false), (a_NoSpans, false), (a_NoReading, false), (a_NoPoint, false), (a_NothingLeft, false)]) (dSlot 0))) (dNil)))))) 
        (dSeq (dAsg 1 (dOp2 addD (dSlot 1) (dV (dLst (dCons (dV (dIsX (ctL [(a_NoEvent, false), (a_NoSource, false), (a_NoStation, false), (a_NoOperation, true), (a_TooMany, false), (a_InvalidText, false), (a_NoNetwork, false), (a_NoMoment, false), (a_NoClock, false), (a_NoSpans, false), (a_NoReading, false), (a_NoPoint, false), (a_NothingLeft, false)]) (dSlot 0))) (dCons (dV (dIsX (ctL [(a_NoEvent, false), (a_NoSource, false), (a_NoStation, false), (a_NoOperation, false), (a_TooMany, true), (a_InvalidText, false), (a_NoNetwork, false), (a_NoMoment, false), (a_NoClock, false), (a_NoSpans, false), (a_NoReading, false), (a_NoPoint, false), (a_NothingLeft, false)]) (dSlot 0))) (dCons (dV (dIsX (ctL [(a_NoEvent, false), (a_NoSource, false), (a_NoStation, false), (a_NoOperation, false), (a_TooMany, false), (a_InvalidText, true), (a_NoNetwork, false), (a_NoMoment, false), (a_NoClock, false), (a_NoSpans, false), (a_NoReading, false), (a_NoPoint, false), (a_NothingLeft, false)]) (dSlot 0))) (dNil)))))))) 
        (dSeq (dAsg 1 (dOp2 addD (dSlot 1) (dV (dLst (dCons (dV (dIsX (ctL [(a_NoEvent, false), (a_NoSource, false), (a_NoStation, false), (a_NoOperation, false), (a_TooMany, false), (a_InvalidText, false), (a_NoNetwork, true), (a_NoMoment, false), (a_NoClock, false), (a_NoSpans, false), (a_NoReading, false), (a_NoPoint, false), (a_NothingLeft, false)]) (dSlot 0))) (dCons (dV (dIsX (ctL [(a_NoEvent, false), (a_NoSource, false), (a_NoStation, false), (a_NoOperation, false), (a_TooMany, false), (a_InvalidText, false), (a_NoNetwork, false), (a_NoMoment, true), (a_NoClock, false), (a_NoSpans, false), (a_NoReading, false), (a_NoPoint, false), (a_NothingLeft, false)]) (dSlot 0))) (dCons (dV (dIsX (ctL [(a_NoEvent, false), (a_NoSource, false), (a_NoStation, false), (a_NoOperation, false), (a_TooMany, false), (a_InvalidText, false), (a_NoNetwork, false), (a_NoMoment, false), (a_NoClock, true), (a_NoSpans, false), (a_NoReading, false), (a_NoPoint, false), (a_NothingLeft, false)]) (dSlot 0))) (dNil)))))))) 
        (dSeq (dAsg 1 (dOp2 addD (dSlot 1) (dV (dLst (dCons (dV (dIsX (ctL [(a_NoEvent, false), (a_NoSource, false), (a_NoStation, false), (a_NoOperation, false), (a_TooMany, false), (a_InvalidText, false), (a_NoNetwork, false), (a_NoMoment, false), (a_NoClock, false), (a_NoSpans, true), (a_NoReading, false), (a_NoPoint, false), (a_NothingLeft, false)]) (dSlot 0))) (dCons (dV (dIsX (ctL [(a_NoEvent, false), (a_NoSource, false), (a_NoStation, false), (a_NoOperation, false), (a_TooMany, false), (a_InvalidText, false), (a_NoNetwork, false), (a_NoMoment, false), (a_NoClock, false), (a_NoSpans, false), (a_NoReading, true), (a_NoPoint, false), (a_NothingLeft, false)]) (dSlot 0))) (dCons (dV (dIsX (ctL [(a_NoEvent, false), (a_NoSource, false), (a_NoStation, false), (a_NoOperation, false), (a_TooMany, false), (a_InvalidText, false), (a_NoNetwork, false), (a_NoMoment, false), (a_NoClock, false), (a_NoSpans, false), (a_NoReading, false), (a_NoPoint, true), (a_NothingLeft, false)]) (dSlot 0))) (dNil)))))))) 
        (dSeq (dExpr (dAppend 1 (dV (dIsX (ctL [(a_NoEvent, false), (a_NoSource, false), (a_NoStation, false), (a_NoOperation, false), (a_TooMany, false), (a_InvalidText, false), (a_NoNetwork, false), (a_NoMoment, false), (a_NoClock, false), (a_NoSpans, false), (a_NoReading, false), (a_NoPoint, false), (a_NothingLeft, true)]) (dSlot 0))))) 
        (dSeq (dIf (dOr (dB (dOp2 neT (dV (dCountB (dSlot 1) (dV (dC (.bl true))))) (dV (dC (.int 1))))) (dNot (dB (dIsX (ctL [(a_NoEvent, true), (a_NoSource, true), (a_NoStation, true), (a_NoOperation, true), (a_TooMany, true), (a_InvalidText, true), (a_NoNetwork, true), (a_NoMoment, true), (a_NoClock, true), (a_NoSpans, true), (a_NoReading, true), (a_NoPoint, true), (a_NothingLeft, true)]) (dSlot 0))))) (dRet (dC .non)) (dNx)) 
        (dSeq (dAsg 2 (dIndexB (dSlot 1) (dV (dC (.bl true))))) 
        (dSeq (dIf (dB (dOp2 inT (dSlot 2) (dV (dTup (dCons (dV (dC (.int 0))) (dCons (dV (dC (.int 3))) (dNil))))))) (dRet (dTup (dCons (dSlot 2) (dCons (dV (dExF (csL [a_NoEvent, a_NoOperation]) "index" (dSlot 0))) (dNil))))) (dNx)) 
        (dSeq (dIf (dB (dOp2 inT (dSlot 2) (dV (dTup (dCons (dV (dC (.int 1))) (dCons (dV (dC (.int 2))) (dNil))))))) (dRet (dTup (dCons (dSlot 2) (dCons (dV (dExF (csL [a_NoSource, a_NoStation]) "name" (dSlot 0))) (dNil))))) (dNx)) 
        (dSeq (dIf (dB (dOp2 eqT (dSlot 2) (dV (dC (.int 4))))) (dRet (dTup (dCons (dSlot 2) (dCons (dV (dExF (csL [a_TooMany]) "most" (dSlot 0))) (dNil))))) (dNx)) 
        (dRet (dIf (dB (dOp2 eqT (dSlot 2) (dV (dC (.int 5))))) (dTup (dCons (dSlot 2) (dCons (dV (dExF (csL [a_InvalidText]) "line" (dSlot 0))) (dNil)))) (dTup (dCons (dSlot 2) (dCons (dV (dC .non)) (dNil)))))))))))))))
def L_law_0 (a_HourError : Addr) (a_NoEvent : Addr) (a_NoSource : Addr) (a_NoStation : Addr) (a_NoOperation : Addr) (a_TooMany : Addr) (a_InvalidText : Addr) (a_NoNetwork : Addr) (a_NoMoment : Addr) (a_NoClock : Addr) (a_NoSpans : Addr) (a_NoReading : Addr) (a_NoPoint : Addr) (a_NothingLeft : Addr) (a_tab_law : Addr) : M DL.Flow := dSeq (dAsg 6 (dCall 2 [.F, .F] [] F_law_pick (dCons (dSlot 1) (dCons (dV (dLst (dCons (dV (dC .non)) (dCons (dV (dC (.int 0))) (dCons (dV (dCall 4 [.F, .F] [] F_law_take (dCons (dSlot 1) (dCons (dV (dC (.int 99))) (dNil))))) (dCons (dV (dC (.str "a"))) (dCons (dV (dTup (dCons (dV (dC (.int 1))) (dCons (dV (dC (.str "b"))) (dNil))))) (dCons (dV (dC (.bl true))) (dCons (dV (dOp1 negD (dV (dC (.int 1))))) (dCons (dV (dLst (dCons (dV (dC (.int 2))) (dNil)))) (dNil))))))))))) (dNil))))) 
            (dSeq (dAsg 7 (dLamG 0 a_tab_law "law.<locals>.<lambda>" 3 1 (ctL [(a_NoEvent, true), (a_NoSource, true), (a_NoStation, true), (a_NoOperation, true), (a_TooMany, true), (a_InvalidText, true), (a_NoNetwork, true), (a_NoMoment, true), (a_NoClock, true), (a_NoSpans, true), (a_NoReading, true), (a_NoPoint, true), (a_NothingLeft, true)]) (F_law_caught a_HourError) (dCall 2 [.F, .F] [] (F_law_raised a_NoEvent a_NoSource a_NoStation a_NoOperation a_TooMany a_InvalidText a_NoNetwork a_NoMoment a_NoClock a_NoSpans a_NoReading a_NoPoint a_NothingLeft) (dCons (dSlot 5) (dCons (dSlot 6) (dNil)))))) 
            (dIf (dB (dOp2 neS (dV (dCallB reprD (dCons (dV (dCall 3 [.F] [] (F_law_field a_NoEvent a_NoSource a_NoStation a_NoOperation a_TooMany a_InvalidText a_NoNetwork a_NoMoment a_NoClock a_NoSpans a_NoReading a_NoPoint a_NothingLeft) (dCons (dSlot 7) (dNil)))) (dNil)))) (dV (dCallB reprD (dCons (dV (dTup (dCons (dSlot 4) (dCons (dV (dIf (dB (dOp2 ltD (dSlot 4) (dV (dC (.int 6))))) (dVar 6) (dC .non))) (dNil))))) (dNil)))))) (dRet (dC (.bl false))) (dNx)))
def L_law_1 (a_HourError : Addr) (a_NoEvent : Addr) (a_NoSource : Addr) (a_NoStation : Addr) (a_NoOperation : Addr) (a_TooMany : Addr) (a_InvalidText : Addr) (a_NoNetwork : Addr) (a_NoMoment : Addr) (a_NoClock : Addr) (a_NoSpans : Addr) (a_NoReading : Addr) (a_NoPoint : Addr) (a_NothingLeft : Addr) (a_tab_law : Addr) : M DL.Flow := dFor itE (.tup [.name 4, .name 5]) ((L_law_0 a_HourError a_NoEvent a_NoSource a_NoStation a_NoOperation a_TooMany a_InvalidText a_NoNetwork a_NoMoment a_NoClock a_NoSpans a_NoReading a_NoPoint a_NothingLeft a_tab_law)) (dCons (dV (dOp2 addD (dSlot 2) (dV (dLst (dCons (dV (dC (.str "reading"))) (dCons (dV (dC (.str "point"))) (dCons (dV (dC (.str "left"))) (dNil)))))))) (dNil))
def F_law (a_HourError : Addr) (a_NoEvent : Addr) (a_NoSource : Addr) (a_NoStation : Addr) (a_NoOperation : Addr) (a_TooMany : Addr) (a_InvalidText : Addr) (a_NoNetwork : Addr) (a_NoMoment : Addr) (a_NoClock : Addr) (a_NoSpans : Addr) (a_NoReading : Addr) (a_NoPoint : Addr) (a_NothingLeft : Addr) (a_tab_law : Addr) : M DL.Flow := dSeq (dAsg 2 (dLst (dCons (dV (dC (.str "event"))) (dCons (dV (dC (.str "source"))) (dCons (dV (dC (.str "station"))) (dCons (dV (dC (.str "operation"))) (dCons (dV (dC (.str "many"))) (dCons (dV (dC (.str "text"))) (dCons (dV (dC (.str "network"))) (dCons (dV (dC (.str "moment"))) (dCons (dV (dC (.str "clock"))) (dCons (dV (dC (.str "spans"))) (dNil))))))))))))) 
        (dSeq (dFor itR1 (.name 3) ((L_law_1 a_HourError a_NoEvent a_NoSource a_NoStation a_NoOperation a_TooMany a_InvalidText a_NoNetwork a_NoMoment a_NoClock a_NoSpans a_NoReading a_NoPoint a_NothingLeft a_tab_law)) (dCons (dV (dOp2 addD (dV (dC (.int 2))) (dV (dCallB minD (dCons (dV (dCallB lenD (dCons (dSlot 0) (dNil)))) (dCons (dV (dC (.int 5))) (dNil))))))) (dNil))) 
        (dRet (dC (.bl true))))
end Law
set_option Elab.async false
set_option linter.all false
set_option maxRecDepth 100000
set_option maxHeartbeats 4000000
namespace Law
open PySem PySem.Spec PyProof.Rows L2 DL
def topS (i : Nat) : Stmt := PySem.Challenge.pw_surehour_k01_errors_by_class.main.body.getD i (.Pass ⟨0, 0, 0, 0⟩)
abbrev s_law_begin : Stmt := topS 16
theorem sc_law_begin : FnScope ["_law_script", "_law_large", "_law_cell"] ["_law_script"] (defScope s_law_begin) := ⟨rfl, rfl, rfl, by decide +kernel, rfl, by decide +kernel, by decide +kernel⟩
abbrev s_law_take : Stmt := topS 17
theorem sc_law_take : FnScope ["_law_draw", "_law_size", "_law_cell", "_law_found"] ["_law_draw", "_law_size"] (defScope s_law_take) := ⟨rfl, rfl, rfl, by decide +kernel, rfl, by decide +kernel, by decide +kernel⟩
abbrev s_law_pick : Stmt := topS 18
theorem sc_law_pick : FnScope ["_law_draw", "_law_some"] ["_law_draw", "_law_some"] (defScope s_law_pick) := ⟨rfl, rfl, rfl, by decide +kernel, rfl, by decide +kernel, by decide +kernel⟩
abbrev s_law_caught : Stmt := topS 19
theorem sc_law_caught : FnScope ["_law_work", "_law_caught_here", "e"] ["_law_work"] (defScope s_law_caught) := ⟨rfl, rfl, rfl, by decide +kernel, rfl, by decide +kernel, by decide +kernel⟩
abbrev s_law_raised : Stmt := topS 20
theorem sc_law_raised : FnScope ["_law_word", "_law_worth"] ["_law_word", "_law_worth"] (defScope s_law_raised) := ⟨rfl, rfl, rfl, by decide +kernel, rfl, by decide +kernel, by decide +kernel⟩
abbrev s_law_field : Stmt := topS 21
theorem sc_law_field : FnScope ["_law_error", "_law_marks", "_law_at"] ["_law_error"] (defScope s_law_field) := ⟨rfl, rfl, rfl, by decide +kernel, rfl, by decide +kernel, by decide +kernel⟩
abbrev s_law : Stmt := topS 22
theorem sc_law : FnScope ["_law_script", "_law_draw", "_law_words", "_law_turn", "_law_at", "_law_word", "_law_worth", "_law_error"] ["_law_script"] (defScope s_law) := ⟨rfl, rfl, rfl, by decide +kernel, rfl, by decide +kernel, by decide +kernel⟩
abbrev si_NoEvent : Stmt := inClass (topS 3) 0
theorem ss_NoEvent : SupS si_NoEvent "NoEvent.__init__" "index" := ⟨⟨_, rfl, rfl⟩, ⟨_, _, _, _, _, _, _, _, _, _, _, _, rfl, _, fun _ _ _ _ _ _ _ _ _ => rfl⟩, ⟨rfl, rfl, rfl, rfl⟩, ⟨by decide +kernel, rfl, rfl, rfl⟩, fun _ _ _ _ _ _ _ _ _ => rfl, fun _ _ _ _ _ _ _ _ _ => rfl, by decide, by decide, by decide⟩
abbrev si_NoSource : Stmt := inClass (topS 5) 0
theorem ss_NoSource : SupS si_NoSource "NoSource.__init__" "name" := ⟨⟨_, rfl, rfl⟩, ⟨_, _, _, _, _, _, _, _, _, _, _, _, rfl, _, fun _ _ _ _ _ _ _ _ _ => rfl⟩, ⟨rfl, rfl, rfl, rfl⟩, ⟨by decide +kernel, rfl, rfl, rfl⟩, fun _ _ _ _ _ _ _ _ _ => rfl, fun _ _ _ _ _ _ _ _ _ => rfl, by decide, by decide, by decide⟩
abbrev si_NoStation : Stmt := inClass (topS 6) 0
theorem ss_NoStation : SupS si_NoStation "NoStation.__init__" "name" := ⟨⟨_, rfl, rfl⟩, ⟨_, _, _, _, _, _, _, _, _, _, _, _, rfl, _, fun _ _ _ _ _ _ _ _ _ => rfl⟩, ⟨rfl, rfl, rfl, rfl⟩, ⟨by decide +kernel, rfl, rfl, rfl⟩, fun _ _ _ _ _ _ _ _ _ => rfl, fun _ _ _ _ _ _ _ _ _ => rfl, by decide, by decide, by decide⟩
abbrev si_NoOperation : Stmt := inClass (topS 11) 0
theorem ss_NoOperation : SupS si_NoOperation "NoOperation.__init__" "index" := ⟨⟨_, rfl, rfl⟩, ⟨_, _, _, _, _, _, _, _, _, _, _, _, rfl, _, fun _ _ _ _ _ _ _ _ _ => rfl⟩, ⟨rfl, rfl, rfl, rfl⟩, ⟨by decide +kernel, rfl, rfl, rfl⟩, fun _ _ _ _ _ _ _ _ _ => rfl, fun _ _ _ _ _ _ _ _ _ => rfl, by decide, by decide, by decide⟩
abbrev si_TooMany : Stmt := inClass (topS 13) 0
theorem ss_TooMany : SupS si_TooMany "TooMany.__init__" "most" := ⟨⟨_, rfl, rfl⟩, ⟨_, _, _, _, _, _, _, _, _, _, _, _, rfl, _, fun _ _ _ _ _ _ _ _ _ => rfl⟩, ⟨rfl, rfl, rfl, rfl⟩, ⟨by decide +kernel, rfl, rfl, rfl⟩, fun _ _ _ _ _ _ _ _ _ => rfl, fun _ _ _ _ _ _ _ _ _ => rfl, by decide, by decide, by decide⟩
abbrev si_InvalidText : Stmt := inClass (topS 14) 0
theorem ss_InvalidText : SupS si_InvalidText "InvalidText.__init__" "line" := ⟨⟨_, rfl, rfl⟩, ⟨_, _, _, _, _, _, _, _, _, _, _, _, rfl, _, fun _ _ _ _ _ _ _ _ _ => rfl⟩, ⟨rfl, rfl, rfl, rfl⟩, ⟨by decide +kernel, rfl, rfl, rfl⟩, fun _ _ _ _ _ _ _ _ _ => rfl, fun _ _ _ _ _ _ _ _ _ => rfl, by decide, by decide, by decide⟩
structure Txt (P : Program) (K : PySem.W.Frag) (mg : Str → Option Value) (base : Heap) : Type where
  z_abs : mg "abs" = none
  z_list : mg "list" = none
  z_range : mg "range" = none
  z_len : mg "len" = none
  z_min : mg "min" = none
  z_enumerate : mg "enumerate" = none
  z_int : mg "int" = none
  z_divmod : mg "divmod" = none
  z_str : mg "str" = none
  z_isinstance : mg "isinstance" = none
  z_ValueError : mg "ValueError" = none
  z_repr : mg "repr" = none
  a_HourError : Addr
  m_HourError : mg "HourError" = some (.ref a_HourError)
  x_HourError : XCls K a_HourError
  a_NoEvent : Addr
  m_NoEvent : mg "NoEvent" = some (.ref a_NoEvent)
  x_NoEvent : XCls K a_NoEvent
  a_NoSource : Addr
  m_NoSource : mg "NoSource" = some (.ref a_NoSource)
  x_NoSource : XCls K a_NoSource
  a_NoStation : Addr
  m_NoStation : mg "NoStation" = some (.ref a_NoStation)
  x_NoStation : XCls K a_NoStation
  a_NoOperation : Addr
  m_NoOperation : mg "NoOperation" = some (.ref a_NoOperation)
  x_NoOperation : XCls K a_NoOperation
  a_TooMany : Addr
  m_TooMany : mg "TooMany" = some (.ref a_TooMany)
  x_TooMany : XCls K a_TooMany
  a_InvalidText : Addr
  m_InvalidText : mg "InvalidText" = some (.ref a_InvalidText)
  x_InvalidText : XCls K a_InvalidText
  a_NoNetwork : Addr
  m_NoNetwork : mg "NoNetwork" = some (.ref a_NoNetwork)
  x_NoNetwork : XCls K a_NoNetwork
  a_NoMoment : Addr
  m_NoMoment : mg "NoMoment" = some (.ref a_NoMoment)
  x_NoMoment : XCls K a_NoMoment
  a_NoClock : Addr
  m_NoClock : mg "NoClock" = some (.ref a_NoClock)
  x_NoClock : XCls K a_NoClock
  a_NoSpans : Addr
  m_NoSpans : mg "NoSpans" = some (.ref a_NoSpans)
  x_NoSpans : XCls K a_NoSpans
  a_NoReading : Addr
  m_NoReading : mg "NoReading" = some (.ref a_NoReading)
  x_NoReading : XCls K a_NoReading
  a_NoPoint : Addr
  m_NoPoint : mg "NoPoint" = some (.ref a_NoPoint)
  x_NoPoint : XCls K a_NoPoint
  a_NothingLeft : Addr
  m_NothingLeft : mg "NothingLeft" = some (.ref a_NothingLeft)
  x_NothingLeft : XCls K a_NothingLeft
  xk_NoEvent : PySem.W.keepIn K (.ref a_NoEvent) = true
  xk_NoSource : PySem.W.keepIn K (.ref a_NoSource) = true
  xk_NoStation : PySem.W.keepIn K (.ref a_NoStation) = true
  xk_NoOperation : PySem.W.keepIn K (.ref a_NoOperation) = true
  xk_TooMany : PySem.W.keepIn K (.ref a_TooMany) = true
  xk_InvalidText : PySem.W.keepIn K (.ref a_InvalidText) = true
  xe_NoNetwork : PySem.W.excIn K a_NoNetwork [.type "ValueError", .type "Exception", .type "BaseException", .type "object"] "ValueError.__new__" = true
  xk_NoNetwork : PySem.W.keepIn K (.ref a_NoNetwork) = true
  xe_NoMoment : PySem.W.excIn K a_NoMoment [.type "ValueError", .type "Exception", .type "BaseException", .type "object"] "ValueError.__new__" = true
  xk_NoMoment : PySem.W.keepIn K (.ref a_NoMoment) = true
  xe_NoClock : PySem.W.excIn K a_NoClock [.type "ValueError", .type "Exception", .type "BaseException", .type "object"] "ValueError.__new__" = true
  xk_NoClock : PySem.W.keepIn K (.ref a_NoClock) = true
  xe_NoSpans : PySem.W.excIn K a_NoSpans [.type "ValueError", .type "Exception", .type "BaseException", .type "object"] "ValueError.__new__" = true
  xk_NoSpans : PySem.W.keepIn K (.ref a_NoSpans) = true
  xe_NoReading : PySem.W.excIn K a_NoReading [.type "ValueError", .type "Exception", .type "BaseException", .type "object"] "ValueError.__new__" = true
  xk_NoReading : PySem.W.keepIn K (.ref a_NoReading) = true
  xe_NoPoint : PySem.W.excIn K a_NoPoint [.type "ValueError", .type "Exception", .type "BaseException", .type "object"] "ValueError.__new__" = true
  xk_NoPoint : PySem.W.keepIn K (.ref a_NoPoint) = true
  xe_NothingLeft : PySem.W.excIn K a_NothingLeft [.type "ValueError", .type "Exception", .type "BaseException", .type "object"] "ValueError.__new__" = true
  xk_NothingLeft : PySem.W.keepIn K (.ref a_NothingLeft) = true
  xn_HourError : PySem.W.subIn K (.type "NoneType") (.ref a_HourError) = some false
  xi_NoEvent_HourError : PySem.W.kitOne K (.ref a_NoEvent) (.ref a_HourError) = some true
  xm_NoEvent_HourError : PySem.W.exmOne K (.ref a_NoEvent) (.ref a_HourError) = some true
  xi_NoSource_HourError : PySem.W.kitOne K (.ref a_NoSource) (.ref a_HourError) = some true
  xm_NoSource_HourError : PySem.W.exmOne K (.ref a_NoSource) (.ref a_HourError) = some true
  xi_NoStation_HourError : PySem.W.kitOne K (.ref a_NoStation) (.ref a_HourError) = some true
  xm_NoStation_HourError : PySem.W.exmOne K (.ref a_NoStation) (.ref a_HourError) = some true
  xi_NoOperation_HourError : PySem.W.kitOne K (.ref a_NoOperation) (.ref a_HourError) = some true
  xm_NoOperation_HourError : PySem.W.exmOne K (.ref a_NoOperation) (.ref a_HourError) = some true
  xi_TooMany_HourError : PySem.W.kitOne K (.ref a_TooMany) (.ref a_HourError) = some true
  xm_TooMany_HourError : PySem.W.exmOne K (.ref a_TooMany) (.ref a_HourError) = some true
  xi_InvalidText_HourError : PySem.W.kitOne K (.ref a_InvalidText) (.ref a_HourError) = some true
  xm_InvalidText_HourError : PySem.W.exmOne K (.ref a_InvalidText) (.ref a_HourError) = some true
  xi_NoNetwork_HourError : PySem.W.kitOne K (.ref a_NoNetwork) (.ref a_HourError) = some true
  xm_NoNetwork_HourError : PySem.W.exmOne K (.ref a_NoNetwork) (.ref a_HourError) = some true
  xi_NoMoment_HourError : PySem.W.kitOne K (.ref a_NoMoment) (.ref a_HourError) = some true
  xm_NoMoment_HourError : PySem.W.exmOne K (.ref a_NoMoment) (.ref a_HourError) = some true
  xi_NoClock_HourError : PySem.W.kitOne K (.ref a_NoClock) (.ref a_HourError) = some true
  xm_NoClock_HourError : PySem.W.exmOne K (.ref a_NoClock) (.ref a_HourError) = some true
  xi_NoSpans_HourError : PySem.W.kitOne K (.ref a_NoSpans) (.ref a_HourError) = some true
  xm_NoSpans_HourError : PySem.W.exmOne K (.ref a_NoSpans) (.ref a_HourError) = some true
  xi_NoReading_HourError : PySem.W.kitOne K (.ref a_NoReading) (.ref a_HourError) = some true
  xm_NoReading_HourError : PySem.W.exmOne K (.ref a_NoReading) (.ref a_HourError) = some true
  xi_NoPoint_HourError : PySem.W.kitOne K (.ref a_NoPoint) (.ref a_HourError) = some true
  xm_NoPoint_HourError : PySem.W.exmOne K (.ref a_NoPoint) (.ref a_HourError) = some true
  xi_NothingLeft_HourError : PySem.W.kitOne K (.ref a_NothingLeft) (.ref a_HourError) = some true
  xm_NothingLeft_HourError : PySem.W.exmOne K (.ref a_NothingLeft) (.ref a_HourError) = some true
  xn_NoEvent : PySem.W.subIn K (.type "NoneType") (.ref a_NoEvent) = some false
  xi_NoEvent_NoEvent : PySem.W.kitOne K (.ref a_NoEvent) (.ref a_NoEvent) = some true
  xm_NoEvent_NoEvent : PySem.W.exmOne K (.ref a_NoEvent) (.ref a_NoEvent) = some true
  xi_NoSource_NoEvent : PySem.W.kitOne K (.ref a_NoSource) (.ref a_NoEvent) = some false
  xi_NoStation_NoEvent : PySem.W.kitOne K (.ref a_NoStation) (.ref a_NoEvent) = some false
  xi_NoOperation_NoEvent : PySem.W.kitOne K (.ref a_NoOperation) (.ref a_NoEvent) = some false
  xi_TooMany_NoEvent : PySem.W.kitOne K (.ref a_TooMany) (.ref a_NoEvent) = some false
  xi_InvalidText_NoEvent : PySem.W.kitOne K (.ref a_InvalidText) (.ref a_NoEvent) = some false
  xi_NoNetwork_NoEvent : PySem.W.kitOne K (.ref a_NoNetwork) (.ref a_NoEvent) = some false
  xi_NoMoment_NoEvent : PySem.W.kitOne K (.ref a_NoMoment) (.ref a_NoEvent) = some false
  xi_NoClock_NoEvent : PySem.W.kitOne K (.ref a_NoClock) (.ref a_NoEvent) = some false
  xi_NoSpans_NoEvent : PySem.W.kitOne K (.ref a_NoSpans) (.ref a_NoEvent) = some false
  xi_NoReading_NoEvent : PySem.W.kitOne K (.ref a_NoReading) (.ref a_NoEvent) = some false
  xi_NoPoint_NoEvent : PySem.W.kitOne K (.ref a_NoPoint) (.ref a_NoEvent) = some false
  xi_NothingLeft_NoEvent : PySem.W.kitOne K (.ref a_NothingLeft) (.ref a_NoEvent) = some false
  xn_NoSource : PySem.W.subIn K (.type "NoneType") (.ref a_NoSource) = some false
  xi_NoEvent_NoSource : PySem.W.kitOne K (.ref a_NoEvent) (.ref a_NoSource) = some false
  xi_NoSource_NoSource : PySem.W.kitOne K (.ref a_NoSource) (.ref a_NoSource) = some true
  xm_NoSource_NoSource : PySem.W.exmOne K (.ref a_NoSource) (.ref a_NoSource) = some true
  xi_NoStation_NoSource : PySem.W.kitOne K (.ref a_NoStation) (.ref a_NoSource) = some false
  xi_NoOperation_NoSource : PySem.W.kitOne K (.ref a_NoOperation) (.ref a_NoSource) = some false
  xi_TooMany_NoSource : PySem.W.kitOne K (.ref a_TooMany) (.ref a_NoSource) = some false
  xi_InvalidText_NoSource : PySem.W.kitOne K (.ref a_InvalidText) (.ref a_NoSource) = some false
  xi_NoNetwork_NoSource : PySem.W.kitOne K (.ref a_NoNetwork) (.ref a_NoSource) = some false
  xi_NoMoment_NoSource : PySem.W.kitOne K (.ref a_NoMoment) (.ref a_NoSource) = some false
  xi_NoClock_NoSource : PySem.W.kitOne K (.ref a_NoClock) (.ref a_NoSource) = some false
  xi_NoSpans_NoSource : PySem.W.kitOne K (.ref a_NoSpans) (.ref a_NoSource) = some false
  xi_NoReading_NoSource : PySem.W.kitOne K (.ref a_NoReading) (.ref a_NoSource) = some false
  xi_NoPoint_NoSource : PySem.W.kitOne K (.ref a_NoPoint) (.ref a_NoSource) = some false
  xi_NothingLeft_NoSource : PySem.W.kitOne K (.ref a_NothingLeft) (.ref a_NoSource) = some false
  xn_NoStation : PySem.W.subIn K (.type "NoneType") (.ref a_NoStation) = some false
  xi_NoEvent_NoStation : PySem.W.kitOne K (.ref a_NoEvent) (.ref a_NoStation) = some false
  xi_NoSource_NoStation : PySem.W.kitOne K (.ref a_NoSource) (.ref a_NoStation) = some false
  xi_NoStation_NoStation : PySem.W.kitOne K (.ref a_NoStation) (.ref a_NoStation) = some true
  xm_NoStation_NoStation : PySem.W.exmOne K (.ref a_NoStation) (.ref a_NoStation) = some true
  xi_NoOperation_NoStation : PySem.W.kitOne K (.ref a_NoOperation) (.ref a_NoStation) = some false
  xi_TooMany_NoStation : PySem.W.kitOne K (.ref a_TooMany) (.ref a_NoStation) = some false
  xi_InvalidText_NoStation : PySem.W.kitOne K (.ref a_InvalidText) (.ref a_NoStation) = some false
  xi_NoNetwork_NoStation : PySem.W.kitOne K (.ref a_NoNetwork) (.ref a_NoStation) = some false
  xi_NoMoment_NoStation : PySem.W.kitOne K (.ref a_NoMoment) (.ref a_NoStation) = some false
  xi_NoClock_NoStation : PySem.W.kitOne K (.ref a_NoClock) (.ref a_NoStation) = some false
  xi_NoSpans_NoStation : PySem.W.kitOne K (.ref a_NoSpans) (.ref a_NoStation) = some false
  xi_NoReading_NoStation : PySem.W.kitOne K (.ref a_NoReading) (.ref a_NoStation) = some false
  xi_NoPoint_NoStation : PySem.W.kitOne K (.ref a_NoPoint) (.ref a_NoStation) = some false
  xi_NothingLeft_NoStation : PySem.W.kitOne K (.ref a_NothingLeft) (.ref a_NoStation) = some false
  xn_NoOperation : PySem.W.subIn K (.type "NoneType") (.ref a_NoOperation) = some false
  xi_NoEvent_NoOperation : PySem.W.kitOne K (.ref a_NoEvent) (.ref a_NoOperation) = some false
  xi_NoSource_NoOperation : PySem.W.kitOne K (.ref a_NoSource) (.ref a_NoOperation) = some false
  xi_NoStation_NoOperation : PySem.W.kitOne K (.ref a_NoStation) (.ref a_NoOperation) = some false
  xi_NoOperation_NoOperation : PySem.W.kitOne K (.ref a_NoOperation) (.ref a_NoOperation) = some true
  xm_NoOperation_NoOperation : PySem.W.exmOne K (.ref a_NoOperation) (.ref a_NoOperation) = some true
  xi_TooMany_NoOperation : PySem.W.kitOne K (.ref a_TooMany) (.ref a_NoOperation) = some false
  xi_InvalidText_NoOperation : PySem.W.kitOne K (.ref a_InvalidText) (.ref a_NoOperation) = some false
  xi_NoNetwork_NoOperation : PySem.W.kitOne K (.ref a_NoNetwork) (.ref a_NoOperation) = some false
  xi_NoMoment_NoOperation : PySem.W.kitOne K (.ref a_NoMoment) (.ref a_NoOperation) = some false
  xi_NoClock_NoOperation : PySem.W.kitOne K (.ref a_NoClock) (.ref a_NoOperation) = some false
  xi_NoSpans_NoOperation : PySem.W.kitOne K (.ref a_NoSpans) (.ref a_NoOperation) = some false
  xi_NoReading_NoOperation : PySem.W.kitOne K (.ref a_NoReading) (.ref a_NoOperation) = some false
  xi_NoPoint_NoOperation : PySem.W.kitOne K (.ref a_NoPoint) (.ref a_NoOperation) = some false
  xi_NothingLeft_NoOperation : PySem.W.kitOne K (.ref a_NothingLeft) (.ref a_NoOperation) = some false
  xn_TooMany : PySem.W.subIn K (.type "NoneType") (.ref a_TooMany) = some false
  xi_NoEvent_TooMany : PySem.W.kitOne K (.ref a_NoEvent) (.ref a_TooMany) = some false
  xi_NoSource_TooMany : PySem.W.kitOne K (.ref a_NoSource) (.ref a_TooMany) = some false
  xi_NoStation_TooMany : PySem.W.kitOne K (.ref a_NoStation) (.ref a_TooMany) = some false
  xi_NoOperation_TooMany : PySem.W.kitOne K (.ref a_NoOperation) (.ref a_TooMany) = some false
  xi_TooMany_TooMany : PySem.W.kitOne K (.ref a_TooMany) (.ref a_TooMany) = some true
  xm_TooMany_TooMany : PySem.W.exmOne K (.ref a_TooMany) (.ref a_TooMany) = some true
  xi_InvalidText_TooMany : PySem.W.kitOne K (.ref a_InvalidText) (.ref a_TooMany) = some false
  xi_NoNetwork_TooMany : PySem.W.kitOne K (.ref a_NoNetwork) (.ref a_TooMany) = some false
  xi_NoMoment_TooMany : PySem.W.kitOne K (.ref a_NoMoment) (.ref a_TooMany) = some false
  xi_NoClock_TooMany : PySem.W.kitOne K (.ref a_NoClock) (.ref a_TooMany) = some false
  xi_NoSpans_TooMany : PySem.W.kitOne K (.ref a_NoSpans) (.ref a_TooMany) = some false
  xi_NoReading_TooMany : PySem.W.kitOne K (.ref a_NoReading) (.ref a_TooMany) = some false
  xi_NoPoint_TooMany : PySem.W.kitOne K (.ref a_NoPoint) (.ref a_TooMany) = some false
  xi_NothingLeft_TooMany : PySem.W.kitOne K (.ref a_NothingLeft) (.ref a_TooMany) = some false
  xn_InvalidText : PySem.W.subIn K (.type "NoneType") (.ref a_InvalidText) = some false
  xi_NoEvent_InvalidText : PySem.W.kitOne K (.ref a_NoEvent) (.ref a_InvalidText) = some false
  xi_NoSource_InvalidText : PySem.W.kitOne K (.ref a_NoSource) (.ref a_InvalidText) = some false
  xi_NoStation_InvalidText : PySem.W.kitOne K (.ref a_NoStation) (.ref a_InvalidText) = some false
  xi_NoOperation_InvalidText : PySem.W.kitOne K (.ref a_NoOperation) (.ref a_InvalidText) = some false
  xi_TooMany_InvalidText : PySem.W.kitOne K (.ref a_TooMany) (.ref a_InvalidText) = some false
  xi_InvalidText_InvalidText : PySem.W.kitOne K (.ref a_InvalidText) (.ref a_InvalidText) = some true
  xm_InvalidText_InvalidText : PySem.W.exmOne K (.ref a_InvalidText) (.ref a_InvalidText) = some true
  xi_NoNetwork_InvalidText : PySem.W.kitOne K (.ref a_NoNetwork) (.ref a_InvalidText) = some false
  xi_NoMoment_InvalidText : PySem.W.kitOne K (.ref a_NoMoment) (.ref a_InvalidText) = some false
  xi_NoClock_InvalidText : PySem.W.kitOne K (.ref a_NoClock) (.ref a_InvalidText) = some false
  xi_NoSpans_InvalidText : PySem.W.kitOne K (.ref a_NoSpans) (.ref a_InvalidText) = some false
  xi_NoReading_InvalidText : PySem.W.kitOne K (.ref a_NoReading) (.ref a_InvalidText) = some false
  xi_NoPoint_InvalidText : PySem.W.kitOne K (.ref a_NoPoint) (.ref a_InvalidText) = some false
  xi_NothingLeft_InvalidText : PySem.W.kitOne K (.ref a_NothingLeft) (.ref a_InvalidText) = some false
  xn_NoNetwork : PySem.W.subIn K (.type "NoneType") (.ref a_NoNetwork) = some false
  xi_NoEvent_NoNetwork : PySem.W.kitOne K (.ref a_NoEvent) (.ref a_NoNetwork) = some false
  xi_NoSource_NoNetwork : PySem.W.kitOne K (.ref a_NoSource) (.ref a_NoNetwork) = some false
  xi_NoStation_NoNetwork : PySem.W.kitOne K (.ref a_NoStation) (.ref a_NoNetwork) = some false
  xi_NoOperation_NoNetwork : PySem.W.kitOne K (.ref a_NoOperation) (.ref a_NoNetwork) = some false
  xi_TooMany_NoNetwork : PySem.W.kitOne K (.ref a_TooMany) (.ref a_NoNetwork) = some false
  xi_InvalidText_NoNetwork : PySem.W.kitOne K (.ref a_InvalidText) (.ref a_NoNetwork) = some false
  xi_NoNetwork_NoNetwork : PySem.W.kitOne K (.ref a_NoNetwork) (.ref a_NoNetwork) = some true
  xm_NoNetwork_NoNetwork : PySem.W.exmOne K (.ref a_NoNetwork) (.ref a_NoNetwork) = some true
  xi_NoMoment_NoNetwork : PySem.W.kitOne K (.ref a_NoMoment) (.ref a_NoNetwork) = some false
  xi_NoClock_NoNetwork : PySem.W.kitOne K (.ref a_NoClock) (.ref a_NoNetwork) = some false
  xi_NoSpans_NoNetwork : PySem.W.kitOne K (.ref a_NoSpans) (.ref a_NoNetwork) = some false
  xi_NoReading_NoNetwork : PySem.W.kitOne K (.ref a_NoReading) (.ref a_NoNetwork) = some false
  xi_NoPoint_NoNetwork : PySem.W.kitOne K (.ref a_NoPoint) (.ref a_NoNetwork) = some false
  xi_NothingLeft_NoNetwork : PySem.W.kitOne K (.ref a_NothingLeft) (.ref a_NoNetwork) = some false
  xn_NoMoment : PySem.W.subIn K (.type "NoneType") (.ref a_NoMoment) = some false
  xi_NoEvent_NoMoment : PySem.W.kitOne K (.ref a_NoEvent) (.ref a_NoMoment) = some false
  xi_NoSource_NoMoment : PySem.W.kitOne K (.ref a_NoSource) (.ref a_NoMoment) = some false
  xi_NoStation_NoMoment : PySem.W.kitOne K (.ref a_NoStation) (.ref a_NoMoment) = some false
  xi_NoOperation_NoMoment : PySem.W.kitOne K (.ref a_NoOperation) (.ref a_NoMoment) = some false
  xi_TooMany_NoMoment : PySem.W.kitOne K (.ref a_TooMany) (.ref a_NoMoment) = some false
  xi_InvalidText_NoMoment : PySem.W.kitOne K (.ref a_InvalidText) (.ref a_NoMoment) = some false
  xi_NoNetwork_NoMoment : PySem.W.kitOne K (.ref a_NoNetwork) (.ref a_NoMoment) = some false
  xi_NoMoment_NoMoment : PySem.W.kitOne K (.ref a_NoMoment) (.ref a_NoMoment) = some true
  xm_NoMoment_NoMoment : PySem.W.exmOne K (.ref a_NoMoment) (.ref a_NoMoment) = some true
  xi_NoClock_NoMoment : PySem.W.kitOne K (.ref a_NoClock) (.ref a_NoMoment) = some false
  xi_NoSpans_NoMoment : PySem.W.kitOne K (.ref a_NoSpans) (.ref a_NoMoment) = some false
  xi_NoReading_NoMoment : PySem.W.kitOne K (.ref a_NoReading) (.ref a_NoMoment) = some false
  xi_NoPoint_NoMoment : PySem.W.kitOne K (.ref a_NoPoint) (.ref a_NoMoment) = some false
  xi_NothingLeft_NoMoment : PySem.W.kitOne K (.ref a_NothingLeft) (.ref a_NoMoment) = some false
  xn_NoClock : PySem.W.subIn K (.type "NoneType") (.ref a_NoClock) = some false
  xi_NoEvent_NoClock : PySem.W.kitOne K (.ref a_NoEvent) (.ref a_NoClock) = some false
  xi_NoSource_NoClock : PySem.W.kitOne K (.ref a_NoSource) (.ref a_NoClock) = some false
  xi_NoStation_NoClock : PySem.W.kitOne K (.ref a_NoStation) (.ref a_NoClock) = some false
  xi_NoOperation_NoClock : PySem.W.kitOne K (.ref a_NoOperation) (.ref a_NoClock) = some false
  xi_TooMany_NoClock : PySem.W.kitOne K (.ref a_TooMany) (.ref a_NoClock) = some false
  xi_InvalidText_NoClock : PySem.W.kitOne K (.ref a_InvalidText) (.ref a_NoClock) = some false
  xi_NoNetwork_NoClock : PySem.W.kitOne K (.ref a_NoNetwork) (.ref a_NoClock) = some false
  xi_NoMoment_NoClock : PySem.W.kitOne K (.ref a_NoMoment) (.ref a_NoClock) = some false
  xi_NoClock_NoClock : PySem.W.kitOne K (.ref a_NoClock) (.ref a_NoClock) = some true
  xm_NoClock_NoClock : PySem.W.exmOne K (.ref a_NoClock) (.ref a_NoClock) = some true
  xi_NoSpans_NoClock : PySem.W.kitOne K (.ref a_NoSpans) (.ref a_NoClock) = some false
  xi_NoReading_NoClock : PySem.W.kitOne K (.ref a_NoReading) (.ref a_NoClock) = some false
  xi_NoPoint_NoClock : PySem.W.kitOne K (.ref a_NoPoint) (.ref a_NoClock) = some false
  xi_NothingLeft_NoClock : PySem.W.kitOne K (.ref a_NothingLeft) (.ref a_NoClock) = some false
  xn_NoSpans : PySem.W.subIn K (.type "NoneType") (.ref a_NoSpans) = some false
  xi_NoEvent_NoSpans : PySem.W.kitOne K (.ref a_NoEvent) (.ref a_NoSpans) = some false
  xi_NoSource_NoSpans : PySem.W.kitOne K (.ref a_NoSource) (.ref a_NoSpans) = some false
  xi_NoStation_NoSpans : PySem.W.kitOne K (.ref a_NoStation) (.ref a_NoSpans) = some false
  xi_NoOperation_NoSpans : PySem.W.kitOne K (.ref a_NoOperation) (.ref a_NoSpans) = some false
  xi_TooMany_NoSpans : PySem.W.kitOne K (.ref a_TooMany) (.ref a_NoSpans) = some false
  xi_InvalidText_NoSpans : PySem.W.kitOne K (.ref a_InvalidText) (.ref a_NoSpans) = some false
  xi_NoNetwork_NoSpans : PySem.W.kitOne K (.ref a_NoNetwork) (.ref a_NoSpans) = some false
  xi_NoMoment_NoSpans : PySem.W.kitOne K (.ref a_NoMoment) (.ref a_NoSpans) = some false
  xi_NoClock_NoSpans : PySem.W.kitOne K (.ref a_NoClock) (.ref a_NoSpans) = some false
  xi_NoSpans_NoSpans : PySem.W.kitOne K (.ref a_NoSpans) (.ref a_NoSpans) = some true
  xm_NoSpans_NoSpans : PySem.W.exmOne K (.ref a_NoSpans) (.ref a_NoSpans) = some true
  xi_NoReading_NoSpans : PySem.W.kitOne K (.ref a_NoReading) (.ref a_NoSpans) = some false
  xi_NoPoint_NoSpans : PySem.W.kitOne K (.ref a_NoPoint) (.ref a_NoSpans) = some false
  xi_NothingLeft_NoSpans : PySem.W.kitOne K (.ref a_NothingLeft) (.ref a_NoSpans) = some false
  xn_NoReading : PySem.W.subIn K (.type "NoneType") (.ref a_NoReading) = some false
  xi_NoEvent_NoReading : PySem.W.kitOne K (.ref a_NoEvent) (.ref a_NoReading) = some false
  xi_NoSource_NoReading : PySem.W.kitOne K (.ref a_NoSource) (.ref a_NoReading) = some false
  xi_NoStation_NoReading : PySem.W.kitOne K (.ref a_NoStation) (.ref a_NoReading) = some false
  xi_NoOperation_NoReading : PySem.W.kitOne K (.ref a_NoOperation) (.ref a_NoReading) = some false
  xi_TooMany_NoReading : PySem.W.kitOne K (.ref a_TooMany) (.ref a_NoReading) = some false
  xi_InvalidText_NoReading : PySem.W.kitOne K (.ref a_InvalidText) (.ref a_NoReading) = some false
  xi_NoNetwork_NoReading : PySem.W.kitOne K (.ref a_NoNetwork) (.ref a_NoReading) = some false
  xi_NoMoment_NoReading : PySem.W.kitOne K (.ref a_NoMoment) (.ref a_NoReading) = some false
  xi_NoClock_NoReading : PySem.W.kitOne K (.ref a_NoClock) (.ref a_NoReading) = some false
  xi_NoSpans_NoReading : PySem.W.kitOne K (.ref a_NoSpans) (.ref a_NoReading) = some false
  xi_NoReading_NoReading : PySem.W.kitOne K (.ref a_NoReading) (.ref a_NoReading) = some true
  xm_NoReading_NoReading : PySem.W.exmOne K (.ref a_NoReading) (.ref a_NoReading) = some true
  xi_NoPoint_NoReading : PySem.W.kitOne K (.ref a_NoPoint) (.ref a_NoReading) = some false
  xi_NothingLeft_NoReading : PySem.W.kitOne K (.ref a_NothingLeft) (.ref a_NoReading) = some false
  xn_NoPoint : PySem.W.subIn K (.type "NoneType") (.ref a_NoPoint) = some false
  xi_NoEvent_NoPoint : PySem.W.kitOne K (.ref a_NoEvent) (.ref a_NoPoint) = some false
  xi_NoSource_NoPoint : PySem.W.kitOne K (.ref a_NoSource) (.ref a_NoPoint) = some false
  xi_NoStation_NoPoint : PySem.W.kitOne K (.ref a_NoStation) (.ref a_NoPoint) = some false
  xi_NoOperation_NoPoint : PySem.W.kitOne K (.ref a_NoOperation) (.ref a_NoPoint) = some false
  xi_TooMany_NoPoint : PySem.W.kitOne K (.ref a_TooMany) (.ref a_NoPoint) = some false
  xi_InvalidText_NoPoint : PySem.W.kitOne K (.ref a_InvalidText) (.ref a_NoPoint) = some false
  xi_NoNetwork_NoPoint : PySem.W.kitOne K (.ref a_NoNetwork) (.ref a_NoPoint) = some false
  xi_NoMoment_NoPoint : PySem.W.kitOne K (.ref a_NoMoment) (.ref a_NoPoint) = some false
  xi_NoClock_NoPoint : PySem.W.kitOne K (.ref a_NoClock) (.ref a_NoPoint) = some false
  xi_NoSpans_NoPoint : PySem.W.kitOne K (.ref a_NoSpans) (.ref a_NoPoint) = some false
  xi_NoReading_NoPoint : PySem.W.kitOne K (.ref a_NoReading) (.ref a_NoPoint) = some false
  xi_NoPoint_NoPoint : PySem.W.kitOne K (.ref a_NoPoint) (.ref a_NoPoint) = some true
  xm_NoPoint_NoPoint : PySem.W.exmOne K (.ref a_NoPoint) (.ref a_NoPoint) = some true
  xi_NothingLeft_NoPoint : PySem.W.kitOne K (.ref a_NothingLeft) (.ref a_NoPoint) = some false
  xn_NothingLeft : PySem.W.subIn K (.type "NoneType") (.ref a_NothingLeft) = some false
  xi_NoEvent_NothingLeft : PySem.W.kitOne K (.ref a_NoEvent) (.ref a_NothingLeft) = some false
  xi_NoSource_NothingLeft : PySem.W.kitOne K (.ref a_NoSource) (.ref a_NothingLeft) = some false
  xi_NoStation_NothingLeft : PySem.W.kitOne K (.ref a_NoStation) (.ref a_NothingLeft) = some false
  xi_NoOperation_NothingLeft : PySem.W.kitOne K (.ref a_NoOperation) (.ref a_NothingLeft) = some false
  xi_TooMany_NothingLeft : PySem.W.kitOne K (.ref a_TooMany) (.ref a_NothingLeft) = some false
  xi_InvalidText_NothingLeft : PySem.W.kitOne K (.ref a_InvalidText) (.ref a_NothingLeft) = some false
  xi_NoNetwork_NothingLeft : PySem.W.kitOne K (.ref a_NoNetwork) (.ref a_NothingLeft) = some false
  xi_NoMoment_NothingLeft : PySem.W.kitOne K (.ref a_NoMoment) (.ref a_NothingLeft) = some false
  xi_NoClock_NothingLeft : PySem.W.kitOne K (.ref a_NoClock) (.ref a_NothingLeft) = some false
  xi_NoSpans_NothingLeft : PySem.W.kitOne K (.ref a_NoSpans) (.ref a_NothingLeft) = some false
  xi_NoReading_NothingLeft : PySem.W.kitOne K (.ref a_NoReading) (.ref a_NothingLeft) = some false
  xi_NoPoint_NothingLeft : PySem.W.kitOne K (.ref a_NoPoint) (.ref a_NothingLeft) = some false
  xi_NothingLeft_NothingLeft : PySem.W.kitOne K (.ref a_NothingLeft) (.ref a_NothingLeft) = some true
  xm_NothingLeft_NothingLeft : PySem.W.exmOne K (.ref a_NothingLeft) (.ref a_NothingLeft) = some true
  xtop : (P.main.scope.names.lookup ("super" : Str)).isSome = false
  f_xNoEvent : Addr
  sc_NoEvent : SupC P K mg a_NoEvent f_xNoEvent "index"
  f_xNoSource : Addr
  sc_NoSource : SupC P K mg a_NoSource f_xNoSource "name"
  f_xNoStation : Addr
  sc_NoStation : SupC P K mg a_NoStation f_xNoStation "name"
  f_xNoOperation : Addr
  sc_NoOperation : SupC P K mg a_NoOperation f_xNoOperation "index"
  f_xTooMany : Addr
  sc_TooMany : SupC P K mg a_TooMany f_xTooMany "most"
  f_xInvalidText : Addr
  sc_InvalidText : SupC P K mg a_InvalidText f_xInvalidText "line"
  xvn : PySem.W.subIn K (.type "NoneType") (.type "ValueError") = some false
  xv_NoEvent : PySem.W.subIn K (.ref a_NoEvent) (.type "ValueError") = some true
  xv_NoSource : PySem.W.subIn K (.ref a_NoSource) (.type "ValueError") = some true
  xv_NoStation : PySem.W.subIn K (.ref a_NoStation) (.type "ValueError") = some true
  xv_NoOperation : PySem.W.subIn K (.ref a_NoOperation) (.type "ValueError") = some true
  xv_TooMany : PySem.W.subIn K (.ref a_TooMany) (.type "ValueError") = some true
  xv_InvalidText : PySem.W.subIn K (.ref a_InvalidText) (.type "ValueError") = some true
  xv_NoNetwork : PySem.W.subIn K (.ref a_NoNetwork) (.type "ValueError") = some true
  xv_NoMoment : PySem.W.subIn K (.ref a_NoMoment) (.type "ValueError") = some true
  xv_NoClock : PySem.W.subIn K (.ref a_NoClock) (.type "ValueError") = some true
  xv_NoSpans : PySem.W.subIn K (.ref a_NoSpans) (.type "ValueError") = some true
  xv_NoReading : PySem.W.subIn K (.ref a_NoReading) (.type "ValueError") = some true
  xv_NoPoint : PySem.W.subIn K (.ref a_NoPoint) (.type "ValueError") = some true
  xv_NothingLeft : PySem.W.subIn K (.ref a_NothingLeft) (.type "ValueError") = some true
  xf_NoEvent_index : PySem.W.findIn K (.ref a_NoEvent) "index" = some none
  xf_NoOperation_index : PySem.W.findIn K (.ref a_NoOperation) "index" = some none
  xf_NoSource_name : PySem.W.findIn K (.ref a_NoSource) "name" = some none
  xf_NoStation_name : PySem.W.findIn K (.ref a_NoStation) "name" = some none
  xf_TooMany_most : PySem.W.findIn K (.ref a_TooMany) "most" = some none
  xf_InvalidText_line : PySem.W.findIn K (.ref a_InvalidText) "line" = some none
  a_tab_law : Addr
  c_tab_law : Addr
  tb_tab_law : LamX.TabB base mg c_tab_law a_tab_law
  a_f_law_begin : Addr
  d_law_begin : FuncData
  F_law_begin : Fun K "_law_begin" "_law_begin" s_law_begin a_f_law_begin d_law_begin
  b_law_begin : Binds K d_law_begin ["_law_script"] []
  m_law_begin : mg "_law_begin" = some (.ref a_f_law_begin)
  a_f_law_take : Addr
  d_law_take : FuncData
  F_law_take : Fun K "_law_take" "_law_take" s_law_take a_f_law_take d_law_take
  b_law_take : Binds K d_law_take ["_law_draw", "_law_size"] []
  m_law_take : mg "_law_take" = some (.ref a_f_law_take)
  a_f_law_pick : Addr
  d_law_pick : FuncData
  F_law_pick : Fun K "_law_pick" "_law_pick" s_law_pick a_f_law_pick d_law_pick
  b_law_pick : Binds K d_law_pick ["_law_draw", "_law_some"] []
  m_law_pick : mg "_law_pick" = some (.ref a_f_law_pick)
  a_f_law_caught : Addr
  d_law_caught : FuncData
  v_law_caught : Value
  F_law_caught : DFn K "_law_caught" "_law_caught" s_law_caught a_f_law_caught d_law_caught v_law_caught
  b_law_caught : Binds K d_law_caught ["_law_work"] []
  m_law_caught : mg "_law_caught" = some (.ref a_f_law_caught)
  a_f_law_raised : Addr
  d_law_raised : FuncData
  F_law_raised : Fun K "_law_raised" "_law_raised" s_law_raised a_f_law_raised d_law_raised
  b_law_raised : Binds K d_law_raised ["_law_word", "_law_worth"] []
  m_law_raised : mg "_law_raised" = some (.ref a_f_law_raised)
  a_f_law_field : Addr
  d_law_field : FuncData
  F_law_field : Fun K "_law_field" "_law_field" s_law_field a_f_law_field d_law_field
  b_law_field : Binds K d_law_field ["_law_error"] []
  m_law_field : mg "_law_field" = some (.ref a_f_law_field)
  a_f_law : Addr
  d_law : FuncData
  v_law : Value
  F_law : DFn K "law" "law" s_law a_f_law d_law (.ref c_tab_law)
  b_law : Binds K d_law ["_law_script"] []
  m_law : mg "law" = some (.ref a_f_law)
section
variable {P : Program} {w : World} {K : PySem.W.Frag} {mg : Str → Option Value} {base : Heap}
theorem ok_law_begin (T : Txt P K mg base) : DL.FnOk P w K mg base (L2.CX P w) 1 T.a_f_law_begin T.d_law_begin ["_law_script"] (spBegin K) := by
  refine T.F_law_begin.okG sc_law_begin (fun vs H Q E h => ?_) (fun cdv A outer s H vs Q E hr h => ?_)
  · obtain ⟨a, ns, rfl, _⟩ := h
    rfl
  · have B : Bd (cxOf (L2.CX P w) P w K mg base ["_law_script", "_law_large", "_law_cell"] "_law_begin" (defScope s_law_begin) T.a_f_law_begin cdv A outer s H E) (fun cls d _ H' => E cls d H') 0 := ⟨rfl, hr, takes_of rfl rfl rfl rfl, passes_of rfl, sc_law_begin.nd⟩
    refine ⟨_, pss_cons (ds_setLc (Wx := fun cls d _ H' => E cls d H') (i := 1) (own := [("_law_cell", 2)]) ⟨B, blkOk_by (N := ["_law_script", "_law_large", "_law_cell"]) (sc := defScope s_law_begin) (own := [("_law_cell", 2)]) (by decide +kernel), fun _ _ _ _ _ B => dg_name (i := 2) B.nd (by rfl) (by first | exact Or.inl rfl | exact Or.inr rfl), fun _ _ _ _ _ B => dts_one (dt_cmp o_ge (dv_e (de_callB c_abs (by rfl) T.z_abs bt_abs (da_cons (dv_v 2) (da_nil)))) (dv_e (de_op o_pow (dv_e (de_int)) (dv_e (de_int)))) (by rfl)), fun _ _ _ _ _ B => dv_e (de_callB c_abs (by rfl) T.z_abs bt_abs (da_cons (dv_v 2) (da_nil))), by decide⟩ (di_seq (dv_v 0)) (by rfl) (by rfl) (sw_true rfl rfl rfl (by decide +kernel)))
      (pss_one (ps_ret (pe_disp (pps_cons pe_str (pv 1) (pps_cons pe_str (pe_callTy call_list_of (by rfl) T.z_list bt_list (pa_cons (pv 0) pa_nil)) (pps_cons pe_str pe_int (pps_cons pe_str pe_int (pps_cons pe_str pe_int pps_nil))))) (by rfl) (by rfl) (fun z => by cases z) (by decide)))), ?_⟩
    exact begin_run h
theorem ok_law_take (T : Txt P K mg base) : DL.FnOk P w K mg base (L2.CX P w) 1 T.a_f_law_take T.d_law_take ["_law_draw", "_law_size"] (spF K ["_law_draw", "_law_size"] ["_law_draw", "_law_size", "_law_cell", "_law_found"] (F_law_take)) :=
  fn_dl T.F_law_take sc_law_take fun cdv A outer s H E X hX B => by
    subst hX
    exact dss_cons (ds_if (DTW.dt (dtw_and (dt_cmp (o_eq B.room.units) (dv_e (de_drGet .rest (by rfl) (DL.hu_of B.room) (by rfl) (by first | exact Or.inl rfl | exact Or.inr (Or.inl rfl) | exact Or.inr (Or.inr rfl)))) (dv_e (de_int)) (by rfl)) (dtw_and1 (dt_drNe B.room.units (by rfl) (by first | exact Or.inl rfl | exact Or.inr (Or.inl rfl) | exact Or.inr (Or.inr rfl)))))) (dss_one (ds_drPop (i := 0) (DL.hu_of B.room) (by rfl) (by first | exact Or.inl rfl | exact Or.inr (Or.inl rfl) | exact Or.inr (Or.inr rfl)))) (dss_one (ds_if (dt_cmp (o_eq B.room.units) (dv_e (de_drGet .rest (by rfl) (DL.hu_of B.room) (by rfl) (by first | exact Or.inl rfl | exact Or.inr (Or.inl rfl) | exact Or.inr (Or.inr rfl)))) (dv_e (de_int)) (by rfl)) (dss_cons (ds_drSet (i := 0) .turn (by rfl) (DL.hu_of B.room) (by rfl) (by first | exact Or.inl rfl | exact Or.inr (Or.inl rfl) | exact Or.inr (Or.inr rfl)) (dv_e (de_op o_add (dv_e (de_drGet .turn (by rfl) (DL.hu_of B.room) (by rfl) (by first | exact Or.inl rfl | exact Or.inr (Or.inl rfl) | exact Or.inr (Or.inr rfl)))) (dv_e (de_int))))) 
            (dss_cons (ds_for B.own B.calm (dv_e (de_op o_add (dv_e (de_lst (da_cons (dv_e (de_drGet .turn (by rfl) (DL.hu_of B.room) (by rfl) (by first | exact Or.inl rfl | exact Or.inr (Or.inl rfl) | exact Or.inr (Or.inr rfl)))) (da_nil)))) (dv_e (de_drGet .cells (by rfl) (DL.hu_of B.room) (by rfl) (by first | exact Or.inl rfl | exact Or.inr (Or.inl rfl) | exact Or.inr (Or.inr rfl)))))) (dg_name (i := 2) B.nd (by rfl) (by first | exact Or.inl rfl | exact Or.inr rfl)) (dss_one (ds_drSet (i := 0) .mix (by rfl) (DL.hu_of B.room) (by rfl) (by first | exact Or.inl rfl | exact Or.inr (Or.inl rfl) | exact Or.inr (Or.inr rfl)) (dv_e (de_op o_mod (dv_e (de_callTy c_int (by rfl) T.z_int bt_int (da_cons (dv_e (de_op o_add (dv_e (de_op o_add (dv_e (de_op o_mul (dv_e (de_drGet .mix (by rfl) (DL.hu_of B.room) (by rfl) (by first | exact Or.inl rfl | exact Or.inr (Or.inl rfl) | exact Or.inr (Or.inr rfl)))) (dv_e (de_int)))) (dv_e (de_op o_mul (dv_v 2) (dv_e (de_int)))))) (dv_e (de_int)))) (da_nil)))) (dv_e (de_int))))))) 
            (dss_one (ds_drSet (i := 0) .rest (by rfl) (DL.hu_of B.room) (by rfl) (by first | exact Or.inl rfl | exact Or.inr (Or.inl rfl) | exact Or.inr (Or.inr rfl)) (dv_e (de_op o_mod (dv_e (de_callTy c_int (by rfl) T.z_int bt_int (da_cons (dv_e (de_op o_pow (dv_e (de_drGet .mix (by rfl) (DL.hu_of B.room) (by rfl) (by first | exact Or.inl rfl | exact Or.inr (Or.inl rfl) | exact Or.inr (Or.inr rfl)))) (dv_e (de_int)))) (da_nil)))) (dv_e (de_int)))))))) (dss_nil)))) 
        (dss_cons (ds_drDiv (i := 0) (j := 1) (k := 3) B.calm B.nd (DL.hu_of B.room) (by rfl) T.z_divmod bt_divmod (by rfl) (by first | exact Or.inl rfl | exact Or.inr (Or.inl rfl) | exact Or.inr (Or.inr rfl)) (by rfl) (by first | exact Or.inl rfl | exact Or.inr (Or.inl rfl) | exact Or.inr (Or.inr rfl)) (by rfl) (by first | exact Or.inl rfl | exact Or.inr rfl)) 
        (dss_one (ds_retV 3)))
theorem ok_law_pick (T : Txt P K mg base) : DL.FnOk P w K mg base (L2.CX P w) 2 T.a_f_law_pick T.d_law_pick ["_law_draw", "_law_some"] (spF K ["_law_draw", "_law_some"] ["_law_draw", "_law_some"] (F_law_pick)) :=
  fn_dl T.F_law_pick sc_law_pick fun cdv A outer s H E X hX B => by
    subst hX
    exact dss_one (ds_ret (de_ix (o_ix (DL.hu_of B.room)) (dv_v 1) (dv_e (de_call (ms := [.F, .F]) (ok_law_take T) rfl (B.room.mono (by decide)) T.m_law_take T.F_law_take.kp T.b_law_take .nil (fun _ => .nil) B.tk rfl (da_cons (dv_v 0) (da_cons (dv_e (de_callB c_len (by rfl) T.z_len bt_len (da_cons (dv_v 1) (da_nil)))) (da_nil))))) (fun _ _ => rfl)))
theorem okr_law_caught (T : Txt P K mg base) : RestOk P w K mg base ["_law_work", "_law_caught_here", "e"] "_law_caught" (defScope s_law_caught) T.a_f_law_caught T.v_law_caught 0 ((defBody s_law_caught).drop 2) (F_law_caught T.a_HourError) := fun A outer s H E X hX B => by
    subst hX
    exact dss_one (ds_retV 1)
theorem ok_law_raised (T : Txt P K mg base) : DL.FnOk P w K mg base (L2.CX P w) 2 T.a_f_law_raised T.d_law_raised ["_law_word", "_law_worth"] (spF K ["_law_word", "_law_worth"] ["_law_word", "_law_worth"] (F_law_raised T.a_NoEvent T.a_NoSource T.a_NoStation T.a_NoOperation T.a_TooMany T.a_InvalidText T.a_NoNetwork T.a_NoMoment T.a_NoClock T.a_NoSpans T.a_NoReading T.a_NoPoint T.a_NothingLeft)) :=
  fn_dl T.F_law_raised sc_law_raised fun cdv A outer s H E X hX B => by
    subst hX
    exact dss_cons (ds_if (dt_cmp (o_eq B.room.units) (dv_v 0) (dv_e (de_str)) (by rfl)) (dss_one (ds_raiseK (k := 0) (B.mono (by decide)) T.sc_NoEvent T.xtop T.m_NoEvent (dv_v 1))) (dss_nil)) 
        (dss_cons (ds_if (dt_cmp (o_eq B.room.units) (dv_v 0) (dv_e (de_str)) (by rfl)) (dss_one (ds_raiseK (k := 0) (B.mono (by decide)) T.sc_NoSource T.xtop T.m_NoSource (dv_v 1))) (dss_nil)) 
        (dss_cons (ds_if (dt_cmp (o_eq B.room.units) (dv_v 0) (dv_e (de_str)) (by rfl)) (dss_one (ds_raiseK (k := 0) (B.mono (by decide)) T.sc_NoStation T.xtop T.m_NoStation (dv_v 1))) (dss_nil)) 
        (dss_cons (ds_if (dt_cmp (o_eq B.room.units) (dv_v 0) (dv_e (de_str)) (by rfl)) (dss_one (ds_raiseK (k := 0) (B.mono (by decide)) T.sc_NoOperation T.xtop T.m_NoOperation (dv_v 1))) (dss_nil)) 
        (dss_cons (ds_if (dt_cmp (o_eq B.room.units) (dv_v 0) (dv_e (de_str)) (by rfl)) (dss_one (ds_raiseK (k := 0) (B.mono (by decide)) T.sc_TooMany T.xtop T.m_TooMany (dv_v 1))) (dss_nil)) 
        (dss_cons (ds_if (dt_cmp (o_eq B.room.units) (dv_v 0) (dv_e (de_str)) (by rfl)) (dss_one (ds_raiseK (k := 0) (B.mono (by decide)) T.sc_InvalidText T.xtop T.m_InvalidText (dv_v 1))) (dss_nil)) 
        (dss_cons (ds_if (dt_cmp (o_eq B.room.units) (dv_v 0) (dv_e (de_str)) (by rfl)) (dss_one (ds_raise1 B.calm B.tk PySem.F.excBase_ValueError T.xe_NoNetwork T.m_NoNetwork T.xk_NoNetwork (raises_own T.x_NoNetwork.sub T.x_NoNetwork.ty) (de_callTy (c_strA B.room) (by rfl) T.z_str bt_str (da_cons (dv_v 1) (da_nil))))) (dss_nil)) 
        (dss_cons (ds_if (dt_cmp (o_eq B.room.units) (dv_v 0) (dv_e (de_str)) (by rfl)) (dss_one (ds_raise1 B.calm B.tk PySem.F.excBase_ValueError T.xe_NoMoment T.m_NoMoment T.xk_NoMoment (raises_own T.x_NoMoment.sub T.x_NoMoment.ty) (de_callTy (c_strA B.room) (by rfl) T.z_str bt_str (da_cons (dv_v 1) (da_nil))))) (dss_nil)) 
        (dss_cons (ds_if (dt_cmp (o_eq B.room.units) (dv_v 0) (dv_e (de_str)) (by rfl)) (dss_one (ds_raise1 B.calm B.tk PySem.F.excBase_ValueError T.xe_NoClock T.m_NoClock T.xk_NoClock (raises_own T.x_NoClock.sub T.x_NoClock.ty) (de_callTy (c_strA B.room) (by rfl) T.z_str bt_str (da_cons (dv_v 1) (da_nil))))) (dss_nil)) 
        (dss_cons (ds_if (dt_cmp (o_eq B.room.units) (dv_v 0) (dv_e (de_str)) (by rfl)) (dss_one (ds_raise1 B.calm B.tk PySem.F.excBase_ValueError T.xe_NoSpans T.m_NoSpans T.xk_NoSpans (raises_own T.x_NoSpans.sub T.x_NoSpans.ty) (de_callTy (c_strA B.room) (by rfl) T.z_str bt_str (da_cons (dv_v 1) (da_nil))))) (dss_nil)) 
        (dss_cons (ds_if (dt_cmp (o_eq B.room.units) (dv_v 0) (dv_e (de_str)) (by rfl)) (dss_one (ds_raise1 B.calm B.tk PySem.F.excBase_ValueError T.xe_NoReading T.m_NoReading T.xk_NoReading (raises_own T.x_NoReading.sub T.x_NoReading.ty) (de_callTy (c_strA B.room) (by rfl) T.z_str bt_str (da_cons (dv_v 1) (da_nil))))) (dss_nil)) 
        (dss_cons (ds_if (dt_cmp (o_eq B.room.units) (dv_v 0) (dv_e (de_str)) (by rfl)) (dss_one (ds_raise1 B.calm B.tk PySem.F.excBase_ValueError T.xe_NoPoint T.m_NoPoint T.xk_NoPoint (raises_own T.x_NoPoint.sub T.x_NoPoint.ty) (de_callTy (c_strA B.room) (by rfl) T.z_str bt_str (da_cons (dv_v 1) (da_nil))))) (dss_nil)) 
        (dss_one (ds_raise1 B.calm B.tk PySem.F.excBase_ValueError T.xe_NothingLeft T.m_NothingLeft T.xk_NothingLeft (raises_own T.x_NothingLeft.sub T.x_NothingLeft.ty) (de_callTy (c_strA B.room) (by rfl) T.z_str bt_str (da_cons (dv_v 1) (da_nil))))))))))))))))
theorem ok_law_field (T : Txt P K mg base) : DL.FnOk P w K mg base (L2.CX P w) 1 T.a_f_law_field T.d_law_field ["_law_error"] (spF K ["_law_error"] ["_law_error", "_law_marks", "_law_at"] (F_law_field T.a_NoEvent T.a_NoSource T.a_NoStation T.a_NoOperation T.a_TooMany T.a_InvalidText T.a_NoNetwork T.a_NoMoment T.a_NoClock T.a_NoSpans T.a_NoReading T.a_NoPoint T.a_NothingLeft)) :=
  fn_dl T.F_law_field sc_law_field fun cdv A outer s H E X hX B => by
    subst hX
    exact dss_cons (ds_set (i := 1) B.nd (by rfl) (by first | exact Or.inl rfl | exact Or.inr rfl) (de_lst (da_cons (dv_e (de_isX (dv_v 0) (by rfl) T.z_isinstance (by rfl) T.m_NoEvent (ct_cons ⟨T.x_NoEvent.k, T.xi_NoEvent_NoEvent⟩ (ct_cons ⟨T.x_NoSource.k, T.xi_NoSource_NoEvent⟩ (ct_cons ⟨T.x_NoStation.k, T.xi_NoStation_NoEvent⟩ (ct_cons ⟨T.x_NoOperation.k, T.xi_NoOperation_NoEvent⟩ (ct_cons ⟨T.x_TooMany.k, T.xi_TooMany_NoEvent⟩ (ct_cons ⟨T.x_InvalidText.k, T.xi_InvalidText_NoEvent⟩ (ct_cons ⟨T.x_NoNetwork.k, T.xi_NoNetwork_NoEvent⟩ (ct_cons ⟨T.x_NoMoment.k, T.xi_NoMoment_NoEvent⟩ (ct_cons ⟨T.x_NoClock.k, T.xi_NoClock_NoEvent⟩ (ct_cons ⟨T.x_NoSpans.k, T.xi_NoSpans_NoEvent⟩ (ct_cons ⟨T.x_NoReading.k, T.xi_NoReading_NoEvent⟩ (ct_cons ⟨T.x_NoPoint.k, T.xi_NoPoint_NoEvent⟩ (ct_cons ⟨T.x_NothingLeft.k, T.xi_NothingLeft_NoEvent⟩ ct_nil))))))))))))) (kit_n T.x_NoEvent T.xn_NoEvent))) (da_cons (dv_e (de_isX (dv_v 0) (by rfl) T.z_isinstance (by rfl) T.m_NoSource (ct_cons ⟨T.x_NoEvent.k, T.xi_NoEvent_NoSource⟩ (ct_cons ⟨T.x_NoSource.k, T.xi_NoSource_NoSource⟩ (ct_cons ⟨T.x_NoStation.k, T.xi_NoStation_NoSource⟩ (ct_cons ⟨T.x_NoOperation.k, T.xi_NoOperation_NoSource⟩ (ct_cons ⟨T.x_TooMany.k, T.xi_TooMany_NoSource⟩ (ct_cons ⟨T.x_InvalidText.k, T.xi_InvalidText_NoSource⟩ (ct_cons ⟨T.x_NoNetwork.k, T.xi_NoNetwork_NoSource⟩ (ct_cons ⟨T.x_NoMoment.k, T.xi_NoMoment_NoSource⟩ (ct_cons ⟨T.x_NoClock.k, T.xi_NoClock_NoSource⟩ (ct_cons ⟨T.x_NoSpans.k, T.xi_NoSpans_NoSource⟩ (ct_cons ⟨T.x_NoReading.k, T.xi_NoReading_NoSource⟩ (ct_cons ⟨T.x_NoPoint.k, T.xi_NoPoint_NoSource⟩ (ct_cons ⟨T.x_NothingLeft.k, T.xi_NothingLeft_NoSource⟩ ct_nil))))))))))))) (kit_n T.x_NoSource T.xn_NoSource))) (da_cons (dv_e (de_isX (dv_v 0) (by rfl) T.z_isinstance (by rfl) T.m_NoStation (ct_cons ⟨T.x_NoEvent.k, T.xi_NoEvent_NoStation⟩ (ct_cons ⟨T.x_NoSource.k, T.xi_NoSource_NoStation⟩ (ct_cons ⟨T.x_NoStation.k, T.xi_NoStation_NoStation⟩ (ct_cons ⟨T.x_NoOperation.k, T.xi_NoOperation_NoStation⟩ (ct_cons ⟨T.x_TooMany.k, T.xi_TooMany_NoStation⟩ (ct_cons ⟨T.x_InvalidText.k, T.xi_InvalidText_NoStation⟩ (ct_cons ⟨T.x_NoNetwork.k, T.xi_NoNetwork_NoStation⟩ (ct_cons ⟨T.x_NoMoment.k, T.xi_NoMoment_NoStation⟩ (ct_cons ⟨T.x_NoClock.k, T.xi_NoClock_NoStation⟩ (ct_cons ⟨T.x_NoSpans.k, T.xi_NoSpans_NoStation⟩ (ct_cons ⟨T.x_NoReading.k, T.xi_NoReading_NoStation⟩ (ct_cons ⟨T.x_NoPoint.k, T.xi_NoPoint_NoStation⟩ (ct_cons ⟨T.x_NothingLeft.k, T.xi_NothingLeft_NoStation⟩ ct_nil))))))))))))) (kit_n T.x_NoStation T.xn_NoStation))) (da_nil)))))) 
        (dss_cons (ds_set (i := 1) B.nd (by rfl) (by first | exact Or.inl rfl | exact Or.inr rfl) (de_op o_add (dv_v 1) (dv_e (de_lst (da_cons (dv_e (de_isX (dv_v 0) (by rfl) T.z_isinstance (by rfl) T.m_NoOperation (ct_cons ⟨T.x_NoEvent.k, T.xi_NoEvent_NoOperation⟩ (ct_cons ⟨T.x_NoSource.k, T.xi_NoSource_NoOperation⟩ (ct_cons ⟨T.x_NoStation.k, T.xi_NoStation_NoOperation⟩ (ct_cons ⟨T.x_NoOperation.k, T.xi_NoOperation_NoOperation⟩ (ct_cons ⟨T.x_TooMany.k, T.xi_TooMany_NoOperation⟩ (ct_cons ⟨T.x_InvalidText.k, T.xi_InvalidText_NoOperation⟩ (ct_cons ⟨T.x_NoNetwork.k, T.xi_NoNetwork_NoOperation⟩ (ct_cons ⟨T.x_NoMoment.k, T.xi_NoMoment_NoOperation⟩ (ct_cons ⟨T.x_NoClock.k, T.xi_NoClock_NoOperation⟩ (ct_cons ⟨T.x_NoSpans.k, T.xi_NoSpans_NoOperation⟩ (ct_cons ⟨T.x_NoReading.k, T.xi_NoReading_NoOperation⟩ (ct_cons ⟨T.x_NoPoint.k, T.xi_NoPoint_NoOperation⟩ (ct_cons ⟨T.x_NothingLeft.k, T.xi_NothingLeft_NoOperation⟩ ct_nil))))))))))))) (kit_n T.x_NoOperation T.xn_NoOperation))) (da_cons (dv_e (de_isX (dv_v 0) (by rfl) T.z_isinstance (by rfl) T.m_TooMany (ct_cons ⟨T.x_NoEvent.k, T.xi_NoEvent_TooMany⟩ (ct_cons ⟨T.x_NoSource.k, T.xi_NoSource_TooMany⟩ (ct_cons ⟨T.x_NoStation.k, T.xi_NoStation_TooMany⟩ (ct_cons ⟨T.x_NoOperation.k, T.xi_NoOperation_TooMany⟩ (ct_cons ⟨T.x_TooMany.k, T.xi_TooMany_TooMany⟩ (ct_cons ⟨T.x_InvalidText.k, T.xi_InvalidText_TooMany⟩ (ct_cons ⟨T.x_NoNetwork.k, T.xi_NoNetwork_TooMany⟩ (ct_cons ⟨T.x_NoMoment.k, T.xi_NoMoment_TooMany⟩ (ct_cons ⟨T.x_NoClock.k, T.xi_NoClock_TooMany⟩ (ct_cons ⟨T.x_NoSpans.k, T.xi_NoSpans_TooMany⟩ (ct_cons ⟨T.x_NoReading.k, T.xi_NoReading_TooMany⟩ (ct_cons ⟨T.x_NoPoint.k, T.xi_NoPoint_TooMany⟩ (ct_cons ⟨T.x_NothingLeft.k, T.xi_NothingLeft_TooMany⟩ ct_nil))))))))))))) (kit_n T.x_TooMany T.xn_TooMany))) (da_cons (dv_e (de_isX (dv_v 0) (by rfl) T.z_isinstance (by rfl) T.m_InvalidText (ct_cons ⟨T.x_NoEvent.k, T.xi_NoEvent_InvalidText⟩ (ct_cons ⟨T.x_NoSource.k, T.xi_NoSource_InvalidText⟩ (ct_cons ⟨T.x_NoStation.k, T.xi_NoStation_InvalidText⟩ (ct_cons ⟨T.x_NoOperation.k, T.xi_NoOperation_InvalidText⟩ (ct_cons ⟨T.x_TooMany.k, T.xi_TooMany_InvalidText⟩ (ct_cons ⟨T.x_InvalidText.k, T.xi_InvalidText_InvalidText⟩ (ct_cons ⟨T.x_NoNetwork.k, T.xi_NoNetwork_InvalidText⟩ (ct_cons ⟨T.x_NoMoment.k, T.xi_NoMoment_InvalidText⟩ (ct_cons ⟨T.x_NoClock.k, T.xi_NoClock_InvalidText⟩ (ct_cons ⟨T.x_NoSpans.k, T.xi_NoSpans_InvalidText⟩ (ct_cons ⟨T.x_NoReading.k, T.xi_NoReading_InvalidText⟩ (ct_cons ⟨T.x_NoPoint.k, T.xi_NoPoint_InvalidText⟩ (ct_cons ⟨T.x_NothingLeft.k, T.xi_NothingLeft_InvalidText⟩ ct_nil))))))))))))) (kit_n T.x_InvalidText T.xn_InvalidText))) (da_nil)))))))) 
        (dss_cons (ds_set (i := 1) B.nd (by rfl) (by first | exact Or.inl rfl | exact Or.inr rfl) (de_op o_add (dv_v 1) (dv_e (de_lst (da_cons (dv_e (de_isX (dv_v 0) (by rfl) T.z_isinstance (by rfl) T.m_NoNetwork (ct_cons ⟨T.x_NoEvent.k, T.xi_NoEvent_NoNetwork⟩ (ct_cons ⟨T.x_NoSource.k, T.xi_NoSource_NoNetwork⟩ (ct_cons ⟨T.x_NoStation.k, T.xi_NoStation_NoNetwork⟩ (ct_cons ⟨T.x_NoOperation.k, T.xi_NoOperation_NoNetwork⟩ (ct_cons ⟨T.x_TooMany.k, T.xi_TooMany_NoNetwork⟩ (ct_cons ⟨T.x_InvalidText.k, T.xi_InvalidText_NoNetwork⟩ (ct_cons ⟨T.x_NoNetwork.k, T.xi_NoNetwork_NoNetwork⟩ (ct_cons ⟨T.x_NoMoment.k, T.xi_NoMoment_NoNetwork⟩ (ct_cons ⟨T.x_NoClock.k, T.xi_NoClock_NoNetwork⟩ (ct_cons ⟨T.x_NoSpans.k, T.xi_NoSpans_NoNetwork⟩ (ct_cons ⟨T.x_NoReading.k, T.xi_NoReading_NoNetwork⟩ (ct_cons ⟨T.x_NoPoint.k, T.xi_NoPoint_NoNetwork⟩ (ct_cons ⟨T.x_NothingLeft.k, T.xi_NothingLeft_NoNetwork⟩ ct_nil))))))))))))) (kit_n T.x_NoNetwork T.xn_NoNetwork))) (da_cons (dv_e (de_isX (dv_v 0) (by rfl) T.z_isinstance (by rfl) T.m_NoMoment (ct_cons ⟨T.x_NoEvent.k, T.xi_NoEvent_NoMoment⟩ (ct_cons ⟨T.x_NoSource.k, T.xi_NoSource_NoMoment⟩ (ct_cons ⟨T.x_NoStation.k, T.xi_NoStation_NoMoment⟩ (ct_cons ⟨T.x_NoOperation.k, T.xi_NoOperation_NoMoment⟩ (ct_cons ⟨T.x_TooMany.k, T.xi_TooMany_NoMoment⟩ (ct_cons ⟨T.x_InvalidText.k, T.xi_InvalidText_NoMoment⟩ (ct_cons ⟨T.x_NoNetwork.k, T.xi_NoNetwork_NoMoment⟩ (ct_cons ⟨T.x_NoMoment.k, T.xi_NoMoment_NoMoment⟩ (ct_cons ⟨T.x_NoClock.k, T.xi_NoClock_NoMoment⟩ (ct_cons ⟨T.x_NoSpans.k, T.xi_NoSpans_NoMoment⟩ (ct_cons ⟨T.x_NoReading.k, T.xi_NoReading_NoMoment⟩ (ct_cons ⟨T.x_NoPoint.k, T.xi_NoPoint_NoMoment⟩ (ct_cons ⟨T.x_NothingLeft.k, T.xi_NothingLeft_NoMoment⟩ ct_nil))))))))))))) (kit_n T.x_NoMoment T.xn_NoMoment))) (da_cons (dv_e (de_isX (dv_v 0) (by rfl) T.z_isinstance (by rfl) T.m_NoClock (ct_cons ⟨T.x_NoEvent.k, T.xi_NoEvent_NoClock⟩ (ct_cons ⟨T.x_NoSource.k, T.xi_NoSource_NoClock⟩ (ct_cons ⟨T.x_NoStation.k, T.xi_NoStation_NoClock⟩ (ct_cons ⟨T.x_NoOperation.k, T.xi_NoOperation_NoClock⟩ (ct_cons ⟨T.x_TooMany.k, T.xi_TooMany_NoClock⟩ (ct_cons ⟨T.x_InvalidText.k, T.xi_InvalidText_NoClock⟩ (ct_cons ⟨T.x_NoNetwork.k, T.xi_NoNetwork_NoClock⟩ (ct_cons ⟨T.x_NoMoment.k, T.xi_NoMoment_NoClock⟩ (ct_cons ⟨T.x_NoClock.k, T.xi_NoClock_NoClock⟩ (ct_cons ⟨T.x_NoSpans.k, T.xi_NoSpans_NoClock⟩ (ct_cons ⟨T.x_NoReading.k, T.xi_NoReading_NoClock⟩ (ct_cons ⟨T.x_NoPoint.k, T.xi_NoPoint_NoClock⟩ (ct_cons ⟨T.x_NothingLeft.k, T.xi_NothingLeft_NoClock⟩ ct_nil))))))))))))) (kit_n T.x_NoClock T.xn_NoClock))) (da_nil)))))))) 
        (dss_cons (ds_set (i := 1) B.nd (by rfl) (by first | exact Or.inl rfl | exact Or.inr rfl) (de_op o_add (dv_v 1) (dv_e (de_lst (da_cons (dv_e (de_isX (dv_v 0) (by rfl) T.z_isinstance (by rfl) T.m_NoSpans (ct_cons ⟨T.x_NoEvent.k, T.xi_NoEvent_NoSpans⟩ (ct_cons ⟨T.x_NoSource.k, T.xi_NoSource_NoSpans⟩ (ct_cons ⟨T.x_NoStation.k, T.xi_NoStation_NoSpans⟩ (ct_cons ⟨T.x_NoOperation.k, T.xi_NoOperation_NoSpans⟩ (ct_cons ⟨T.x_TooMany.k, T.xi_TooMany_NoSpans⟩ (ct_cons ⟨T.x_InvalidText.k, T.xi_InvalidText_NoSpans⟩ (ct_cons ⟨T.x_NoNetwork.k, T.xi_NoNetwork_NoSpans⟩ (ct_cons ⟨T.x_NoMoment.k, T.xi_NoMoment_NoSpans⟩ (ct_cons ⟨T.x_NoClock.k, T.xi_NoClock_NoSpans⟩ (ct_cons ⟨T.x_NoSpans.k, T.xi_NoSpans_NoSpans⟩ (ct_cons ⟨T.x_NoReading.k, T.xi_NoReading_NoSpans⟩ (ct_cons ⟨T.x_NoPoint.k, T.xi_NoPoint_NoSpans⟩ (ct_cons ⟨T.x_NothingLeft.k, T.xi_NothingLeft_NoSpans⟩ ct_nil))))))))))))) (kit_n T.x_NoSpans T.xn_NoSpans))) (da_cons (dv_e (de_isX (dv_v 0) (by rfl) T.z_isinstance (by rfl) T.m_NoReading (ct_cons ⟨T.x_NoEvent.k, T.xi_NoEvent_NoReading⟩ (ct_cons ⟨T.x_NoSource.k, T.xi_NoSource_NoReading⟩ (ct_cons ⟨T.x_NoStation.k, T.xi_NoStation_NoReading⟩ (ct_cons ⟨T.x_NoOperation.k, T.xi_NoOperation_NoReading⟩ (ct_cons ⟨T.x_TooMany.k, T.xi_TooMany_NoReading⟩ (ct_cons ⟨T.x_InvalidText.k, T.xi_InvalidText_NoReading⟩ (ct_cons ⟨T.x_NoNetwork.k, T.xi_NoNetwork_NoReading⟩ (ct_cons ⟨T.x_NoMoment.k, T.xi_NoMoment_NoReading⟩ (ct_cons ⟨T.x_NoClock.k, T.xi_NoClock_NoReading⟩ (ct_cons ⟨T.x_NoSpans.k, T.xi_NoSpans_NoReading⟩ (ct_cons ⟨T.x_NoReading.k, T.xi_NoReading_NoReading⟩ (ct_cons ⟨T.x_NoPoint.k, T.xi_NoPoint_NoReading⟩ (ct_cons ⟨T.x_NothingLeft.k, T.xi_NothingLeft_NoReading⟩ ct_nil))))))))))))) (kit_n T.x_NoReading T.xn_NoReading))) (da_cons (dv_e (de_isX (dv_v 0) (by rfl) T.z_isinstance (by rfl) T.m_NoPoint (ct_cons ⟨T.x_NoEvent.k, T.xi_NoEvent_NoPoint⟩ (ct_cons ⟨T.x_NoSource.k, T.xi_NoSource_NoPoint⟩ (ct_cons ⟨T.x_NoStation.k, T.xi_NoStation_NoPoint⟩ (ct_cons ⟨T.x_NoOperation.k, T.xi_NoOperation_NoPoint⟩ (ct_cons ⟨T.x_TooMany.k, T.xi_TooMany_NoPoint⟩ (ct_cons ⟨T.x_InvalidText.k, T.xi_InvalidText_NoPoint⟩ (ct_cons ⟨T.x_NoNetwork.k, T.xi_NoNetwork_NoPoint⟩ (ct_cons ⟨T.x_NoMoment.k, T.xi_NoMoment_NoPoint⟩ (ct_cons ⟨T.x_NoClock.k, T.xi_NoClock_NoPoint⟩ (ct_cons ⟨T.x_NoSpans.k, T.xi_NoSpans_NoPoint⟩ (ct_cons ⟨T.x_NoReading.k, T.xi_NoReading_NoPoint⟩ (ct_cons ⟨T.x_NoPoint.k, T.xi_NoPoint_NoPoint⟩ (ct_cons ⟨T.x_NothingLeft.k, T.xi_NothingLeft_NoPoint⟩ ct_nil))))))))))))) (kit_n T.x_NoPoint T.xn_NoPoint))) (da_nil)))))))) 
        (dss_cons (ds_expr (de_append (i := 1) (by rfl) (by first | exact Or.inl rfl | exact Or.inr (Or.inl rfl) | exact Or.inr (Or.inr rfl)) (dv_e (de_isX (dv_v 0) (by rfl) T.z_isinstance (by rfl) T.m_NothingLeft (ct_cons ⟨T.x_NoEvent.k, T.xi_NoEvent_NothingLeft⟩ (ct_cons ⟨T.x_NoSource.k, T.xi_NoSource_NothingLeft⟩ (ct_cons ⟨T.x_NoStation.k, T.xi_NoStation_NothingLeft⟩ (ct_cons ⟨T.x_NoOperation.k, T.xi_NoOperation_NothingLeft⟩ (ct_cons ⟨T.x_TooMany.k, T.xi_TooMany_NothingLeft⟩ (ct_cons ⟨T.x_InvalidText.k, T.xi_InvalidText_NothingLeft⟩ (ct_cons ⟨T.x_NoNetwork.k, T.xi_NoNetwork_NothingLeft⟩ (ct_cons ⟨T.x_NoMoment.k, T.xi_NoMoment_NothingLeft⟩ (ct_cons ⟨T.x_NoClock.k, T.xi_NoClock_NothingLeft⟩ (ct_cons ⟨T.x_NoSpans.k, T.xi_NoSpans_NothingLeft⟩ (ct_cons ⟨T.x_NoReading.k, T.xi_NoReading_NothingLeft⟩ (ct_cons ⟨T.x_NoPoint.k, T.xi_NoPoint_NothingLeft⟩ (ct_cons ⟨T.x_NothingLeft.k, T.xi_NothingLeft_NothingLeft⟩ ct_nil))))))))))))) (kit_n T.x_NothingLeft T.xn_NothingLeft))))) 
        (dss_cons (ds_if (DTW.dt (dtw_or (dt_cmp (o_ne B.room.units) (dv_e (de_countB (dv_v 1) (dv_e (de_bl)))) (dv_e (de_int)) (by rfl)) (dtw_or1 (dt_not (dt_val (de_isXT (dv_v 0) (by rfl) T.z_isinstance (by rfl) T.z_ValueError bt_ValueError (ct_cons ⟨T.x_NoEvent.k, kit_vt T.xv_NoEvent⟩ (ct_cons ⟨T.x_NoSource.k, kit_vt T.xv_NoSource⟩ (ct_cons ⟨T.x_NoStation.k, kit_vt T.xv_NoStation⟩ (ct_cons ⟨T.x_NoOperation.k, kit_vt T.xv_NoOperation⟩ (ct_cons ⟨T.x_TooMany.k, kit_vt T.xv_TooMany⟩ (ct_cons ⟨T.x_InvalidText.k, kit_vt T.xv_InvalidText⟩ (ct_cons ⟨T.x_NoNetwork.k, kit_vt T.xv_NoNetwork⟩ (ct_cons ⟨T.x_NoMoment.k, kit_vt T.xv_NoMoment⟩ (ct_cons ⟨T.x_NoClock.k, kit_vt T.xv_NoClock⟩ (ct_cons ⟨T.x_NoSpans.k, kit_vt T.xv_NoSpans⟩ (ct_cons ⟨T.x_NoReading.k, kit_vt T.xv_NoReading⟩ (ct_cons ⟨T.x_NoPoint.k, kit_vt T.xv_NoPoint⟩ (ct_cons ⟨T.x_NothingLeft.k, kit_vt T.xv_NothingLeft⟩ ct_nil))))))))))))) (kit_vn T.xvn))))))) (dss_one (ds_ret (de_non))) (dss_nil)) 
        (dss_cons (ds_set (i := 2) B.nd (by rfl) (by first | exact Or.inl rfl | exact Or.inr rfl) (de_indexB (dv_v 1) (dv_e (de_bl)))) 
        (dss_cons (ds_if (dt_cmp (o_in (DL.hu_of B.room)) (dv_v 2) (dv_e (de_tup (da_cons (dv_e (de_int)) (da_cons (dv_e (de_int)) (da_nil))))) (by rfl)) (dss_one (ds_ret (de_tup (da_cons (dv_v 2) (da_cons (dv_e (de_exF (dv_v 0) (cs_cons ⟨T.x_NoEvent.f, T.xf_NoEvent_index⟩ (cs_cons ⟨T.x_NoOperation.f, T.xf_NoOperation_index⟩ cs_nil)))) (da_nil)))))) (dss_nil)) 
        (dss_cons (ds_if (dt_cmp (o_in (DL.hu_of B.room)) (dv_v 2) (dv_e (de_tup (da_cons (dv_e (de_int)) (da_cons (dv_e (de_int)) (da_nil))))) (by rfl)) (dss_one (ds_ret (de_tup (da_cons (dv_v 2) (da_cons (dv_e (de_exF (dv_v 0) (cs_cons ⟨T.x_NoSource.f, T.xf_NoSource_name⟩ (cs_cons ⟨T.x_NoStation.f, T.xf_NoStation_name⟩ cs_nil)))) (da_nil)))))) (dss_nil)) 
        (dss_cons (ds_if (dt_cmp (o_eq B.room.units) (dv_v 2) (dv_e (de_int)) (by rfl)) (dss_one (ds_ret (de_tup (da_cons (dv_v 2) (da_cons (dv_e (de_exF (dv_v 0) (cs_cons ⟨T.x_TooMany.f, T.xf_TooMany_most⟩ cs_nil))) (da_nil)))))) (dss_nil)) 
        (dss_one (ds_ret (de_if (dt_cmp (o_eq B.room.units) (dv_v 2) (dv_e (de_int)) (by rfl)) (de_tup (da_cons (dv_v 2) (da_cons (dv_e (de_exF (dv_v 0) (cs_cons ⟨T.x_InvalidText.f, T.xf_InvalidText_line⟩ cs_nil))) (da_nil)))) (de_tup (da_cons (dv_v 2) (da_cons (dv_e (de_non)) (da_nil))))))))))))))))
theorem ok_law (T : Txt P K mg base) (hm : ∀ ns : List Int, ns.length ≤ 63 → ∃ s', F_law T.a_HourError T.a_NoEvent T.a_NoSource T.a_NoStation T.a_NoOperation T.a_TooMany T.a_InvalidText T.a_NoNetwork T.a_NoMoment T.a_NoClock T.a_NoSpans T.a_NoReading T.a_NoPoint T.a_NothingLeft T.a_tab_law (lawStT ns 6 [.tab T.a_tab_law "law.<locals>.<lambda>"]) = .ok (.rt (.fz (.bl true))) s') : DL.FnOk P w K mg base (L2.CX P w) 5 T.a_f_law T.d_law ["_law_script"] (spLawT K [(T.c_tab_law, T.a_tab_law)]) := by
  refine T.F_law.okG sc_law (fun vs H Q E h => ?_) (fun A outer s H vs Q E hr h => ?_)
  · obtain ⟨a, ns, rfl, _⟩ := h
    rfl
  · have B : Bd (cxOf (L2.CX P w) P w K mg base ["_law_script", "_law_draw", "_law_words", "_law_turn", "_law_at", "_law_word", "_law_worth", "_law_error"] "law" (defScope s_law) T.a_f_law (.ref T.c_tab_law) A outer s H E) (fun cls d _ H' => E cls d H') 4 := ⟨rfl, hr, takes_of rfl rfl rfl rfl, passes_of rfl, sc_law.nd⟩
    have rest : DSs (cxOf (L2.CX P w) P w K mg base ["_law_script", "_law_draw", "_law_words", "_law_turn", "_law_at", "_law_word", "_law_worth", "_law_error"] "law" (defScope s_law) T.a_f_law (.ref T.c_tab_law) A outer s H E) (fun cls d _ H' => E cls d H') (defBody s_law).tail (F_law T.a_HourError T.a_NoEvent T.a_NoSource T.a_NoStation T.a_NoOperation T.a_TooMany T.a_InvalidText T.a_NoNetwork T.a_NoMoment T.a_NoClock T.a_NoSpans T.a_NoReading T.a_NoPoint T.a_NothingLeft T.a_tab_law) := dss_cons (ds_set (i := 2) B.nd (by rfl) (by first | exact Or.inl rfl | exact Or.inr rfl) (de_lst (da_cons (dv_e (de_str)) (da_cons (dv_e (de_str)) (da_cons (dv_e (de_str)) (da_cons (dv_e (de_str)) (da_cons (dv_e (de_str)) (da_cons (dv_e (de_str)) (da_cons (dv_e (de_str)) (da_cons (dv_e (de_str)) (da_cons (dv_e (de_str)) (da_cons (dv_e (de_str)) (da_nil))))))))))))) 
        (dss_cons (ds_forR1 B.own B.calm (by rfl) T.z_range (da_cons (dv_e (de_op o_add (dv_e (de_int)) (dv_e (de_callB (c_min B.calm) (by rfl) T.z_min bt_min (da_cons (dv_e (de_callB c_len (by rfl) T.z_len bt_len (da_cons (dv_v 0) (da_nil)))) (da_cons (dv_e (de_int)) (da_nil))))))) (da_nil)) (dg_name (i := 3) B.nd (by rfl) (by first | exact Or.inl rfl | exact Or.inr rfl)) (dss_one (ds_forE B.own B.calm (by rfl) T.z_enumerate (da_cons (dv_e (de_op o_add (dv_v 2) (dv_e (de_lst (da_cons (dv_e (de_str)) (da_cons (dv_e (de_str)) (da_cons (dv_e (de_str)) (da_nil)))))))) (da_nil)) (dg_tup B.calm (dgs_cons (dg_name (i := 4) B.nd (by rfl) (by first | exact Or.inl rfl | exact Or.inr rfl)) (dgs_cons (dg_name (i := 5) B.nd (by rfl) (by first | exact Or.inl rfl | exact Or.inr rfl)) (dgs_nil)))) (dss_cons (ds_set (i := 6) B.nd (by rfl) (by first | exact Or.inl rfl | exact Or.inr rfl) (de_call (ms := [.F, .F]) (ok_law_pick T) rfl (B.room.mono (by decide)) T.m_law_pick T.F_law_pick.kp T.b_law_pick .nil (fun _ => .nil) B.tk rfl (da_cons (dv_v 1) (da_cons (dv_e (de_lst (da_cons (dv_e (de_non)) (da_cons (dv_e (de_int)) (da_cons (dv_e (de_call (ms := [.F, .F]) (ok_law_take T) rfl (B.room.mono (by decide)) T.m_law_take T.F_law_take.kp T.b_law_take .nil (fun _ => .nil) B.tk rfl (da_cons (dv_v 1) (da_cons (dv_e (de_int)) (da_nil))))) (da_cons (dv_e (de_str)) (da_cons (dv_e (de_tup (da_cons (dv_e (de_int)) (da_cons (dv_e (de_str)) (da_nil))))) (da_cons (dv_e (de_bl)) (da_cons (dv_e (de_un o_neg (dv_e (de_int)))) (da_cons (dv_e (de_lst (da_cons (dv_e (de_int)) (da_nil)))) (da_nil))))))))))) (da_nil))))) 
            (dss_cons (ds_set (i := 7) B.nd (by rfl) (by first | exact Or.inl rfl | exact Or.inr rfl) (de_lamG (nt := 0) (k := 2) (i := 2) (j := 1) (q := "law.<locals>.<lambda>") T.m_law_caught T.F_law_caught sc_law_caught T.b_law_caught (by rfl) (by rfl) (by rfl) (by rfl) (by rfl) (by decide) (by decide) (by decide) (by first | exact Or.inl rfl | exact Or.inr (Or.inl rfl) | exact Or.inr (Or.inr rfl)) (by first | exact Or.inl rfl | exact Or.inr (Or.inl rfl) | exact Or.inr (Or.inr rfl)) (by first | exact Or.inl rfl | exact Or.inr rfl) (by rfl) (by rfl) T.m_HourError (by decide) (ct_cons T.xm_NoEvent_HourError (ct_cons T.xm_NoSource_HourError (ct_cons T.xm_NoStation_HourError (ct_cons T.xm_NoOperation_HourError (ct_cons T.xm_TooMany_HourError (ct_cons T.xm_InvalidText_HourError (ct_cons T.xm_NoNetwork_HourError (ct_cons T.xm_NoMoment_HourError (ct_cons T.xm_NoClock_HourError (ct_cons T.xm_NoSpans_HourError (ct_cons T.xm_NoReading_HourError (ct_cons T.xm_NoPoint_HourError (ct_cons T.xm_NothingLeft_HourError ct_nil))))))))))))) ((okr_law_caught T).mono (by decide)) T.tb_tab_law (by rfl) (by rfl) (B.room.mono (by decide)) B.tk B.nd (LamX.lamS_by (sc := defScope s_law) (by decide +kernel)) (by rfl) (fun _ _ _ _ _ => by rfl) (fun A outer s H E f c' Y hY B => by subst hY; exact (de_call (ms := [.F, .F]) (ok_law_raised T) rfl (B.room.mono (by decide)) T.m_law_raised T.F_law_raised.kp T.b_law_raised .nil (fun _ => .nil) B.tk rfl (da_cons (dv_v 5) (da_cons (dv_v 6) (da_nil))))))) 
            (dss_one (ds_if (dt_cmp o_neS (dv_e (de_callB (c_repr B.room) (by rfl) T.z_repr bt_repr (da_cons (dv_e (de_call (ms := [.F]) (ok_law_field T) rfl (B.room.mono (by decide)) T.m_law_field T.F_law_field.kp T.b_law_field .nil (fun _ => .nil) B.tk rfl (da_cons (dv_v 7) (da_nil)))) (da_nil)))) (dv_e (de_callB (c_repr B.room) (by rfl) T.z_repr bt_repr (da_cons (dv_e (de_tup (da_cons (dv_v 4) (da_cons (dv_e (de_if (dt_cmp o_lt (dv_v 4) (dv_e (de_int)) (by rfl)) (de_v 6) (de_non))) (da_nil))))) (da_nil)))) (by rfl)) (dss_one (ds_ret (de_bl))) (dss_nil)))))))) 
        (dss_one (ds_ret (de_bl))))
    exact ⟨_, pss_cons (ps_set (i := 1) sc_law.nd rfl (by first | exact Or.inl rfl | exact Or.inr rfl) (DL.pe_callSD (ok_law_begin T) (B.room.mono (by decide)) (by rfl) T.m_law_begin T.F_law_begin.kp T.b_law_begin .nil (fun σ => passAt B.tk σ) (pa_cons (pv 0) pa_nil))) rest, law_runT (cs := [(T.c_tab_law, T.a_tab_law)]) (qs := ["law.<locals>.<lambda>"]) rfl h hm⟩
end
theorem all_mk {l : PySem.W.OpenLaw} {w : World} {K : PySem.W.Frag} {h : Heap} {mg : Str → Option Value} {fa : Addr} {qp : Program} (hm : ∀ (a_HourError : Addr) (a_NoEvent : Addr) (a_NoSource : Addr) (a_NoStation : Addr) (a_NoOperation : Addr) (a_TooMany : Addr) (a_InvalidText : Addr) (a_NoNetwork : Addr) (a_NoMoment : Addr) (a_NoClock : Addr) (a_NoSpans : Addr) (a_NoReading : Addr) (a_NoPoint : Addr) (a_NothingLeft : Addr) (a_tab_law : Addr) (nx : [a_HourError, a_NoEvent, a_NoSource, a_NoStation, a_NoOperation, a_TooMany, a_InvalidText, a_NoNetwork, a_NoMoment, a_NoClock, a_NoSpans, a_NoReading, a_NoPoint, a_NothingLeft].Nodup) (ns : List Int), ns.length ≤ 63 → ∃ s', F_law a_HourError a_NoEvent a_NoSource a_NoStation a_NoOperation a_TooMany a_InvalidText a_NoNetwork a_NoMoment a_NoClock a_NoSpans a_NoReading a_NoPoint a_NothingLeft a_tab_law (lawStT ns 6 [.tab a_tab_law "law.<locals>.<lambda>"]) = .ok (.rt (.fz (.bl true))) s') (X : K.In h) (G : h.Ns mainGlobals mg) (hfa : mg "law" = some (.ref fa)) (TT : TopTabs qp K h)
    {A_HourError A_NoEvent A_NoSource A_NoStation A_NoOperation A_TooMany A_InvalidText A_NoNetwork A_NoMoment A_NoClock A_NoSpans A_NoReading A_NoPoint A_NothingLeft XI_NoEvent XD_NoEvent XE_NoEvent XI_NoSource XD_NoSource XE_NoSource XI_NoStation XD_NoStation XE_NoStation XI_NoOperation XD_NoOperation XE_NoOperation XI_TooMany XD_TooMany XE_TooMany XI_InvalidText XD_InvalidText XE_InvalidText A_tab_law C_tab_law A_f_law_begin A_f_law_take A_f_law_pick A_f_law_caught A_f_law_raised A_f_law_field A_f_law : Addr} {od0 an0 od1 an1 od2 an2 od3 an3 od4 an4 od5 an5 od6 an6 : Option Addr} {sl0 sl1 sl2 sl3 sl4 sl5 sl6 : Array (Option Value)} {oc0 kV0 dc0 pm0 cd0 ct0 oc1 kV1 dc1 pm1 cd1 ct1 oc2 kV2 dc2 pm2 cd2 ct2 oc3 kV3 dc3 pm3 cd3 ct3 oc4 kV4 dc4 pm4 cd4 ct4 oc5 kV5 dc5 pm5 cd5 ct5 oc6 kV6 dc6 pm6 ct6 : Value} {XN_NoEvent : Addr} {xnm_NoEvent xqu_NoEvent xfile_NoEvent : Str} {xbs_NoEvent xbm_NoEvent xsub_NoEvent : List Value} {xsn_NoEvent : List Str} {xab_NoEvent : Bool} {xcol_NoEvent : Option Bool} {xdd_NoEvent xod_NoEvent xan_NoEvent xcdd_NoEvent xcld_NoEvent : Option Addr} {xm0_NoEvent xm1_NoEvent xm2_NoEvent xm3_NoEvent xm5_NoEvent : Option Value} {xoc_NoEvent xkV_NoEvent xdo_NoEvent xpm_NoEvent xct_NoEvent xccl_NoEvent xcl_NoEvent : Value} {xosl_NoEvent xccs_NoEvent xcsl_NoEvent : Array (Option Value)} {xvs_NoEvent : Array Value} {xtf_NoEvent : Tok} {XN_NoSource : Addr} {xnm_NoSource xqu_NoSource xfile_NoSource : Str} {xbs_NoSource xbm_NoSource xsub_NoSource : List Value} {xsn_NoSource : List Str} {xab_NoSource : Bool} {xcol_NoSource : Option Bool} {xdd_NoSource xod_NoSource xan_NoSource xcdd_NoSource xcld_NoSource : Option Addr} {xm0_NoSource xm1_NoSource xm2_NoSource xm3_NoSource xm5_NoSource : Option Value} {xoc_NoSource xkV_NoSource xdo_NoSource xpm_NoSource xct_NoSource xccl_NoSource xcl_NoSource : Value} {xosl_NoSource xccs_NoSource xcsl_NoSource : Array (Option Value)} {xvs_NoSource : Array Value} {xtf_NoSource : Tok} {XN_NoStation : Addr} {xnm_NoStation xqu_NoStation xfile_NoStation : Str} {xbs_NoStation xbm_NoStation xsub_NoStation : List Value} {xsn_NoStation : List Str} {xab_NoStation : Bool} {xcol_NoStation : Option Bool} {xdd_NoStation xod_NoStation xan_NoStation xcdd_NoStation xcld_NoStation : Option Addr} {xm0_NoStation xm1_NoStation xm2_NoStation xm3_NoStation xm5_NoStation : Option Value} {xoc_NoStation xkV_NoStation xdo_NoStation xpm_NoStation xct_NoStation xccl_NoStation xcl_NoStation : Value} {xosl_NoStation xccs_NoStation xcsl_NoStation : Array (Option Value)} {xvs_NoStation : Array Value} {xtf_NoStation : Tok} {XN_NoOperation : Addr} {xnm_NoOperation xqu_NoOperation xfile_NoOperation : Str} {xbs_NoOperation xbm_NoOperation xsub_NoOperation : List Value} {xsn_NoOperation : List Str} {xab_NoOperation : Bool} {xcol_NoOperation : Option Bool} {xdd_NoOperation xod_NoOperation xan_NoOperation xcdd_NoOperation xcld_NoOperation : Option Addr} {xm0_NoOperation xm1_NoOperation xm2_NoOperation xm3_NoOperation xm5_NoOperation : Option Value} {xoc_NoOperation xkV_NoOperation xdo_NoOperation xpm_NoOperation xct_NoOperation xccl_NoOperation xcl_NoOperation : Value} {xosl_NoOperation xccs_NoOperation xcsl_NoOperation : Array (Option Value)} {xvs_NoOperation : Array Value} {xtf_NoOperation : Tok} {XN_TooMany : Addr} {xnm_TooMany xqu_TooMany xfile_TooMany : Str} {xbs_TooMany xbm_TooMany xsub_TooMany : List Value} {xsn_TooMany : List Str} {xab_TooMany : Bool} {xcol_TooMany : Option Bool} {xdd_TooMany xod_TooMany xan_TooMany xcdd_TooMany xcld_TooMany : Option Addr} {xm0_TooMany xm1_TooMany xm2_TooMany xm3_TooMany xm5_TooMany : Option Value} {xoc_TooMany xkV_TooMany xdo_TooMany xpm_TooMany xct_TooMany xccl_TooMany xcl_TooMany : Value} {xosl_TooMany xccs_TooMany xcsl_TooMany : Array (Option Value)} {xvs_TooMany : Array Value} {xtf_TooMany : Tok} {XN_InvalidText : Addr} {xnm_InvalidText xqu_InvalidText xfile_InvalidText : Str} {xbs_InvalidText xbm_InvalidText xsub_InvalidText : List Value} {xsn_InvalidText : List Str} {xab_InvalidText : Bool} {xcol_InvalidText : Option Bool} {xdd_InvalidText xod_InvalidText xan_InvalidText xcdd_InvalidText xcld_InvalidText : Option Addr} {xm0_InvalidText xm1_InvalidText xm2_InvalidText xm3_InvalidText xm5_InvalidText : Option Value} {xoc_InvalidText xkV_InvalidText xdo_InvalidText xpm_InvalidText xct_InvalidText xccl_InvalidText xcl_InvalidText : Value} {xosl_InvalidText xccs_InvalidText xcsl_InvalidText : Array (Option Value)} {xvs_InvalidText : Array Value} {xtf_InvalidText : Tok}
    (zz_abs : PySem.W.nsIn K mainGlobals "abs" = some none)
    (zz_list : PySem.W.nsIn K mainGlobals "list" = some none)
    (zz_range : PySem.W.nsIn K mainGlobals "range" = some none)
    (zz_len : PySem.W.nsIn K mainGlobals "len" = some none)
    (zz_min : PySem.W.nsIn K mainGlobals "min" = some none)
    (zz_enumerate : PySem.W.nsIn K mainGlobals "enumerate" = some none)
    (zz_int : PySem.W.nsIn K mainGlobals "int" = some none)
    (zz_divmod : PySem.W.nsIn K mainGlobals "divmod" = some none)
    (zz_str : PySem.W.nsIn K mainGlobals "str" = some none)
    (zz_isinstance : PySem.W.nsIn K mainGlobals "isinstance" = some none)
    (zz_ValueError : PySem.W.nsIn K mainGlobals "ValueError" = some none)
    (zz_repr : PySem.W.nsIn K mainGlobals "repr" = some none)
    (xsp : PySem.W.specialIn K (.builtin "object.__class__") "__get__" = some (some (.builtin "getset_descriptor.__get__")))
    (xtk : PySem.W.takesIn K (.builtin "object.__class__") = some true)
    (hm_HourError : PySem.W.nsIn K mainGlobals "HourError" = some (some (.ref A_HourError)))
    (xh_HourError : PySem.W.hasDictIn K A_HourError = true)
    (xt_HourError : PySem.W.typeIn K (.ref A_HourError) = some (.type "type"))
    (xb_HourError : PySem.W.subIn K (.ref A_HourError) (.type "BaseException") = some true)
    (xg_HourError : PySem.W.findIn K (.ref A_HourError) "__getattribute__" = some (some (.builtin "BaseException.__getattribute__")))
    (xq_HourError : PySem.W.findIn K (.ref A_HourError) "__getattr__" = some none)
    (xc_HourError : PySem.W.findIn K (.ref A_HourError) "__class__" = some (some (.builtin "object.__class__")))
    (xo_HourError : PySem.W.mroIn K A_HourError (.type "object") = some true)
    (hm_NoEvent : PySem.W.nsIn K mainGlobals "NoEvent" = some (some (.ref A_NoEvent)))
    (xh_NoEvent : PySem.W.hasDictIn K A_NoEvent = true)
    (xt_NoEvent : PySem.W.typeIn K (.ref A_NoEvent) = some (.type "type"))
    (xb_NoEvent : PySem.W.subIn K (.ref A_NoEvent) (.type "BaseException") = some true)
    (xg_NoEvent : PySem.W.findIn K (.ref A_NoEvent) "__getattribute__" = some (some (.builtin "BaseException.__getattribute__")))
    (xq_NoEvent : PySem.W.findIn K (.ref A_NoEvent) "__getattr__" = some none)
    (xc_NoEvent : PySem.W.findIn K (.ref A_NoEvent) "__class__" = some (some (.builtin "object.__class__")))
    (xo_NoEvent : PySem.W.mroIn K A_NoEvent (.type "object") = some true)
    (hm_NoSource : PySem.W.nsIn K mainGlobals "NoSource" = some (some (.ref A_NoSource)))
    (xh_NoSource : PySem.W.hasDictIn K A_NoSource = true)
    (xt_NoSource : PySem.W.typeIn K (.ref A_NoSource) = some (.type "type"))
    (xb_NoSource : PySem.W.subIn K (.ref A_NoSource) (.type "BaseException") = some true)
    (xg_NoSource : PySem.W.findIn K (.ref A_NoSource) "__getattribute__" = some (some (.builtin "BaseException.__getattribute__")))
    (xq_NoSource : PySem.W.findIn K (.ref A_NoSource) "__getattr__" = some none)
    (xc_NoSource : PySem.W.findIn K (.ref A_NoSource) "__class__" = some (some (.builtin "object.__class__")))
    (xo_NoSource : PySem.W.mroIn K A_NoSource (.type "object") = some true)
    (hm_NoStation : PySem.W.nsIn K mainGlobals "NoStation" = some (some (.ref A_NoStation)))
    (xh_NoStation : PySem.W.hasDictIn K A_NoStation = true)
    (xt_NoStation : PySem.W.typeIn K (.ref A_NoStation) = some (.type "type"))
    (xb_NoStation : PySem.W.subIn K (.ref A_NoStation) (.type "BaseException") = some true)
    (xg_NoStation : PySem.W.findIn K (.ref A_NoStation) "__getattribute__" = some (some (.builtin "BaseException.__getattribute__")))
    (xq_NoStation : PySem.W.findIn K (.ref A_NoStation) "__getattr__" = some none)
    (xc_NoStation : PySem.W.findIn K (.ref A_NoStation) "__class__" = some (some (.builtin "object.__class__")))
    (xo_NoStation : PySem.W.mroIn K A_NoStation (.type "object") = some true)
    (hm_NoOperation : PySem.W.nsIn K mainGlobals "NoOperation" = some (some (.ref A_NoOperation)))
    (xh_NoOperation : PySem.W.hasDictIn K A_NoOperation = true)
    (xt_NoOperation : PySem.W.typeIn K (.ref A_NoOperation) = some (.type "type"))
    (xb_NoOperation : PySem.W.subIn K (.ref A_NoOperation) (.type "BaseException") = some true)
    (xg_NoOperation : PySem.W.findIn K (.ref A_NoOperation) "__getattribute__" = some (some (.builtin "BaseException.__getattribute__")))
    (xq_NoOperation : PySem.W.findIn K (.ref A_NoOperation) "__getattr__" = some none)
    (xc_NoOperation : PySem.W.findIn K (.ref A_NoOperation) "__class__" = some (some (.builtin "object.__class__")))
    (xo_NoOperation : PySem.W.mroIn K A_NoOperation (.type "object") = some true)
    (hm_TooMany : PySem.W.nsIn K mainGlobals "TooMany" = some (some (.ref A_TooMany)))
    (xh_TooMany : PySem.W.hasDictIn K A_TooMany = true)
    (xt_TooMany : PySem.W.typeIn K (.ref A_TooMany) = some (.type "type"))
    (xb_TooMany : PySem.W.subIn K (.ref A_TooMany) (.type "BaseException") = some true)
    (xg_TooMany : PySem.W.findIn K (.ref A_TooMany) "__getattribute__" = some (some (.builtin "BaseException.__getattribute__")))
    (xq_TooMany : PySem.W.findIn K (.ref A_TooMany) "__getattr__" = some none)
    (xc_TooMany : PySem.W.findIn K (.ref A_TooMany) "__class__" = some (some (.builtin "object.__class__")))
    (xo_TooMany : PySem.W.mroIn K A_TooMany (.type "object") = some true)
    (hm_InvalidText : PySem.W.nsIn K mainGlobals "InvalidText" = some (some (.ref A_InvalidText)))
    (xh_InvalidText : PySem.W.hasDictIn K A_InvalidText = true)
    (xt_InvalidText : PySem.W.typeIn K (.ref A_InvalidText) = some (.type "type"))
    (xb_InvalidText : PySem.W.subIn K (.ref A_InvalidText) (.type "BaseException") = some true)
    (xg_InvalidText : PySem.W.findIn K (.ref A_InvalidText) "__getattribute__" = some (some (.builtin "BaseException.__getattribute__")))
    (xq_InvalidText : PySem.W.findIn K (.ref A_InvalidText) "__getattr__" = some none)
    (xc_InvalidText : PySem.W.findIn K (.ref A_InvalidText) "__class__" = some (some (.builtin "object.__class__")))
    (xo_InvalidText : PySem.W.mroIn K A_InvalidText (.type "object") = some true)
    (hm_NoNetwork : PySem.W.nsIn K mainGlobals "NoNetwork" = some (some (.ref A_NoNetwork)))
    (xh_NoNetwork : PySem.W.hasDictIn K A_NoNetwork = true)
    (xt_NoNetwork : PySem.W.typeIn K (.ref A_NoNetwork) = some (.type "type"))
    (xb_NoNetwork : PySem.W.subIn K (.ref A_NoNetwork) (.type "BaseException") = some true)
    (xg_NoNetwork : PySem.W.findIn K (.ref A_NoNetwork) "__getattribute__" = some (some (.builtin "BaseException.__getattribute__")))
    (xq_NoNetwork : PySem.W.findIn K (.ref A_NoNetwork) "__getattr__" = some none)
    (xc_NoNetwork : PySem.W.findIn K (.ref A_NoNetwork) "__class__" = some (some (.builtin "object.__class__")))
    (xo_NoNetwork : PySem.W.mroIn K A_NoNetwork (.type "object") = some true)
    (hm_NoMoment : PySem.W.nsIn K mainGlobals "NoMoment" = some (some (.ref A_NoMoment)))
    (xh_NoMoment : PySem.W.hasDictIn K A_NoMoment = true)
    (xt_NoMoment : PySem.W.typeIn K (.ref A_NoMoment) = some (.type "type"))
    (xb_NoMoment : PySem.W.subIn K (.ref A_NoMoment) (.type "BaseException") = some true)
    (xg_NoMoment : PySem.W.findIn K (.ref A_NoMoment) "__getattribute__" = some (some (.builtin "BaseException.__getattribute__")))
    (xq_NoMoment : PySem.W.findIn K (.ref A_NoMoment) "__getattr__" = some none)
    (xc_NoMoment : PySem.W.findIn K (.ref A_NoMoment) "__class__" = some (some (.builtin "object.__class__")))
    (xo_NoMoment : PySem.W.mroIn K A_NoMoment (.type "object") = some true)
    (hm_NoClock : PySem.W.nsIn K mainGlobals "NoClock" = some (some (.ref A_NoClock)))
    (xh_NoClock : PySem.W.hasDictIn K A_NoClock = true)
    (xt_NoClock : PySem.W.typeIn K (.ref A_NoClock) = some (.type "type"))
    (xb_NoClock : PySem.W.subIn K (.ref A_NoClock) (.type "BaseException") = some true)
    (xg_NoClock : PySem.W.findIn K (.ref A_NoClock) "__getattribute__" = some (some (.builtin "BaseException.__getattribute__")))
    (xq_NoClock : PySem.W.findIn K (.ref A_NoClock) "__getattr__" = some none)
    (xc_NoClock : PySem.W.findIn K (.ref A_NoClock) "__class__" = some (some (.builtin "object.__class__")))
    (xo_NoClock : PySem.W.mroIn K A_NoClock (.type "object") = some true)
    (hm_NoSpans : PySem.W.nsIn K mainGlobals "NoSpans" = some (some (.ref A_NoSpans)))
    (xh_NoSpans : PySem.W.hasDictIn K A_NoSpans = true)
    (xt_NoSpans : PySem.W.typeIn K (.ref A_NoSpans) = some (.type "type"))
    (xb_NoSpans : PySem.W.subIn K (.ref A_NoSpans) (.type "BaseException") = some true)
    (xg_NoSpans : PySem.W.findIn K (.ref A_NoSpans) "__getattribute__" = some (some (.builtin "BaseException.__getattribute__")))
    (xq_NoSpans : PySem.W.findIn K (.ref A_NoSpans) "__getattr__" = some none)
    (xc_NoSpans : PySem.W.findIn K (.ref A_NoSpans) "__class__" = some (some (.builtin "object.__class__")))
    (xo_NoSpans : PySem.W.mroIn K A_NoSpans (.type "object") = some true)
    (hm_NoReading : PySem.W.nsIn K mainGlobals "NoReading" = some (some (.ref A_NoReading)))
    (xh_NoReading : PySem.W.hasDictIn K A_NoReading = true)
    (xt_NoReading : PySem.W.typeIn K (.ref A_NoReading) = some (.type "type"))
    (xb_NoReading : PySem.W.subIn K (.ref A_NoReading) (.type "BaseException") = some true)
    (xg_NoReading : PySem.W.findIn K (.ref A_NoReading) "__getattribute__" = some (some (.builtin "BaseException.__getattribute__")))
    (xq_NoReading : PySem.W.findIn K (.ref A_NoReading) "__getattr__" = some none)
    (xc_NoReading : PySem.W.findIn K (.ref A_NoReading) "__class__" = some (some (.builtin "object.__class__")))
    (xo_NoReading : PySem.W.mroIn K A_NoReading (.type "object") = some true)
    (hm_NoPoint : PySem.W.nsIn K mainGlobals "NoPoint" = some (some (.ref A_NoPoint)))
    (xh_NoPoint : PySem.W.hasDictIn K A_NoPoint = true)
    (xt_NoPoint : PySem.W.typeIn K (.ref A_NoPoint) = some (.type "type"))
    (xb_NoPoint : PySem.W.subIn K (.ref A_NoPoint) (.type "BaseException") = some true)
    (xg_NoPoint : PySem.W.findIn K (.ref A_NoPoint) "__getattribute__" = some (some (.builtin "BaseException.__getattribute__")))
    (xq_NoPoint : PySem.W.findIn K (.ref A_NoPoint) "__getattr__" = some none)
    (xc_NoPoint : PySem.W.findIn K (.ref A_NoPoint) "__class__" = some (some (.builtin "object.__class__")))
    (xo_NoPoint : PySem.W.mroIn K A_NoPoint (.type "object") = some true)
    (hm_NothingLeft : PySem.W.nsIn K mainGlobals "NothingLeft" = some (some (.ref A_NothingLeft)))
    (xh_NothingLeft : PySem.W.hasDictIn K A_NothingLeft = true)
    (xt_NothingLeft : PySem.W.typeIn K (.ref A_NothingLeft) = some (.type "type"))
    (xb_NothingLeft : PySem.W.subIn K (.ref A_NothingLeft) (.type "BaseException") = some true)
    (xg_NothingLeft : PySem.W.findIn K (.ref A_NothingLeft) "__getattribute__" = some (some (.builtin "BaseException.__getattribute__")))
    (xq_NothingLeft : PySem.W.findIn K (.ref A_NothingLeft) "__getattr__" = some none)
    (xc_NothingLeft : PySem.W.findIn K (.ref A_NothingLeft) "__class__" = some (some (.builtin "object.__class__")))
    (xo_NothingLeft : PySem.W.mroIn K A_NothingLeft (.type "object") = some true)
    (xk_NoEvent : PySem.W.keepIn K (.ref A_NoEvent) = true)
    (xk_NoSource : PySem.W.keepIn K (.ref A_NoSource) = true)
    (xk_NoStation : PySem.W.keepIn K (.ref A_NoStation) = true)
    (xk_NoOperation : PySem.W.keepIn K (.ref A_NoOperation) = true)
    (xk_TooMany : PySem.W.keepIn K (.ref A_TooMany) = true)
    (xk_InvalidText : PySem.W.keepIn K (.ref A_InvalidText) = true)
    (xe_NoNetwork : PySem.W.excIn K A_NoNetwork [.type "ValueError", .type "Exception", .type "BaseException", .type "object"] "ValueError.__new__" = true)
    (xk_NoNetwork : PySem.W.keepIn K (.ref A_NoNetwork) = true)
    (xe_NoMoment : PySem.W.excIn K A_NoMoment [.type "ValueError", .type "Exception", .type "BaseException", .type "object"] "ValueError.__new__" = true)
    (xk_NoMoment : PySem.W.keepIn K (.ref A_NoMoment) = true)
    (xe_NoClock : PySem.W.excIn K A_NoClock [.type "ValueError", .type "Exception", .type "BaseException", .type "object"] "ValueError.__new__" = true)
    (xk_NoClock : PySem.W.keepIn K (.ref A_NoClock) = true)
    (xe_NoSpans : PySem.W.excIn K A_NoSpans [.type "ValueError", .type "Exception", .type "BaseException", .type "object"] "ValueError.__new__" = true)
    (xk_NoSpans : PySem.W.keepIn K (.ref A_NoSpans) = true)
    (xe_NoReading : PySem.W.excIn K A_NoReading [.type "ValueError", .type "Exception", .type "BaseException", .type "object"] "ValueError.__new__" = true)
    (xk_NoReading : PySem.W.keepIn K (.ref A_NoReading) = true)
    (xe_NoPoint : PySem.W.excIn K A_NoPoint [.type "ValueError", .type "Exception", .type "BaseException", .type "object"] "ValueError.__new__" = true)
    (xk_NoPoint : PySem.W.keepIn K (.ref A_NoPoint) = true)
    (xe_NothingLeft : PySem.W.excIn K A_NothingLeft [.type "ValueError", .type "Exception", .type "BaseException", .type "object"] "ValueError.__new__" = true)
    (xk_NothingLeft : PySem.W.keepIn K (.ref A_NothingLeft) = true)
    (ne_x0_1 : A_HourError ≠ A_NoEvent)
    (ne_x0_2 : A_HourError ≠ A_NoSource)
    (ne_x0_3 : A_HourError ≠ A_NoStation)
    (ne_x0_4 : A_HourError ≠ A_NoOperation)
    (ne_x0_5 : A_HourError ≠ A_TooMany)
    (ne_x0_6 : A_HourError ≠ A_InvalidText)
    (ne_x0_7 : A_HourError ≠ A_NoNetwork)
    (ne_x0_8 : A_HourError ≠ A_NoMoment)
    (ne_x0_9 : A_HourError ≠ A_NoClock)
    (ne_x0_10 : A_HourError ≠ A_NoSpans)
    (ne_x0_11 : A_HourError ≠ A_NoReading)
    (ne_x0_12 : A_HourError ≠ A_NoPoint)
    (ne_x0_13 : A_HourError ≠ A_NothingLeft)
    (ne_x1_2 : A_NoEvent ≠ A_NoSource)
    (ne_x1_3 : A_NoEvent ≠ A_NoStation)
    (ne_x1_4 : A_NoEvent ≠ A_NoOperation)
    (ne_x1_5 : A_NoEvent ≠ A_TooMany)
    (ne_x1_6 : A_NoEvent ≠ A_InvalidText)
    (ne_x1_7 : A_NoEvent ≠ A_NoNetwork)
    (ne_x1_8 : A_NoEvent ≠ A_NoMoment)
    (ne_x1_9 : A_NoEvent ≠ A_NoClock)
    (ne_x1_10 : A_NoEvent ≠ A_NoSpans)
    (ne_x1_11 : A_NoEvent ≠ A_NoReading)
    (ne_x1_12 : A_NoEvent ≠ A_NoPoint)
    (ne_x1_13 : A_NoEvent ≠ A_NothingLeft)
    (ne_x2_3 : A_NoSource ≠ A_NoStation)
    (ne_x2_4 : A_NoSource ≠ A_NoOperation)
    (ne_x2_5 : A_NoSource ≠ A_TooMany)
    (ne_x2_6 : A_NoSource ≠ A_InvalidText)
    (ne_x2_7 : A_NoSource ≠ A_NoNetwork)
    (ne_x2_8 : A_NoSource ≠ A_NoMoment)
    (ne_x2_9 : A_NoSource ≠ A_NoClock)
    (ne_x2_10 : A_NoSource ≠ A_NoSpans)
    (ne_x2_11 : A_NoSource ≠ A_NoReading)
    (ne_x2_12 : A_NoSource ≠ A_NoPoint)
    (ne_x2_13 : A_NoSource ≠ A_NothingLeft)
    (ne_x3_4 : A_NoStation ≠ A_NoOperation)
    (ne_x3_5 : A_NoStation ≠ A_TooMany)
    (ne_x3_6 : A_NoStation ≠ A_InvalidText)
    (ne_x3_7 : A_NoStation ≠ A_NoNetwork)
    (ne_x3_8 : A_NoStation ≠ A_NoMoment)
    (ne_x3_9 : A_NoStation ≠ A_NoClock)
    (ne_x3_10 : A_NoStation ≠ A_NoSpans)
    (ne_x3_11 : A_NoStation ≠ A_NoReading)
    (ne_x3_12 : A_NoStation ≠ A_NoPoint)
    (ne_x3_13 : A_NoStation ≠ A_NothingLeft)
    (ne_x4_5 : A_NoOperation ≠ A_TooMany)
    (ne_x4_6 : A_NoOperation ≠ A_InvalidText)
    (ne_x4_7 : A_NoOperation ≠ A_NoNetwork)
    (ne_x4_8 : A_NoOperation ≠ A_NoMoment)
    (ne_x4_9 : A_NoOperation ≠ A_NoClock)
    (ne_x4_10 : A_NoOperation ≠ A_NoSpans)
    (ne_x4_11 : A_NoOperation ≠ A_NoReading)
    (ne_x4_12 : A_NoOperation ≠ A_NoPoint)
    (ne_x4_13 : A_NoOperation ≠ A_NothingLeft)
    (ne_x5_6 : A_TooMany ≠ A_InvalidText)
    (ne_x5_7 : A_TooMany ≠ A_NoNetwork)
    (ne_x5_8 : A_TooMany ≠ A_NoMoment)
    (ne_x5_9 : A_TooMany ≠ A_NoClock)
    (ne_x5_10 : A_TooMany ≠ A_NoSpans)
    (ne_x5_11 : A_TooMany ≠ A_NoReading)
    (ne_x5_12 : A_TooMany ≠ A_NoPoint)
    (ne_x5_13 : A_TooMany ≠ A_NothingLeft)
    (ne_x6_7 : A_InvalidText ≠ A_NoNetwork)
    (ne_x6_8 : A_InvalidText ≠ A_NoMoment)
    (ne_x6_9 : A_InvalidText ≠ A_NoClock)
    (ne_x6_10 : A_InvalidText ≠ A_NoSpans)
    (ne_x6_11 : A_InvalidText ≠ A_NoReading)
    (ne_x6_12 : A_InvalidText ≠ A_NoPoint)
    (ne_x6_13 : A_InvalidText ≠ A_NothingLeft)
    (ne_x7_8 : A_NoNetwork ≠ A_NoMoment)
    (ne_x7_9 : A_NoNetwork ≠ A_NoClock)
    (ne_x7_10 : A_NoNetwork ≠ A_NoSpans)
    (ne_x7_11 : A_NoNetwork ≠ A_NoReading)
    (ne_x7_12 : A_NoNetwork ≠ A_NoPoint)
    (ne_x7_13 : A_NoNetwork ≠ A_NothingLeft)
    (ne_x8_9 : A_NoMoment ≠ A_NoClock)
    (ne_x8_10 : A_NoMoment ≠ A_NoSpans)
    (ne_x8_11 : A_NoMoment ≠ A_NoReading)
    (ne_x8_12 : A_NoMoment ≠ A_NoPoint)
    (ne_x8_13 : A_NoMoment ≠ A_NothingLeft)
    (ne_x9_10 : A_NoClock ≠ A_NoSpans)
    (ne_x9_11 : A_NoClock ≠ A_NoReading)
    (ne_x9_12 : A_NoClock ≠ A_NoPoint)
    (ne_x9_13 : A_NoClock ≠ A_NothingLeft)
    (ne_x10_11 : A_NoSpans ≠ A_NoReading)
    (ne_x10_12 : A_NoSpans ≠ A_NoPoint)
    (ne_x10_13 : A_NoSpans ≠ A_NothingLeft)
    (ne_x11_12 : A_NoReading ≠ A_NoPoint)
    (ne_x11_13 : A_NoReading ≠ A_NothingLeft)
    (ne_x12_13 : A_NoPoint ≠ A_NothingLeft)
    (xn_HourError : PySem.W.subIn K (.type "NoneType") (.ref A_HourError) = some false)
    (xs_NoEvent_HourError : PySem.W.subIn K (.ref A_NoEvent) (.ref A_HourError) = some true)
    (xs_NoSource_HourError : PySem.W.subIn K (.ref A_NoSource) (.ref A_HourError) = some true)
    (xs_NoStation_HourError : PySem.W.subIn K (.ref A_NoStation) (.ref A_HourError) = some true)
    (xs_NoOperation_HourError : PySem.W.subIn K (.ref A_NoOperation) (.ref A_HourError) = some true)
    (xs_TooMany_HourError : PySem.W.subIn K (.ref A_TooMany) (.ref A_HourError) = some true)
    (xs_InvalidText_HourError : PySem.W.subIn K (.ref A_InvalidText) (.ref A_HourError) = some true)
    (xs_NoNetwork_HourError : PySem.W.subIn K (.ref A_NoNetwork) (.ref A_HourError) = some true)
    (xs_NoMoment_HourError : PySem.W.subIn K (.ref A_NoMoment) (.ref A_HourError) = some true)
    (xs_NoClock_HourError : PySem.W.subIn K (.ref A_NoClock) (.ref A_HourError) = some true)
    (xs_NoSpans_HourError : PySem.W.subIn K (.ref A_NoSpans) (.ref A_HourError) = some true)
    (xs_NoReading_HourError : PySem.W.subIn K (.ref A_NoReading) (.ref A_HourError) = some true)
    (xs_NoPoint_HourError : PySem.W.subIn K (.ref A_NoPoint) (.ref A_HourError) = some true)
    (xs_NothingLeft_HourError : PySem.W.subIn K (.ref A_NothingLeft) (.ref A_HourError) = some true)
    (xn_NoEvent : PySem.W.subIn K (.type "NoneType") (.ref A_NoEvent) = some false)
    (xs_NoEvent_NoEvent : PySem.W.subIn K (.ref A_NoEvent) (.ref A_NoEvent) = some true)
    (xs_NoSource_NoEvent : PySem.W.subIn K (.ref A_NoSource) (.ref A_NoEvent) = some false)
    (xs_NoStation_NoEvent : PySem.W.subIn K (.ref A_NoStation) (.ref A_NoEvent) = some false)
    (xs_NoOperation_NoEvent : PySem.W.subIn K (.ref A_NoOperation) (.ref A_NoEvent) = some false)
    (xs_TooMany_NoEvent : PySem.W.subIn K (.ref A_TooMany) (.ref A_NoEvent) = some false)
    (xs_InvalidText_NoEvent : PySem.W.subIn K (.ref A_InvalidText) (.ref A_NoEvent) = some false)
    (xs_NoNetwork_NoEvent : PySem.W.subIn K (.ref A_NoNetwork) (.ref A_NoEvent) = some false)
    (xs_NoMoment_NoEvent : PySem.W.subIn K (.ref A_NoMoment) (.ref A_NoEvent) = some false)
    (xs_NoClock_NoEvent : PySem.W.subIn K (.ref A_NoClock) (.ref A_NoEvent) = some false)
    (xs_NoSpans_NoEvent : PySem.W.subIn K (.ref A_NoSpans) (.ref A_NoEvent) = some false)
    (xs_NoReading_NoEvent : PySem.W.subIn K (.ref A_NoReading) (.ref A_NoEvent) = some false)
    (xs_NoPoint_NoEvent : PySem.W.subIn K (.ref A_NoPoint) (.ref A_NoEvent) = some false)
    (xs_NothingLeft_NoEvent : PySem.W.subIn K (.ref A_NothingLeft) (.ref A_NoEvent) = some false)
    (xn_NoSource : PySem.W.subIn K (.type "NoneType") (.ref A_NoSource) = some false)
    (xs_NoEvent_NoSource : PySem.W.subIn K (.ref A_NoEvent) (.ref A_NoSource) = some false)
    (xs_NoSource_NoSource : PySem.W.subIn K (.ref A_NoSource) (.ref A_NoSource) = some true)
    (xs_NoStation_NoSource : PySem.W.subIn K (.ref A_NoStation) (.ref A_NoSource) = some false)
    (xs_NoOperation_NoSource : PySem.W.subIn K (.ref A_NoOperation) (.ref A_NoSource) = some false)
    (xs_TooMany_NoSource : PySem.W.subIn K (.ref A_TooMany) (.ref A_NoSource) = some false)
    (xs_InvalidText_NoSource : PySem.W.subIn K (.ref A_InvalidText) (.ref A_NoSource) = some false)
    (xs_NoNetwork_NoSource : PySem.W.subIn K (.ref A_NoNetwork) (.ref A_NoSource) = some false)
    (xs_NoMoment_NoSource : PySem.W.subIn K (.ref A_NoMoment) (.ref A_NoSource) = some false)
    (xs_NoClock_NoSource : PySem.W.subIn K (.ref A_NoClock) (.ref A_NoSource) = some false)
    (xs_NoSpans_NoSource : PySem.W.subIn K (.ref A_NoSpans) (.ref A_NoSource) = some false)
    (xs_NoReading_NoSource : PySem.W.subIn K (.ref A_NoReading) (.ref A_NoSource) = some false)
    (xs_NoPoint_NoSource : PySem.W.subIn K (.ref A_NoPoint) (.ref A_NoSource) = some false)
    (xs_NothingLeft_NoSource : PySem.W.subIn K (.ref A_NothingLeft) (.ref A_NoSource) = some false)
    (xn_NoStation : PySem.W.subIn K (.type "NoneType") (.ref A_NoStation) = some false)
    (xs_NoEvent_NoStation : PySem.W.subIn K (.ref A_NoEvent) (.ref A_NoStation) = some false)
    (xs_NoSource_NoStation : PySem.W.subIn K (.ref A_NoSource) (.ref A_NoStation) = some false)
    (xs_NoStation_NoStation : PySem.W.subIn K (.ref A_NoStation) (.ref A_NoStation) = some true)
    (xs_NoOperation_NoStation : PySem.W.subIn K (.ref A_NoOperation) (.ref A_NoStation) = some false)
    (xs_TooMany_NoStation : PySem.W.subIn K (.ref A_TooMany) (.ref A_NoStation) = some false)
    (xs_InvalidText_NoStation : PySem.W.subIn K (.ref A_InvalidText) (.ref A_NoStation) = some false)
    (xs_NoNetwork_NoStation : PySem.W.subIn K (.ref A_NoNetwork) (.ref A_NoStation) = some false)
    (xs_NoMoment_NoStation : PySem.W.subIn K (.ref A_NoMoment) (.ref A_NoStation) = some false)
    (xs_NoClock_NoStation : PySem.W.subIn K (.ref A_NoClock) (.ref A_NoStation) = some false)
    (xs_NoSpans_NoStation : PySem.W.subIn K (.ref A_NoSpans) (.ref A_NoStation) = some false)
    (xs_NoReading_NoStation : PySem.W.subIn K (.ref A_NoReading) (.ref A_NoStation) = some false)
    (xs_NoPoint_NoStation : PySem.W.subIn K (.ref A_NoPoint) (.ref A_NoStation) = some false)
    (xs_NothingLeft_NoStation : PySem.W.subIn K (.ref A_NothingLeft) (.ref A_NoStation) = some false)
    (xn_NoOperation : PySem.W.subIn K (.type "NoneType") (.ref A_NoOperation) = some false)
    (xs_NoEvent_NoOperation : PySem.W.subIn K (.ref A_NoEvent) (.ref A_NoOperation) = some false)
    (xs_NoSource_NoOperation : PySem.W.subIn K (.ref A_NoSource) (.ref A_NoOperation) = some false)
    (xs_NoStation_NoOperation : PySem.W.subIn K (.ref A_NoStation) (.ref A_NoOperation) = some false)
    (xs_NoOperation_NoOperation : PySem.W.subIn K (.ref A_NoOperation) (.ref A_NoOperation) = some true)
    (xs_TooMany_NoOperation : PySem.W.subIn K (.ref A_TooMany) (.ref A_NoOperation) = some false)
    (xs_InvalidText_NoOperation : PySem.W.subIn K (.ref A_InvalidText) (.ref A_NoOperation) = some false)
    (xs_NoNetwork_NoOperation : PySem.W.subIn K (.ref A_NoNetwork) (.ref A_NoOperation) = some false)
    (xs_NoMoment_NoOperation : PySem.W.subIn K (.ref A_NoMoment) (.ref A_NoOperation) = some false)
    (xs_NoClock_NoOperation : PySem.W.subIn K (.ref A_NoClock) (.ref A_NoOperation) = some false)
    (xs_NoSpans_NoOperation : PySem.W.subIn K (.ref A_NoSpans) (.ref A_NoOperation) = some false)
    (xs_NoReading_NoOperation : PySem.W.subIn K (.ref A_NoReading) (.ref A_NoOperation) = some false)
    (xs_NoPoint_NoOperation : PySem.W.subIn K (.ref A_NoPoint) (.ref A_NoOperation) = some false)
    (xs_NothingLeft_NoOperation : PySem.W.subIn K (.ref A_NothingLeft) (.ref A_NoOperation) = some false)
    (xn_TooMany : PySem.W.subIn K (.type "NoneType") (.ref A_TooMany) = some false)
    (xs_NoEvent_TooMany : PySem.W.subIn K (.ref A_NoEvent) (.ref A_TooMany) = some false)
    (xs_NoSource_TooMany : PySem.W.subIn K (.ref A_NoSource) (.ref A_TooMany) = some false)
    (xs_NoStation_TooMany : PySem.W.subIn K (.ref A_NoStation) (.ref A_TooMany) = some false)
    (xs_NoOperation_TooMany : PySem.W.subIn K (.ref A_NoOperation) (.ref A_TooMany) = some false)
    (xs_TooMany_TooMany : PySem.W.subIn K (.ref A_TooMany) (.ref A_TooMany) = some true)
    (xs_InvalidText_TooMany : PySem.W.subIn K (.ref A_InvalidText) (.ref A_TooMany) = some false)
    (xs_NoNetwork_TooMany : PySem.W.subIn K (.ref A_NoNetwork) (.ref A_TooMany) = some false)
    (xs_NoMoment_TooMany : PySem.W.subIn K (.ref A_NoMoment) (.ref A_TooMany) = some false)
    (xs_NoClock_TooMany : PySem.W.subIn K (.ref A_NoClock) (.ref A_TooMany) = some false)
    (xs_NoSpans_TooMany : PySem.W.subIn K (.ref A_NoSpans) (.ref A_TooMany) = some false)
    (xs_NoReading_TooMany : PySem.W.subIn K (.ref A_NoReading) (.ref A_TooMany) = some false)
    (xs_NoPoint_TooMany : PySem.W.subIn K (.ref A_NoPoint) (.ref A_TooMany) = some false)
    (xs_NothingLeft_TooMany : PySem.W.subIn K (.ref A_NothingLeft) (.ref A_TooMany) = some false)
    (xn_InvalidText : PySem.W.subIn K (.type "NoneType") (.ref A_InvalidText) = some false)
    (xs_NoEvent_InvalidText : PySem.W.subIn K (.ref A_NoEvent) (.ref A_InvalidText) = some false)
    (xs_NoSource_InvalidText : PySem.W.subIn K (.ref A_NoSource) (.ref A_InvalidText) = some false)
    (xs_NoStation_InvalidText : PySem.W.subIn K (.ref A_NoStation) (.ref A_InvalidText) = some false)
    (xs_NoOperation_InvalidText : PySem.W.subIn K (.ref A_NoOperation) (.ref A_InvalidText) = some false)
    (xs_TooMany_InvalidText : PySem.W.subIn K (.ref A_TooMany) (.ref A_InvalidText) = some false)
    (xs_InvalidText_InvalidText : PySem.W.subIn K (.ref A_InvalidText) (.ref A_InvalidText) = some true)
    (xs_NoNetwork_InvalidText : PySem.W.subIn K (.ref A_NoNetwork) (.ref A_InvalidText) = some false)
    (xs_NoMoment_InvalidText : PySem.W.subIn K (.ref A_NoMoment) (.ref A_InvalidText) = some false)
    (xs_NoClock_InvalidText : PySem.W.subIn K (.ref A_NoClock) (.ref A_InvalidText) = some false)
    (xs_NoSpans_InvalidText : PySem.W.subIn K (.ref A_NoSpans) (.ref A_InvalidText) = some false)
    (xs_NoReading_InvalidText : PySem.W.subIn K (.ref A_NoReading) (.ref A_InvalidText) = some false)
    (xs_NoPoint_InvalidText : PySem.W.subIn K (.ref A_NoPoint) (.ref A_InvalidText) = some false)
    (xs_NothingLeft_InvalidText : PySem.W.subIn K (.ref A_NothingLeft) (.ref A_InvalidText) = some false)
    (xn_NoNetwork : PySem.W.subIn K (.type "NoneType") (.ref A_NoNetwork) = some false)
    (xs_NoEvent_NoNetwork : PySem.W.subIn K (.ref A_NoEvent) (.ref A_NoNetwork) = some false)
    (xs_NoSource_NoNetwork : PySem.W.subIn K (.ref A_NoSource) (.ref A_NoNetwork) = some false)
    (xs_NoStation_NoNetwork : PySem.W.subIn K (.ref A_NoStation) (.ref A_NoNetwork) = some false)
    (xs_NoOperation_NoNetwork : PySem.W.subIn K (.ref A_NoOperation) (.ref A_NoNetwork) = some false)
    (xs_TooMany_NoNetwork : PySem.W.subIn K (.ref A_TooMany) (.ref A_NoNetwork) = some false)
    (xs_InvalidText_NoNetwork : PySem.W.subIn K (.ref A_InvalidText) (.ref A_NoNetwork) = some false)
    (xs_NoNetwork_NoNetwork : PySem.W.subIn K (.ref A_NoNetwork) (.ref A_NoNetwork) = some true)
    (xs_NoMoment_NoNetwork : PySem.W.subIn K (.ref A_NoMoment) (.ref A_NoNetwork) = some false)
    (xs_NoClock_NoNetwork : PySem.W.subIn K (.ref A_NoClock) (.ref A_NoNetwork) = some false)
    (xs_NoSpans_NoNetwork : PySem.W.subIn K (.ref A_NoSpans) (.ref A_NoNetwork) = some false)
    (xs_NoReading_NoNetwork : PySem.W.subIn K (.ref A_NoReading) (.ref A_NoNetwork) = some false)
    (xs_NoPoint_NoNetwork : PySem.W.subIn K (.ref A_NoPoint) (.ref A_NoNetwork) = some false)
    (xs_NothingLeft_NoNetwork : PySem.W.subIn K (.ref A_NothingLeft) (.ref A_NoNetwork) = some false)
    (xn_NoMoment : PySem.W.subIn K (.type "NoneType") (.ref A_NoMoment) = some false)
    (xs_NoEvent_NoMoment : PySem.W.subIn K (.ref A_NoEvent) (.ref A_NoMoment) = some false)
    (xs_NoSource_NoMoment : PySem.W.subIn K (.ref A_NoSource) (.ref A_NoMoment) = some false)
    (xs_NoStation_NoMoment : PySem.W.subIn K (.ref A_NoStation) (.ref A_NoMoment) = some false)
    (xs_NoOperation_NoMoment : PySem.W.subIn K (.ref A_NoOperation) (.ref A_NoMoment) = some false)
    (xs_TooMany_NoMoment : PySem.W.subIn K (.ref A_TooMany) (.ref A_NoMoment) = some false)
    (xs_InvalidText_NoMoment : PySem.W.subIn K (.ref A_InvalidText) (.ref A_NoMoment) = some false)
    (xs_NoNetwork_NoMoment : PySem.W.subIn K (.ref A_NoNetwork) (.ref A_NoMoment) = some false)
    (xs_NoMoment_NoMoment : PySem.W.subIn K (.ref A_NoMoment) (.ref A_NoMoment) = some true)
    (xs_NoClock_NoMoment : PySem.W.subIn K (.ref A_NoClock) (.ref A_NoMoment) = some false)
    (xs_NoSpans_NoMoment : PySem.W.subIn K (.ref A_NoSpans) (.ref A_NoMoment) = some false)
    (xs_NoReading_NoMoment : PySem.W.subIn K (.ref A_NoReading) (.ref A_NoMoment) = some false)
    (xs_NoPoint_NoMoment : PySem.W.subIn K (.ref A_NoPoint) (.ref A_NoMoment) = some false)
    (xs_NothingLeft_NoMoment : PySem.W.subIn K (.ref A_NothingLeft) (.ref A_NoMoment) = some false)
    (xn_NoClock : PySem.W.subIn K (.type "NoneType") (.ref A_NoClock) = some false)
    (xs_NoEvent_NoClock : PySem.W.subIn K (.ref A_NoEvent) (.ref A_NoClock) = some false)
    (xs_NoSource_NoClock : PySem.W.subIn K (.ref A_NoSource) (.ref A_NoClock) = some false)
    (xs_NoStation_NoClock : PySem.W.subIn K (.ref A_NoStation) (.ref A_NoClock) = some false)
    (xs_NoOperation_NoClock : PySem.W.subIn K (.ref A_NoOperation) (.ref A_NoClock) = some false)
    (xs_TooMany_NoClock : PySem.W.subIn K (.ref A_TooMany) (.ref A_NoClock) = some false)
    (xs_InvalidText_NoClock : PySem.W.subIn K (.ref A_InvalidText) (.ref A_NoClock) = some false)
    (xs_NoNetwork_NoClock : PySem.W.subIn K (.ref A_NoNetwork) (.ref A_NoClock) = some false)
    (xs_NoMoment_NoClock : PySem.W.subIn K (.ref A_NoMoment) (.ref A_NoClock) = some false)
    (xs_NoClock_NoClock : PySem.W.subIn K (.ref A_NoClock) (.ref A_NoClock) = some true)
    (xs_NoSpans_NoClock : PySem.W.subIn K (.ref A_NoSpans) (.ref A_NoClock) = some false)
    (xs_NoReading_NoClock : PySem.W.subIn K (.ref A_NoReading) (.ref A_NoClock) = some false)
    (xs_NoPoint_NoClock : PySem.W.subIn K (.ref A_NoPoint) (.ref A_NoClock) = some false)
    (xs_NothingLeft_NoClock : PySem.W.subIn K (.ref A_NothingLeft) (.ref A_NoClock) = some false)
    (xn_NoSpans : PySem.W.subIn K (.type "NoneType") (.ref A_NoSpans) = some false)
    (xs_NoEvent_NoSpans : PySem.W.subIn K (.ref A_NoEvent) (.ref A_NoSpans) = some false)
    (xs_NoSource_NoSpans : PySem.W.subIn K (.ref A_NoSource) (.ref A_NoSpans) = some false)
    (xs_NoStation_NoSpans : PySem.W.subIn K (.ref A_NoStation) (.ref A_NoSpans) = some false)
    (xs_NoOperation_NoSpans : PySem.W.subIn K (.ref A_NoOperation) (.ref A_NoSpans) = some false)
    (xs_TooMany_NoSpans : PySem.W.subIn K (.ref A_TooMany) (.ref A_NoSpans) = some false)
    (xs_InvalidText_NoSpans : PySem.W.subIn K (.ref A_InvalidText) (.ref A_NoSpans) = some false)
    (xs_NoNetwork_NoSpans : PySem.W.subIn K (.ref A_NoNetwork) (.ref A_NoSpans) = some false)
    (xs_NoMoment_NoSpans : PySem.W.subIn K (.ref A_NoMoment) (.ref A_NoSpans) = some false)
    (xs_NoClock_NoSpans : PySem.W.subIn K (.ref A_NoClock) (.ref A_NoSpans) = some false)
    (xs_NoSpans_NoSpans : PySem.W.subIn K (.ref A_NoSpans) (.ref A_NoSpans) = some true)
    (xs_NoReading_NoSpans : PySem.W.subIn K (.ref A_NoReading) (.ref A_NoSpans) = some false)
    (xs_NoPoint_NoSpans : PySem.W.subIn K (.ref A_NoPoint) (.ref A_NoSpans) = some false)
    (xs_NothingLeft_NoSpans : PySem.W.subIn K (.ref A_NothingLeft) (.ref A_NoSpans) = some false)
    (xn_NoReading : PySem.W.subIn K (.type "NoneType") (.ref A_NoReading) = some false)
    (xs_NoEvent_NoReading : PySem.W.subIn K (.ref A_NoEvent) (.ref A_NoReading) = some false)
    (xs_NoSource_NoReading : PySem.W.subIn K (.ref A_NoSource) (.ref A_NoReading) = some false)
    (xs_NoStation_NoReading : PySem.W.subIn K (.ref A_NoStation) (.ref A_NoReading) = some false)
    (xs_NoOperation_NoReading : PySem.W.subIn K (.ref A_NoOperation) (.ref A_NoReading) = some false)
    (xs_TooMany_NoReading : PySem.W.subIn K (.ref A_TooMany) (.ref A_NoReading) = some false)
    (xs_InvalidText_NoReading : PySem.W.subIn K (.ref A_InvalidText) (.ref A_NoReading) = some false)
    (xs_NoNetwork_NoReading : PySem.W.subIn K (.ref A_NoNetwork) (.ref A_NoReading) = some false)
    (xs_NoMoment_NoReading : PySem.W.subIn K (.ref A_NoMoment) (.ref A_NoReading) = some false)
    (xs_NoClock_NoReading : PySem.W.subIn K (.ref A_NoClock) (.ref A_NoReading) = some false)
    (xs_NoSpans_NoReading : PySem.W.subIn K (.ref A_NoSpans) (.ref A_NoReading) = some false)
    (xs_NoReading_NoReading : PySem.W.subIn K (.ref A_NoReading) (.ref A_NoReading) = some true)
    (xs_NoPoint_NoReading : PySem.W.subIn K (.ref A_NoPoint) (.ref A_NoReading) = some false)
    (xs_NothingLeft_NoReading : PySem.W.subIn K (.ref A_NothingLeft) (.ref A_NoReading) = some false)
    (xn_NoPoint : PySem.W.subIn K (.type "NoneType") (.ref A_NoPoint) = some false)
    (xs_NoEvent_NoPoint : PySem.W.subIn K (.ref A_NoEvent) (.ref A_NoPoint) = some false)
    (xs_NoSource_NoPoint : PySem.W.subIn K (.ref A_NoSource) (.ref A_NoPoint) = some false)
    (xs_NoStation_NoPoint : PySem.W.subIn K (.ref A_NoStation) (.ref A_NoPoint) = some false)
    (xs_NoOperation_NoPoint : PySem.W.subIn K (.ref A_NoOperation) (.ref A_NoPoint) = some false)
    (xs_TooMany_NoPoint : PySem.W.subIn K (.ref A_TooMany) (.ref A_NoPoint) = some false)
    (xs_InvalidText_NoPoint : PySem.W.subIn K (.ref A_InvalidText) (.ref A_NoPoint) = some false)
    (xs_NoNetwork_NoPoint : PySem.W.subIn K (.ref A_NoNetwork) (.ref A_NoPoint) = some false)
    (xs_NoMoment_NoPoint : PySem.W.subIn K (.ref A_NoMoment) (.ref A_NoPoint) = some false)
    (xs_NoClock_NoPoint : PySem.W.subIn K (.ref A_NoClock) (.ref A_NoPoint) = some false)
    (xs_NoSpans_NoPoint : PySem.W.subIn K (.ref A_NoSpans) (.ref A_NoPoint) = some false)
    (xs_NoReading_NoPoint : PySem.W.subIn K (.ref A_NoReading) (.ref A_NoPoint) = some false)
    (xs_NoPoint_NoPoint : PySem.W.subIn K (.ref A_NoPoint) (.ref A_NoPoint) = some true)
    (xs_NothingLeft_NoPoint : PySem.W.subIn K (.ref A_NothingLeft) (.ref A_NoPoint) = some false)
    (xn_NothingLeft : PySem.W.subIn K (.type "NoneType") (.ref A_NothingLeft) = some false)
    (xs_NoEvent_NothingLeft : PySem.W.subIn K (.ref A_NoEvent) (.ref A_NothingLeft) = some false)
    (xs_NoSource_NothingLeft : PySem.W.subIn K (.ref A_NoSource) (.ref A_NothingLeft) = some false)
    (xs_NoStation_NothingLeft : PySem.W.subIn K (.ref A_NoStation) (.ref A_NothingLeft) = some false)
    (xs_NoOperation_NothingLeft : PySem.W.subIn K (.ref A_NoOperation) (.ref A_NothingLeft) = some false)
    (xs_TooMany_NothingLeft : PySem.W.subIn K (.ref A_TooMany) (.ref A_NothingLeft) = some false)
    (xs_InvalidText_NothingLeft : PySem.W.subIn K (.ref A_InvalidText) (.ref A_NothingLeft) = some false)
    (xs_NoNetwork_NothingLeft : PySem.W.subIn K (.ref A_NoNetwork) (.ref A_NothingLeft) = some false)
    (xs_NoMoment_NothingLeft : PySem.W.subIn K (.ref A_NoMoment) (.ref A_NothingLeft) = some false)
    (xs_NoClock_NothingLeft : PySem.W.subIn K (.ref A_NoClock) (.ref A_NothingLeft) = some false)
    (xs_NoSpans_NothingLeft : PySem.W.subIn K (.ref A_NoSpans) (.ref A_NothingLeft) = some false)
    (xs_NoReading_NothingLeft : PySem.W.subIn K (.ref A_NoReading) (.ref A_NothingLeft) = some false)
    (xs_NoPoint_NothingLeft : PySem.W.subIn K (.ref A_NoPoint) (.ref A_NothingLeft) = some false)
    (xs_NothingLeft_NothingLeft : PySem.W.subIn K (.ref A_NothingLeft) (.ref A_NothingLeft) = some true)
    (ytop : (l.prog.main.scope.names.lookup ("super" : Str)).isSome = false)
    (yopq : PySem.W.nsIn K cStatics "thirdparty.any" = some none)
    (zz_super : PySem.W.nsIn K mainGlobals "super" = some none)
    (l_xNoEvent : K.lookup A_NoEvent = some (excClassObj xnm_NoEvent xqu_NoEvent A_NoEvent XN_NoEvent xbs_NoEvent xbm_NoEvent true xsn_NoEvent xsub_NoEvent xab_NoEvent xcol_NoEvent xdd_NoEvent xm0_NoEvent xm1_NoEvent xm2_NoEvent xm3_NoEvent xm5_NoEvent "ValueError.__new__"))
    (yv_NoEvent : PySem.HandSPX.refsVE xbm_NoEvent = true)
    (xsa_NoEvent : PySem.W.findIn K (.ref A_NoEvent) "__setattr__" = some (some (.builtin "object.__setattr__")))
    (xin_NoEvent : PySem.W.findIn K (.ref A_NoEvent) "__init__" = some (some (.ref XI_NoEvent)))
    (xti_NoEvent : PySem.W.typeIn K (.ref XI_NoEvent) = some (.type "function"))
    (xno_NoEvent : PySem.W.findIn K (.ref A_NoEvent) "index" = some none)
    (ysup_NoEvent : PySem.W.ks_superIn K A_NoEvent A_NoEvent "__init__" = some (some (.builtin "ValueError.__init__")))
    (xiv_NoEvent : PySem.W.subIn K (.ref A_NoEvent) (.type "ValueError") = some true)
    (xow_NoEvent : PySem.W.mroIn K A_NoEvent (.ref A_NoEvent) = some true)
    (l_yNoEvent : K.lookup XI_NoEvent = some ⟨xoc_NoEvent, xod_NoEvent, .func (PySem.W.ksFn "__init__" "NoEvent.__init__" (defArgs si_NoEvent) (defBody si_NoEvent) (defScope si_NoEvent) .none xkV_NoEvent xdo_NoEvent xpm_NoEvent xan_NoEvent (.ref XD_NoEvent) xct_NoEvent XE_NoEvent), xosl_NoEvent⟩)
    (cc_xNoEvent : PySem.W.codeIn K (.ref XD_NoEvent) "NoEvent.__init__" = true)
    (l_zNoEvent : K.lookup XD_NoEvent = some ⟨xccl_NoEvent, xcdd_NoEvent, .fields xvs_NoEvent, xccs_NoEvent⟩)
    (yvs_NoEvent : xvs_NoEvent[2]? = some (.str xfile_NoEvent xtf_NoEvent))
    (yfi_NoEvent : ((l.prog.main.file : Str) == xfile_NoEvent) = true)
    (l_wNoEvent : K.lookup XE_NoEvent = some ⟨xcl_NoEvent, xcld_NoEvent, .cell (some (.ref A_NoEvent)), xcsl_NoEvent⟩)
    (l_xNoSource : K.lookup A_NoSource = some (excClassObj xnm_NoSource xqu_NoSource A_NoSource XN_NoSource xbs_NoSource xbm_NoSource true xsn_NoSource xsub_NoSource xab_NoSource xcol_NoSource xdd_NoSource xm0_NoSource xm1_NoSource xm2_NoSource xm3_NoSource xm5_NoSource "ValueError.__new__"))
    (yv_NoSource : PySem.HandSPX.refsVE xbm_NoSource = true)
    (xsa_NoSource : PySem.W.findIn K (.ref A_NoSource) "__setattr__" = some (some (.builtin "object.__setattr__")))
    (xin_NoSource : PySem.W.findIn K (.ref A_NoSource) "__init__" = some (some (.ref XI_NoSource)))
    (xti_NoSource : PySem.W.typeIn K (.ref XI_NoSource) = some (.type "function"))
    (xno_NoSource : PySem.W.findIn K (.ref A_NoSource) "name" = some none)
    (ysup_NoSource : PySem.W.ks_superIn K A_NoSource A_NoSource "__init__" = some (some (.builtin "ValueError.__init__")))
    (xiv_NoSource : PySem.W.subIn K (.ref A_NoSource) (.type "ValueError") = some true)
    (xow_NoSource : PySem.W.mroIn K A_NoSource (.ref A_NoSource) = some true)
    (l_yNoSource : K.lookup XI_NoSource = some ⟨xoc_NoSource, xod_NoSource, .func (PySem.W.ksFn "__init__" "NoSource.__init__" (defArgs si_NoSource) (defBody si_NoSource) (defScope si_NoSource) .none xkV_NoSource xdo_NoSource xpm_NoSource xan_NoSource (.ref XD_NoSource) xct_NoSource XE_NoSource), xosl_NoSource⟩)
    (cc_xNoSource : PySem.W.codeIn K (.ref XD_NoSource) "NoSource.__init__" = true)
    (l_zNoSource : K.lookup XD_NoSource = some ⟨xccl_NoSource, xcdd_NoSource, .fields xvs_NoSource, xccs_NoSource⟩)
    (yvs_NoSource : xvs_NoSource[2]? = some (.str xfile_NoSource xtf_NoSource))
    (yfi_NoSource : ((l.prog.main.file : Str) == xfile_NoSource) = true)
    (l_wNoSource : K.lookup XE_NoSource = some ⟨xcl_NoSource, xcld_NoSource, .cell (some (.ref A_NoSource)), xcsl_NoSource⟩)
    (l_xNoStation : K.lookup A_NoStation = some (excClassObj xnm_NoStation xqu_NoStation A_NoStation XN_NoStation xbs_NoStation xbm_NoStation true xsn_NoStation xsub_NoStation xab_NoStation xcol_NoStation xdd_NoStation xm0_NoStation xm1_NoStation xm2_NoStation xm3_NoStation xm5_NoStation "ValueError.__new__"))
    (yv_NoStation : PySem.HandSPX.refsVE xbm_NoStation = true)
    (xsa_NoStation : PySem.W.findIn K (.ref A_NoStation) "__setattr__" = some (some (.builtin "object.__setattr__")))
    (xin_NoStation : PySem.W.findIn K (.ref A_NoStation) "__init__" = some (some (.ref XI_NoStation)))
    (xti_NoStation : PySem.W.typeIn K (.ref XI_NoStation) = some (.type "function"))
    (xno_NoStation : PySem.W.findIn K (.ref A_NoStation) "name" = some none)
    (ysup_NoStation : PySem.W.ks_superIn K A_NoStation A_NoStation "__init__" = some (some (.builtin "ValueError.__init__")))
    (xiv_NoStation : PySem.W.subIn K (.ref A_NoStation) (.type "ValueError") = some true)
    (xow_NoStation : PySem.W.mroIn K A_NoStation (.ref A_NoStation) = some true)
    (l_yNoStation : K.lookup XI_NoStation = some ⟨xoc_NoStation, xod_NoStation, .func (PySem.W.ksFn "__init__" "NoStation.__init__" (defArgs si_NoStation) (defBody si_NoStation) (defScope si_NoStation) .none xkV_NoStation xdo_NoStation xpm_NoStation xan_NoStation (.ref XD_NoStation) xct_NoStation XE_NoStation), xosl_NoStation⟩)
    (cc_xNoStation : PySem.W.codeIn K (.ref XD_NoStation) "NoStation.__init__" = true)
    (l_zNoStation : K.lookup XD_NoStation = some ⟨xccl_NoStation, xcdd_NoStation, .fields xvs_NoStation, xccs_NoStation⟩)
    (yvs_NoStation : xvs_NoStation[2]? = some (.str xfile_NoStation xtf_NoStation))
    (yfi_NoStation : ((l.prog.main.file : Str) == xfile_NoStation) = true)
    (l_wNoStation : K.lookup XE_NoStation = some ⟨xcl_NoStation, xcld_NoStation, .cell (some (.ref A_NoStation)), xcsl_NoStation⟩)
    (l_xNoOperation : K.lookup A_NoOperation = some (excClassObj xnm_NoOperation xqu_NoOperation A_NoOperation XN_NoOperation xbs_NoOperation xbm_NoOperation true xsn_NoOperation xsub_NoOperation xab_NoOperation xcol_NoOperation xdd_NoOperation xm0_NoOperation xm1_NoOperation xm2_NoOperation xm3_NoOperation xm5_NoOperation "ValueError.__new__"))
    (yv_NoOperation : PySem.HandSPX.refsVE xbm_NoOperation = true)
    (xsa_NoOperation : PySem.W.findIn K (.ref A_NoOperation) "__setattr__" = some (some (.builtin "object.__setattr__")))
    (xin_NoOperation : PySem.W.findIn K (.ref A_NoOperation) "__init__" = some (some (.ref XI_NoOperation)))
    (xti_NoOperation : PySem.W.typeIn K (.ref XI_NoOperation) = some (.type "function"))
    (xno_NoOperation : PySem.W.findIn K (.ref A_NoOperation) "index" = some none)
    (ysup_NoOperation : PySem.W.ks_superIn K A_NoOperation A_NoOperation "__init__" = some (some (.builtin "ValueError.__init__")))
    (xiv_NoOperation : PySem.W.subIn K (.ref A_NoOperation) (.type "ValueError") = some true)
    (xow_NoOperation : PySem.W.mroIn K A_NoOperation (.ref A_NoOperation) = some true)
    (l_yNoOperation : K.lookup XI_NoOperation = some ⟨xoc_NoOperation, xod_NoOperation, .func (PySem.W.ksFn "__init__" "NoOperation.__init__" (defArgs si_NoOperation) (defBody si_NoOperation) (defScope si_NoOperation) .none xkV_NoOperation xdo_NoOperation xpm_NoOperation xan_NoOperation (.ref XD_NoOperation) xct_NoOperation XE_NoOperation), xosl_NoOperation⟩)
    (cc_xNoOperation : PySem.W.codeIn K (.ref XD_NoOperation) "NoOperation.__init__" = true)
    (l_zNoOperation : K.lookup XD_NoOperation = some ⟨xccl_NoOperation, xcdd_NoOperation, .fields xvs_NoOperation, xccs_NoOperation⟩)
    (yvs_NoOperation : xvs_NoOperation[2]? = some (.str xfile_NoOperation xtf_NoOperation))
    (yfi_NoOperation : ((l.prog.main.file : Str) == xfile_NoOperation) = true)
    (l_wNoOperation : K.lookup XE_NoOperation = some ⟨xcl_NoOperation, xcld_NoOperation, .cell (some (.ref A_NoOperation)), xcsl_NoOperation⟩)
    (l_xTooMany : K.lookup A_TooMany = some (excClassObj xnm_TooMany xqu_TooMany A_TooMany XN_TooMany xbs_TooMany xbm_TooMany true xsn_TooMany xsub_TooMany xab_TooMany xcol_TooMany xdd_TooMany xm0_TooMany xm1_TooMany xm2_TooMany xm3_TooMany xm5_TooMany "ValueError.__new__"))
    (yv_TooMany : PySem.HandSPX.refsVE xbm_TooMany = true)
    (xsa_TooMany : PySem.W.findIn K (.ref A_TooMany) "__setattr__" = some (some (.builtin "object.__setattr__")))
    (xin_TooMany : PySem.W.findIn K (.ref A_TooMany) "__init__" = some (some (.ref XI_TooMany)))
    (xti_TooMany : PySem.W.typeIn K (.ref XI_TooMany) = some (.type "function"))
    (xno_TooMany : PySem.W.findIn K (.ref A_TooMany) "most" = some none)
    (ysup_TooMany : PySem.W.ks_superIn K A_TooMany A_TooMany "__init__" = some (some (.builtin "ValueError.__init__")))
    (xiv_TooMany : PySem.W.subIn K (.ref A_TooMany) (.type "ValueError") = some true)
    (xow_TooMany : PySem.W.mroIn K A_TooMany (.ref A_TooMany) = some true)
    (l_yTooMany : K.lookup XI_TooMany = some ⟨xoc_TooMany, xod_TooMany, .func (PySem.W.ksFn "__init__" "TooMany.__init__" (defArgs si_TooMany) (defBody si_TooMany) (defScope si_TooMany) .none xkV_TooMany xdo_TooMany xpm_TooMany xan_TooMany (.ref XD_TooMany) xct_TooMany XE_TooMany), xosl_TooMany⟩)
    (cc_xTooMany : PySem.W.codeIn K (.ref XD_TooMany) "TooMany.__init__" = true)
    (l_zTooMany : K.lookup XD_TooMany = some ⟨xccl_TooMany, xcdd_TooMany, .fields xvs_TooMany, xccs_TooMany⟩)
    (yvs_TooMany : xvs_TooMany[2]? = some (.str xfile_TooMany xtf_TooMany))
    (yfi_TooMany : ((l.prog.main.file : Str) == xfile_TooMany) = true)
    (l_wTooMany : K.lookup XE_TooMany = some ⟨xcl_TooMany, xcld_TooMany, .cell (some (.ref A_TooMany)), xcsl_TooMany⟩)
    (l_xInvalidText : K.lookup A_InvalidText = some (excClassObj xnm_InvalidText xqu_InvalidText A_InvalidText XN_InvalidText xbs_InvalidText xbm_InvalidText true xsn_InvalidText xsub_InvalidText xab_InvalidText xcol_InvalidText xdd_InvalidText xm0_InvalidText xm1_InvalidText xm2_InvalidText xm3_InvalidText xm5_InvalidText "ValueError.__new__"))
    (yv_InvalidText : PySem.HandSPX.refsVE xbm_InvalidText = true)
    (xsa_InvalidText : PySem.W.findIn K (.ref A_InvalidText) "__setattr__" = some (some (.builtin "object.__setattr__")))
    (xin_InvalidText : PySem.W.findIn K (.ref A_InvalidText) "__init__" = some (some (.ref XI_InvalidText)))
    (xti_InvalidText : PySem.W.typeIn K (.ref XI_InvalidText) = some (.type "function"))
    (xno_InvalidText : PySem.W.findIn K (.ref A_InvalidText) "line" = some none)
    (ysup_InvalidText : PySem.W.ks_superIn K A_InvalidText A_InvalidText "__init__" = some (some (.builtin "ValueError.__init__")))
    (xiv_InvalidText : PySem.W.subIn K (.ref A_InvalidText) (.type "ValueError") = some true)
    (xow_InvalidText : PySem.W.mroIn K A_InvalidText (.ref A_InvalidText) = some true)
    (l_yInvalidText : K.lookup XI_InvalidText = some ⟨xoc_InvalidText, xod_InvalidText, .func (PySem.W.ksFn "__init__" "InvalidText.__init__" (defArgs si_InvalidText) (defBody si_InvalidText) (defScope si_InvalidText) .none xkV_InvalidText xdo_InvalidText xpm_InvalidText xan_InvalidText (.ref XD_InvalidText) xct_InvalidText XE_InvalidText), xosl_InvalidText⟩)
    (cc_xInvalidText : PySem.W.codeIn K (.ref XD_InvalidText) "InvalidText.__init__" = true)
    (l_zInvalidText : K.lookup XD_InvalidText = some ⟨xccl_InvalidText, xcdd_InvalidText, .fields xvs_InvalidText, xccs_InvalidText⟩)
    (yvs_InvalidText : xvs_InvalidText[2]? = some (.str xfile_InvalidText xtf_InvalidText))
    (yfi_InvalidText : ((l.prog.main.file : Str) == xfile_InvalidText) = true)
    (l_wInvalidText : K.lookup XE_InvalidText = some ⟨xcl_InvalidText, xcld_InvalidText, .cell (some (.ref A_InvalidText)), xcsl_InvalidText⟩)
    (xvn : PySem.W.subIn K (.type "NoneType") (.type "ValueError") = some false)
    (xiv_NoNetwork : PySem.W.subIn K (.ref A_NoNetwork) (.type "ValueError") = some true)
    (xiv_NoMoment : PySem.W.subIn K (.ref A_NoMoment) (.type "ValueError") = some true)
    (xiv_NoClock : PySem.W.subIn K (.ref A_NoClock) (.type "ValueError") = some true)
    (xiv_NoSpans : PySem.W.subIn K (.ref A_NoSpans) (.type "ValueError") = some true)
    (xiv_NoReading : PySem.W.subIn K (.ref A_NoReading) (.type "ValueError") = some true)
    (xiv_NoPoint : PySem.W.subIn K (.ref A_NoPoint) (.type "ValueError") = some true)
    (xiv_NothingLeft : PySem.W.subIn K (.ref A_NothingLeft) (.type "ValueError") = some true)
    (tt_law : PySem.W.tabIn K "law" = some (C_tab_law, A_tab_law))
    (nn_law : K.lookup A_tab_law = none)
    (rr_law : ((recsOf qp).find? (fun e => e.name == ("law" : Str))).isSome = true)
    (l_law_begin : K.lookup A_f_law_begin = some ⟨oc0, od0, .func (PySem.W.fnOf "_law_begin" "_law_begin" (defArgs s_law_begin) (defBody s_law_begin) (defScope s_law_begin) .none kV0 dc0 pm0 an0 cd0 ct0), sl0⟩)
    (cc_law_begin : PySem.W.codeIn K cd0 "_law_begin" = true)
    (kp_law_begin : PySem.W.keepIn K (.ref A_f_law_begin) = true)
    (at_law_begin : PySem.W.nsIn K mainGlobals "_law_begin" = some (some (.ref A_f_law_begin)))
    (l_law_take : K.lookup A_f_law_take = some ⟨oc1, od1, .func (PySem.W.fnOf "_law_take" "_law_take" (defArgs s_law_take) (defBody s_law_take) (defScope s_law_take) .none kV1 dc1 pm1 an1 cd1 ct1), sl1⟩)
    (cc_law_take : PySem.W.codeIn K cd1 "_law_take" = true)
    (kp_law_take : PySem.W.keepIn K (.ref A_f_law_take) = true)
    (at_law_take : PySem.W.nsIn K mainGlobals "_law_take" = some (some (.ref A_f_law_take)))
    (l_law_pick : K.lookup A_f_law_pick = some ⟨oc2, od2, .func (PySem.W.fnOf "_law_pick" "_law_pick" (defArgs s_law_pick) (defBody s_law_pick) (defScope s_law_pick) .none kV2 dc2 pm2 an2 cd2 ct2), sl2⟩)
    (cc_law_pick : PySem.W.codeIn K cd2 "_law_pick" = true)
    (kp_law_pick : PySem.W.keepIn K (.ref A_f_law_pick) = true)
    (at_law_pick : PySem.W.nsIn K mainGlobals "_law_pick" = some (some (.ref A_f_law_pick)))
    (l_law_caught : K.lookup A_f_law_caught = some ⟨oc3, od3, .func (PySem.W.fnOf "_law_caught" "_law_caught" (defArgs s_law_caught) (defBody s_law_caught) (defScope s_law_caught) .none kV3 dc3 pm3 an3 cd3 ct3), sl3⟩)
    (cc_law_caught : PySem.W.codeIn K cd3 "_law_caught" = true)
    (kp_law_caught : PySem.W.keepIn K (.ref A_f_law_caught) = true)
    (at_law_caught : PySem.W.nsIn K mainGlobals "_law_caught" = some (some (.ref A_f_law_caught)))
    (l_law_raised : K.lookup A_f_law_raised = some ⟨oc4, od4, .func (PySem.W.fnOf "_law_raised" "_law_raised" (defArgs s_law_raised) (defBody s_law_raised) (defScope s_law_raised) .none kV4 dc4 pm4 an4 cd4 ct4), sl4⟩)
    (cc_law_raised : PySem.W.codeIn K cd4 "_law_raised" = true)
    (kp_law_raised : PySem.W.keepIn K (.ref A_f_law_raised) = true)
    (at_law_raised : PySem.W.nsIn K mainGlobals "_law_raised" = some (some (.ref A_f_law_raised)))
    (l_law_field : K.lookup A_f_law_field = some ⟨oc5, od5, .func (PySem.W.fnOf "_law_field" "_law_field" (defArgs s_law_field) (defBody s_law_field) (defScope s_law_field) .none kV5 dc5 pm5 an5 cd5 ct5), sl5⟩)
    (cc_law_field : PySem.W.codeIn K cd5 "_law_field" = true)
    (kp_law_field : PySem.W.keepIn K (.ref A_f_law_field) = true)
    (at_law_field : PySem.W.nsIn K mainGlobals "_law_field" = some (some (.ref A_f_law_field)))
    (l_law : K.lookup A_f_law = some ⟨oc6, od6, .func (PySem.W.fnOf "law" "law" (defArgs s_law) (defBody s_law) (defScope s_law) .none kV6 dc6 pm6 an6 (.ref C_tab_law) ct6), sl6⟩)
    (cc_law : PySem.W.codeIn K (.ref C_tab_law) "law" = true)
    (kp_law : PySem.W.keepIn K (.ref A_f_law) = true)
    (at_law : PySem.W.nsIn K mainGlobals "law" = some (some (.ref A_f_law))) :
    ∃ (fd : FuncData) (cs : List (Addr × Addr)), (∀ p ∈ cs, h.get? p.2 = some { cls := .none, data := .fields #[] }) ∧ (∀ p ∈ cs, K.lookup p.2 = none) ∧ (∀ p ∈ cs, PySem.W.CodeHd h p.1 p.2) ∧ (cs.map Prod.snd).Nodup ∧ (∀ (s : Shared) (v : Value), BindsTo s fd ⟨[v], []⟩ [("_law_script", v)]) ∧
      ∀ base : Heap, K.In base → base.Ns mainGlobals mg → (∀ p ∈ cs, LamX.TabB base mg p.1 p.2) → DL.FnOk l.prog w K mg base (L2.CX l.prog w) 5 fa fd ["_law_script"] (spLawT K cs) := by
  have e := hfa.symm.trans (PySem.W.mg_of X G at_law)
  cases e
  refine ⟨PySem.W.fnOf "law" "law" (defArgs s_law) (defBody s_law) (defScope s_law) .none kV6 dc6 pm6 an6 (.ref C_tab_law) ct6, [(C_tab_law, A_tab_law)], ?_, ?_, ?_, ?_, fun s v => .of_eq rfl, fun base _ _ tb => ?_⟩
  · intro p hp
    simp only [List.mem_cons, List.not_mem_nil, or_false] at hp
    subst hp; exact (TT _ _ _ rr_law tt_law).2
  · intro p hp
    simp only [List.mem_cons, List.not_mem_nil, or_false] at hp
    subst hp; exact nn_law
  · intro p hp
    simp only [List.mem_cons, List.not_mem_nil, or_false] at hp
    subst hp; exact (TT _ _ _ rr_law tt_law).1
  · simp
  · let T : Txt l.prog K mg base := Txt.mk (z_abs := PySem.W.mg_none_of X G zz_abs)
        (z_list := PySem.W.mg_none_of X G zz_list)
        (z_range := PySem.W.mg_none_of X G zz_range)
        (z_len := PySem.W.mg_none_of X G zz_len)
        (z_min := PySem.W.mg_none_of X G zz_min)
        (z_enumerate := PySem.W.mg_none_of X G zz_enumerate)
        (z_int := PySem.W.mg_none_of X G zz_int)
        (z_divmod := PySem.W.mg_none_of X G zz_divmod)
        (z_str := PySem.W.mg_none_of X G zz_str)
        (z_isinstance := PySem.W.mg_none_of X G zz_isinstance)
        (z_ValueError := PySem.W.mg_none_of X G zz_ValueError)
        (z_repr := PySem.W.mg_none_of X G zz_repr)
        (a_HourError := A_HourError)
        (m_HourError := PySem.W.mg_of X G hm_HourError)
        (x_HourError := (XCls.mk xh_HourError xt_HourError xb_HourError xg_HourError xq_HourError xc_HourError xsp xtk xo_HourError))
        (a_NoEvent := A_NoEvent)
        (m_NoEvent := PySem.W.mg_of X G hm_NoEvent)
        (x_NoEvent := (XCls.mk xh_NoEvent xt_NoEvent xb_NoEvent xg_NoEvent xq_NoEvent xc_NoEvent xsp xtk xo_NoEvent))
        (a_NoSource := A_NoSource)
        (m_NoSource := PySem.W.mg_of X G hm_NoSource)
        (x_NoSource := (XCls.mk xh_NoSource xt_NoSource xb_NoSource xg_NoSource xq_NoSource xc_NoSource xsp xtk xo_NoSource))
        (a_NoStation := A_NoStation)
        (m_NoStation := PySem.W.mg_of X G hm_NoStation)
        (x_NoStation := (XCls.mk xh_NoStation xt_NoStation xb_NoStation xg_NoStation xq_NoStation xc_NoStation xsp xtk xo_NoStation))
        (a_NoOperation := A_NoOperation)
        (m_NoOperation := PySem.W.mg_of X G hm_NoOperation)
        (x_NoOperation := (XCls.mk xh_NoOperation xt_NoOperation xb_NoOperation xg_NoOperation xq_NoOperation xc_NoOperation xsp xtk xo_NoOperation))
        (a_TooMany := A_TooMany)
        (m_TooMany := PySem.W.mg_of X G hm_TooMany)
        (x_TooMany := (XCls.mk xh_TooMany xt_TooMany xb_TooMany xg_TooMany xq_TooMany xc_TooMany xsp xtk xo_TooMany))
        (a_InvalidText := A_InvalidText)
        (m_InvalidText := PySem.W.mg_of X G hm_InvalidText)
        (x_InvalidText := (XCls.mk xh_InvalidText xt_InvalidText xb_InvalidText xg_InvalidText xq_InvalidText xc_InvalidText xsp xtk xo_InvalidText))
        (a_NoNetwork := A_NoNetwork)
        (m_NoNetwork := PySem.W.mg_of X G hm_NoNetwork)
        (x_NoNetwork := (XCls.mk xh_NoNetwork xt_NoNetwork xb_NoNetwork xg_NoNetwork xq_NoNetwork xc_NoNetwork xsp xtk xo_NoNetwork))
        (a_NoMoment := A_NoMoment)
        (m_NoMoment := PySem.W.mg_of X G hm_NoMoment)
        (x_NoMoment := (XCls.mk xh_NoMoment xt_NoMoment xb_NoMoment xg_NoMoment xq_NoMoment xc_NoMoment xsp xtk xo_NoMoment))
        (a_NoClock := A_NoClock)
        (m_NoClock := PySem.W.mg_of X G hm_NoClock)
        (x_NoClock := (XCls.mk xh_NoClock xt_NoClock xb_NoClock xg_NoClock xq_NoClock xc_NoClock xsp xtk xo_NoClock))
        (a_NoSpans := A_NoSpans)
        (m_NoSpans := PySem.W.mg_of X G hm_NoSpans)
        (x_NoSpans := (XCls.mk xh_NoSpans xt_NoSpans xb_NoSpans xg_NoSpans xq_NoSpans xc_NoSpans xsp xtk xo_NoSpans))
        (a_NoReading := A_NoReading)
        (m_NoReading := PySem.W.mg_of X G hm_NoReading)
        (x_NoReading := (XCls.mk xh_NoReading xt_NoReading xb_NoReading xg_NoReading xq_NoReading xc_NoReading xsp xtk xo_NoReading))
        (a_NoPoint := A_NoPoint)
        (m_NoPoint := PySem.W.mg_of X G hm_NoPoint)
        (x_NoPoint := (XCls.mk xh_NoPoint xt_NoPoint xb_NoPoint xg_NoPoint xq_NoPoint xc_NoPoint xsp xtk xo_NoPoint))
        (a_NothingLeft := A_NothingLeft)
        (m_NothingLeft := PySem.W.mg_of X G hm_NothingLeft)
        (x_NothingLeft := (XCls.mk xh_NothingLeft xt_NothingLeft xb_NothingLeft xg_NothingLeft xq_NothingLeft xc_NothingLeft xsp xtk xo_NothingLeft))
        (xk_NoEvent := xk_NoEvent)
        (xk_NoSource := xk_NoSource)
        (xk_NoStation := xk_NoStation)
        (xk_NoOperation := xk_NoOperation)
        (xk_TooMany := xk_TooMany)
        (xk_InvalidText := xk_InvalidText)
        (xe_NoNetwork := xe_NoNetwork)
        (xk_NoNetwork := xk_NoNetwork)
        (xe_NoMoment := xe_NoMoment)
        (xk_NoMoment := xk_NoMoment)
        (xe_NoClock := xe_NoClock)
        (xk_NoClock := xk_NoClock)
        (xe_NoSpans := xe_NoSpans)
        (xk_NoSpans := xk_NoSpans)
        (xe_NoReading := xe_NoReading)
        (xk_NoReading := xk_NoReading)
        (xe_NoPoint := xe_NoPoint)
        (xk_NoPoint := xk_NoPoint)
        (xe_NothingLeft := xe_NothingLeft)
        (xk_NothingLeft := xk_NothingLeft)
        (xn_HourError := xn_HourError)
        (xi_NoEvent_HourError := kit_t (XCls.mk xh_HourError xt_HourError xb_HourError xg_HourError xq_HourError xc_HourError xsp xtk xo_HourError) xs_NoEvent_HourError)
        (xm_NoEvent_HourError := xm_of (XCls.mk xh_HourError xt_HourError xb_HourError xg_HourError xq_HourError xc_HourError xsp xtk xo_HourError) xs_NoEvent_HourError)
        (xi_NoSource_HourError := kit_t (XCls.mk xh_HourError xt_HourError xb_HourError xg_HourError xq_HourError xc_HourError xsp xtk xo_HourError) xs_NoSource_HourError)
        (xm_NoSource_HourError := xm_of (XCls.mk xh_HourError xt_HourError xb_HourError xg_HourError xq_HourError xc_HourError xsp xtk xo_HourError) xs_NoSource_HourError)
        (xi_NoStation_HourError := kit_t (XCls.mk xh_HourError xt_HourError xb_HourError xg_HourError xq_HourError xc_HourError xsp xtk xo_HourError) xs_NoStation_HourError)
        (xm_NoStation_HourError := xm_of (XCls.mk xh_HourError xt_HourError xb_HourError xg_HourError xq_HourError xc_HourError xsp xtk xo_HourError) xs_NoStation_HourError)
        (xi_NoOperation_HourError := kit_t (XCls.mk xh_HourError xt_HourError xb_HourError xg_HourError xq_HourError xc_HourError xsp xtk xo_HourError) xs_NoOperation_HourError)
        (xm_NoOperation_HourError := xm_of (XCls.mk xh_HourError xt_HourError xb_HourError xg_HourError xq_HourError xc_HourError xsp xtk xo_HourError) xs_NoOperation_HourError)
        (xi_TooMany_HourError := kit_t (XCls.mk xh_HourError xt_HourError xb_HourError xg_HourError xq_HourError xc_HourError xsp xtk xo_HourError) xs_TooMany_HourError)
        (xm_TooMany_HourError := xm_of (XCls.mk xh_HourError xt_HourError xb_HourError xg_HourError xq_HourError xc_HourError xsp xtk xo_HourError) xs_TooMany_HourError)
        (xi_InvalidText_HourError := kit_t (XCls.mk xh_HourError xt_HourError xb_HourError xg_HourError xq_HourError xc_HourError xsp xtk xo_HourError) xs_InvalidText_HourError)
        (xm_InvalidText_HourError := xm_of (XCls.mk xh_HourError xt_HourError xb_HourError xg_HourError xq_HourError xc_HourError xsp xtk xo_HourError) xs_InvalidText_HourError)
        (xi_NoNetwork_HourError := kit_t (XCls.mk xh_HourError xt_HourError xb_HourError xg_HourError xq_HourError xc_HourError xsp xtk xo_HourError) xs_NoNetwork_HourError)
        (xm_NoNetwork_HourError := xm_of (XCls.mk xh_HourError xt_HourError xb_HourError xg_HourError xq_HourError xc_HourError xsp xtk xo_HourError) xs_NoNetwork_HourError)
        (xi_NoMoment_HourError := kit_t (XCls.mk xh_HourError xt_HourError xb_HourError xg_HourError xq_HourError xc_HourError xsp xtk xo_HourError) xs_NoMoment_HourError)
        (xm_NoMoment_HourError := xm_of (XCls.mk xh_HourError xt_HourError xb_HourError xg_HourError xq_HourError xc_HourError xsp xtk xo_HourError) xs_NoMoment_HourError)
        (xi_NoClock_HourError := kit_t (XCls.mk xh_HourError xt_HourError xb_HourError xg_HourError xq_HourError xc_HourError xsp xtk xo_HourError) xs_NoClock_HourError)
        (xm_NoClock_HourError := xm_of (XCls.mk xh_HourError xt_HourError xb_HourError xg_HourError xq_HourError xc_HourError xsp xtk xo_HourError) xs_NoClock_HourError)
        (xi_NoSpans_HourError := kit_t (XCls.mk xh_HourError xt_HourError xb_HourError xg_HourError xq_HourError xc_HourError xsp xtk xo_HourError) xs_NoSpans_HourError)
        (xm_NoSpans_HourError := xm_of (XCls.mk xh_HourError xt_HourError xb_HourError xg_HourError xq_HourError xc_HourError xsp xtk xo_HourError) xs_NoSpans_HourError)
        (xi_NoReading_HourError := kit_t (XCls.mk xh_HourError xt_HourError xb_HourError xg_HourError xq_HourError xc_HourError xsp xtk xo_HourError) xs_NoReading_HourError)
        (xm_NoReading_HourError := xm_of (XCls.mk xh_HourError xt_HourError xb_HourError xg_HourError xq_HourError xc_HourError xsp xtk xo_HourError) xs_NoReading_HourError)
        (xi_NoPoint_HourError := kit_t (XCls.mk xh_HourError xt_HourError xb_HourError xg_HourError xq_HourError xc_HourError xsp xtk xo_HourError) xs_NoPoint_HourError)
        (xm_NoPoint_HourError := xm_of (XCls.mk xh_HourError xt_HourError xb_HourError xg_HourError xq_HourError xc_HourError xsp xtk xo_HourError) xs_NoPoint_HourError)
        (xi_NothingLeft_HourError := kit_t (XCls.mk xh_HourError xt_HourError xb_HourError xg_HourError xq_HourError xc_HourError xsp xtk xo_HourError) xs_NothingLeft_HourError)
        (xm_NothingLeft_HourError := xm_of (XCls.mk xh_HourError xt_HourError xb_HourError xg_HourError xq_HourError xc_HourError xsp xtk xo_HourError) xs_NothingLeft_HourError)
        (xn_NoEvent := xn_NoEvent)
        (xi_NoEvent_NoEvent := kit_t (XCls.mk xh_NoEvent xt_NoEvent xb_NoEvent xg_NoEvent xq_NoEvent xc_NoEvent xsp xtk xo_NoEvent) xs_NoEvent_NoEvent)
        (xm_NoEvent_NoEvent := xm_of (XCls.mk xh_NoEvent xt_NoEvent xb_NoEvent xg_NoEvent xq_NoEvent xc_NoEvent xsp xtk xo_NoEvent) xs_NoEvent_NoEvent)
        (xi_NoSource_NoEvent := kit_f (XCls.mk xh_NoEvent xt_NoEvent xb_NoEvent xg_NoEvent xq_NoEvent xc_NoEvent xsp xtk xo_NoEvent) xs_NoSource_NoEvent (Ne.symm ne_x1_2))
        (xi_NoStation_NoEvent := kit_f (XCls.mk xh_NoEvent xt_NoEvent xb_NoEvent xg_NoEvent xq_NoEvent xc_NoEvent xsp xtk xo_NoEvent) xs_NoStation_NoEvent (Ne.symm ne_x1_3))
        (xi_NoOperation_NoEvent := kit_f (XCls.mk xh_NoEvent xt_NoEvent xb_NoEvent xg_NoEvent xq_NoEvent xc_NoEvent xsp xtk xo_NoEvent) xs_NoOperation_NoEvent (Ne.symm ne_x1_4))
        (xi_TooMany_NoEvent := kit_f (XCls.mk xh_NoEvent xt_NoEvent xb_NoEvent xg_NoEvent xq_NoEvent xc_NoEvent xsp xtk xo_NoEvent) xs_TooMany_NoEvent (Ne.symm ne_x1_5))
        (xi_InvalidText_NoEvent := kit_f (XCls.mk xh_NoEvent xt_NoEvent xb_NoEvent xg_NoEvent xq_NoEvent xc_NoEvent xsp xtk xo_NoEvent) xs_InvalidText_NoEvent (Ne.symm ne_x1_6))
        (xi_NoNetwork_NoEvent := kit_f (XCls.mk xh_NoEvent xt_NoEvent xb_NoEvent xg_NoEvent xq_NoEvent xc_NoEvent xsp xtk xo_NoEvent) xs_NoNetwork_NoEvent (Ne.symm ne_x1_7))
        (xi_NoMoment_NoEvent := kit_f (XCls.mk xh_NoEvent xt_NoEvent xb_NoEvent xg_NoEvent xq_NoEvent xc_NoEvent xsp xtk xo_NoEvent) xs_NoMoment_NoEvent (Ne.symm ne_x1_8))
        (xi_NoClock_NoEvent := kit_f (XCls.mk xh_NoEvent xt_NoEvent xb_NoEvent xg_NoEvent xq_NoEvent xc_NoEvent xsp xtk xo_NoEvent) xs_NoClock_NoEvent (Ne.symm ne_x1_9))
        (xi_NoSpans_NoEvent := kit_f (XCls.mk xh_NoEvent xt_NoEvent xb_NoEvent xg_NoEvent xq_NoEvent xc_NoEvent xsp xtk xo_NoEvent) xs_NoSpans_NoEvent (Ne.symm ne_x1_10))
        (xi_NoReading_NoEvent := kit_f (XCls.mk xh_NoEvent xt_NoEvent xb_NoEvent xg_NoEvent xq_NoEvent xc_NoEvent xsp xtk xo_NoEvent) xs_NoReading_NoEvent (Ne.symm ne_x1_11))
        (xi_NoPoint_NoEvent := kit_f (XCls.mk xh_NoEvent xt_NoEvent xb_NoEvent xg_NoEvent xq_NoEvent xc_NoEvent xsp xtk xo_NoEvent) xs_NoPoint_NoEvent (Ne.symm ne_x1_12))
        (xi_NothingLeft_NoEvent := kit_f (XCls.mk xh_NoEvent xt_NoEvent xb_NoEvent xg_NoEvent xq_NoEvent xc_NoEvent xsp xtk xo_NoEvent) xs_NothingLeft_NoEvent (Ne.symm ne_x1_13))
        (xn_NoSource := xn_NoSource)
        (xi_NoEvent_NoSource := kit_f (XCls.mk xh_NoSource xt_NoSource xb_NoSource xg_NoSource xq_NoSource xc_NoSource xsp xtk xo_NoSource) xs_NoEvent_NoSource ne_x1_2)
        (xi_NoSource_NoSource := kit_t (XCls.mk xh_NoSource xt_NoSource xb_NoSource xg_NoSource xq_NoSource xc_NoSource xsp xtk xo_NoSource) xs_NoSource_NoSource)
        (xm_NoSource_NoSource := xm_of (XCls.mk xh_NoSource xt_NoSource xb_NoSource xg_NoSource xq_NoSource xc_NoSource xsp xtk xo_NoSource) xs_NoSource_NoSource)
        (xi_NoStation_NoSource := kit_f (XCls.mk xh_NoSource xt_NoSource xb_NoSource xg_NoSource xq_NoSource xc_NoSource xsp xtk xo_NoSource) xs_NoStation_NoSource (Ne.symm ne_x2_3))
        (xi_NoOperation_NoSource := kit_f (XCls.mk xh_NoSource xt_NoSource xb_NoSource xg_NoSource xq_NoSource xc_NoSource xsp xtk xo_NoSource) xs_NoOperation_NoSource (Ne.symm ne_x2_4))
        (xi_TooMany_NoSource := kit_f (XCls.mk xh_NoSource xt_NoSource xb_NoSource xg_NoSource xq_NoSource xc_NoSource xsp xtk xo_NoSource) xs_TooMany_NoSource (Ne.symm ne_x2_5))
        (xi_InvalidText_NoSource := kit_f (XCls.mk xh_NoSource xt_NoSource xb_NoSource xg_NoSource xq_NoSource xc_NoSource xsp xtk xo_NoSource) xs_InvalidText_NoSource (Ne.symm ne_x2_6))
        (xi_NoNetwork_NoSource := kit_f (XCls.mk xh_NoSource xt_NoSource xb_NoSource xg_NoSource xq_NoSource xc_NoSource xsp xtk xo_NoSource) xs_NoNetwork_NoSource (Ne.symm ne_x2_7))
        (xi_NoMoment_NoSource := kit_f (XCls.mk xh_NoSource xt_NoSource xb_NoSource xg_NoSource xq_NoSource xc_NoSource xsp xtk xo_NoSource) xs_NoMoment_NoSource (Ne.symm ne_x2_8))
        (xi_NoClock_NoSource := kit_f (XCls.mk xh_NoSource xt_NoSource xb_NoSource xg_NoSource xq_NoSource xc_NoSource xsp xtk xo_NoSource) xs_NoClock_NoSource (Ne.symm ne_x2_9))
        (xi_NoSpans_NoSource := kit_f (XCls.mk xh_NoSource xt_NoSource xb_NoSource xg_NoSource xq_NoSource xc_NoSource xsp xtk xo_NoSource) xs_NoSpans_NoSource (Ne.symm ne_x2_10))
        (xi_NoReading_NoSource := kit_f (XCls.mk xh_NoSource xt_NoSource xb_NoSource xg_NoSource xq_NoSource xc_NoSource xsp xtk xo_NoSource) xs_NoReading_NoSource (Ne.symm ne_x2_11))
        (xi_NoPoint_NoSource := kit_f (XCls.mk xh_NoSource xt_NoSource xb_NoSource xg_NoSource xq_NoSource xc_NoSource xsp xtk xo_NoSource) xs_NoPoint_NoSource (Ne.symm ne_x2_12))
        (xi_NothingLeft_NoSource := kit_f (XCls.mk xh_NoSource xt_NoSource xb_NoSource xg_NoSource xq_NoSource xc_NoSource xsp xtk xo_NoSource) xs_NothingLeft_NoSource (Ne.symm ne_x2_13))
        (xn_NoStation := xn_NoStation)
        (xi_NoEvent_NoStation := kit_f (XCls.mk xh_NoStation xt_NoStation xb_NoStation xg_NoStation xq_NoStation xc_NoStation xsp xtk xo_NoStation) xs_NoEvent_NoStation ne_x1_3)
        (xi_NoSource_NoStation := kit_f (XCls.mk xh_NoStation xt_NoStation xb_NoStation xg_NoStation xq_NoStation xc_NoStation xsp xtk xo_NoStation) xs_NoSource_NoStation ne_x2_3)
        (xi_NoStation_NoStation := kit_t (XCls.mk xh_NoStation xt_NoStation xb_NoStation xg_NoStation xq_NoStation xc_NoStation xsp xtk xo_NoStation) xs_NoStation_NoStation)
        (xm_NoStation_NoStation := xm_of (XCls.mk xh_NoStation xt_NoStation xb_NoStation xg_NoStation xq_NoStation xc_NoStation xsp xtk xo_NoStation) xs_NoStation_NoStation)
        (xi_NoOperation_NoStation := kit_f (XCls.mk xh_NoStation xt_NoStation xb_NoStation xg_NoStation xq_NoStation xc_NoStation xsp xtk xo_NoStation) xs_NoOperation_NoStation (Ne.symm ne_x3_4))
        (xi_TooMany_NoStation := kit_f (XCls.mk xh_NoStation xt_NoStation xb_NoStation xg_NoStation xq_NoStation xc_NoStation xsp xtk xo_NoStation) xs_TooMany_NoStation (Ne.symm ne_x3_5))
        (xi_InvalidText_NoStation := kit_f (XCls.mk xh_NoStation xt_NoStation xb_NoStation xg_NoStation xq_NoStation xc_NoStation xsp xtk xo_NoStation) xs_InvalidText_NoStation (Ne.symm ne_x3_6))
        (xi_NoNetwork_NoStation := kit_f (XCls.mk xh_NoStation xt_NoStation xb_NoStation xg_NoStation xq_NoStation xc_NoStation xsp xtk xo_NoStation) xs_NoNetwork_NoStation (Ne.symm ne_x3_7))
        (xi_NoMoment_NoStation := kit_f (XCls.mk xh_NoStation xt_NoStation xb_NoStation xg_NoStation xq_NoStation xc_NoStation xsp xtk xo_NoStation) xs_NoMoment_NoStation (Ne.symm ne_x3_8))
        (xi_NoClock_NoStation := kit_f (XCls.mk xh_NoStation xt_NoStation xb_NoStation xg_NoStation xq_NoStation xc_NoStation xsp xtk xo_NoStation) xs_NoClock_NoStation (Ne.symm ne_x3_9))
        (xi_NoSpans_NoStation := kit_f (XCls.mk xh_NoStation xt_NoStation xb_NoStation xg_NoStation xq_NoStation xc_NoStation xsp xtk xo_NoStation) xs_NoSpans_NoStation (Ne.symm ne_x3_10))
        (xi_NoReading_NoStation := kit_f (XCls.mk xh_NoStation xt_NoStation xb_NoStation xg_NoStation xq_NoStation xc_NoStation xsp xtk xo_NoStation) xs_NoReading_NoStation (Ne.symm ne_x3_11))
        (xi_NoPoint_NoStation := kit_f (XCls.mk xh_NoStation xt_NoStation xb_NoStation xg_NoStation xq_NoStation xc_NoStation xsp xtk xo_NoStation) xs_NoPoint_NoStation (Ne.symm ne_x3_12))
        (xi_NothingLeft_NoStation := kit_f (XCls.mk xh_NoStation xt_NoStation xb_NoStation xg_NoStation xq_NoStation xc_NoStation xsp xtk xo_NoStation) xs_NothingLeft_NoStation (Ne.symm ne_x3_13))
        (xn_NoOperation := xn_NoOperation)
        (xi_NoEvent_NoOperation := kit_f (XCls.mk xh_NoOperation xt_NoOperation xb_NoOperation xg_NoOperation xq_NoOperation xc_NoOperation xsp xtk xo_NoOperation) xs_NoEvent_NoOperation ne_x1_4)
        (xi_NoSource_NoOperation := kit_f (XCls.mk xh_NoOperation xt_NoOperation xb_NoOperation xg_NoOperation xq_NoOperation xc_NoOperation xsp xtk xo_NoOperation) xs_NoSource_NoOperation ne_x2_4)
        (xi_NoStation_NoOperation := kit_f (XCls.mk xh_NoOperation xt_NoOperation xb_NoOperation xg_NoOperation xq_NoOperation xc_NoOperation xsp xtk xo_NoOperation) xs_NoStation_NoOperation ne_x3_4)
        (xi_NoOperation_NoOperation := kit_t (XCls.mk xh_NoOperation xt_NoOperation xb_NoOperation xg_NoOperation xq_NoOperation xc_NoOperation xsp xtk xo_NoOperation) xs_NoOperation_NoOperation)
        (xm_NoOperation_NoOperation := xm_of (XCls.mk xh_NoOperation xt_NoOperation xb_NoOperation xg_NoOperation xq_NoOperation xc_NoOperation xsp xtk xo_NoOperation) xs_NoOperation_NoOperation)
        (xi_TooMany_NoOperation := kit_f (XCls.mk xh_NoOperation xt_NoOperation xb_NoOperation xg_NoOperation xq_NoOperation xc_NoOperation xsp xtk xo_NoOperation) xs_TooMany_NoOperation (Ne.symm ne_x4_5))
        (xi_InvalidText_NoOperation := kit_f (XCls.mk xh_NoOperation xt_NoOperation xb_NoOperation xg_NoOperation xq_NoOperation xc_NoOperation xsp xtk xo_NoOperation) xs_InvalidText_NoOperation (Ne.symm ne_x4_6))
        (xi_NoNetwork_NoOperation := kit_f (XCls.mk xh_NoOperation xt_NoOperation xb_NoOperation xg_NoOperation xq_NoOperation xc_NoOperation xsp xtk xo_NoOperation) xs_NoNetwork_NoOperation (Ne.symm ne_x4_7))
        (xi_NoMoment_NoOperation := kit_f (XCls.mk xh_NoOperation xt_NoOperation xb_NoOperation xg_NoOperation xq_NoOperation xc_NoOperation xsp xtk xo_NoOperation) xs_NoMoment_NoOperation (Ne.symm ne_x4_8))
        (xi_NoClock_NoOperation := kit_f (XCls.mk xh_NoOperation xt_NoOperation xb_NoOperation xg_NoOperation xq_NoOperation xc_NoOperation xsp xtk xo_NoOperation) xs_NoClock_NoOperation (Ne.symm ne_x4_9))
        (xi_NoSpans_NoOperation := kit_f (XCls.mk xh_NoOperation xt_NoOperation xb_NoOperation xg_NoOperation xq_NoOperation xc_NoOperation xsp xtk xo_NoOperation) xs_NoSpans_NoOperation (Ne.symm ne_x4_10))
        (xi_NoReading_NoOperation := kit_f (XCls.mk xh_NoOperation xt_NoOperation xb_NoOperation xg_NoOperation xq_NoOperation xc_NoOperation xsp xtk xo_NoOperation) xs_NoReading_NoOperation (Ne.symm ne_x4_11))
        (xi_NoPoint_NoOperation := kit_f (XCls.mk xh_NoOperation xt_NoOperation xb_NoOperation xg_NoOperation xq_NoOperation xc_NoOperation xsp xtk xo_NoOperation) xs_NoPoint_NoOperation (Ne.symm ne_x4_12))
        (xi_NothingLeft_NoOperation := kit_f (XCls.mk xh_NoOperation xt_NoOperation xb_NoOperation xg_NoOperation xq_NoOperation xc_NoOperation xsp xtk xo_NoOperation) xs_NothingLeft_NoOperation (Ne.symm ne_x4_13))
        (xn_TooMany := xn_TooMany)
        (xi_NoEvent_TooMany := kit_f (XCls.mk xh_TooMany xt_TooMany xb_TooMany xg_TooMany xq_TooMany xc_TooMany xsp xtk xo_TooMany) xs_NoEvent_TooMany ne_x1_5)
        (xi_NoSource_TooMany := kit_f (XCls.mk xh_TooMany xt_TooMany xb_TooMany xg_TooMany xq_TooMany xc_TooMany xsp xtk xo_TooMany) xs_NoSource_TooMany ne_x2_5)
        (xi_NoStation_TooMany := kit_f (XCls.mk xh_TooMany xt_TooMany xb_TooMany xg_TooMany xq_TooMany xc_TooMany xsp xtk xo_TooMany) xs_NoStation_TooMany ne_x3_5)
        (xi_NoOperation_TooMany := kit_f (XCls.mk xh_TooMany xt_TooMany xb_TooMany xg_TooMany xq_TooMany xc_TooMany xsp xtk xo_TooMany) xs_NoOperation_TooMany ne_x4_5)
        (xi_TooMany_TooMany := kit_t (XCls.mk xh_TooMany xt_TooMany xb_TooMany xg_TooMany xq_TooMany xc_TooMany xsp xtk xo_TooMany) xs_TooMany_TooMany)
        (xm_TooMany_TooMany := xm_of (XCls.mk xh_TooMany xt_TooMany xb_TooMany xg_TooMany xq_TooMany xc_TooMany xsp xtk xo_TooMany) xs_TooMany_TooMany)
        (xi_InvalidText_TooMany := kit_f (XCls.mk xh_TooMany xt_TooMany xb_TooMany xg_TooMany xq_TooMany xc_TooMany xsp xtk xo_TooMany) xs_InvalidText_TooMany (Ne.symm ne_x5_6))
        (xi_NoNetwork_TooMany := kit_f (XCls.mk xh_TooMany xt_TooMany xb_TooMany xg_TooMany xq_TooMany xc_TooMany xsp xtk xo_TooMany) xs_NoNetwork_TooMany (Ne.symm ne_x5_7))
        (xi_NoMoment_TooMany := kit_f (XCls.mk xh_TooMany xt_TooMany xb_TooMany xg_TooMany xq_TooMany xc_TooMany xsp xtk xo_TooMany) xs_NoMoment_TooMany (Ne.symm ne_x5_8))
        (xi_NoClock_TooMany := kit_f (XCls.mk xh_TooMany xt_TooMany xb_TooMany xg_TooMany xq_TooMany xc_TooMany xsp xtk xo_TooMany) xs_NoClock_TooMany (Ne.symm ne_x5_9))
        (xi_NoSpans_TooMany := kit_f (XCls.mk xh_TooMany xt_TooMany xb_TooMany xg_TooMany xq_TooMany xc_TooMany xsp xtk xo_TooMany) xs_NoSpans_TooMany (Ne.symm ne_x5_10))
        (xi_NoReading_TooMany := kit_f (XCls.mk xh_TooMany xt_TooMany xb_TooMany xg_TooMany xq_TooMany xc_TooMany xsp xtk xo_TooMany) xs_NoReading_TooMany (Ne.symm ne_x5_11))
        (xi_NoPoint_TooMany := kit_f (XCls.mk xh_TooMany xt_TooMany xb_TooMany xg_TooMany xq_TooMany xc_TooMany xsp xtk xo_TooMany) xs_NoPoint_TooMany (Ne.symm ne_x5_12))
        (xi_NothingLeft_TooMany := kit_f (XCls.mk xh_TooMany xt_TooMany xb_TooMany xg_TooMany xq_TooMany xc_TooMany xsp xtk xo_TooMany) xs_NothingLeft_TooMany (Ne.symm ne_x5_13))
        (xn_InvalidText := xn_InvalidText)
        (xi_NoEvent_InvalidText := kit_f (XCls.mk xh_InvalidText xt_InvalidText xb_InvalidText xg_InvalidText xq_InvalidText xc_InvalidText xsp xtk xo_InvalidText) xs_NoEvent_InvalidText ne_x1_6)
        (xi_NoSource_InvalidText := kit_f (XCls.mk xh_InvalidText xt_InvalidText xb_InvalidText xg_InvalidText xq_InvalidText xc_InvalidText xsp xtk xo_InvalidText) xs_NoSource_InvalidText ne_x2_6)
        (xi_NoStation_InvalidText := kit_f (XCls.mk xh_InvalidText xt_InvalidText xb_InvalidText xg_InvalidText xq_InvalidText xc_InvalidText xsp xtk xo_InvalidText) xs_NoStation_InvalidText ne_x3_6)
        (xi_NoOperation_InvalidText := kit_f (XCls.mk xh_InvalidText xt_InvalidText xb_InvalidText xg_InvalidText xq_InvalidText xc_InvalidText xsp xtk xo_InvalidText) xs_NoOperation_InvalidText ne_x4_6)
        (xi_TooMany_InvalidText := kit_f (XCls.mk xh_InvalidText xt_InvalidText xb_InvalidText xg_InvalidText xq_InvalidText xc_InvalidText xsp xtk xo_InvalidText) xs_TooMany_InvalidText ne_x5_6)
        (xi_InvalidText_InvalidText := kit_t (XCls.mk xh_InvalidText xt_InvalidText xb_InvalidText xg_InvalidText xq_InvalidText xc_InvalidText xsp xtk xo_InvalidText) xs_InvalidText_InvalidText)
        (xm_InvalidText_InvalidText := xm_of (XCls.mk xh_InvalidText xt_InvalidText xb_InvalidText xg_InvalidText xq_InvalidText xc_InvalidText xsp xtk xo_InvalidText) xs_InvalidText_InvalidText)
        (xi_NoNetwork_InvalidText := kit_f (XCls.mk xh_InvalidText xt_InvalidText xb_InvalidText xg_InvalidText xq_InvalidText xc_InvalidText xsp xtk xo_InvalidText) xs_NoNetwork_InvalidText (Ne.symm ne_x6_7))
        (xi_NoMoment_InvalidText := kit_f (XCls.mk xh_InvalidText xt_InvalidText xb_InvalidText xg_InvalidText xq_InvalidText xc_InvalidText xsp xtk xo_InvalidText) xs_NoMoment_InvalidText (Ne.symm ne_x6_8))
        (xi_NoClock_InvalidText := kit_f (XCls.mk xh_InvalidText xt_InvalidText xb_InvalidText xg_InvalidText xq_InvalidText xc_InvalidText xsp xtk xo_InvalidText) xs_NoClock_InvalidText (Ne.symm ne_x6_9))
        (xi_NoSpans_InvalidText := kit_f (XCls.mk xh_InvalidText xt_InvalidText xb_InvalidText xg_InvalidText xq_InvalidText xc_InvalidText xsp xtk xo_InvalidText) xs_NoSpans_InvalidText (Ne.symm ne_x6_10))
        (xi_NoReading_InvalidText := kit_f (XCls.mk xh_InvalidText xt_InvalidText xb_InvalidText xg_InvalidText xq_InvalidText xc_InvalidText xsp xtk xo_InvalidText) xs_NoReading_InvalidText (Ne.symm ne_x6_11))
        (xi_NoPoint_InvalidText := kit_f (XCls.mk xh_InvalidText xt_InvalidText xb_InvalidText xg_InvalidText xq_InvalidText xc_InvalidText xsp xtk xo_InvalidText) xs_NoPoint_InvalidText (Ne.symm ne_x6_12))
        (xi_NothingLeft_InvalidText := kit_f (XCls.mk xh_InvalidText xt_InvalidText xb_InvalidText xg_InvalidText xq_InvalidText xc_InvalidText xsp xtk xo_InvalidText) xs_NothingLeft_InvalidText (Ne.symm ne_x6_13))
        (xn_NoNetwork := xn_NoNetwork)
        (xi_NoEvent_NoNetwork := kit_f (XCls.mk xh_NoNetwork xt_NoNetwork xb_NoNetwork xg_NoNetwork xq_NoNetwork xc_NoNetwork xsp xtk xo_NoNetwork) xs_NoEvent_NoNetwork ne_x1_7)
        (xi_NoSource_NoNetwork := kit_f (XCls.mk xh_NoNetwork xt_NoNetwork xb_NoNetwork xg_NoNetwork xq_NoNetwork xc_NoNetwork xsp xtk xo_NoNetwork) xs_NoSource_NoNetwork ne_x2_7)
        (xi_NoStation_NoNetwork := kit_f (XCls.mk xh_NoNetwork xt_NoNetwork xb_NoNetwork xg_NoNetwork xq_NoNetwork xc_NoNetwork xsp xtk xo_NoNetwork) xs_NoStation_NoNetwork ne_x3_7)
        (xi_NoOperation_NoNetwork := kit_f (XCls.mk xh_NoNetwork xt_NoNetwork xb_NoNetwork xg_NoNetwork xq_NoNetwork xc_NoNetwork xsp xtk xo_NoNetwork) xs_NoOperation_NoNetwork ne_x4_7)
        (xi_TooMany_NoNetwork := kit_f (XCls.mk xh_NoNetwork xt_NoNetwork xb_NoNetwork xg_NoNetwork xq_NoNetwork xc_NoNetwork xsp xtk xo_NoNetwork) xs_TooMany_NoNetwork ne_x5_7)
        (xi_InvalidText_NoNetwork := kit_f (XCls.mk xh_NoNetwork xt_NoNetwork xb_NoNetwork xg_NoNetwork xq_NoNetwork xc_NoNetwork xsp xtk xo_NoNetwork) xs_InvalidText_NoNetwork ne_x6_7)
        (xi_NoNetwork_NoNetwork := kit_t (XCls.mk xh_NoNetwork xt_NoNetwork xb_NoNetwork xg_NoNetwork xq_NoNetwork xc_NoNetwork xsp xtk xo_NoNetwork) xs_NoNetwork_NoNetwork)
        (xm_NoNetwork_NoNetwork := xm_of (XCls.mk xh_NoNetwork xt_NoNetwork xb_NoNetwork xg_NoNetwork xq_NoNetwork xc_NoNetwork xsp xtk xo_NoNetwork) xs_NoNetwork_NoNetwork)
        (xi_NoMoment_NoNetwork := kit_f (XCls.mk xh_NoNetwork xt_NoNetwork xb_NoNetwork xg_NoNetwork xq_NoNetwork xc_NoNetwork xsp xtk xo_NoNetwork) xs_NoMoment_NoNetwork (Ne.symm ne_x7_8))
        (xi_NoClock_NoNetwork := kit_f (XCls.mk xh_NoNetwork xt_NoNetwork xb_NoNetwork xg_NoNetwork xq_NoNetwork xc_NoNetwork xsp xtk xo_NoNetwork) xs_NoClock_NoNetwork (Ne.symm ne_x7_9))
        (xi_NoSpans_NoNetwork := kit_f (XCls.mk xh_NoNetwork xt_NoNetwork xb_NoNetwork xg_NoNetwork xq_NoNetwork xc_NoNetwork xsp xtk xo_NoNetwork) xs_NoSpans_NoNetwork (Ne.symm ne_x7_10))
        (xi_NoReading_NoNetwork := kit_f (XCls.mk xh_NoNetwork xt_NoNetwork xb_NoNetwork xg_NoNetwork xq_NoNetwork xc_NoNetwork xsp xtk xo_NoNetwork) xs_NoReading_NoNetwork (Ne.symm ne_x7_11))
        (xi_NoPoint_NoNetwork := kit_f (XCls.mk xh_NoNetwork xt_NoNetwork xb_NoNetwork xg_NoNetwork xq_NoNetwork xc_NoNetwork xsp xtk xo_NoNetwork) xs_NoPoint_NoNetwork (Ne.symm ne_x7_12))
        (xi_NothingLeft_NoNetwork := kit_f (XCls.mk xh_NoNetwork xt_NoNetwork xb_NoNetwork xg_NoNetwork xq_NoNetwork xc_NoNetwork xsp xtk xo_NoNetwork) xs_NothingLeft_NoNetwork (Ne.symm ne_x7_13))
        (xn_NoMoment := xn_NoMoment)
        (xi_NoEvent_NoMoment := kit_f (XCls.mk xh_NoMoment xt_NoMoment xb_NoMoment xg_NoMoment xq_NoMoment xc_NoMoment xsp xtk xo_NoMoment) xs_NoEvent_NoMoment ne_x1_8)
        (xi_NoSource_NoMoment := kit_f (XCls.mk xh_NoMoment xt_NoMoment xb_NoMoment xg_NoMoment xq_NoMoment xc_NoMoment xsp xtk xo_NoMoment) xs_NoSource_NoMoment ne_x2_8)
        (xi_NoStation_NoMoment := kit_f (XCls.mk xh_NoMoment xt_NoMoment xb_NoMoment xg_NoMoment xq_NoMoment xc_NoMoment xsp xtk xo_NoMoment) xs_NoStation_NoMoment ne_x3_8)
        (xi_NoOperation_NoMoment := kit_f (XCls.mk xh_NoMoment xt_NoMoment xb_NoMoment xg_NoMoment xq_NoMoment xc_NoMoment xsp xtk xo_NoMoment) xs_NoOperation_NoMoment ne_x4_8)
        (xi_TooMany_NoMoment := kit_f (XCls.mk xh_NoMoment xt_NoMoment xb_NoMoment xg_NoMoment xq_NoMoment xc_NoMoment xsp xtk xo_NoMoment) xs_TooMany_NoMoment ne_x5_8)
        (xi_InvalidText_NoMoment := kit_f (XCls.mk xh_NoMoment xt_NoMoment xb_NoMoment xg_NoMoment xq_NoMoment xc_NoMoment xsp xtk xo_NoMoment) xs_InvalidText_NoMoment ne_x6_8)
        (xi_NoNetwork_NoMoment := kit_f (XCls.mk xh_NoMoment xt_NoMoment xb_NoMoment xg_NoMoment xq_NoMoment xc_NoMoment xsp xtk xo_NoMoment) xs_NoNetwork_NoMoment ne_x7_8)
        (xi_NoMoment_NoMoment := kit_t (XCls.mk xh_NoMoment xt_NoMoment xb_NoMoment xg_NoMoment xq_NoMoment xc_NoMoment xsp xtk xo_NoMoment) xs_NoMoment_NoMoment)
        (xm_NoMoment_NoMoment := xm_of (XCls.mk xh_NoMoment xt_NoMoment xb_NoMoment xg_NoMoment xq_NoMoment xc_NoMoment xsp xtk xo_NoMoment) xs_NoMoment_NoMoment)
        (xi_NoClock_NoMoment := kit_f (XCls.mk xh_NoMoment xt_NoMoment xb_NoMoment xg_NoMoment xq_NoMoment xc_NoMoment xsp xtk xo_NoMoment) xs_NoClock_NoMoment (Ne.symm ne_x8_9))
        (xi_NoSpans_NoMoment := kit_f (XCls.mk xh_NoMoment xt_NoMoment xb_NoMoment xg_NoMoment xq_NoMoment xc_NoMoment xsp xtk xo_NoMoment) xs_NoSpans_NoMoment (Ne.symm ne_x8_10))
        (xi_NoReading_NoMoment := kit_f (XCls.mk xh_NoMoment xt_NoMoment xb_NoMoment xg_NoMoment xq_NoMoment xc_NoMoment xsp xtk xo_NoMoment) xs_NoReading_NoMoment (Ne.symm ne_x8_11))
        (xi_NoPoint_NoMoment := kit_f (XCls.mk xh_NoMoment xt_NoMoment xb_NoMoment xg_NoMoment xq_NoMoment xc_NoMoment xsp xtk xo_NoMoment) xs_NoPoint_NoMoment (Ne.symm ne_x8_12))
        (xi_NothingLeft_NoMoment := kit_f (XCls.mk xh_NoMoment xt_NoMoment xb_NoMoment xg_NoMoment xq_NoMoment xc_NoMoment xsp xtk xo_NoMoment) xs_NothingLeft_NoMoment (Ne.symm ne_x8_13))
        (xn_NoClock := xn_NoClock)
        (xi_NoEvent_NoClock := kit_f (XCls.mk xh_NoClock xt_NoClock xb_NoClock xg_NoClock xq_NoClock xc_NoClock xsp xtk xo_NoClock) xs_NoEvent_NoClock ne_x1_9)
        (xi_NoSource_NoClock := kit_f (XCls.mk xh_NoClock xt_NoClock xb_NoClock xg_NoClock xq_NoClock xc_NoClock xsp xtk xo_NoClock) xs_NoSource_NoClock ne_x2_9)
        (xi_NoStation_NoClock := kit_f (XCls.mk xh_NoClock xt_NoClock xb_NoClock xg_NoClock xq_NoClock xc_NoClock xsp xtk xo_NoClock) xs_NoStation_NoClock ne_x3_9)
        (xi_NoOperation_NoClock := kit_f (XCls.mk xh_NoClock xt_NoClock xb_NoClock xg_NoClock xq_NoClock xc_NoClock xsp xtk xo_NoClock) xs_NoOperation_NoClock ne_x4_9)
        (xi_TooMany_NoClock := kit_f (XCls.mk xh_NoClock xt_NoClock xb_NoClock xg_NoClock xq_NoClock xc_NoClock xsp xtk xo_NoClock) xs_TooMany_NoClock ne_x5_9)
        (xi_InvalidText_NoClock := kit_f (XCls.mk xh_NoClock xt_NoClock xb_NoClock xg_NoClock xq_NoClock xc_NoClock xsp xtk xo_NoClock) xs_InvalidText_NoClock ne_x6_9)
        (xi_NoNetwork_NoClock := kit_f (XCls.mk xh_NoClock xt_NoClock xb_NoClock xg_NoClock xq_NoClock xc_NoClock xsp xtk xo_NoClock) xs_NoNetwork_NoClock ne_x7_9)
        (xi_NoMoment_NoClock := kit_f (XCls.mk xh_NoClock xt_NoClock xb_NoClock xg_NoClock xq_NoClock xc_NoClock xsp xtk xo_NoClock) xs_NoMoment_NoClock ne_x8_9)
        (xi_NoClock_NoClock := kit_t (XCls.mk xh_NoClock xt_NoClock xb_NoClock xg_NoClock xq_NoClock xc_NoClock xsp xtk xo_NoClock) xs_NoClock_NoClock)
        (xm_NoClock_NoClock := xm_of (XCls.mk xh_NoClock xt_NoClock xb_NoClock xg_NoClock xq_NoClock xc_NoClock xsp xtk xo_NoClock) xs_NoClock_NoClock)
        (xi_NoSpans_NoClock := kit_f (XCls.mk xh_NoClock xt_NoClock xb_NoClock xg_NoClock xq_NoClock xc_NoClock xsp xtk xo_NoClock) xs_NoSpans_NoClock (Ne.symm ne_x9_10))
        (xi_NoReading_NoClock := kit_f (XCls.mk xh_NoClock xt_NoClock xb_NoClock xg_NoClock xq_NoClock xc_NoClock xsp xtk xo_NoClock) xs_NoReading_NoClock (Ne.symm ne_x9_11))
        (xi_NoPoint_NoClock := kit_f (XCls.mk xh_NoClock xt_NoClock xb_NoClock xg_NoClock xq_NoClock xc_NoClock xsp xtk xo_NoClock) xs_NoPoint_NoClock (Ne.symm ne_x9_12))
        (xi_NothingLeft_NoClock := kit_f (XCls.mk xh_NoClock xt_NoClock xb_NoClock xg_NoClock xq_NoClock xc_NoClock xsp xtk xo_NoClock) xs_NothingLeft_NoClock (Ne.symm ne_x9_13))
        (xn_NoSpans := xn_NoSpans)
        (xi_NoEvent_NoSpans := kit_f (XCls.mk xh_NoSpans xt_NoSpans xb_NoSpans xg_NoSpans xq_NoSpans xc_NoSpans xsp xtk xo_NoSpans) xs_NoEvent_NoSpans ne_x1_10)
        (xi_NoSource_NoSpans := kit_f (XCls.mk xh_NoSpans xt_NoSpans xb_NoSpans xg_NoSpans xq_NoSpans xc_NoSpans xsp xtk xo_NoSpans) xs_NoSource_NoSpans ne_x2_10)
        (xi_NoStation_NoSpans := kit_f (XCls.mk xh_NoSpans xt_NoSpans xb_NoSpans xg_NoSpans xq_NoSpans xc_NoSpans xsp xtk xo_NoSpans) xs_NoStation_NoSpans ne_x3_10)
        (xi_NoOperation_NoSpans := kit_f (XCls.mk xh_NoSpans xt_NoSpans xb_NoSpans xg_NoSpans xq_NoSpans xc_NoSpans xsp xtk xo_NoSpans) xs_NoOperation_NoSpans ne_x4_10)
        (xi_TooMany_NoSpans := kit_f (XCls.mk xh_NoSpans xt_NoSpans xb_NoSpans xg_NoSpans xq_NoSpans xc_NoSpans xsp xtk xo_NoSpans) xs_TooMany_NoSpans ne_x5_10)
        (xi_InvalidText_NoSpans := kit_f (XCls.mk xh_NoSpans xt_NoSpans xb_NoSpans xg_NoSpans xq_NoSpans xc_NoSpans xsp xtk xo_NoSpans) xs_InvalidText_NoSpans ne_x6_10)
        (xi_NoNetwork_NoSpans := kit_f (XCls.mk xh_NoSpans xt_NoSpans xb_NoSpans xg_NoSpans xq_NoSpans xc_NoSpans xsp xtk xo_NoSpans) xs_NoNetwork_NoSpans ne_x7_10)
        (xi_NoMoment_NoSpans := kit_f (XCls.mk xh_NoSpans xt_NoSpans xb_NoSpans xg_NoSpans xq_NoSpans xc_NoSpans xsp xtk xo_NoSpans) xs_NoMoment_NoSpans ne_x8_10)
        (xi_NoClock_NoSpans := kit_f (XCls.mk xh_NoSpans xt_NoSpans xb_NoSpans xg_NoSpans xq_NoSpans xc_NoSpans xsp xtk xo_NoSpans) xs_NoClock_NoSpans ne_x9_10)
        (xi_NoSpans_NoSpans := kit_t (XCls.mk xh_NoSpans xt_NoSpans xb_NoSpans xg_NoSpans xq_NoSpans xc_NoSpans xsp xtk xo_NoSpans) xs_NoSpans_NoSpans)
        (xm_NoSpans_NoSpans := xm_of (XCls.mk xh_NoSpans xt_NoSpans xb_NoSpans xg_NoSpans xq_NoSpans xc_NoSpans xsp xtk xo_NoSpans) xs_NoSpans_NoSpans)
        (xi_NoReading_NoSpans := kit_f (XCls.mk xh_NoSpans xt_NoSpans xb_NoSpans xg_NoSpans xq_NoSpans xc_NoSpans xsp xtk xo_NoSpans) xs_NoReading_NoSpans (Ne.symm ne_x10_11))
        (xi_NoPoint_NoSpans := kit_f (XCls.mk xh_NoSpans xt_NoSpans xb_NoSpans xg_NoSpans xq_NoSpans xc_NoSpans xsp xtk xo_NoSpans) xs_NoPoint_NoSpans (Ne.symm ne_x10_12))
        (xi_NothingLeft_NoSpans := kit_f (XCls.mk xh_NoSpans xt_NoSpans xb_NoSpans xg_NoSpans xq_NoSpans xc_NoSpans xsp xtk xo_NoSpans) xs_NothingLeft_NoSpans (Ne.symm ne_x10_13))
        (xn_NoReading := xn_NoReading)
        (xi_NoEvent_NoReading := kit_f (XCls.mk xh_NoReading xt_NoReading xb_NoReading xg_NoReading xq_NoReading xc_NoReading xsp xtk xo_NoReading) xs_NoEvent_NoReading ne_x1_11)
        (xi_NoSource_NoReading := kit_f (XCls.mk xh_NoReading xt_NoReading xb_NoReading xg_NoReading xq_NoReading xc_NoReading xsp xtk xo_NoReading) xs_NoSource_NoReading ne_x2_11)
        (xi_NoStation_NoReading := kit_f (XCls.mk xh_NoReading xt_NoReading xb_NoReading xg_NoReading xq_NoReading xc_NoReading xsp xtk xo_NoReading) xs_NoStation_NoReading ne_x3_11)
        (xi_NoOperation_NoReading := kit_f (XCls.mk xh_NoReading xt_NoReading xb_NoReading xg_NoReading xq_NoReading xc_NoReading xsp xtk xo_NoReading) xs_NoOperation_NoReading ne_x4_11)
        (xi_TooMany_NoReading := kit_f (XCls.mk xh_NoReading xt_NoReading xb_NoReading xg_NoReading xq_NoReading xc_NoReading xsp xtk xo_NoReading) xs_TooMany_NoReading ne_x5_11)
        (xi_InvalidText_NoReading := kit_f (XCls.mk xh_NoReading xt_NoReading xb_NoReading xg_NoReading xq_NoReading xc_NoReading xsp xtk xo_NoReading) xs_InvalidText_NoReading ne_x6_11)
        (xi_NoNetwork_NoReading := kit_f (XCls.mk xh_NoReading xt_NoReading xb_NoReading xg_NoReading xq_NoReading xc_NoReading xsp xtk xo_NoReading) xs_NoNetwork_NoReading ne_x7_11)
        (xi_NoMoment_NoReading := kit_f (XCls.mk xh_NoReading xt_NoReading xb_NoReading xg_NoReading xq_NoReading xc_NoReading xsp xtk xo_NoReading) xs_NoMoment_NoReading ne_x8_11)
        (xi_NoClock_NoReading := kit_f (XCls.mk xh_NoReading xt_NoReading xb_NoReading xg_NoReading xq_NoReading xc_NoReading xsp xtk xo_NoReading) xs_NoClock_NoReading ne_x9_11)
        (xi_NoSpans_NoReading := kit_f (XCls.mk xh_NoReading xt_NoReading xb_NoReading xg_NoReading xq_NoReading xc_NoReading xsp xtk xo_NoReading) xs_NoSpans_NoReading ne_x10_11)
        (xi_NoReading_NoReading := kit_t (XCls.mk xh_NoReading xt_NoReading xb_NoReading xg_NoReading xq_NoReading xc_NoReading xsp xtk xo_NoReading) xs_NoReading_NoReading)
        (xm_NoReading_NoReading := xm_of (XCls.mk xh_NoReading xt_NoReading xb_NoReading xg_NoReading xq_NoReading xc_NoReading xsp xtk xo_NoReading) xs_NoReading_NoReading)
        (xi_NoPoint_NoReading := kit_f (XCls.mk xh_NoReading xt_NoReading xb_NoReading xg_NoReading xq_NoReading xc_NoReading xsp xtk xo_NoReading) xs_NoPoint_NoReading (Ne.symm ne_x11_12))
        (xi_NothingLeft_NoReading := kit_f (XCls.mk xh_NoReading xt_NoReading xb_NoReading xg_NoReading xq_NoReading xc_NoReading xsp xtk xo_NoReading) xs_NothingLeft_NoReading (Ne.symm ne_x11_13))
        (xn_NoPoint := xn_NoPoint)
        (xi_NoEvent_NoPoint := kit_f (XCls.mk xh_NoPoint xt_NoPoint xb_NoPoint xg_NoPoint xq_NoPoint xc_NoPoint xsp xtk xo_NoPoint) xs_NoEvent_NoPoint ne_x1_12)
        (xi_NoSource_NoPoint := kit_f (XCls.mk xh_NoPoint xt_NoPoint xb_NoPoint xg_NoPoint xq_NoPoint xc_NoPoint xsp xtk xo_NoPoint) xs_NoSource_NoPoint ne_x2_12)
        (xi_NoStation_NoPoint := kit_f (XCls.mk xh_NoPoint xt_NoPoint xb_NoPoint xg_NoPoint xq_NoPoint xc_NoPoint xsp xtk xo_NoPoint) xs_NoStation_NoPoint ne_x3_12)
        (xi_NoOperation_NoPoint := kit_f (XCls.mk xh_NoPoint xt_NoPoint xb_NoPoint xg_NoPoint xq_NoPoint xc_NoPoint xsp xtk xo_NoPoint) xs_NoOperation_NoPoint ne_x4_12)
        (xi_TooMany_NoPoint := kit_f (XCls.mk xh_NoPoint xt_NoPoint xb_NoPoint xg_NoPoint xq_NoPoint xc_NoPoint xsp xtk xo_NoPoint) xs_TooMany_NoPoint ne_x5_12)
        (xi_InvalidText_NoPoint := kit_f (XCls.mk xh_NoPoint xt_NoPoint xb_NoPoint xg_NoPoint xq_NoPoint xc_NoPoint xsp xtk xo_NoPoint) xs_InvalidText_NoPoint ne_x6_12)
        (xi_NoNetwork_NoPoint := kit_f (XCls.mk xh_NoPoint xt_NoPoint xb_NoPoint xg_NoPoint xq_NoPoint xc_NoPoint xsp xtk xo_NoPoint) xs_NoNetwork_NoPoint ne_x7_12)
        (xi_NoMoment_NoPoint := kit_f (XCls.mk xh_NoPoint xt_NoPoint xb_NoPoint xg_NoPoint xq_NoPoint xc_NoPoint xsp xtk xo_NoPoint) xs_NoMoment_NoPoint ne_x8_12)
        (xi_NoClock_NoPoint := kit_f (XCls.mk xh_NoPoint xt_NoPoint xb_NoPoint xg_NoPoint xq_NoPoint xc_NoPoint xsp xtk xo_NoPoint) xs_NoClock_NoPoint ne_x9_12)
        (xi_NoSpans_NoPoint := kit_f (XCls.mk xh_NoPoint xt_NoPoint xb_NoPoint xg_NoPoint xq_NoPoint xc_NoPoint xsp xtk xo_NoPoint) xs_NoSpans_NoPoint ne_x10_12)
        (xi_NoReading_NoPoint := kit_f (XCls.mk xh_NoPoint xt_NoPoint xb_NoPoint xg_NoPoint xq_NoPoint xc_NoPoint xsp xtk xo_NoPoint) xs_NoReading_NoPoint ne_x11_12)
        (xi_NoPoint_NoPoint := kit_t (XCls.mk xh_NoPoint xt_NoPoint xb_NoPoint xg_NoPoint xq_NoPoint xc_NoPoint xsp xtk xo_NoPoint) xs_NoPoint_NoPoint)
        (xm_NoPoint_NoPoint := xm_of (XCls.mk xh_NoPoint xt_NoPoint xb_NoPoint xg_NoPoint xq_NoPoint xc_NoPoint xsp xtk xo_NoPoint) xs_NoPoint_NoPoint)
        (xi_NothingLeft_NoPoint := kit_f (XCls.mk xh_NoPoint xt_NoPoint xb_NoPoint xg_NoPoint xq_NoPoint xc_NoPoint xsp xtk xo_NoPoint) xs_NothingLeft_NoPoint (Ne.symm ne_x12_13))
        (xn_NothingLeft := xn_NothingLeft)
        (xi_NoEvent_NothingLeft := kit_f (XCls.mk xh_NothingLeft xt_NothingLeft xb_NothingLeft xg_NothingLeft xq_NothingLeft xc_NothingLeft xsp xtk xo_NothingLeft) xs_NoEvent_NothingLeft ne_x1_13)
        (xi_NoSource_NothingLeft := kit_f (XCls.mk xh_NothingLeft xt_NothingLeft xb_NothingLeft xg_NothingLeft xq_NothingLeft xc_NothingLeft xsp xtk xo_NothingLeft) xs_NoSource_NothingLeft ne_x2_13)
        (xi_NoStation_NothingLeft := kit_f (XCls.mk xh_NothingLeft xt_NothingLeft xb_NothingLeft xg_NothingLeft xq_NothingLeft xc_NothingLeft xsp xtk xo_NothingLeft) xs_NoStation_NothingLeft ne_x3_13)
        (xi_NoOperation_NothingLeft := kit_f (XCls.mk xh_NothingLeft xt_NothingLeft xb_NothingLeft xg_NothingLeft xq_NothingLeft xc_NothingLeft xsp xtk xo_NothingLeft) xs_NoOperation_NothingLeft ne_x4_13)
        (xi_TooMany_NothingLeft := kit_f (XCls.mk xh_NothingLeft xt_NothingLeft xb_NothingLeft xg_NothingLeft xq_NothingLeft xc_NothingLeft xsp xtk xo_NothingLeft) xs_TooMany_NothingLeft ne_x5_13)
        (xi_InvalidText_NothingLeft := kit_f (XCls.mk xh_NothingLeft xt_NothingLeft xb_NothingLeft xg_NothingLeft xq_NothingLeft xc_NothingLeft xsp xtk xo_NothingLeft) xs_InvalidText_NothingLeft ne_x6_13)
        (xi_NoNetwork_NothingLeft := kit_f (XCls.mk xh_NothingLeft xt_NothingLeft xb_NothingLeft xg_NothingLeft xq_NothingLeft xc_NothingLeft xsp xtk xo_NothingLeft) xs_NoNetwork_NothingLeft ne_x7_13)
        (xi_NoMoment_NothingLeft := kit_f (XCls.mk xh_NothingLeft xt_NothingLeft xb_NothingLeft xg_NothingLeft xq_NothingLeft xc_NothingLeft xsp xtk xo_NothingLeft) xs_NoMoment_NothingLeft ne_x8_13)
        (xi_NoClock_NothingLeft := kit_f (XCls.mk xh_NothingLeft xt_NothingLeft xb_NothingLeft xg_NothingLeft xq_NothingLeft xc_NothingLeft xsp xtk xo_NothingLeft) xs_NoClock_NothingLeft ne_x9_13)
        (xi_NoSpans_NothingLeft := kit_f (XCls.mk xh_NothingLeft xt_NothingLeft xb_NothingLeft xg_NothingLeft xq_NothingLeft xc_NothingLeft xsp xtk xo_NothingLeft) xs_NoSpans_NothingLeft ne_x10_13)
        (xi_NoReading_NothingLeft := kit_f (XCls.mk xh_NothingLeft xt_NothingLeft xb_NothingLeft xg_NothingLeft xq_NothingLeft xc_NothingLeft xsp xtk xo_NothingLeft) xs_NoReading_NothingLeft ne_x11_13)
        (xi_NoPoint_NothingLeft := kit_f (XCls.mk xh_NothingLeft xt_NothingLeft xb_NothingLeft xg_NothingLeft xq_NothingLeft xc_NothingLeft xsp xtk xo_NothingLeft) xs_NoPoint_NothingLeft ne_x12_13)
        (xi_NothingLeft_NothingLeft := kit_t (XCls.mk xh_NothingLeft xt_NothingLeft xb_NothingLeft xg_NothingLeft xq_NothingLeft xc_NothingLeft xsp xtk xo_NothingLeft) xs_NothingLeft_NothingLeft)
        (xm_NothingLeft_NothingLeft := xm_of (XCls.mk xh_NothingLeft xt_NothingLeft xb_NothingLeft xg_NothingLeft xq_NothingLeft xc_NothingLeft xsp xtk xo_NothingLeft) xs_NothingLeft_NothingLeft)
        (xtop := ytop)
        (f_xNoEvent := XI_NoEvent)
        (sc_NoEvent := supC_mk ss_NoEvent l_xNoEvent yv_NoEvent xsa_NoEvent xb_NoEvent xt_NoEvent xk_NoEvent xin_NoEvent xti_NoEvent xno_NoEvent yopq ysup_NoEvent xiv_NoEvent xow_NoEvent (PySem.W.mg_none_of X G zz_super) l_yNoEvent cc_xNoEvent l_zNoEvent yvs_NoEvent yfi_NoEvent l_wNoEvent)
        (f_xNoSource := XI_NoSource)
        (sc_NoSource := supC_mk ss_NoSource l_xNoSource yv_NoSource xsa_NoSource xb_NoSource xt_NoSource xk_NoSource xin_NoSource xti_NoSource xno_NoSource yopq ysup_NoSource xiv_NoSource xow_NoSource (PySem.W.mg_none_of X G zz_super) l_yNoSource cc_xNoSource l_zNoSource yvs_NoSource yfi_NoSource l_wNoSource)
        (f_xNoStation := XI_NoStation)
        (sc_NoStation := supC_mk ss_NoStation l_xNoStation yv_NoStation xsa_NoStation xb_NoStation xt_NoStation xk_NoStation xin_NoStation xti_NoStation xno_NoStation yopq ysup_NoStation xiv_NoStation xow_NoStation (PySem.W.mg_none_of X G zz_super) l_yNoStation cc_xNoStation l_zNoStation yvs_NoStation yfi_NoStation l_wNoStation)
        (f_xNoOperation := XI_NoOperation)
        (sc_NoOperation := supC_mk ss_NoOperation l_xNoOperation yv_NoOperation xsa_NoOperation xb_NoOperation xt_NoOperation xk_NoOperation xin_NoOperation xti_NoOperation xno_NoOperation yopq ysup_NoOperation xiv_NoOperation xow_NoOperation (PySem.W.mg_none_of X G zz_super) l_yNoOperation cc_xNoOperation l_zNoOperation yvs_NoOperation yfi_NoOperation l_wNoOperation)
        (f_xTooMany := XI_TooMany)
        (sc_TooMany := supC_mk ss_TooMany l_xTooMany yv_TooMany xsa_TooMany xb_TooMany xt_TooMany xk_TooMany xin_TooMany xti_TooMany xno_TooMany yopq ysup_TooMany xiv_TooMany xow_TooMany (PySem.W.mg_none_of X G zz_super) l_yTooMany cc_xTooMany l_zTooMany yvs_TooMany yfi_TooMany l_wTooMany)
        (f_xInvalidText := XI_InvalidText)
        (sc_InvalidText := supC_mk ss_InvalidText l_xInvalidText yv_InvalidText xsa_InvalidText xb_InvalidText xt_InvalidText xk_InvalidText xin_InvalidText xti_InvalidText xno_InvalidText yopq ysup_InvalidText xiv_InvalidText xow_InvalidText (PySem.W.mg_none_of X G zz_super) l_yInvalidText cc_xInvalidText l_zInvalidText yvs_InvalidText yfi_InvalidText l_wInvalidText)
        (xvn := xvn)
        (xv_NoEvent := xiv_NoEvent)
        (xv_NoSource := xiv_NoSource)
        (xv_NoStation := xiv_NoStation)
        (xv_NoOperation := xiv_NoOperation)
        (xv_TooMany := xiv_TooMany)
        (xv_InvalidText := xiv_InvalidText)
        (xv_NoNetwork := xiv_NoNetwork)
        (xv_NoMoment := xiv_NoMoment)
        (xv_NoClock := xiv_NoClock)
        (xv_NoSpans := xiv_NoSpans)
        (xv_NoReading := xiv_NoReading)
        (xv_NoPoint := xiv_NoPoint)
        (xv_NothingLeft := xiv_NothingLeft)
        (xf_NoEvent_index := xno_NoEvent)
        (xf_NoOperation_index := xno_NoOperation)
        (xf_NoSource_name := xno_NoSource)
        (xf_NoStation_name := xno_NoStation)
        (xf_TooMany_most := xno_TooMany)
        (xf_InvalidText_line := xno_InvalidText)
        (a_tab_law := A_tab_law)
        (c_tab_law := C_tab_law)
        (tb_tab_law := tb (C_tab_law, A_tab_law) (by simp))
        (a_f_law_begin := A_f_law_begin)
        (d_law_begin := PySem.W.fnOf "_law_begin" "_law_begin" (defArgs s_law_begin) (defBody s_law_begin) (defScope s_law_begin) .none kV0 dc0 pm0 an0 cd0 ct0)
        (F_law_begin := fun_mk (st := s_law_begin) l_law_begin cc_law_begin kp_law_begin)
        (b_law_begin := (fun_mk (st := s_law_begin) l_law_begin cc_law_begin kp_law_begin).binds (ps := ["_law_script"]) fun _ _ _ _ _ _ us hl => match us, hl with | [_], _ => rfl)
        (m_law_begin := PySem.W.mg_of X G at_law_begin)
        (a_f_law_take := A_f_law_take)
        (d_law_take := PySem.W.fnOf "_law_take" "_law_take" (defArgs s_law_take) (defBody s_law_take) (defScope s_law_take) .none kV1 dc1 pm1 an1 cd1 ct1)
        (F_law_take := fun_mk (st := s_law_take) l_law_take cc_law_take kp_law_take)
        (b_law_take := (fun_mk (st := s_law_take) l_law_take cc_law_take kp_law_take).binds (ps := ["_law_draw", "_law_size"]) fun _ _ _ _ _ _ us hl => match us, hl with | [_, _], _ => rfl)
        (m_law_take := PySem.W.mg_of X G at_law_take)
        (a_f_law_pick := A_f_law_pick)
        (d_law_pick := PySem.W.fnOf "_law_pick" "_law_pick" (defArgs s_law_pick) (defBody s_law_pick) (defScope s_law_pick) .none kV2 dc2 pm2 an2 cd2 ct2)
        (F_law_pick := fun_mk (st := s_law_pick) l_law_pick cc_law_pick kp_law_pick)
        (b_law_pick := (fun_mk (st := s_law_pick) l_law_pick cc_law_pick kp_law_pick).binds (ps := ["_law_draw", "_law_some"]) fun _ _ _ _ _ _ us hl => match us, hl with | [_, _], _ => rfl)
        (m_law_pick := PySem.W.mg_of X G at_law_pick)
        (a_f_law_caught := A_f_law_caught)
        (d_law_caught := PySem.W.fnOf "_law_caught" "_law_caught" (defArgs s_law_caught) (defBody s_law_caught) (defScope s_law_caught) .none kV3 dc3 pm3 an3 cd3 ct3)
        (F_law_caught := dfn_mk (st := s_law_caught) l_law_caught cc_law_caught kp_law_caught)
        (v_law_caught := cd3)
        (b_law_caught := (fun_mk (st := s_law_caught) l_law_caught cc_law_caught kp_law_caught).binds (ps := ["_law_work"]) fun _ _ _ _ _ _ us hl => match us, hl with | [_], _ => rfl)
        (m_law_caught := PySem.W.mg_of X G at_law_caught)
        (a_f_law_raised := A_f_law_raised)
        (d_law_raised := PySem.W.fnOf "_law_raised" "_law_raised" (defArgs s_law_raised) (defBody s_law_raised) (defScope s_law_raised) .none kV4 dc4 pm4 an4 cd4 ct4)
        (F_law_raised := fun_mk (st := s_law_raised) l_law_raised cc_law_raised kp_law_raised)
        (b_law_raised := (fun_mk (st := s_law_raised) l_law_raised cc_law_raised kp_law_raised).binds (ps := ["_law_word", "_law_worth"]) fun _ _ _ _ _ _ us hl => match us, hl with | [_, _], _ => rfl)
        (m_law_raised := PySem.W.mg_of X G at_law_raised)
        (a_f_law_field := A_f_law_field)
        (d_law_field := PySem.W.fnOf "_law_field" "_law_field" (defArgs s_law_field) (defBody s_law_field) (defScope s_law_field) .none kV5 dc5 pm5 an5 cd5 ct5)
        (F_law_field := fun_mk (st := s_law_field) l_law_field cc_law_field kp_law_field)
        (b_law_field := (fun_mk (st := s_law_field) l_law_field cc_law_field kp_law_field).binds (ps := ["_law_error"]) fun _ _ _ _ _ _ us hl => match us, hl with | [_], _ => rfl)
        (m_law_field := PySem.W.mg_of X G at_law_field)
        (a_f_law := fa)
        (d_law := PySem.W.fnOf "law" "law" (defArgs s_law) (defBody s_law) (defScope s_law) .none kV6 dc6 pm6 an6 (.ref C_tab_law) ct6)
        (F_law := dfn_mk (st := s_law) l_law cc_law kp_law)
        (v_law := (.ref C_tab_law))
        (b_law := (fun_mk (st := s_law) l_law cc_law kp_law).binds (ps := ["_law_script"]) fun _ _ _ _ _ _ us hl => match us, hl with | [_], _ => rfl)
        (m_law := PySem.W.mg_of X G at_law)
    exact ok_law T fun ns => hm _ _ _ _ _ _ _ _ _ _ _ _ _ _ _ (show [A_HourError, A_NoEvent, A_NoSource, A_NoStation, A_NoOperation, A_TooMany, A_InvalidText, A_NoNetwork, A_NoMoment, A_NoClock, A_NoSpans, A_NoReading, A_NoPoint, A_NothingLeft].Nodup from by simp [ne_x0_1, ne_x0_2, ne_x0_3, ne_x0_4, ne_x0_5, ne_x0_6, ne_x0_7, ne_x0_8, ne_x0_9, ne_x0_10, ne_x0_11, ne_x0_12, ne_x0_13, ne_x1_2, ne_x1_3, ne_x1_4, ne_x1_5, ne_x1_6, ne_x1_7, ne_x1_8, ne_x1_9, ne_x1_10, ne_x1_11, ne_x1_12, ne_x1_13, ne_x2_3, ne_x2_4, ne_x2_5, ne_x2_6, ne_x2_7, ne_x2_8, ne_x2_9, ne_x2_10, ne_x2_11, ne_x2_12, ne_x2_13, ne_x3_4, ne_x3_5, ne_x3_6, ne_x3_7, ne_x3_8, ne_x3_9, ne_x3_10, ne_x3_11, ne_x3_12, ne_x3_13, ne_x4_5, ne_x4_6, ne_x4_7, ne_x4_8, ne_x4_9, ne_x4_10, ne_x4_11, ne_x4_12, ne_x4_13, ne_x5_6, ne_x5_7, ne_x5_8, ne_x5_9, ne_x5_10, ne_x5_11, ne_x5_12, ne_x5_13, ne_x6_7, ne_x6_8, ne_x6_9, ne_x6_10, ne_x6_11, ne_x6_12, ne_x6_13, ne_x7_8, ne_x7_9, ne_x7_10, ne_x7_11, ne_x7_12, ne_x7_13, ne_x8_9, ne_x8_10, ne_x8_11, ne_x8_12, ne_x8_13, ne_x9_10, ne_x9_11, ne_x9_12, ne_x9_13, ne_x10_11, ne_x10_12, ne_x10_13, ne_x11_12, ne_x11_13, ne_x12_13]) ns
end Law
set_option Elab.async false
set_option linter.all false
set_option maxRecDepth 100000
set_option maxHeartbeats 4000000
namespace Law
open PySem DL
def mkT (k : Nat) : Nat → List Addr → List (Addr × Bool)
  | _, [] => []
  | j, a :: l => (a, j == k) :: mkT k (j + 1) l
theorem mkT_at (k : Nat) : ∀ {l : List Addr} {i j : Nat} {a : Addr}, l.Nodup → l[i]? = some a → ctL (mkT k j l) a = some (j + i == k)
  | [], _, _, _, _, h => by cases h
  | b :: l, 0, j, a, nd, h => by
    cases h
    show List.lookup _ ((_, _) :: _) = _
    rw [List.lookup_cons, beq_self_eq_true]; rfl
  | b :: l, i + 1, j, a, nd, h => by
    have h : l[i]? = some a := h
    rw [List.nodup_cons] at nd
    have ne : (a == b) = false := by
      rw [beq_eq_false_iff_ne]
      exact fun z => nd.1 (z ▸ List.mem_of_getElem? h)
    show List.lookup _ ((_, _) :: _) = _
    rw [List.lookup_cons, ne]
    have e := mkT_at k (i := i) (j := j + 1) nd.2 h
    rw [show j + 1 + i = j + (i + 1) from by omega] at e
    exact e
def mkA : List Addr → List (Addr × Bool)
  | [] => []
  | a :: l => (a, true) :: mkA l
theorem mkA_at : ∀ {l : List Addr} {a : Addr}, a ∈ l → ctL (mkA l) a = some true
  | [], _, h => by cases h
  | b :: l, a, h => by
    show List.lookup _ ((_, _) :: _) = _
    rw [List.lookup_cons]
    cases z : a == b with
    | true => rfl
    | false =>
      refine mkA_at ?_
      rcases List.mem_cons.mp h with h | h
      · rw [beq_eq_false_iff_ne] at z; exact absurd h z
      · exact h
theorem isX_of {ct : Addr → Option Bool} {C : Addr} {fs : List (Str × D)} {b : Bool} (h : ct C = some b) : isX ct (.exc C fs) = some (.fz (.bl b)) := by
  show Option.map _ _ = _; rw [h]; rfl
theorem exF_eq {cs : Addr → Bool} {n : Str} {fo : M VR} {y : VR} {d : D} {t : DL.T} {s s1 : State} (e : fo s = .ok y s1) (hd : readV y s1 = .ok d s1) (h : exF cs n d = some t) : dExF cs n fo s = .ok t s1 := by
  unfold dExF
  simp only [bind_eq, e, hd, h]
  rfl
theorem exF_of {cs : Addr → Bool} {C : Addr} {n : Str} {x : D} (h : cs C = true) : exF cs n (.exc C [(n, x)]) = some (.fz x) := by
  show (if cs C = true then _ else none) = _
  rw [if_pos h]
  show Option.map _ (List.lookup n [(n, x)]) = _
  rw [List.lookup_cons, beq_self_eq_true]; rfl
section
variable {x : D} {c0 c1 c2 c3 c4 c5 c6 c7 c8 c9 c10 c11 c12 : Addr → Option Bool} {b0 b1 b2 b3 b4 b5 b6 b7 b8 b9 b10 b11 b12 : Bool} {sto : List MO} {dr : Option DrawSt} {rest : M DL.Flow} {r : Rs DL.Flow}
theorem marks (h0 : isX c0 x = some (.fz (.bl b0))) (h1 : isX c1 x = some (.fz (.bl b1))) (h2 : isX c2 x = some (.fz (.bl b2))) (h3 : isX c3 x = some (.fz (.bl b3))) (h4 : isX c4 x = some (.fz (.bl b4))) (h5 : isX c5 x = some (.fz (.bl b5))) (h6 : isX c6 x = some (.fz (.bl b6))) (h7 : isX c7 x = some (.fz (.bl b7))) (h8 : isX c8 x = some (.fz (.bl b8))) (h9 : isX c9 x = some (.fz (.bl b9))) (h10 : isX c10 x = some (.fz (.bl b10))) (h11 : isX c11 x = some (.fz (.bl b11))) (h12 : isX c12 x = some (.fz (.bl b12))) (hr : rest { env := [some (.fz x), some (.own (.lst [.bl b0, .bl b1, .bl b2, .bl b3, .bl b4, .bl b5, .bl b6, .bl b7, .bl b8, .bl b9, .bl b10, .bl b11, .bl b12])), none], sto := sto, dr := dr } = r) :
    dSeq (dAsg 1 (dLst (dCons (dV (dIsX c0 (dSlot 0))) (dCons (dV (dIsX c1 (dSlot 0))) (dCons (dV (dIsX c2 (dSlot 0))) (dNil)))))) (dSeq (dAsg 1 (dOp2 addD (dSlot 1) (dV (dLst (dCons (dV (dIsX c3 (dSlot 0))) (dCons (dV (dIsX c4 (dSlot 0))) (dCons (dV (dIsX c5 (dSlot 0))) (dNil)))))))) (dSeq (dAsg 1 (dOp2 addD (dSlot 1) (dV (dLst (dCons (dV (dIsX c6 (dSlot 0))) (dCons (dV (dIsX c7 (dSlot 0))) (dCons (dV (dIsX c8 (dSlot 0))) (dNil)))))))) (dSeq (dAsg 1 (dOp2 addD (dSlot 1) (dV (dLst (dCons (dV (dIsX c9 (dSlot 0))) (dCons (dV (dIsX c10 (dSlot 0))) (dCons (dV (dIsX c11 (dSlot 0))) (dNil)))))))) (dSeq (dExpr (dAppend 1 (dV (dIsX c12 (dSlot 0))))) rest)))) { env := [some (.fz x), none, none], sto := sto, dr := dr } = r := by
  have i1 : ∀ {ct : Addr → Option Bool} {b : Bool} {w : Option W}, isX ct x = some (.fz (.bl b)) → dIsX ct (dSlot 0) { env := [some (.fz x), w, none], sto := sto, dr := dr } = .ok (.fz (.bl b)) { env := [some (.fz x), w, none], sto := sto, dr := dr } := fun h => dIsX_eq rfl rfl h
  refine dSeq_nx (dAsg_eq (dLst_eq (dCons_eq (dV_eq (i1 h0)) (dCons_eq (dV_eq (i1 h1)) (dCons_eq (dV_eq (i1 h2)) (k := dNil) rfl))) rfl (by show 3 ≤ sizeLine; decide)) rfl rfl) ?_
  refine dSeq_nx (dAsg_eq (dOp2_eq rfl (dV_eq (dLst_eq (dCons_eq (dV_eq (i1 h3)) (dCons_eq (dV_eq (i1 h4)) (dCons_eq (dV_eq (i1 h5)) (k := dNil) rfl))) rfl (by show 3 ≤ sizeLine; decide))) rfl rfl (addLL (by show 6 ≤ sizeLine; decide))) rfl rfl) ?_
  refine dSeq_nx (dAsg_eq (dOp2_eq rfl (dV_eq (dLst_eq (dCons_eq (dV_eq (i1 h6)) (dCons_eq (dV_eq (i1 h7)) (dCons_eq (dV_eq (i1 h8)) (k := dNil) rfl))) rfl (by show 3 ≤ sizeLine; decide))) rfl rfl (addLL (by show 9 ≤ sizeLine; decide))) rfl rfl) ?_
  refine dSeq_nx (dAsg_eq (dOp2_eq rfl (dV_eq (dLst_eq (dCons_eq (dV_eq (i1 h9)) (dCons_eq (dV_eq (i1 h10)) (dCons_eq (dV_eq (i1 h11)) (k := dNil) rfl))) rfl (by show 3 ≤ sizeLine; decide))) rfl rfl (addLL (by show 12 ≤ sizeLine; decide))) rfl rfl) ?_
  refine dSeq_nx (dExpr_eq (append_eq (ds := [.bl b0, .bl b1, .bl b2, .bl b3, .bl b4, .bl b5, .bl b6, .bl b7, .bl b8, .bl b9, .bl b10, .bl b11]) rfl (dV_eq (i1 h12)) rfl rfl (by show 12 < sizeLine; decide))) ?_
  exact hr
end
section
variable {A0 A1 A2 A3 A4 A5 A6 A7 A8 A9 A10 A11 A12 : Addr} {x : D} {sto : List MO} {dr : Option DrawSt} (nd : [A0, A1, A2, A3, A4, A5, A6, A7, A8, A9, A10, A11, A12].Nodup)
include nd
theorem field0 : F_law_field A0 A1 A2 A3 A4 A5 A6 A7 A8 A9 A10 A11 A12 { env := [some (.fz (.exc A0 [("index", x)])), none, none], sto := sto, dr := dr } = .ok (.rt (.fz (.tup [.int 0, x]))) { env := [some (.fz (.exc A0 [("index", x)])), some (.own (.lst [.bl true, .bl false, .bl false, .bl false, .bl false, .bl false, .bl false, .bl false, .bl false, .bl false, .bl false, .bl false, .bl false])), some (.fz (.int 0))], sto := sto, dr := dr } := by
  unfold F_law_field
  refine marks (isX_of (mkT_at 0 (i := 0) (j := 0) nd rfl)) (isX_of (mkT_at 1 (i := 0) (j := 0) nd rfl)) (isX_of (mkT_at 2 (i := 0) (j := 0) nd rfl)) (isX_of (mkT_at 3 (i := 0) (j := 0) nd rfl)) (isX_of (mkT_at 4 (i := 0) (j := 0) nd rfl)) (isX_of (mkT_at 5 (i := 0) (j := 0) nd rfl)) (isX_of (mkT_at 6 (i := 0) (j := 0) nd rfl)) (isX_of (mkT_at 7 (i := 0) (j := 0) nd rfl)) (isX_of (mkT_at 8 (i := 0) (j := 0) nd rfl)) (isX_of (mkT_at 9 (i := 0) (j := 0) nd rfl)) (isX_of (mkT_at 10 (i := 0) (j := 0) nd rfl)) (isX_of (mkT_at 11 (i := 0) (j := 0) nd rfl)) (isX_of (mkT_at 12 (i := 0) (j := 0) nd rfl)) ?_
  change (dSeq _ _ : M DL.Flow) { env := [some (.fz (.exc A0 [("index", x)])), some (.own (.lst [.bl true, .bl false, .bl false, .bl false, .bl false, .bl false, .bl false, .bl false, .bl false, .bl false, .bl false, .bl false, .bl false])), none], sto := sto, dr := dr } = _
  have v : dB (dIsX (ctL [(A0, true), (A1, true), (A2, true), (A3, true), (A4, true), (A5, true), (A6, true), (A7, true), (A8, true), (A9, true), (A10, true), (A11, true), (A12, true)]) (dSlot 0)) { env := [some (.fz (.exc A0 [("index", x)])), some (.own (.lst [.bl true, .bl false, .bl false, .bl false, .bl false, .bl false, .bl false, .bl false, .bl false, .bl false, .bl false, .bl false, .bl false])), none], sto := sto, dr := dr } = .ok true { env := [some (.fz (.exc A0 [("index", x)])), some (.own (.lst [.bl true, .bl false, .bl false, .bl false, .bl false, .bl false, .bl false, .bl false, .bl false, .bl false, .bl false, .bl false, .bl false])), none], sto := sto, dr := dr } := dB_eq (dIsX_eq rfl rfl (isX_of (mkA_at (l := [A0, A1, A2, A3, A4, A5, A6, A7, A8, A9, A10, A11, A12]) (a := A0) (by simp))))
  refine dSeq_nx (dIf_f (dOr_f (s1 := { env := [some (.fz (.exc A0 [("index", x)])), some (.own (.lst [.bl true, .bl false, .bl false, .bl false, .bl false, .bl false, .bl false, .bl false, .bl false, .bl false, .bl false, .bl false, .bl false])), none], sto := sto, dr := dr }) rfl (dNot_eq v)) rfl) ?_
  refine dSeq_nx (dAsg_eq (t := .fz (.int 0)) (s1 := { env := [some (.fz (.exc A0 [("index", x)])), some (.own (.lst [.bl true, .bl false, .bl false, .bl false, .bl false, .bl false, .bl false, .bl false, .bl false, .bl false, .bl false, .bl false, .bl false])), none], sto := sto, dr := dr }) rfl rfl rfl) ?_
  change (dSeq _ _ : M DL.Flow) { env := [some (.fz (.exc A0 [("index", x)])), some (.own (.lst [.bl true, .bl false, .bl false, .bl false, .bl false, .bl false, .bl false, .bl false, .bl false, .bl false, .bl false, .bl false, .bl false])), some (.fz (.int 0))], sto := sto, dr := dr } = _
  have v : dTup (dCons (dSlot 2) (dCons (dV (dExF (csL [A0, A3]) "index" (dSlot 0))) (dNil))) { env := [some (.fz (.exc A0 [("index", x)])), some (.own (.lst [.bl true, .bl false, .bl false, .bl false, .bl false, .bl false, .bl false, .bl false, .bl false, .bl false, .bl false, .bl false, .bl false])), some (.fz (.int 0))], sto := sto, dr := dr } = .ok (.fz (.tup [.int 0, x])) { env := [some (.fz (.exc A0 [("index", x)])), some (.own (.lst [.bl true, .bl false, .bl false, .bl false, .bl false, .bl false, .bl false, .bl false, .bl false, .bl false, .bl false, .bl false, .bl false])), some (.fz (.int 0))], sto := sto, dr := dr } := dTup_eq (dCons_eq rfl (dCons_eq (dV_eq (exF_eq rfl rfl (exF_of (by simp [csL])))) (k := dNil) rfl)) rfl (by show 2 ≤ sizeLine; decide)
  exact dSeq_rt (dIf_t (s1 := { env := [some (.fz (.exc A0 [("index", x)])), some (.own (.lst [.bl true, .bl false, .bl false, .bl false, .bl false, .bl false, .bl false, .bl false, .bl false, .bl false, .bl false, .bl false, .bl false])), some (.fz (.int 0))], sto := sto, dr := dr }) rfl (dRet_eq v))
theorem field1 : F_law_field A0 A1 A2 A3 A4 A5 A6 A7 A8 A9 A10 A11 A12 { env := [some (.fz (.exc A1 [("name", x)])), none, none], sto := sto, dr := dr } = .ok (.rt (.fz (.tup [.int 1, x]))) { env := [some (.fz (.exc A1 [("name", x)])), some (.own (.lst [.bl false, .bl true, .bl false, .bl false, .bl false, .bl false, .bl false, .bl false, .bl false, .bl false, .bl false, .bl false, .bl false])), some (.fz (.int 1))], sto := sto, dr := dr } := by
  unfold F_law_field
  refine marks (isX_of (mkT_at 0 (i := 1) (j := 0) nd rfl)) (isX_of (mkT_at 1 (i := 1) (j := 0) nd rfl)) (isX_of (mkT_at 2 (i := 1) (j := 0) nd rfl)) (isX_of (mkT_at 3 (i := 1) (j := 0) nd rfl)) (isX_of (mkT_at 4 (i := 1) (j := 0) nd rfl)) (isX_of (mkT_at 5 (i := 1) (j := 0) nd rfl)) (isX_of (mkT_at 6 (i := 1) (j := 0) nd rfl)) (isX_of (mkT_at 7 (i := 1) (j := 0) nd rfl)) (isX_of (mkT_at 8 (i := 1) (j := 0) nd rfl)) (isX_of (mkT_at 9 (i := 1) (j := 0) nd rfl)) (isX_of (mkT_at 10 (i := 1) (j := 0) nd rfl)) (isX_of (mkT_at 11 (i := 1) (j := 0) nd rfl)) (isX_of (mkT_at 12 (i := 1) (j := 0) nd rfl)) ?_
  change (dSeq _ _ : M DL.Flow) { env := [some (.fz (.exc A1 [("name", x)])), some (.own (.lst [.bl false, .bl true, .bl false, .bl false, .bl false, .bl false, .bl false, .bl false, .bl false, .bl false, .bl false, .bl false, .bl false])), none], sto := sto, dr := dr } = _
  have v : dB (dIsX (ctL [(A0, true), (A1, true), (A2, true), (A3, true), (A4, true), (A5, true), (A6, true), (A7, true), (A8, true), (A9, true), (A10, true), (A11, true), (A12, true)]) (dSlot 0)) { env := [some (.fz (.exc A1 [("name", x)])), some (.own (.lst [.bl false, .bl true, .bl false, .bl false, .bl false, .bl false, .bl false, .bl false, .bl false, .bl false, .bl false, .bl false, .bl false])), none], sto := sto, dr := dr } = .ok true { env := [some (.fz (.exc A1 [("name", x)])), some (.own (.lst [.bl false, .bl true, .bl false, .bl false, .bl false, .bl false, .bl false, .bl false, .bl false, .bl false, .bl false, .bl false, .bl false])), none], sto := sto, dr := dr } := dB_eq (dIsX_eq rfl rfl (isX_of (mkA_at (l := [A0, A1, A2, A3, A4, A5, A6, A7, A8, A9, A10, A11, A12]) (a := A1) (by simp))))
  refine dSeq_nx (dIf_f (dOr_f (s1 := { env := [some (.fz (.exc A1 [("name", x)])), some (.own (.lst [.bl false, .bl true, .bl false, .bl false, .bl false, .bl false, .bl false, .bl false, .bl false, .bl false, .bl false, .bl false, .bl false])), none], sto := sto, dr := dr }) rfl (dNot_eq v)) rfl) ?_
  refine dSeq_nx (dAsg_eq (t := .fz (.int 1)) (s1 := { env := [some (.fz (.exc A1 [("name", x)])), some (.own (.lst [.bl false, .bl true, .bl false, .bl false, .bl false, .bl false, .bl false, .bl false, .bl false, .bl false, .bl false, .bl false, .bl false])), none], sto := sto, dr := dr }) rfl rfl rfl) ?_
  change (dSeq _ _ : M DL.Flow) { env := [some (.fz (.exc A1 [("name", x)])), some (.own (.lst [.bl false, .bl true, .bl false, .bl false, .bl false, .bl false, .bl false, .bl false, .bl false, .bl false, .bl false, .bl false, .bl false])), some (.fz (.int 1))], sto := sto, dr := dr } = _
  have v : dTup (dCons (dSlot 2) (dCons (dV (dExF (csL [A1, A2]) "name" (dSlot 0))) (dNil))) { env := [some (.fz (.exc A1 [("name", x)])), some (.own (.lst [.bl false, .bl true, .bl false, .bl false, .bl false, .bl false, .bl false, .bl false, .bl false, .bl false, .bl false, .bl false, .bl false])), some (.fz (.int 1))], sto := sto, dr := dr } = .ok (.fz (.tup [.int 1, x])) { env := [some (.fz (.exc A1 [("name", x)])), some (.own (.lst [.bl false, .bl true, .bl false, .bl false, .bl false, .bl false, .bl false, .bl false, .bl false, .bl false, .bl false, .bl false, .bl false])), some (.fz (.int 1))], sto := sto, dr := dr } := dTup_eq (dCons_eq rfl (dCons_eq (dV_eq (exF_eq rfl rfl (exF_of (by simp [csL])))) (k := dNil) rfl)) rfl (by show 2 ≤ sizeLine; decide)
  refine dSeq_nx (dIf_f (s1 := { env := [some (.fz (.exc A1 [("name", x)])), some (.own (.lst [.bl false, .bl true, .bl false, .bl false, .bl false, .bl false, .bl false, .bl false, .bl false, .bl false, .bl false, .bl false, .bl false])), some (.fz (.int 1))], sto := sto, dr := dr }) rfl rfl) ?_
  exact dSeq_rt (dIf_t (s1 := { env := [some (.fz (.exc A1 [("name", x)])), some (.own (.lst [.bl false, .bl true, .bl false, .bl false, .bl false, .bl false, .bl false, .bl false, .bl false, .bl false, .bl false, .bl false, .bl false])), some (.fz (.int 1))], sto := sto, dr := dr }) rfl (dRet_eq v))
theorem field2 : F_law_field A0 A1 A2 A3 A4 A5 A6 A7 A8 A9 A10 A11 A12 { env := [some (.fz (.exc A2 [("name", x)])), none, none], sto := sto, dr := dr } = .ok (.rt (.fz (.tup [.int 2, x]))) { env := [some (.fz (.exc A2 [("name", x)])), some (.own (.lst [.bl false, .bl false, .bl true, .bl false, .bl false, .bl false, .bl false, .bl false, .bl false, .bl false, .bl false, .bl false, .bl false])), some (.fz (.int 2))], sto := sto, dr := dr } := by
  unfold F_law_field
  refine marks (isX_of (mkT_at 0 (i := 2) (j := 0) nd rfl)) (isX_of (mkT_at 1 (i := 2) (j := 0) nd rfl)) (isX_of (mkT_at 2 (i := 2) (j := 0) nd rfl)) (isX_of (mkT_at 3 (i := 2) (j := 0) nd rfl)) (isX_of (mkT_at 4 (i := 2) (j := 0) nd rfl)) (isX_of (mkT_at 5 (i := 2) (j := 0) nd rfl)) (isX_of (mkT_at 6 (i := 2) (j := 0) nd rfl)) (isX_of (mkT_at 7 (i := 2) (j := 0) nd rfl)) (isX_of (mkT_at 8 (i := 2) (j := 0) nd rfl)) (isX_of (mkT_at 9 (i := 2) (j := 0) nd rfl)) (isX_of (mkT_at 10 (i := 2) (j := 0) nd rfl)) (isX_of (mkT_at 11 (i := 2) (j := 0) nd rfl)) (isX_of (mkT_at 12 (i := 2) (j := 0) nd rfl)) ?_
  change (dSeq _ _ : M DL.Flow) { env := [some (.fz (.exc A2 [("name", x)])), some (.own (.lst [.bl false, .bl false, .bl true, .bl false, .bl false, .bl false, .bl false, .bl false, .bl false, .bl false, .bl false, .bl false, .bl false])), none], sto := sto, dr := dr } = _
  have v : dB (dIsX (ctL [(A0, true), (A1, true), (A2, true), (A3, true), (A4, true), (A5, true), (A6, true), (A7, true), (A8, true), (A9, true), (A10, true), (A11, true), (A12, true)]) (dSlot 0)) { env := [some (.fz (.exc A2 [("name", x)])), some (.own (.lst [.bl false, .bl false, .bl true, .bl false, .bl false, .bl false, .bl false, .bl false, .bl false, .bl false, .bl false, .bl false, .bl false])), none], sto := sto, dr := dr } = .ok true { env := [some (.fz (.exc A2 [("name", x)])), some (.own (.lst [.bl false, .bl false, .bl true, .bl false, .bl false, .bl false, .bl false, .bl false, .bl false, .bl false, .bl false, .bl false, .bl false])), none], sto := sto, dr := dr } := dB_eq (dIsX_eq rfl rfl (isX_of (mkA_at (l := [A0, A1, A2, A3, A4, A5, A6, A7, A8, A9, A10, A11, A12]) (a := A2) (by simp))))
  refine dSeq_nx (dIf_f (dOr_f (s1 := { env := [some (.fz (.exc A2 [("name", x)])), some (.own (.lst [.bl false, .bl false, .bl true, .bl false, .bl false, .bl false, .bl false, .bl false, .bl false, .bl false, .bl false, .bl false, .bl false])), none], sto := sto, dr := dr }) rfl (dNot_eq v)) rfl) ?_
  refine dSeq_nx (dAsg_eq (t := .fz (.int 2)) (s1 := { env := [some (.fz (.exc A2 [("name", x)])), some (.own (.lst [.bl false, .bl false, .bl true, .bl false, .bl false, .bl false, .bl false, .bl false, .bl false, .bl false, .bl false, .bl false, .bl false])), none], sto := sto, dr := dr }) rfl rfl rfl) ?_
  change (dSeq _ _ : M DL.Flow) { env := [some (.fz (.exc A2 [("name", x)])), some (.own (.lst [.bl false, .bl false, .bl true, .bl false, .bl false, .bl false, .bl false, .bl false, .bl false, .bl false, .bl false, .bl false, .bl false])), some (.fz (.int 2))], sto := sto, dr := dr } = _
  have v : dTup (dCons (dSlot 2) (dCons (dV (dExF (csL [A1, A2]) "name" (dSlot 0))) (dNil))) { env := [some (.fz (.exc A2 [("name", x)])), some (.own (.lst [.bl false, .bl false, .bl true, .bl false, .bl false, .bl false, .bl false, .bl false, .bl false, .bl false, .bl false, .bl false, .bl false])), some (.fz (.int 2))], sto := sto, dr := dr } = .ok (.fz (.tup [.int 2, x])) { env := [some (.fz (.exc A2 [("name", x)])), some (.own (.lst [.bl false, .bl false, .bl true, .bl false, .bl false, .bl false, .bl false, .bl false, .bl false, .bl false, .bl false, .bl false, .bl false])), some (.fz (.int 2))], sto := sto, dr := dr } := dTup_eq (dCons_eq rfl (dCons_eq (dV_eq (exF_eq rfl rfl (exF_of (by simp [csL])))) (k := dNil) rfl)) rfl (by show 2 ≤ sizeLine; decide)
  refine dSeq_nx (dIf_f (s1 := { env := [some (.fz (.exc A2 [("name", x)])), some (.own (.lst [.bl false, .bl false, .bl true, .bl false, .bl false, .bl false, .bl false, .bl false, .bl false, .bl false, .bl false, .bl false, .bl false])), some (.fz (.int 2))], sto := sto, dr := dr }) rfl rfl) ?_
  exact dSeq_rt (dIf_t (s1 := { env := [some (.fz (.exc A2 [("name", x)])), some (.own (.lst [.bl false, .bl false, .bl true, .bl false, .bl false, .bl false, .bl false, .bl false, .bl false, .bl false, .bl false, .bl false, .bl false])), some (.fz (.int 2))], sto := sto, dr := dr }) rfl (dRet_eq v))
theorem field3 : F_law_field A0 A1 A2 A3 A4 A5 A6 A7 A8 A9 A10 A11 A12 { env := [some (.fz (.exc A3 [("index", x)])), none, none], sto := sto, dr := dr } = .ok (.rt (.fz (.tup [.int 3, x]))) { env := [some (.fz (.exc A3 [("index", x)])), some (.own (.lst [.bl false, .bl false, .bl false, .bl true, .bl false, .bl false, .bl false, .bl false, .bl false, .bl false, .bl false, .bl false, .bl false])), some (.fz (.int 3))], sto := sto, dr := dr } := by
  unfold F_law_field
  refine marks (isX_of (mkT_at 0 (i := 3) (j := 0) nd rfl)) (isX_of (mkT_at 1 (i := 3) (j := 0) nd rfl)) (isX_of (mkT_at 2 (i := 3) (j := 0) nd rfl)) (isX_of (mkT_at 3 (i := 3) (j := 0) nd rfl)) (isX_of (mkT_at 4 (i := 3) (j := 0) nd rfl)) (isX_of (mkT_at 5 (i := 3) (j := 0) nd rfl)) (isX_of (mkT_at 6 (i := 3) (j := 0) nd rfl)) (isX_of (mkT_at 7 (i := 3) (j := 0) nd rfl)) (isX_of (mkT_at 8 (i := 3) (j := 0) nd rfl)) (isX_of (mkT_at 9 (i := 3) (j := 0) nd rfl)) (isX_of (mkT_at 10 (i := 3) (j := 0) nd rfl)) (isX_of (mkT_at 11 (i := 3) (j := 0) nd rfl)) (isX_of (mkT_at 12 (i := 3) (j := 0) nd rfl)) ?_
  change (dSeq _ _ : M DL.Flow) { env := [some (.fz (.exc A3 [("index", x)])), some (.own (.lst [.bl false, .bl false, .bl false, .bl true, .bl false, .bl false, .bl false, .bl false, .bl false, .bl false, .bl false, .bl false, .bl false])), none], sto := sto, dr := dr } = _
  have v : dB (dIsX (ctL [(A0, true), (A1, true), (A2, true), (A3, true), (A4, true), (A5, true), (A6, true), (A7, true), (A8, true), (A9, true), (A10, true), (A11, true), (A12, true)]) (dSlot 0)) { env := [some (.fz (.exc A3 [("index", x)])), some (.own (.lst [.bl false, .bl false, .bl false, .bl true, .bl false, .bl false, .bl false, .bl false, .bl false, .bl false, .bl false, .bl false, .bl false])), none], sto := sto, dr := dr } = .ok true { env := [some (.fz (.exc A3 [("index", x)])), some (.own (.lst [.bl false, .bl false, .bl false, .bl true, .bl false, .bl false, .bl false, .bl false, .bl false, .bl false, .bl false, .bl false, .bl false])), none], sto := sto, dr := dr } := dB_eq (dIsX_eq rfl rfl (isX_of (mkA_at (l := [A0, A1, A2, A3, A4, A5, A6, A7, A8, A9, A10, A11, A12]) (a := A3) (by simp))))
  refine dSeq_nx (dIf_f (dOr_f (s1 := { env := [some (.fz (.exc A3 [("index", x)])), some (.own (.lst [.bl false, .bl false, .bl false, .bl true, .bl false, .bl false, .bl false, .bl false, .bl false, .bl false, .bl false, .bl false, .bl false])), none], sto := sto, dr := dr }) rfl (dNot_eq v)) rfl) ?_
  refine dSeq_nx (dAsg_eq (t := .fz (.int 3)) (s1 := { env := [some (.fz (.exc A3 [("index", x)])), some (.own (.lst [.bl false, .bl false, .bl false, .bl true, .bl false, .bl false, .bl false, .bl false, .bl false, .bl false, .bl false, .bl false, .bl false])), none], sto := sto, dr := dr }) rfl rfl rfl) ?_
  change (dSeq _ _ : M DL.Flow) { env := [some (.fz (.exc A3 [("index", x)])), some (.own (.lst [.bl false, .bl false, .bl false, .bl true, .bl false, .bl false, .bl false, .bl false, .bl false, .bl false, .bl false, .bl false, .bl false])), some (.fz (.int 3))], sto := sto, dr := dr } = _
  have v : dTup (dCons (dSlot 2) (dCons (dV (dExF (csL [A0, A3]) "index" (dSlot 0))) (dNil))) { env := [some (.fz (.exc A3 [("index", x)])), some (.own (.lst [.bl false, .bl false, .bl false, .bl true, .bl false, .bl false, .bl false, .bl false, .bl false, .bl false, .bl false, .bl false, .bl false])), some (.fz (.int 3))], sto := sto, dr := dr } = .ok (.fz (.tup [.int 3, x])) { env := [some (.fz (.exc A3 [("index", x)])), some (.own (.lst [.bl false, .bl false, .bl false, .bl true, .bl false, .bl false, .bl false, .bl false, .bl false, .bl false, .bl false, .bl false, .bl false])), some (.fz (.int 3))], sto := sto, dr := dr } := dTup_eq (dCons_eq rfl (dCons_eq (dV_eq (exF_eq rfl rfl (exF_of (by simp [csL])))) (k := dNil) rfl)) rfl (by show 2 ≤ sizeLine; decide)
  exact dSeq_rt (dIf_t (s1 := { env := [some (.fz (.exc A3 [("index", x)])), some (.own (.lst [.bl false, .bl false, .bl false, .bl true, .bl false, .bl false, .bl false, .bl false, .bl false, .bl false, .bl false, .bl false, .bl false])), some (.fz (.int 3))], sto := sto, dr := dr }) rfl (dRet_eq v))
theorem field4 : F_law_field A0 A1 A2 A3 A4 A5 A6 A7 A8 A9 A10 A11 A12 { env := [some (.fz (.exc A4 [("most", x)])), none, none], sto := sto, dr := dr } = .ok (.rt (.fz (.tup [.int 4, x]))) { env := [some (.fz (.exc A4 [("most", x)])), some (.own (.lst [.bl false, .bl false, .bl false, .bl false, .bl true, .bl false, .bl false, .bl false, .bl false, .bl false, .bl false, .bl false, .bl false])), some (.fz (.int 4))], sto := sto, dr := dr } := by
  unfold F_law_field
  refine marks (isX_of (mkT_at 0 (i := 4) (j := 0) nd rfl)) (isX_of (mkT_at 1 (i := 4) (j := 0) nd rfl)) (isX_of (mkT_at 2 (i := 4) (j := 0) nd rfl)) (isX_of (mkT_at 3 (i := 4) (j := 0) nd rfl)) (isX_of (mkT_at 4 (i := 4) (j := 0) nd rfl)) (isX_of (mkT_at 5 (i := 4) (j := 0) nd rfl)) (isX_of (mkT_at 6 (i := 4) (j := 0) nd rfl)) (isX_of (mkT_at 7 (i := 4) (j := 0) nd rfl)) (isX_of (mkT_at 8 (i := 4) (j := 0) nd rfl)) (isX_of (mkT_at 9 (i := 4) (j := 0) nd rfl)) (isX_of (mkT_at 10 (i := 4) (j := 0) nd rfl)) (isX_of (mkT_at 11 (i := 4) (j := 0) nd rfl)) (isX_of (mkT_at 12 (i := 4) (j := 0) nd rfl)) ?_
  change (dSeq _ _ : M DL.Flow) { env := [some (.fz (.exc A4 [("most", x)])), some (.own (.lst [.bl false, .bl false, .bl false, .bl false, .bl true, .bl false, .bl false, .bl false, .bl false, .bl false, .bl false, .bl false, .bl false])), none], sto := sto, dr := dr } = _
  have v : dB (dIsX (ctL [(A0, true), (A1, true), (A2, true), (A3, true), (A4, true), (A5, true), (A6, true), (A7, true), (A8, true), (A9, true), (A10, true), (A11, true), (A12, true)]) (dSlot 0)) { env := [some (.fz (.exc A4 [("most", x)])), some (.own (.lst [.bl false, .bl false, .bl false, .bl false, .bl true, .bl false, .bl false, .bl false, .bl false, .bl false, .bl false, .bl false, .bl false])), none], sto := sto, dr := dr } = .ok true { env := [some (.fz (.exc A4 [("most", x)])), some (.own (.lst [.bl false, .bl false, .bl false, .bl false, .bl true, .bl false, .bl false, .bl false, .bl false, .bl false, .bl false, .bl false, .bl false])), none], sto := sto, dr := dr } := dB_eq (dIsX_eq rfl rfl (isX_of (mkA_at (l := [A0, A1, A2, A3, A4, A5, A6, A7, A8, A9, A10, A11, A12]) (a := A4) (by simp))))
  refine dSeq_nx (dIf_f (dOr_f (s1 := { env := [some (.fz (.exc A4 [("most", x)])), some (.own (.lst [.bl false, .bl false, .bl false, .bl false, .bl true, .bl false, .bl false, .bl false, .bl false, .bl false, .bl false, .bl false, .bl false])), none], sto := sto, dr := dr }) rfl (dNot_eq v)) rfl) ?_
  refine dSeq_nx (dAsg_eq (t := .fz (.int 4)) (s1 := { env := [some (.fz (.exc A4 [("most", x)])), some (.own (.lst [.bl false, .bl false, .bl false, .bl false, .bl true, .bl false, .bl false, .bl false, .bl false, .bl false, .bl false, .bl false, .bl false])), none], sto := sto, dr := dr }) rfl rfl rfl) ?_
  change (dSeq _ _ : M DL.Flow) { env := [some (.fz (.exc A4 [("most", x)])), some (.own (.lst [.bl false, .bl false, .bl false, .bl false, .bl true, .bl false, .bl false, .bl false, .bl false, .bl false, .bl false, .bl false, .bl false])), some (.fz (.int 4))], sto := sto, dr := dr } = _
  have v : dTup (dCons (dSlot 2) (dCons (dV (dExF (csL [A4]) "most" (dSlot 0))) (dNil))) { env := [some (.fz (.exc A4 [("most", x)])), some (.own (.lst [.bl false, .bl false, .bl false, .bl false, .bl true, .bl false, .bl false, .bl false, .bl false, .bl false, .bl false, .bl false, .bl false])), some (.fz (.int 4))], sto := sto, dr := dr } = .ok (.fz (.tup [.int 4, x])) { env := [some (.fz (.exc A4 [("most", x)])), some (.own (.lst [.bl false, .bl false, .bl false, .bl false, .bl true, .bl false, .bl false, .bl false, .bl false, .bl false, .bl false, .bl false, .bl false])), some (.fz (.int 4))], sto := sto, dr := dr } := dTup_eq (dCons_eq rfl (dCons_eq (dV_eq (exF_eq rfl rfl (exF_of (by simp [csL])))) (k := dNil) rfl)) rfl (by show 2 ≤ sizeLine; decide)
  refine dSeq_nx (dIf_f (s1 := { env := [some (.fz (.exc A4 [("most", x)])), some (.own (.lst [.bl false, .bl false, .bl false, .bl false, .bl true, .bl false, .bl false, .bl false, .bl false, .bl false, .bl false, .bl false, .bl false])), some (.fz (.int 4))], sto := sto, dr := dr }) rfl rfl) ?_
  refine dSeq_nx (dIf_f (s1 := { env := [some (.fz (.exc A4 [("most", x)])), some (.own (.lst [.bl false, .bl false, .bl false, .bl false, .bl true, .bl false, .bl false, .bl false, .bl false, .bl false, .bl false, .bl false, .bl false])), some (.fz (.int 4))], sto := sto, dr := dr }) rfl rfl) ?_
  exact dSeq_rt (dIf_t (s1 := { env := [some (.fz (.exc A4 [("most", x)])), some (.own (.lst [.bl false, .bl false, .bl false, .bl false, .bl true, .bl false, .bl false, .bl false, .bl false, .bl false, .bl false, .bl false, .bl false])), some (.fz (.int 4))], sto := sto, dr := dr }) rfl (dRet_eq v))
theorem field5 : F_law_field A0 A1 A2 A3 A4 A5 A6 A7 A8 A9 A10 A11 A12 { env := [some (.fz (.exc A5 [("line", x)])), none, none], sto := sto, dr := dr } = .ok (.rt (.fz (.tup [.int 5, x]))) { env := [some (.fz (.exc A5 [("line", x)])), some (.own (.lst [.bl false, .bl false, .bl false, .bl false, .bl false, .bl true, .bl false, .bl false, .bl false, .bl false, .bl false, .bl false, .bl false])), some (.fz (.int 5))], sto := sto, dr := dr } := by
  unfold F_law_field
  refine marks (isX_of (mkT_at 0 (i := 5) (j := 0) nd rfl)) (isX_of (mkT_at 1 (i := 5) (j := 0) nd rfl)) (isX_of (mkT_at 2 (i := 5) (j := 0) nd rfl)) (isX_of (mkT_at 3 (i := 5) (j := 0) nd rfl)) (isX_of (mkT_at 4 (i := 5) (j := 0) nd rfl)) (isX_of (mkT_at 5 (i := 5) (j := 0) nd rfl)) (isX_of (mkT_at 6 (i := 5) (j := 0) nd rfl)) (isX_of (mkT_at 7 (i := 5) (j := 0) nd rfl)) (isX_of (mkT_at 8 (i := 5) (j := 0) nd rfl)) (isX_of (mkT_at 9 (i := 5) (j := 0) nd rfl)) (isX_of (mkT_at 10 (i := 5) (j := 0) nd rfl)) (isX_of (mkT_at 11 (i := 5) (j := 0) nd rfl)) (isX_of (mkT_at 12 (i := 5) (j := 0) nd rfl)) ?_
  change (dSeq _ _ : M DL.Flow) { env := [some (.fz (.exc A5 [("line", x)])), some (.own (.lst [.bl false, .bl false, .bl false, .bl false, .bl false, .bl true, .bl false, .bl false, .bl false, .bl false, .bl false, .bl false, .bl false])), none], sto := sto, dr := dr } = _
  have v : dB (dIsX (ctL [(A0, true), (A1, true), (A2, true), (A3, true), (A4, true), (A5, true), (A6, true), (A7, true), (A8, true), (A9, true), (A10, true), (A11, true), (A12, true)]) (dSlot 0)) { env := [some (.fz (.exc A5 [("line", x)])), some (.own (.lst [.bl false, .bl false, .bl false, .bl false, .bl false, .bl true, .bl false, .bl false, .bl false, .bl false, .bl false, .bl false, .bl false])), none], sto := sto, dr := dr } = .ok true { env := [some (.fz (.exc A5 [("line", x)])), some (.own (.lst [.bl false, .bl false, .bl false, .bl false, .bl false, .bl true, .bl false, .bl false, .bl false, .bl false, .bl false, .bl false, .bl false])), none], sto := sto, dr := dr } := dB_eq (dIsX_eq rfl rfl (isX_of (mkA_at (l := [A0, A1, A2, A3, A4, A5, A6, A7, A8, A9, A10, A11, A12]) (a := A5) (by simp))))
  refine dSeq_nx (dIf_f (dOr_f (s1 := { env := [some (.fz (.exc A5 [("line", x)])), some (.own (.lst [.bl false, .bl false, .bl false, .bl false, .bl false, .bl true, .bl false, .bl false, .bl false, .bl false, .bl false, .bl false, .bl false])), none], sto := sto, dr := dr }) rfl (dNot_eq v)) rfl) ?_
  refine dSeq_nx (dAsg_eq (t := .fz (.int 5)) (s1 := { env := [some (.fz (.exc A5 [("line", x)])), some (.own (.lst [.bl false, .bl false, .bl false, .bl false, .bl false, .bl true, .bl false, .bl false, .bl false, .bl false, .bl false, .bl false, .bl false])), none], sto := sto, dr := dr }) rfl rfl rfl) ?_
  change (dSeq _ _ : M DL.Flow) { env := [some (.fz (.exc A5 [("line", x)])), some (.own (.lst [.bl false, .bl false, .bl false, .bl false, .bl false, .bl true, .bl false, .bl false, .bl false, .bl false, .bl false, .bl false, .bl false])), some (.fz (.int 5))], sto := sto, dr := dr } = _
  have v : dTup (dCons (dSlot 2) (dCons (dV (dExF (csL [A5]) "line" (dSlot 0))) (dNil))) { env := [some (.fz (.exc A5 [("line", x)])), some (.own (.lst [.bl false, .bl false, .bl false, .bl false, .bl false, .bl true, .bl false, .bl false, .bl false, .bl false, .bl false, .bl false, .bl false])), some (.fz (.int 5))], sto := sto, dr := dr } = .ok (.fz (.tup [.int 5, x])) { env := [some (.fz (.exc A5 [("line", x)])), some (.own (.lst [.bl false, .bl false, .bl false, .bl false, .bl false, .bl true, .bl false, .bl false, .bl false, .bl false, .bl false, .bl false, .bl false])), some (.fz (.int 5))], sto := sto, dr := dr } := dTup_eq (dCons_eq rfl (dCons_eq (dV_eq (exF_eq rfl rfl (exF_of (by simp [csL])))) (k := dNil) rfl)) rfl (by show 2 ≤ sizeLine; decide)
  refine dSeq_nx (dIf_f (s1 := { env := [some (.fz (.exc A5 [("line", x)])), some (.own (.lst [.bl false, .bl false, .bl false, .bl false, .bl false, .bl true, .bl false, .bl false, .bl false, .bl false, .bl false, .bl false, .bl false])), some (.fz (.int 5))], sto := sto, dr := dr }) rfl rfl) ?_
  refine dSeq_nx (dIf_f (s1 := { env := [some (.fz (.exc A5 [("line", x)])), some (.own (.lst [.bl false, .bl false, .bl false, .bl false, .bl false, .bl true, .bl false, .bl false, .bl false, .bl false, .bl false, .bl false, .bl false])), some (.fz (.int 5))], sto := sto, dr := dr }) rfl rfl) ?_
  refine dSeq_nx (dIf_f (s1 := { env := [some (.fz (.exc A5 [("line", x)])), some (.own (.lst [.bl false, .bl false, .bl false, .bl false, .bl false, .bl true, .bl false, .bl false, .bl false, .bl false, .bl false, .bl false, .bl false])), some (.fz (.int 5))], sto := sto, dr := dr }) rfl rfl) ?_
  exact dRet_eq (dIf_t (s1 := { env := [some (.fz (.exc A5 [("line", x)])), some (.own (.lst [.bl false, .bl false, .bl false, .bl false, .bl false, .bl true, .bl false, .bl false, .bl false, .bl false, .bl false, .bl false, .bl false])), some (.fz (.int 5))], sto := sto, dr := dr }) rfl v)
theorem field6 : F_law_field A0 A1 A2 A3 A4 A5 A6 A7 A8 A9 A10 A11 A12 { env := [some (.fz (.exc A6 [])), none, none], sto := sto, dr := dr } = .ok (.rt (.fz (.tup [.int 6, .non]))) { env := [some (.fz (.exc A6 [])), some (.own (.lst [.bl false, .bl false, .bl false, .bl false, .bl false, .bl false, .bl true, .bl false, .bl false, .bl false, .bl false, .bl false, .bl false])), some (.fz (.int 6))], sto := sto, dr := dr } := by
  unfold F_law_field
  refine marks (isX_of (mkT_at 0 (i := 6) (j := 0) nd rfl)) (isX_of (mkT_at 1 (i := 6) (j := 0) nd rfl)) (isX_of (mkT_at 2 (i := 6) (j := 0) nd rfl)) (isX_of (mkT_at 3 (i := 6) (j := 0) nd rfl)) (isX_of (mkT_at 4 (i := 6) (j := 0) nd rfl)) (isX_of (mkT_at 5 (i := 6) (j := 0) nd rfl)) (isX_of (mkT_at 6 (i := 6) (j := 0) nd rfl)) (isX_of (mkT_at 7 (i := 6) (j := 0) nd rfl)) (isX_of (mkT_at 8 (i := 6) (j := 0) nd rfl)) (isX_of (mkT_at 9 (i := 6) (j := 0) nd rfl)) (isX_of (mkT_at 10 (i := 6) (j := 0) nd rfl)) (isX_of (mkT_at 11 (i := 6) (j := 0) nd rfl)) (isX_of (mkT_at 12 (i := 6) (j := 0) nd rfl)) ?_
  change (dSeq _ _ : M DL.Flow) { env := [some (.fz (.exc A6 [])), some (.own (.lst [.bl false, .bl false, .bl false, .bl false, .bl false, .bl false, .bl true, .bl false, .bl false, .bl false, .bl false, .bl false, .bl false])), none], sto := sto, dr := dr } = _
  have v : dB (dIsX (ctL [(A0, true), (A1, true), (A2, true), (A3, true), (A4, true), (A5, true), (A6, true), (A7, true), (A8, true), (A9, true), (A10, true), (A11, true), (A12, true)]) (dSlot 0)) { env := [some (.fz (.exc A6 [])), some (.own (.lst [.bl false, .bl false, .bl false, .bl false, .bl false, .bl false, .bl true, .bl false, .bl false, .bl false, .bl false, .bl false, .bl false])), none], sto := sto, dr := dr } = .ok true { env := [some (.fz (.exc A6 [])), some (.own (.lst [.bl false, .bl false, .bl false, .bl false, .bl false, .bl false, .bl true, .bl false, .bl false, .bl false, .bl false, .bl false, .bl false])), none], sto := sto, dr := dr } := dB_eq (dIsX_eq rfl rfl (isX_of (mkA_at (l := [A0, A1, A2, A3, A4, A5, A6, A7, A8, A9, A10, A11, A12]) (a := A6) (by simp))))
  refine dSeq_nx (dIf_f (dOr_f (s1 := { env := [some (.fz (.exc A6 [])), some (.own (.lst [.bl false, .bl false, .bl false, .bl false, .bl false, .bl false, .bl true, .bl false, .bl false, .bl false, .bl false, .bl false, .bl false])), none], sto := sto, dr := dr }) rfl (dNot_eq v)) rfl) ?_
  refine dSeq_nx (dAsg_eq (t := .fz (.int 6)) (s1 := { env := [some (.fz (.exc A6 [])), some (.own (.lst [.bl false, .bl false, .bl false, .bl false, .bl false, .bl false, .bl true, .bl false, .bl false, .bl false, .bl false, .bl false, .bl false])), none], sto := sto, dr := dr }) rfl rfl rfl) ?_
  change (dSeq _ _ : M DL.Flow) { env := [some (.fz (.exc A6 [])), some (.own (.lst [.bl false, .bl false, .bl false, .bl false, .bl false, .bl false, .bl true, .bl false, .bl false, .bl false, .bl false, .bl false, .bl false])), some (.fz (.int 6))], sto := sto, dr := dr } = _
  refine dSeq_nx (dIf_f (s1 := { env := [some (.fz (.exc A6 [])), some (.own (.lst [.bl false, .bl false, .bl false, .bl false, .bl false, .bl false, .bl true, .bl false, .bl false, .bl false, .bl false, .bl false, .bl false])), some (.fz (.int 6))], sto := sto, dr := dr }) rfl rfl) ?_
  refine dSeq_nx (dIf_f (s1 := { env := [some (.fz (.exc A6 [])), some (.own (.lst [.bl false, .bl false, .bl false, .bl false, .bl false, .bl false, .bl true, .bl false, .bl false, .bl false, .bl false, .bl false, .bl false])), some (.fz (.int 6))], sto := sto, dr := dr }) rfl rfl) ?_
  refine dSeq_nx (dIf_f (s1 := { env := [some (.fz (.exc A6 [])), some (.own (.lst [.bl false, .bl false, .bl false, .bl false, .bl false, .bl false, .bl true, .bl false, .bl false, .bl false, .bl false, .bl false, .bl false])), some (.fz (.int 6))], sto := sto, dr := dr }) rfl rfl) ?_
  exact dRet_eq (dIf_f (s1 := { env := [some (.fz (.exc A6 [])), some (.own (.lst [.bl false, .bl false, .bl false, .bl false, .bl false, .bl false, .bl true, .bl false, .bl false, .bl false, .bl false, .bl false, .bl false])), some (.fz (.int 6))], sto := sto, dr := dr }) rfl rfl)
theorem field7 : F_law_field A0 A1 A2 A3 A4 A5 A6 A7 A8 A9 A10 A11 A12 { env := [some (.fz (.exc A7 [])), none, none], sto := sto, dr := dr } = .ok (.rt (.fz (.tup [.int 7, .non]))) { env := [some (.fz (.exc A7 [])), some (.own (.lst [.bl false, .bl false, .bl false, .bl false, .bl false, .bl false, .bl false, .bl true, .bl false, .bl false, .bl false, .bl false, .bl false])), some (.fz (.int 7))], sto := sto, dr := dr } := by
  unfold F_law_field
  refine marks (isX_of (mkT_at 0 (i := 7) (j := 0) nd rfl)) (isX_of (mkT_at 1 (i := 7) (j := 0) nd rfl)) (isX_of (mkT_at 2 (i := 7) (j := 0) nd rfl)) (isX_of (mkT_at 3 (i := 7) (j := 0) nd rfl)) (isX_of (mkT_at 4 (i := 7) (j := 0) nd rfl)) (isX_of (mkT_at 5 (i := 7) (j := 0) nd rfl)) (isX_of (mkT_at 6 (i := 7) (j := 0) nd rfl)) (isX_of (mkT_at 7 (i := 7) (j := 0) nd rfl)) (isX_of (mkT_at 8 (i := 7) (j := 0) nd rfl)) (isX_of (mkT_at 9 (i := 7) (j := 0) nd rfl)) (isX_of (mkT_at 10 (i := 7) (j := 0) nd rfl)) (isX_of (mkT_at 11 (i := 7) (j := 0) nd rfl)) (isX_of (mkT_at 12 (i := 7) (j := 0) nd rfl)) ?_
  change (dSeq _ _ : M DL.Flow) { env := [some (.fz (.exc A7 [])), some (.own (.lst [.bl false, .bl false, .bl false, .bl false, .bl false, .bl false, .bl false, .bl true, .bl false, .bl false, .bl false, .bl false, .bl false])), none], sto := sto, dr := dr } = _
  have v : dB (dIsX (ctL [(A0, true), (A1, true), (A2, true), (A3, true), (A4, true), (A5, true), (A6, true), (A7, true), (A8, true), (A9, true), (A10, true), (A11, true), (A12, true)]) (dSlot 0)) { env := [some (.fz (.exc A7 [])), some (.own (.lst [.bl false, .bl false, .bl false, .bl false, .bl false, .bl false, .bl false, .bl true, .bl false, .bl false, .bl false, .bl false, .bl false])), none], sto := sto, dr := dr } = .ok true { env := [some (.fz (.exc A7 [])), some (.own (.lst [.bl false, .bl false, .bl false, .bl false, .bl false, .bl false, .bl false, .bl true, .bl false, .bl false, .bl false, .bl false, .bl false])), none], sto := sto, dr := dr } := dB_eq (dIsX_eq rfl rfl (isX_of (mkA_at (l := [A0, A1, A2, A3, A4, A5, A6, A7, A8, A9, A10, A11, A12]) (a := A7) (by simp))))
  refine dSeq_nx (dIf_f (dOr_f (s1 := { env := [some (.fz (.exc A7 [])), some (.own (.lst [.bl false, .bl false, .bl false, .bl false, .bl false, .bl false, .bl false, .bl true, .bl false, .bl false, .bl false, .bl false, .bl false])), none], sto := sto, dr := dr }) rfl (dNot_eq v)) rfl) ?_
  refine dSeq_nx (dAsg_eq (t := .fz (.int 7)) (s1 := { env := [some (.fz (.exc A7 [])), some (.own (.lst [.bl false, .bl false, .bl false, .bl false, .bl false, .bl false, .bl false, .bl true, .bl false, .bl false, .bl false, .bl false, .bl false])), none], sto := sto, dr := dr }) rfl rfl rfl) ?_
  change (dSeq _ _ : M DL.Flow) { env := [some (.fz (.exc A7 [])), some (.own (.lst [.bl false, .bl false, .bl false, .bl false, .bl false, .bl false, .bl false, .bl true, .bl false, .bl false, .bl false, .bl false, .bl false])), some (.fz (.int 7))], sto := sto, dr := dr } = _
  refine dSeq_nx (dIf_f (s1 := { env := [some (.fz (.exc A7 [])), some (.own (.lst [.bl false, .bl false, .bl false, .bl false, .bl false, .bl false, .bl false, .bl true, .bl false, .bl false, .bl false, .bl false, .bl false])), some (.fz (.int 7))], sto := sto, dr := dr }) rfl rfl) ?_
  refine dSeq_nx (dIf_f (s1 := { env := [some (.fz (.exc A7 [])), some (.own (.lst [.bl false, .bl false, .bl false, .bl false, .bl false, .bl false, .bl false, .bl true, .bl false, .bl false, .bl false, .bl false, .bl false])), some (.fz (.int 7))], sto := sto, dr := dr }) rfl rfl) ?_
  refine dSeq_nx (dIf_f (s1 := { env := [some (.fz (.exc A7 [])), some (.own (.lst [.bl false, .bl false, .bl false, .bl false, .bl false, .bl false, .bl false, .bl true, .bl false, .bl false, .bl false, .bl false, .bl false])), some (.fz (.int 7))], sto := sto, dr := dr }) rfl rfl) ?_
  exact dRet_eq (dIf_f (s1 := { env := [some (.fz (.exc A7 [])), some (.own (.lst [.bl false, .bl false, .bl false, .bl false, .bl false, .bl false, .bl false, .bl true, .bl false, .bl false, .bl false, .bl false, .bl false])), some (.fz (.int 7))], sto := sto, dr := dr }) rfl rfl)
theorem field8 : F_law_field A0 A1 A2 A3 A4 A5 A6 A7 A8 A9 A10 A11 A12 { env := [some (.fz (.exc A8 [])), none, none], sto := sto, dr := dr } = .ok (.rt (.fz (.tup [.int 8, .non]))) { env := [some (.fz (.exc A8 [])), some (.own (.lst [.bl false, .bl false, .bl false, .bl false, .bl false, .bl false, .bl false, .bl false, .bl true, .bl false, .bl false, .bl false, .bl false])), some (.fz (.int 8))], sto := sto, dr := dr } := by
  unfold F_law_field
  refine marks (isX_of (mkT_at 0 (i := 8) (j := 0) nd rfl)) (isX_of (mkT_at 1 (i := 8) (j := 0) nd rfl)) (isX_of (mkT_at 2 (i := 8) (j := 0) nd rfl)) (isX_of (mkT_at 3 (i := 8) (j := 0) nd rfl)) (isX_of (mkT_at 4 (i := 8) (j := 0) nd rfl)) (isX_of (mkT_at 5 (i := 8) (j := 0) nd rfl)) (isX_of (mkT_at 6 (i := 8) (j := 0) nd rfl)) (isX_of (mkT_at 7 (i := 8) (j := 0) nd rfl)) (isX_of (mkT_at 8 (i := 8) (j := 0) nd rfl)) (isX_of (mkT_at 9 (i := 8) (j := 0) nd rfl)) (isX_of (mkT_at 10 (i := 8) (j := 0) nd rfl)) (isX_of (mkT_at 11 (i := 8) (j := 0) nd rfl)) (isX_of (mkT_at 12 (i := 8) (j := 0) nd rfl)) ?_
  change (dSeq _ _ : M DL.Flow) { env := [some (.fz (.exc A8 [])), some (.own (.lst [.bl false, .bl false, .bl false, .bl false, .bl false, .bl false, .bl false, .bl false, .bl true, .bl false, .bl false, .bl false, .bl false])), none], sto := sto, dr := dr } = _
  have v : dB (dIsX (ctL [(A0, true), (A1, true), (A2, true), (A3, true), (A4, true), (A5, true), (A6, true), (A7, true), (A8, true), (A9, true), (A10, true), (A11, true), (A12, true)]) (dSlot 0)) { env := [some (.fz (.exc A8 [])), some (.own (.lst [.bl false, .bl false, .bl false, .bl false, .bl false, .bl false, .bl false, .bl false, .bl true, .bl false, .bl false, .bl false, .bl false])), none], sto := sto, dr := dr } = .ok true { env := [some (.fz (.exc A8 [])), some (.own (.lst [.bl false, .bl false, .bl false, .bl false, .bl false, .bl false, .bl false, .bl false, .bl true, .bl false, .bl false, .bl false, .bl false])), none], sto := sto, dr := dr } := dB_eq (dIsX_eq rfl rfl (isX_of (mkA_at (l := [A0, A1, A2, A3, A4, A5, A6, A7, A8, A9, A10, A11, A12]) (a := A8) (by simp))))
  refine dSeq_nx (dIf_f (dOr_f (s1 := { env := [some (.fz (.exc A8 [])), some (.own (.lst [.bl false, .bl false, .bl false, .bl false, .bl false, .bl false, .bl false, .bl false, .bl true, .bl false, .bl false, .bl false, .bl false])), none], sto := sto, dr := dr }) rfl (dNot_eq v)) rfl) ?_
  refine dSeq_nx (dAsg_eq (t := .fz (.int 8)) (s1 := { env := [some (.fz (.exc A8 [])), some (.own (.lst [.bl false, .bl false, .bl false, .bl false, .bl false, .bl false, .bl false, .bl false, .bl true, .bl false, .bl false, .bl false, .bl false])), none], sto := sto, dr := dr }) rfl rfl rfl) ?_
  change (dSeq _ _ : M DL.Flow) { env := [some (.fz (.exc A8 [])), some (.own (.lst [.bl false, .bl false, .bl false, .bl false, .bl false, .bl false, .bl false, .bl false, .bl true, .bl false, .bl false, .bl false, .bl false])), some (.fz (.int 8))], sto := sto, dr := dr } = _
  refine dSeq_nx (dIf_f (s1 := { env := [some (.fz (.exc A8 [])), some (.own (.lst [.bl false, .bl false, .bl false, .bl false, .bl false, .bl false, .bl false, .bl false, .bl true, .bl false, .bl false, .bl false, .bl false])), some (.fz (.int 8))], sto := sto, dr := dr }) rfl rfl) ?_
  refine dSeq_nx (dIf_f (s1 := { env := [some (.fz (.exc A8 [])), some (.own (.lst [.bl false, .bl false, .bl false, .bl false, .bl false, .bl false, .bl false, .bl false, .bl true, .bl false, .bl false, .bl false, .bl false])), some (.fz (.int 8))], sto := sto, dr := dr }) rfl rfl) ?_
  refine dSeq_nx (dIf_f (s1 := { env := [some (.fz (.exc A8 [])), some (.own (.lst [.bl false, .bl false, .bl false, .bl false, .bl false, .bl false, .bl false, .bl false, .bl true, .bl false, .bl false, .bl false, .bl false])), some (.fz (.int 8))], sto := sto, dr := dr }) rfl rfl) ?_
  exact dRet_eq (dIf_f (s1 := { env := [some (.fz (.exc A8 [])), some (.own (.lst [.bl false, .bl false, .bl false, .bl false, .bl false, .bl false, .bl false, .bl false, .bl true, .bl false, .bl false, .bl false, .bl false])), some (.fz (.int 8))], sto := sto, dr := dr }) rfl rfl)
theorem field9 : F_law_field A0 A1 A2 A3 A4 A5 A6 A7 A8 A9 A10 A11 A12 { env := [some (.fz (.exc A9 [])), none, none], sto := sto, dr := dr } = .ok (.rt (.fz (.tup [.int 9, .non]))) { env := [some (.fz (.exc A9 [])), some (.own (.lst [.bl false, .bl false, .bl false, .bl false, .bl false, .bl false, .bl false, .bl false, .bl false, .bl true, .bl false, .bl false, .bl false])), some (.fz (.int 9))], sto := sto, dr := dr } := by
  unfold F_law_field
  refine marks (isX_of (mkT_at 0 (i := 9) (j := 0) nd rfl)) (isX_of (mkT_at 1 (i := 9) (j := 0) nd rfl)) (isX_of (mkT_at 2 (i := 9) (j := 0) nd rfl)) (isX_of (mkT_at 3 (i := 9) (j := 0) nd rfl)) (isX_of (mkT_at 4 (i := 9) (j := 0) nd rfl)) (isX_of (mkT_at 5 (i := 9) (j := 0) nd rfl)) (isX_of (mkT_at 6 (i := 9) (j := 0) nd rfl)) (isX_of (mkT_at 7 (i := 9) (j := 0) nd rfl)) (isX_of (mkT_at 8 (i := 9) (j := 0) nd rfl)) (isX_of (mkT_at 9 (i := 9) (j := 0) nd rfl)) (isX_of (mkT_at 10 (i := 9) (j := 0) nd rfl)) (isX_of (mkT_at 11 (i := 9) (j := 0) nd rfl)) (isX_of (mkT_at 12 (i := 9) (j := 0) nd rfl)) ?_
  change (dSeq _ _ : M DL.Flow) { env := [some (.fz (.exc A9 [])), some (.own (.lst [.bl false, .bl false, .bl false, .bl false, .bl false, .bl false, .bl false, .bl false, .bl false, .bl true, .bl false, .bl false, .bl false])), none], sto := sto, dr := dr } = _
  have v : dB (dIsX (ctL [(A0, true), (A1, true), (A2, true), (A3, true), (A4, true), (A5, true), (A6, true), (A7, true), (A8, true), (A9, true), (A10, true), (A11, true), (A12, true)]) (dSlot 0)) { env := [some (.fz (.exc A9 [])), some (.own (.lst [.bl false, .bl false, .bl false, .bl false, .bl false, .bl false, .bl false, .bl false, .bl false, .bl true, .bl false, .bl false, .bl false])), none], sto := sto, dr := dr } = .ok true { env := [some (.fz (.exc A9 [])), some (.own (.lst [.bl false, .bl false, .bl false, .bl false, .bl false, .bl false, .bl false, .bl false, .bl false, .bl true, .bl false, .bl false, .bl false])), none], sto := sto, dr := dr } := dB_eq (dIsX_eq rfl rfl (isX_of (mkA_at (l := [A0, A1, A2, A3, A4, A5, A6, A7, A8, A9, A10, A11, A12]) (a := A9) (by simp))))
  refine dSeq_nx (dIf_f (dOr_f (s1 := { env := [some (.fz (.exc A9 [])), some (.own (.lst [.bl false, .bl false, .bl false, .bl false, .bl false, .bl false, .bl false, .bl false, .bl false, .bl true, .bl false, .bl false, .bl false])), none], sto := sto, dr := dr }) rfl (dNot_eq v)) rfl) ?_
  refine dSeq_nx (dAsg_eq (t := .fz (.int 9)) (s1 := { env := [some (.fz (.exc A9 [])), some (.own (.lst [.bl false, .bl false, .bl false, .bl false, .bl false, .bl false, .bl false, .bl false, .bl false, .bl true, .bl false, .bl false, .bl false])), none], sto := sto, dr := dr }) rfl rfl rfl) ?_
  change (dSeq _ _ : M DL.Flow) { env := [some (.fz (.exc A9 [])), some (.own (.lst [.bl false, .bl false, .bl false, .bl false, .bl false, .bl false, .bl false, .bl false, .bl false, .bl true, .bl false, .bl false, .bl false])), some (.fz (.int 9))], sto := sto, dr := dr } = _
  refine dSeq_nx (dIf_f (s1 := { env := [some (.fz (.exc A9 [])), some (.own (.lst [.bl false, .bl false, .bl false, .bl false, .bl false, .bl false, .bl false, .bl false, .bl false, .bl true, .bl false, .bl false, .bl false])), some (.fz (.int 9))], sto := sto, dr := dr }) rfl rfl) ?_
  refine dSeq_nx (dIf_f (s1 := { env := [some (.fz (.exc A9 [])), some (.own (.lst [.bl false, .bl false, .bl false, .bl false, .bl false, .bl false, .bl false, .bl false, .bl false, .bl true, .bl false, .bl false, .bl false])), some (.fz (.int 9))], sto := sto, dr := dr }) rfl rfl) ?_
  refine dSeq_nx (dIf_f (s1 := { env := [some (.fz (.exc A9 [])), some (.own (.lst [.bl false, .bl false, .bl false, .bl false, .bl false, .bl false, .bl false, .bl false, .bl false, .bl true, .bl false, .bl false, .bl false])), some (.fz (.int 9))], sto := sto, dr := dr }) rfl rfl) ?_
  exact dRet_eq (dIf_f (s1 := { env := [some (.fz (.exc A9 [])), some (.own (.lst [.bl false, .bl false, .bl false, .bl false, .bl false, .bl false, .bl false, .bl false, .bl false, .bl true, .bl false, .bl false, .bl false])), some (.fz (.int 9))], sto := sto, dr := dr }) rfl rfl)
theorem field10 : F_law_field A0 A1 A2 A3 A4 A5 A6 A7 A8 A9 A10 A11 A12 { env := [some (.fz (.exc A10 [])), none, none], sto := sto, dr := dr } = .ok (.rt (.fz (.tup [.int 10, .non]))) { env := [some (.fz (.exc A10 [])), some (.own (.lst [.bl false, .bl false, .bl false, .bl false, .bl false, .bl false, .bl false, .bl false, .bl false, .bl false, .bl true, .bl false, .bl false])), some (.fz (.int 10))], sto := sto, dr := dr } := by
  unfold F_law_field
  refine marks (isX_of (mkT_at 0 (i := 10) (j := 0) nd rfl)) (isX_of (mkT_at 1 (i := 10) (j := 0) nd rfl)) (isX_of (mkT_at 2 (i := 10) (j := 0) nd rfl)) (isX_of (mkT_at 3 (i := 10) (j := 0) nd rfl)) (isX_of (mkT_at 4 (i := 10) (j := 0) nd rfl)) (isX_of (mkT_at 5 (i := 10) (j := 0) nd rfl)) (isX_of (mkT_at 6 (i := 10) (j := 0) nd rfl)) (isX_of (mkT_at 7 (i := 10) (j := 0) nd rfl)) (isX_of (mkT_at 8 (i := 10) (j := 0) nd rfl)) (isX_of (mkT_at 9 (i := 10) (j := 0) nd rfl)) (isX_of (mkT_at 10 (i := 10) (j := 0) nd rfl)) (isX_of (mkT_at 11 (i := 10) (j := 0) nd rfl)) (isX_of (mkT_at 12 (i := 10) (j := 0) nd rfl)) ?_
  change (dSeq _ _ : M DL.Flow) { env := [some (.fz (.exc A10 [])), some (.own (.lst [.bl false, .bl false, .bl false, .bl false, .bl false, .bl false, .bl false, .bl false, .bl false, .bl false, .bl true, .bl false, .bl false])), none], sto := sto, dr := dr } = _
  have v : dB (dIsX (ctL [(A0, true), (A1, true), (A2, true), (A3, true), (A4, true), (A5, true), (A6, true), (A7, true), (A8, true), (A9, true), (A10, true), (A11, true), (A12, true)]) (dSlot 0)) { env := [some (.fz (.exc A10 [])), some (.own (.lst [.bl false, .bl false, .bl false, .bl false, .bl false, .bl false, .bl false, .bl false, .bl false, .bl false, .bl true, .bl false, .bl false])), none], sto := sto, dr := dr } = .ok true { env := [some (.fz (.exc A10 [])), some (.own (.lst [.bl false, .bl false, .bl false, .bl false, .bl false, .bl false, .bl false, .bl false, .bl false, .bl false, .bl true, .bl false, .bl false])), none], sto := sto, dr := dr } := dB_eq (dIsX_eq rfl rfl (isX_of (mkA_at (l := [A0, A1, A2, A3, A4, A5, A6, A7, A8, A9, A10, A11, A12]) (a := A10) (by simp))))
  refine dSeq_nx (dIf_f (dOr_f (s1 := { env := [some (.fz (.exc A10 [])), some (.own (.lst [.bl false, .bl false, .bl false, .bl false, .bl false, .bl false, .bl false, .bl false, .bl false, .bl false, .bl true, .bl false, .bl false])), none], sto := sto, dr := dr }) rfl (dNot_eq v)) rfl) ?_
  refine dSeq_nx (dAsg_eq (t := .fz (.int 10)) (s1 := { env := [some (.fz (.exc A10 [])), some (.own (.lst [.bl false, .bl false, .bl false, .bl false, .bl false, .bl false, .bl false, .bl false, .bl false, .bl false, .bl true, .bl false, .bl false])), none], sto := sto, dr := dr }) rfl rfl rfl) ?_
  change (dSeq _ _ : M DL.Flow) { env := [some (.fz (.exc A10 [])), some (.own (.lst [.bl false, .bl false, .bl false, .bl false, .bl false, .bl false, .bl false, .bl false, .bl false, .bl false, .bl true, .bl false, .bl false])), some (.fz (.int 10))], sto := sto, dr := dr } = _
  refine dSeq_nx (dIf_f (s1 := { env := [some (.fz (.exc A10 [])), some (.own (.lst [.bl false, .bl false, .bl false, .bl false, .bl false, .bl false, .bl false, .bl false, .bl false, .bl false, .bl true, .bl false, .bl false])), some (.fz (.int 10))], sto := sto, dr := dr }) rfl rfl) ?_
  refine dSeq_nx (dIf_f (s1 := { env := [some (.fz (.exc A10 [])), some (.own (.lst [.bl false, .bl false, .bl false, .bl false, .bl false, .bl false, .bl false, .bl false, .bl false, .bl false, .bl true, .bl false, .bl false])), some (.fz (.int 10))], sto := sto, dr := dr }) rfl rfl) ?_
  refine dSeq_nx (dIf_f (s1 := { env := [some (.fz (.exc A10 [])), some (.own (.lst [.bl false, .bl false, .bl false, .bl false, .bl false, .bl false, .bl false, .bl false, .bl false, .bl false, .bl true, .bl false, .bl false])), some (.fz (.int 10))], sto := sto, dr := dr }) rfl rfl) ?_
  exact dRet_eq (dIf_f (s1 := { env := [some (.fz (.exc A10 [])), some (.own (.lst [.bl false, .bl false, .bl false, .bl false, .bl false, .bl false, .bl false, .bl false, .bl false, .bl false, .bl true, .bl false, .bl false])), some (.fz (.int 10))], sto := sto, dr := dr }) rfl rfl)
theorem field11 : F_law_field A0 A1 A2 A3 A4 A5 A6 A7 A8 A9 A10 A11 A12 { env := [some (.fz (.exc A11 [])), none, none], sto := sto, dr := dr } = .ok (.rt (.fz (.tup [.int 11, .non]))) { env := [some (.fz (.exc A11 [])), some (.own (.lst [.bl false, .bl false, .bl false, .bl false, .bl false, .bl false, .bl false, .bl false, .bl false, .bl false, .bl false, .bl true, .bl false])), some (.fz (.int 11))], sto := sto, dr := dr } := by
  unfold F_law_field
  refine marks (isX_of (mkT_at 0 (i := 11) (j := 0) nd rfl)) (isX_of (mkT_at 1 (i := 11) (j := 0) nd rfl)) (isX_of (mkT_at 2 (i := 11) (j := 0) nd rfl)) (isX_of (mkT_at 3 (i := 11) (j := 0) nd rfl)) (isX_of (mkT_at 4 (i := 11) (j := 0) nd rfl)) (isX_of (mkT_at 5 (i := 11) (j := 0) nd rfl)) (isX_of (mkT_at 6 (i := 11) (j := 0) nd rfl)) (isX_of (mkT_at 7 (i := 11) (j := 0) nd rfl)) (isX_of (mkT_at 8 (i := 11) (j := 0) nd rfl)) (isX_of (mkT_at 9 (i := 11) (j := 0) nd rfl)) (isX_of (mkT_at 10 (i := 11) (j := 0) nd rfl)) (isX_of (mkT_at 11 (i := 11) (j := 0) nd rfl)) (isX_of (mkT_at 12 (i := 11) (j := 0) nd rfl)) ?_
  change (dSeq _ _ : M DL.Flow) { env := [some (.fz (.exc A11 [])), some (.own (.lst [.bl false, .bl false, .bl false, .bl false, .bl false, .bl false, .bl false, .bl false, .bl false, .bl false, .bl false, .bl true, .bl false])), none], sto := sto, dr := dr } = _
  have v : dB (dIsX (ctL [(A0, true), (A1, true), (A2, true), (A3, true), (A4, true), (A5, true), (A6, true), (A7, true), (A8, true), (A9, true), (A10, true), (A11, true), (A12, true)]) (dSlot 0)) { env := [some (.fz (.exc A11 [])), some (.own (.lst [.bl false, .bl false, .bl false, .bl false, .bl false, .bl false, .bl false, .bl false, .bl false, .bl false, .bl false, .bl true, .bl false])), none], sto := sto, dr := dr } = .ok true { env := [some (.fz (.exc A11 [])), some (.own (.lst [.bl false, .bl false, .bl false, .bl false, .bl false, .bl false, .bl false, .bl false, .bl false, .bl false, .bl false, .bl true, .bl false])), none], sto := sto, dr := dr } := dB_eq (dIsX_eq rfl rfl (isX_of (mkA_at (l := [A0, A1, A2, A3, A4, A5, A6, A7, A8, A9, A10, A11, A12]) (a := A11) (by simp))))
  refine dSeq_nx (dIf_f (dOr_f (s1 := { env := [some (.fz (.exc A11 [])), some (.own (.lst [.bl false, .bl false, .bl false, .bl false, .bl false, .bl false, .bl false, .bl false, .bl false, .bl false, .bl false, .bl true, .bl false])), none], sto := sto, dr := dr }) rfl (dNot_eq v)) rfl) ?_
  refine dSeq_nx (dAsg_eq (t := .fz (.int 11)) (s1 := { env := [some (.fz (.exc A11 [])), some (.own (.lst [.bl false, .bl false, .bl false, .bl false, .bl false, .bl false, .bl false, .bl false, .bl false, .bl false, .bl false, .bl true, .bl false])), none], sto := sto, dr := dr }) rfl rfl rfl) ?_
  change (dSeq _ _ : M DL.Flow) { env := [some (.fz (.exc A11 [])), some (.own (.lst [.bl false, .bl false, .bl false, .bl false, .bl false, .bl false, .bl false, .bl false, .bl false, .bl false, .bl false, .bl true, .bl false])), some (.fz (.int 11))], sto := sto, dr := dr } = _
  refine dSeq_nx (dIf_f (s1 := { env := [some (.fz (.exc A11 [])), some (.own (.lst [.bl false, .bl false, .bl false, .bl false, .bl false, .bl false, .bl false, .bl false, .bl false, .bl false, .bl false, .bl true, .bl false])), some (.fz (.int 11))], sto := sto, dr := dr }) rfl rfl) ?_
  refine dSeq_nx (dIf_f (s1 := { env := [some (.fz (.exc A11 [])), some (.own (.lst [.bl false, .bl false, .bl false, .bl false, .bl false, .bl false, .bl false, .bl false, .bl false, .bl false, .bl false, .bl true, .bl false])), some (.fz (.int 11))], sto := sto, dr := dr }) rfl rfl) ?_
  refine dSeq_nx (dIf_f (s1 := { env := [some (.fz (.exc A11 [])), some (.own (.lst [.bl false, .bl false, .bl false, .bl false, .bl false, .bl false, .bl false, .bl false, .bl false, .bl false, .bl false, .bl true, .bl false])), some (.fz (.int 11))], sto := sto, dr := dr }) rfl rfl) ?_
  exact dRet_eq (dIf_f (s1 := { env := [some (.fz (.exc A11 [])), some (.own (.lst [.bl false, .bl false, .bl false, .bl false, .bl false, .bl false, .bl false, .bl false, .bl false, .bl false, .bl false, .bl true, .bl false])), some (.fz (.int 11))], sto := sto, dr := dr }) rfl rfl)
theorem field12 : F_law_field A0 A1 A2 A3 A4 A5 A6 A7 A8 A9 A10 A11 A12 { env := [some (.fz (.exc A12 [])), none, none], sto := sto, dr := dr } = .ok (.rt (.fz (.tup [.int 12, .non]))) { env := [some (.fz (.exc A12 [])), some (.own (.lst [.bl false, .bl false, .bl false, .bl false, .bl false, .bl false, .bl false, .bl false, .bl false, .bl false, .bl false, .bl false, .bl true])), some (.fz (.int 12))], sto := sto, dr := dr } := by
  unfold F_law_field
  refine marks (isX_of (mkT_at 0 (i := 12) (j := 0) nd rfl)) (isX_of (mkT_at 1 (i := 12) (j := 0) nd rfl)) (isX_of (mkT_at 2 (i := 12) (j := 0) nd rfl)) (isX_of (mkT_at 3 (i := 12) (j := 0) nd rfl)) (isX_of (mkT_at 4 (i := 12) (j := 0) nd rfl)) (isX_of (mkT_at 5 (i := 12) (j := 0) nd rfl)) (isX_of (mkT_at 6 (i := 12) (j := 0) nd rfl)) (isX_of (mkT_at 7 (i := 12) (j := 0) nd rfl)) (isX_of (mkT_at 8 (i := 12) (j := 0) nd rfl)) (isX_of (mkT_at 9 (i := 12) (j := 0) nd rfl)) (isX_of (mkT_at 10 (i := 12) (j := 0) nd rfl)) (isX_of (mkT_at 11 (i := 12) (j := 0) nd rfl)) (isX_of (mkT_at 12 (i := 12) (j := 0) nd rfl)) ?_
  change (dSeq _ _ : M DL.Flow) { env := [some (.fz (.exc A12 [])), some (.own (.lst [.bl false, .bl false, .bl false, .bl false, .bl false, .bl false, .bl false, .bl false, .bl false, .bl false, .bl false, .bl false, .bl true])), none], sto := sto, dr := dr } = _
  have v : dB (dIsX (ctL [(A0, true), (A1, true), (A2, true), (A3, true), (A4, true), (A5, true), (A6, true), (A7, true), (A8, true), (A9, true), (A10, true), (A11, true), (A12, true)]) (dSlot 0)) { env := [some (.fz (.exc A12 [])), some (.own (.lst [.bl false, .bl false, .bl false, .bl false, .bl false, .bl false, .bl false, .bl false, .bl false, .bl false, .bl false, .bl false, .bl true])), none], sto := sto, dr := dr } = .ok true { env := [some (.fz (.exc A12 [])), some (.own (.lst [.bl false, .bl false, .bl false, .bl false, .bl false, .bl false, .bl false, .bl false, .bl false, .bl false, .bl false, .bl false, .bl true])), none], sto := sto, dr := dr } := dB_eq (dIsX_eq rfl rfl (isX_of (mkA_at (l := [A0, A1, A2, A3, A4, A5, A6, A7, A8, A9, A10, A11, A12]) (a := A12) (by simp))))
  refine dSeq_nx (dIf_f (dOr_f (s1 := { env := [some (.fz (.exc A12 [])), some (.own (.lst [.bl false, .bl false, .bl false, .bl false, .bl false, .bl false, .bl false, .bl false, .bl false, .bl false, .bl false, .bl false, .bl true])), none], sto := sto, dr := dr }) rfl (dNot_eq v)) rfl) ?_
  refine dSeq_nx (dAsg_eq (t := .fz (.int 12)) (s1 := { env := [some (.fz (.exc A12 [])), some (.own (.lst [.bl false, .bl false, .bl false, .bl false, .bl false, .bl false, .bl false, .bl false, .bl false, .bl false, .bl false, .bl false, .bl true])), none], sto := sto, dr := dr }) rfl rfl rfl) ?_
  change (dSeq _ _ : M DL.Flow) { env := [some (.fz (.exc A12 [])), some (.own (.lst [.bl false, .bl false, .bl false, .bl false, .bl false, .bl false, .bl false, .bl false, .bl false, .bl false, .bl false, .bl false, .bl true])), some (.fz (.int 12))], sto := sto, dr := dr } = _
  refine dSeq_nx (dIf_f (s1 := { env := [some (.fz (.exc A12 [])), some (.own (.lst [.bl false, .bl false, .bl false, .bl false, .bl false, .bl false, .bl false, .bl false, .bl false, .bl false, .bl false, .bl false, .bl true])), some (.fz (.int 12))], sto := sto, dr := dr }) rfl rfl) ?_
  refine dSeq_nx (dIf_f (s1 := { env := [some (.fz (.exc A12 [])), some (.own (.lst [.bl false, .bl false, .bl false, .bl false, .bl false, .bl false, .bl false, .bl false, .bl false, .bl false, .bl false, .bl false, .bl true])), some (.fz (.int 12))], sto := sto, dr := dr }) rfl rfl) ?_
  refine dSeq_nx (dIf_f (s1 := { env := [some (.fz (.exc A12 [])), some (.own (.lst [.bl false, .bl false, .bl false, .bl false, .bl false, .bl false, .bl false, .bl false, .bl false, .bl false, .bl false, .bl false, .bl true])), some (.fz (.int 12))], sto := sto, dr := dr }) rfl rfl) ?_
  exact dRet_eq (dIf_f (s1 := { env := [some (.fz (.exc A12 [])), some (.own (.lst [.bl false, .bl false, .bl false, .bl false, .bl false, .bl false, .bl false, .bl false, .bl false, .bl false, .bl false, .bl false, .bl true])), some (.fz (.int 12))], sto := sto, dr := dr }) rfl rfl)
end
end Law
set_option Elab.async false
set_option linter.all false
set_option maxRecDepth 100000
set_option maxHeartbeats 4000000
namespace Law
open PySem DL
section
variable {w x : D} {sto : List MO} {dr : Option DrawSt}
def RS (w x : D) (sto : List MO) (dr : Option DrawSt) : State := { env := [some (.fz w), some (.fz x)], sto := sto, dr := dr }
theorem rno {a : Str} {f rest : M DL.Flow} {r : Rs DL.Flow} (h : eqT w (.str a) = some (.fz (.bl false))) (q : rest (RS w x sto dr) = r) : dSeq (dIf (dB (dOp2 eqT (dSlot 0) (dV (dC (.str a))))) f dNx) rest (RS w x sto dr) = r :=
  dSeq_nx (dIf_f (dB_eq (dOp2_eq rfl rfl rfl rfl h)) rfl) q
theorem ryes {a : Str} {f rest : M DL.Flow} {e : Ex} (h : eqT w (.str a) = some (.fz (.bl true))) (q : f (RS w x sto dr) = .err e (RS w x sto dr)) : dSeq (dIf (dB (dOp2 eqT (dSlot 0) (dV (dC (.str a))))) f dNx) rest (RS w x sto dr) = .err e (RS w x sto dr) :=
  dSeq_er (dIf_t (dB_eq (dOp2_eq rfl rfl rfl rfl h)) q)
theorem rF {C : Addr} {n : Str} : dRaiseF C n (dSlot 1) (RS w x sto dr) = .err ⟨C, [(n, x)]⟩ (RS w x sto dr) := rfl
theorem r1 {C : Addr} {u : DL.T} (h : strAD [x] = some u) : dRaise1 C (dCallB strAD (dCons (dSlot 1) (dNil))) (RS w x sto dr) = .err ⟨C, []⟩ (RS w x sto dr) := by
  unfold dRaise1
  have e : dCallB strAD (dCons (dSlot 1) (dNil)) (RS w x sto dr) = .ok u (RS w x sto dr) := dCallB_eq (dCons_eq rfl (k := dNil) rfl) rfl h
  rw [bind_eq, e]
end
section
variable {A0 A1 A2 A3 A4 A5 A6 A7 A8 A9 A10 A11 A12 : Addr} {x : D}
theorem raised0 : resG (F_law_raised A0 A1 A2 A3 A4 A5 A6 A7 A8 A9 A10 A11 A12) 2 [.fz (.str "event"), .fz x] (.error ⟨A0, [("index", x)]⟩) := by
  refine resG.er (e' := [some (.fz (.str "event")), some (.fz x)]) (by show 2 ≤ 2; decide) fun sto dr => ?_
  change F_law_raised A0 A1 A2 A3 A4 A5 A6 A7 A8 A9 A10 A11 A12 (RS (.str "event") x sto dr) = .err _ (RS (.str "event") x sto dr)
  unfold F_law_raised
  exact ryes (by kernel_rfl) rF
theorem raised1 : resG (F_law_raised A0 A1 A2 A3 A4 A5 A6 A7 A8 A9 A10 A11 A12) 2 [.fz (.str "source"), .fz x] (.error ⟨A1, [("name", x)]⟩) := by
  refine resG.er (e' := [some (.fz (.str "source")), some (.fz x)]) (by show 2 ≤ 2; decide) fun sto dr => ?_
  change F_law_raised A0 A1 A2 A3 A4 A5 A6 A7 A8 A9 A10 A11 A12 (RS (.str "source") x sto dr) = .err _ (RS (.str "source") x sto dr)
  unfold F_law_raised
  refine rno (by kernel_rfl) ?_
  exact ryes (by kernel_rfl) rF
theorem raised2 : resG (F_law_raised A0 A1 A2 A3 A4 A5 A6 A7 A8 A9 A10 A11 A12) 2 [.fz (.str "station"), .fz x] (.error ⟨A2, [("name", x)]⟩) := by
  refine resG.er (e' := [some (.fz (.str "station")), some (.fz x)]) (by show 2 ≤ 2; decide) fun sto dr => ?_
  change F_law_raised A0 A1 A2 A3 A4 A5 A6 A7 A8 A9 A10 A11 A12 (RS (.str "station") x sto dr) = .err _ (RS (.str "station") x sto dr)
  unfold F_law_raised
  refine rno (by kernel_rfl) ?_
  refine rno (by kernel_rfl) ?_
  exact ryes (by kernel_rfl) rF
theorem raised3 : resG (F_law_raised A0 A1 A2 A3 A4 A5 A6 A7 A8 A9 A10 A11 A12) 2 [.fz (.str "operation"), .fz x] (.error ⟨A3, [("index", x)]⟩) := by
  refine resG.er (e' := [some (.fz (.str "operation")), some (.fz x)]) (by show 2 ≤ 2; decide) fun sto dr => ?_
  change F_law_raised A0 A1 A2 A3 A4 A5 A6 A7 A8 A9 A10 A11 A12 (RS (.str "operation") x sto dr) = .err _ (RS (.str "operation") x sto dr)
  unfold F_law_raised
  refine rno (by kernel_rfl) ?_
  refine rno (by kernel_rfl) ?_
  refine rno (by kernel_rfl) ?_
  exact ryes (by kernel_rfl) rF
theorem raised4 : resG (F_law_raised A0 A1 A2 A3 A4 A5 A6 A7 A8 A9 A10 A11 A12) 2 [.fz (.str "many"), .fz x] (.error ⟨A4, [("most", x)]⟩) := by
  refine resG.er (e' := [some (.fz (.str "many")), some (.fz x)]) (by show 2 ≤ 2; decide) fun sto dr => ?_
  change F_law_raised A0 A1 A2 A3 A4 A5 A6 A7 A8 A9 A10 A11 A12 (RS (.str "many") x sto dr) = .err _ (RS (.str "many") x sto dr)
  unfold F_law_raised
  refine rno (by kernel_rfl) ?_
  refine rno (by kernel_rfl) ?_
  refine rno (by kernel_rfl) ?_
  refine rno (by kernel_rfl) ?_
  exact ryes (by kernel_rfl) rF
theorem raised5 : resG (F_law_raised A0 A1 A2 A3 A4 A5 A6 A7 A8 A9 A10 A11 A12) 2 [.fz (.str "text"), .fz x] (.error ⟨A5, [("line", x)]⟩) := by
  refine resG.er (e' := [some (.fz (.str "text")), some (.fz x)]) (by show 2 ≤ 2; decide) fun sto dr => ?_
  change F_law_raised A0 A1 A2 A3 A4 A5 A6 A7 A8 A9 A10 A11 A12 (RS (.str "text") x sto dr) = .err _ (RS (.str "text") x sto dr)
  unfold F_law_raised
  refine rno (by kernel_rfl) ?_
  refine rno (by kernel_rfl) ?_
  refine rno (by kernel_rfl) ?_
  refine rno (by kernel_rfl) ?_
  refine rno (by kernel_rfl) ?_
  exact ryes (by kernel_rfl) rF
theorem raised6 {u : DL.T} (h : strAD [x] = some u) : resG (F_law_raised A0 A1 A2 A3 A4 A5 A6 A7 A8 A9 A10 A11 A12) 2 [.fz (.str "network"), .fz x] (.error ⟨A6, []⟩) := by
  refine resG.er (e' := [some (.fz (.str "network")), some (.fz x)]) (by show 2 ≤ 2; decide) fun sto dr => ?_
  change F_law_raised A0 A1 A2 A3 A4 A5 A6 A7 A8 A9 A10 A11 A12 (RS (.str "network") x sto dr) = .err _ (RS (.str "network") x sto dr)
  unfold F_law_raised
  refine rno (by kernel_rfl) ?_
  refine rno (by kernel_rfl) ?_
  refine rno (by kernel_rfl) ?_
  refine rno (by kernel_rfl) ?_
  refine rno (by kernel_rfl) ?_
  refine rno (by kernel_rfl) ?_
  exact ryes (by kernel_rfl) (r1 h)
theorem raised7 {u : DL.T} (h : strAD [x] = some u) : resG (F_law_raised A0 A1 A2 A3 A4 A5 A6 A7 A8 A9 A10 A11 A12) 2 [.fz (.str "moment"), .fz x] (.error ⟨A7, []⟩) := by
  refine resG.er (e' := [some (.fz (.str "moment")), some (.fz x)]) (by show 2 ≤ 2; decide) fun sto dr => ?_
  change F_law_raised A0 A1 A2 A3 A4 A5 A6 A7 A8 A9 A10 A11 A12 (RS (.str "moment") x sto dr) = .err _ (RS (.str "moment") x sto dr)
  unfold F_law_raised
  refine rno (by kernel_rfl) ?_
  refine rno (by kernel_rfl) ?_
  refine rno (by kernel_rfl) ?_
  refine rno (by kernel_rfl) ?_
  refine rno (by kernel_rfl) ?_
  refine rno (by kernel_rfl) ?_
  refine rno (by kernel_rfl) ?_
  exact ryes (by kernel_rfl) (r1 h)
theorem raised8 {u : DL.T} (h : strAD [x] = some u) : resG (F_law_raised A0 A1 A2 A3 A4 A5 A6 A7 A8 A9 A10 A11 A12) 2 [.fz (.str "clock"), .fz x] (.error ⟨A8, []⟩) := by
  refine resG.er (e' := [some (.fz (.str "clock")), some (.fz x)]) (by show 2 ≤ 2; decide) fun sto dr => ?_
  change F_law_raised A0 A1 A2 A3 A4 A5 A6 A7 A8 A9 A10 A11 A12 (RS (.str "clock") x sto dr) = .err _ (RS (.str "clock") x sto dr)
  unfold F_law_raised
  refine rno (by kernel_rfl) ?_
  refine rno (by kernel_rfl) ?_
  refine rno (by kernel_rfl) ?_
  refine rno (by kernel_rfl) ?_
  refine rno (by kernel_rfl) ?_
  refine rno (by kernel_rfl) ?_
  refine rno (by kernel_rfl) ?_
  refine rno (by kernel_rfl) ?_
  exact ryes (by kernel_rfl) (r1 h)
theorem raised9 {u : DL.T} (h : strAD [x] = some u) : resG (F_law_raised A0 A1 A2 A3 A4 A5 A6 A7 A8 A9 A10 A11 A12) 2 [.fz (.str "spans"), .fz x] (.error ⟨A9, []⟩) := by
  refine resG.er (e' := [some (.fz (.str "spans")), some (.fz x)]) (by show 2 ≤ 2; decide) fun sto dr => ?_
  change F_law_raised A0 A1 A2 A3 A4 A5 A6 A7 A8 A9 A10 A11 A12 (RS (.str "spans") x sto dr) = .err _ (RS (.str "spans") x sto dr)
  unfold F_law_raised
  refine rno (by kernel_rfl) ?_
  refine rno (by kernel_rfl) ?_
  refine rno (by kernel_rfl) ?_
  refine rno (by kernel_rfl) ?_
  refine rno (by kernel_rfl) ?_
  refine rno (by kernel_rfl) ?_
  refine rno (by kernel_rfl) ?_
  refine rno (by kernel_rfl) ?_
  refine rno (by kernel_rfl) ?_
  exact ryes (by kernel_rfl) (r1 h)
theorem raised10 {u : DL.T} (h : strAD [x] = some u) : resG (F_law_raised A0 A1 A2 A3 A4 A5 A6 A7 A8 A9 A10 A11 A12) 2 [.fz (.str "reading"), .fz x] (.error ⟨A10, []⟩) := by
  refine resG.er (e' := [some (.fz (.str "reading")), some (.fz x)]) (by show 2 ≤ 2; decide) fun sto dr => ?_
  change F_law_raised A0 A1 A2 A3 A4 A5 A6 A7 A8 A9 A10 A11 A12 (RS (.str "reading") x sto dr) = .err _ (RS (.str "reading") x sto dr)
  unfold F_law_raised
  refine rno (by kernel_rfl) ?_
  refine rno (by kernel_rfl) ?_
  refine rno (by kernel_rfl) ?_
  refine rno (by kernel_rfl) ?_
  refine rno (by kernel_rfl) ?_
  refine rno (by kernel_rfl) ?_
  refine rno (by kernel_rfl) ?_
  refine rno (by kernel_rfl) ?_
  refine rno (by kernel_rfl) ?_
  refine rno (by kernel_rfl) ?_
  exact ryes (by kernel_rfl) (r1 h)
theorem raised11 {u : DL.T} (h : strAD [x] = some u) : resG (F_law_raised A0 A1 A2 A3 A4 A5 A6 A7 A8 A9 A10 A11 A12) 2 [.fz (.str "point"), .fz x] (.error ⟨A11, []⟩) := by
  refine resG.er (e' := [some (.fz (.str "point")), some (.fz x)]) (by show 2 ≤ 2; decide) fun sto dr => ?_
  change F_law_raised A0 A1 A2 A3 A4 A5 A6 A7 A8 A9 A10 A11 A12 (RS (.str "point") x sto dr) = .err _ (RS (.str "point") x sto dr)
  unfold F_law_raised
  refine rno (by kernel_rfl) ?_
  refine rno (by kernel_rfl) ?_
  refine rno (by kernel_rfl) ?_
  refine rno (by kernel_rfl) ?_
  refine rno (by kernel_rfl) ?_
  refine rno (by kernel_rfl) ?_
  refine rno (by kernel_rfl) ?_
  refine rno (by kernel_rfl) ?_
  refine rno (by kernel_rfl) ?_
  refine rno (by kernel_rfl) ?_
  refine rno (by kernel_rfl) ?_
  exact ryes (by kernel_rfl) (r1 h)
theorem raised12 {u : DL.T} (h : strAD [x] = some u) : resG (F_law_raised A0 A1 A2 A3 A4 A5 A6 A7 A8 A9 A10 A11 A12) 2 [.fz (.str "left"), .fz x] (.error ⟨A12, []⟩) := by
  refine resG.er (e' := [some (.fz (.str "left")), some (.fz x)]) (by show 2 ≤ 2; decide) fun sto dr => ?_
  change F_law_raised A0 A1 A2 A3 A4 A5 A6 A7 A8 A9 A10 A11 A12 (RS (.str "left") x sto dr) = .err _ (RS (.str "left") x sto dr)
  unfold F_law_raised
  refine rno (by kernel_rfl) ?_
  refine rno (by kernel_rfl) ?_
  refine rno (by kernel_rfl) ?_
  refine rno (by kernel_rfl) ?_
  refine rno (by kernel_rfl) ?_
  refine rno (by kernel_rfl) ?_
  refine rno (by kernel_rfl) ?_
  refine rno (by kernel_rfl) ?_
  refine rno (by kernel_rfl) ?_
  refine rno (by kernel_rfl) ?_
  refine rno (by kernel_rfl) ?_
  refine rno (by kernel_rfl) ?_
  exact r1 h
end
end Law
set_option Elab.async false
set_option linter.all false
set_option maxRecDepth 100000
set_option maxHeartbeats 4000000
namespace Law
open PySem DL
abbrev qn : Str := "law.<locals>.<lambda>"
def wds : List D := [.str "event", .str "source", .str "station", .str "operation", .str "many", .str "text", .str "network", .str "moment", .str "clock", .str "spans"]
def wds3 : List D := [.str "event", .str "source", .str "station", .str "operation", .str "many", .str "text", .str "network", .str "moment", .str "clock", .str "spans", .str "reading", .str "point", .str "left"]
def LS (ns : List Int) (P : Addr) (w2 w3 w4 w5 w6 w7 : Option W) (st : DrawSt) : State :=
  { env := [some (.fz (.frl ns)), some (.fz .draw), w2, w3, w4, w5, w6, w7], sto := [.tab P qn], dr := some st }
def free (w : Option W) : Prop := w = none ∨ (∃ d, w = some (.fz d)) ∨ ∃ d, w = some (.own d)
theorem can_free {s : State} {i : Nat} {w : Option W} (e : s.env[i]? = some w) (h : free w) : canSet s i = true := by
  unfold canSet
  rw [e]
  rcases h with rfl | ⟨_, rfl⟩ | ⟨_, rfl⟩ <;> rfl
theorem free_fz {d : D} : free (some (.fz d)) := .inr (.inl ⟨_, rfl⟩)
def fzO (w : Option W) : Prop := w = none ∨ ∃ d, w = some (.fz d)
theorem fzO.free {w : Option W} (h : fzO w) : free w := h.elim .inl fun h => .inr (.inl h)
theorem tab_is {ns : List Int} {P : Addr} {w2 w3 w4 w5 w6 w7 : Option W} {st : DrawSt} : isTab (LS ns P w2 w3 w4 w5 w6 w7 st) 0 P qn = true := by
  show (decide (P = P) && decide (qn = qn)) = true
  rw [decide_eq_true rfl, decide_eq_true rfl]; rfl
def Wm (x : D) : Prop := ∃ p, toPy x = some p ∧ shows p = true ∧ ∀ i : Nat, i < 13 → shows (.tuple [.int (i : Nat), p]) = true
def shB (p : PyData) : Bool := shows p && (List.range 13).all fun i => shows (.tuple [.int (i : Nat), p])
theorem Wm.of {x : D} {p : PyData} (e : toPy x = some p) (h : shB p = true) : Wm x := by
  unfold shB at h
  rw [Bool.and_eq_true] at h
  exact ⟨p, e, h.1, fun i hi => List.all_eq_true.mp h.2 i (List.mem_range.mpr hi)⟩
theorem sh_ints : (List.range 99).all (fun (t : Nat) => shB (.int (t : Nat))) = true := by decide +kernel
theorem sh_menu : [PyData.none, .int 0, .str "a", .tuple [.int 1, .str "b"], .bool true, .int (-1), .list [.int 2]].all shB = true := by decide +kernel
theorem menu_Wm {r : Int} (r0 : 0 ≤ r) (r1 : r < 99) {x : D} (h : x ∈ [D.non, .int 0, .int r, .str "a", .tup [.int 1, .str "b"], .bl true, .int (-1), .lst [.int 2]]) : Wm x := by
  have m := List.all_eq_true.mp sh_menu
  simp only [List.mem_cons, List.not_mem_nil, or_false] at h
  rcases h with rfl | rfl | rfl | rfl | rfl | rfl | rfl | rfl
  · exact .of (p := .none) rfl (m _ (by simp))
  · exact .of (p := .int 0) rfl (m _ (by simp))
  · obtain ⟨k, rfl⟩ : ∃ k : Nat, r = k := ⟨r.toNat, by omega⟩
    exact .of (p := .int k) rfl (List.all_eq_true.mp sh_ints k (List.mem_range.mpr (by omega)))
  · exact .of (p := .str "a") rfl (m _ (by simp))
  · exact .of (p := .tuple [.int 1, .str "b"]) rfl (m _ (by simp))
  · exact .of (p := .bool true) rfl (m _ (by simp))
  · exact .of (p := .int (-1)) rfl (m _ (by simp))
  · exact .of (p := .list [.int 2]) rfl (m _ (by simp))
theorem Wm.str {x : D} (h : Wm x) : ∃ u, strAD [x] = some u := by
  obtain ⟨p, e, s, _⟩ := h
  refine ⟨.fz (.str (txtOf p)), ?_⟩
  unfold strAD
  simp only [e]
  rw [if_pos s]
def vOf (i : Nat) (x : D) : D := if i < 6 then x else .non
theorem Wm.tup {x : D} (h : Wm x) {i : Nat} (hi : i < 13) : ∃ p, toPy (.tup [.int (i : Nat), vOf i x]) = some p ∧ shows p = true := by
  obtain ⟨p, e, _, s⟩ := h
  have e2 : toPy (.tup [.int (i : Nat), vOf i x]) = some (.tuple [.int (i : Nat), if i < 6 then p else .none]) := by
    show (toPys [.int (i : Nat), vOf i x]).map PyData.tuple = _
    unfold toPys toPys vOf
    by_cases c : i < 6
    · rw [if_pos c, if_pos c, e]; rfl
    · rw [if_neg c, if_neg c]; rfl
  refine ⟨_, e2, ?_⟩
  by_cases c : i < 6
  · rw [if_pos c]; exact s i hi
  · rw [if_neg c]
    have m := List.all_eq_true.mp sh_menu PyData.none (by simp)
    unfold shB at m
    rw [Bool.and_eq_true] at m
    exact List.all_eq_true.mp m.2 i (List.mem_range.mpr hi)
section
variable {ns : List Int} {HE P C A0 A1 A2 A3 A4 A5 A6 A7 A8 A9 A10 A11 A12 : Addr} {w2 w3 w4 w5 w6 w7 : Option W} {st : DrawSt} {x : D} {w : Str} {i : Nat}
theorem pick_ok (hd : DrOk1 st) : ∃ (x : D) (st' : DrawSt), Wm x ∧ DrOk1 st' ∧ dCall 2 [.F, .F] [] F_law_pick (dCons (dSlot 1) (dCons (dV (dLst (dCons (dV (dC .non)) (dCons (dV (dC (.int 0))) (dCons (dV (dCall 4 [.F, .F] [] F_law_take (dCons (dSlot 1) (dCons (dV (dC (.int 99))) (dNil))))) (dCons (dV (dC (.str "a"))) (dCons (dV (dTup (dCons (dV (dC (.int 1))) (dCons (dV (dC (.str "b"))) (dNil))))) (dCons (dV (dC (.bl true))) (dCons (dV (dOp1 negD (dV (dC (.int 1))))) (dCons (dV (dLst (dCons (dV (dC (.int 2))) (dNil)))) (dNil))))))))))) (dNil))) (LS ns P w2 w3 w4 w5 w6 w7 st) = .ok (.fz x) (LS ns P w2 w3 w4 w5 w6 w7 st') := by
  obtain ⟨r, st1, r0, r1, hd1, e1⟩ := take_at (s := (LS ns P w2 w3 w4 w5 w6 w7 st)) (s1 := (LS ns P w2 w3 w4 w5 w6 w7 st)) (st := st) (i := 1) (n := 99) (f := dV (dC (.int 99))) (x := .t (.fz (.int 99))) hd rfl rfl rfl (by decide) (by decide) rfl rfl
  have e1 : dCall 4 [.F, .F] [] F_law_take (dCons (dSlot 1) (dCons (dV (dC (.int 99))) (dNil))) (LS ns P w2 w3 w4 w5 w6 w7 st) = .ok (.fz (.int r)) (LS ns P w2 w3 w4 w5 w6 w7 st1) := e1
  obtain ⟨x, st2, m, hd2, e2⟩ := pick_at (s := (LS ns P w2 w3 w4 w5 w6 w7 st)) (s1 := (LS ns P w2 w3 w4 w5 w6 w7 st1)) (s2 := (LS ns P w2 w3 w4 w5 w6 w7 st1)) (st := st1) (i := 1) (ds := [D.non, .int 0, .int r, .str "a", .tup [.int 1, .str "b"], .bl true, .int (-1), .lst [.int 2]]) (x := .t (.ow (.lst [D.non, .int 0, .int r, .str "a", .tup [.int 1, .str "b"], .bl true, .int (-1), .lst [.int 2]]))) hd1 rfl rfl rfl (by show 0 < 8; decide) (by show 8 < 18446744073709551616; decide) (dV_eq (dLst_eq (rs := [.t (.fz .non), .t (.fz (.int 0)), .t (.fz (.int r)), .t (.fz (.str "a")), .t (.fz (.tup [.int 1, .str "b"])), .t (.fz (.bl true)), .t (.fz (.int (-1))), .t (.ow (.lst [.int 2]))]) (dCons_eq rfl (dCons_eq rfl (dCons_eq (dV_eq e1) (dCons_eq rfl (dCons_eq rfl (dCons_eq rfl (dCons_eq rfl (dCons_eq rfl (k := dNil) rfl)))))))) rfl (by show 8 ≤ sizeLine; decide))) rfl
  exact ⟨x, st2, menu_Wm r0 r1 m, hd2, e2⟩
theorem turn_ok (m : C ∈ [A0, A1, A2, A3, A4, A5, A6, A7, A8, A9, A10, A11, A12]) (hi : i < 13) (hr : ∀ x, (∃ u, strAD [x] = some u) → ∃ fs, resG (F_law_raised A0 A1 A2 A3 A4 A5 A6 A7 A8 A9 A10 A11 A12) 2 [.fz (.str w), .fz x] (.error ⟨C, fs⟩) ∧ pureG (F_law_field A0 A1 A2 A3 A4 A5 A6 A7 A8 A9 A10 A11 A12) 3 [.fz (.exc C fs)] (.fz (.tup [.int (i : Nat), vOf i x]))) (h6 : free w6) (h7 : free w7) (hd : DrOk1 st) {Nx : State → Prop} {Rt : DL.T → State → Prop}
    (k : ∀ x y st', DrOk1 st' → Nx (LS ns P w2 w3 (some (.fz (.int (i : Nat)))) (some (.fz (.str w))) (some (.fz x)) (some (.fz y)) st')) :
    okS (L_law_0 HE A0 A1 A2 A3 A4 A5 A6 A7 A8 A9 A10 A11 A12 P) (LS ns P w2 w3 (some (.fz (.int (i : Nat)))) (some (.fz (.str w))) w6 w7 st) Nx Rt := by
  unfold L_law_0
  obtain ⟨x, st1, wx, hd1, e1⟩ := pick_ok (ns := ns) (P := P) (w2 := w2) (w3 := w3) (w4 := (some (.fz (.int (i : Nat))))) (w5 := (some (.fz (.str w)))) (w6 := w6) (w7 := w7) hd
  refine okS.seq (okS.asg (ok.eq e1 ⟨can_free rfl h6, ?_⟩))
  change okS _ (LS ns P w2 w3 (some (.fz (.int (i : Nat)))) (some (.fz (.str w))) (some (.fz x)) w7 st1) _ _
  obtain ⟨fs, r1, r2⟩ := hr x wx.str
  have cr := call_res (ms := [.F, .F]) (fl := dCons (dSlot 5) (dCons (dSlot 6) (dNil))) (s := (LS ns P w2 w3 (some (.fz (.int (i : Nat)))) (some (.fz (.str w))) (some (.fz x)) w7 st1)) r1 rfl rfl rfl rfl rfl
  have lam : (dLamG 0 P qn 3 1 (ctL [(A0, true), (A1, true), (A2, true), (A3, true), (A4, true), (A5, true), (A6, true), (A7, true), (A8, true), (A9, true), (A10, true), (A11, true), (A12, true)]) (F_law_caught HE) (dCall 2 [.F, .F] [] (F_law_raised A0 A1 A2 A3 A4 A5 A6 A7 A8 A9 A10 A11 A12) (dCons (dSlot 5) (dCons (dSlot 6) (dNil))))) (LS ns P w2 w3 (some (.fz (.int (i : Nat)))) (some (.fz (.str w))) (some (.fz x)) w7 st1) = .ok (.fz (.exc C fs)) (LS ns P w2 w3 (some (.fz (.int (i : Nat)))) (some (.fz (.str w))) (some (.fz x)) w7 st1) :=
    lamG_er (n := 3) (j := 1) (fr := F_law_caught HE) (v := .fz (.exc C fs)) (sc := oneSt 3 1 (.exc C fs) (LS ns P w2 w3 (some (.fz (.int (i : Nat)))) (some (.fz (.str w))) (some (.fz x)) w7 st1)) tab_is cr (mkA_at (l := [A0, A1, A2, A3, A4, A5, A6, A7, A8, A9, A10, A11, A12]) m) rfl
  refine okS.seq (okS.asg (ok.eq lam ⟨can_free rfl h7, ?_⟩))
  change okS _ (LS ns P w2 w3 (some (.fz (.int (i : Nat)))) (some (.fz (.str w))) (some (.fz x)) (some (.fz (.exc C fs))) st1) _ _
  have f1 := call_pure r2 (ms := [.F]) (fl := dCons (dSlot 7) dNil) (s := (LS ns P w2 w3 (some (.fz (.int (i : Nat)))) (some (.fz (.str w))) (some (.fz x)) (some (.fz (.exc C fs))) st1)) rfl rfl rfl rfl rfl
  have f2 : dIf (dB (dOp2 ltD (dSlot 4) (dV (dC (.int 6))))) (dVar 6) (dC .non) (LS ns P w2 w3 (some (.fz (.int (i : Nat)))) (some (.fz (.str w))) (some (.fz x)) (some (.fz (.exc C fs))) st1) = .ok (.fz (vOf i x)) (LS ns P w2 w3 (some (.fz (.int (i : Nat)))) (some (.fz (.str w))) (some (.fz x)) (some (.fz (.exc C fs))) st1) := by
    refine dIf_d (P := ((i : Nat) : Int) < 6) (s1 := (LS ns P w2 w3 (some (.fz (.int (i : Nat)))) (some (.fz (.str w))) (some (.fz x)) (some (.fz (.exc C fs))) st1)) rfl (fun z => ?_) fun z => ?_
    · unfold vOf; rw [if_pos (by omega)]; rfl
    · unfold vOf; rw [if_neg (by omega)]; rfl
  obtain ⟨p, ep, sp⟩ := wx.tup hi
  have tst := reprs_ne (s2 := (LS ns P w2 w3 (some (.fz (.int (i : Nat)))) (some (.fz (.str w))) (some (.fz x)) (some (.fz (.exc C fs))) st1)) (dCons_eq (dV_eq f1) (k := dNil) rfl) rfl (dCons_eq (dV_eq (dTup_eq (dCons_eq (f := dSlot 4) rfl (dCons_eq (dV_eq f2) (k := dNil) rfl)) rfl (by show 2 ≤ sizeLine; decide))) (k := dNil) rfl) rfl ep sp
  exact okS.ite (ok.eq tst (no (okS.nx rfl (k x _ st1 hd1))))
end
def Inv (ns : List Int) (P : Addr) (s : State) : Prop := ∃ (w3 w4 w5 w6 w7 : Option W) (st : DrawSt), free w3 ∧ fzO w4 ∧ fzO w5 ∧ free w6 ∧ free w7 ∧ DrOk1 st ∧ s = LS ns P (some (.own (.lst wds))) w3 w4 w5 w6 w7 st
section
variable {ns : List Int} {HE P A0 A1 A2 A3 A4 A5 A6 A7 A8 A9 A10 A11 A12 : Addr} {w3 w4 w5 w6 w7 : Option W} {st : DrawSt} (nd : [A0, A1, A2, A3, A4, A5, A6, A7, A8, A9, A10, A11, A12].Nodup)
include nd
theorem words_ok {i : Nat} {d : D} (h : wds3[i]? = some d) : ∃ (w : Str) (C : Addr), d = .str w ∧ C ∈ [A0, A1, A2, A3, A4, A5, A6, A7, A8, A9, A10, A11, A12] ∧ i < 13 ∧ ∀ x, (∃ u, strAD [x] = some u) → ∃ fs, resG (F_law_raised A0 A1 A2 A3 A4 A5 A6 A7 A8 A9 A10 A11 A12) 2 [.fz (.str w), .fz x] (.error ⟨C, fs⟩) ∧ pureG (F_law_field A0 A1 A2 A3 A4 A5 A6 A7 A8 A9 A10 A11 A12) 3 [.fz (.exc C fs)] (.fz (.tup [.int (i : Nat), vOf i x])) := by
  match i, h with
  | 0, h => cases h; exact ⟨_, A0, rfl, by simp, by decide, fun x ⟨u, hu⟩ => ⟨[("index", x)], raised0, fun sto dr => ⟨_, field0 (x := x) nd, by show 1 ≤ 3; decide⟩⟩⟩
  | 1, h => cases h; exact ⟨_, A1, rfl, by simp, by decide, fun x ⟨u, hu⟩ => ⟨[("name", x)], raised1, fun sto dr => ⟨_, field1 (x := x) nd, by show 1 ≤ 3; decide⟩⟩⟩
  | 2, h => cases h; exact ⟨_, A2, rfl, by simp, by decide, fun x ⟨u, hu⟩ => ⟨[("name", x)], raised2, fun sto dr => ⟨_, field2 (x := x) nd, by show 1 ≤ 3; decide⟩⟩⟩
  | 3, h => cases h; exact ⟨_, A3, rfl, by simp, by decide, fun x ⟨u, hu⟩ => ⟨[("index", x)], raised3, fun sto dr => ⟨_, field3 (x := x) nd, by show 1 ≤ 3; decide⟩⟩⟩
  | 4, h => cases h; exact ⟨_, A4, rfl, by simp, by decide, fun x ⟨u, hu⟩ => ⟨[("most", x)], raised4, fun sto dr => ⟨_, field4 (x := x) nd, by show 1 ≤ 3; decide⟩⟩⟩
  | 5, h => cases h; exact ⟨_, A5, rfl, by simp, by decide, fun x ⟨u, hu⟩ => ⟨[("line", x)], raised5, fun sto dr => ⟨_, field5 (x := x) nd, by show 1 ≤ 3; decide⟩⟩⟩
  | 6, h => cases h; exact ⟨_, A6, rfl, by simp, by decide, fun x ⟨u, hu⟩ => ⟨[], raised6 hu, fun sto dr => ⟨_, field6 nd, by show 1 ≤ 3; decide⟩⟩⟩
  | 7, h => cases h; exact ⟨_, A7, rfl, by simp, by decide, fun x ⟨u, hu⟩ => ⟨[], raised7 hu, fun sto dr => ⟨_, field7 nd, by show 1 ≤ 3; decide⟩⟩⟩
  | 8, h => cases h; exact ⟨_, A8, rfl, by simp, by decide, fun x ⟨u, hu⟩ => ⟨[], raised8 hu, fun sto dr => ⟨_, field8 nd, by show 1 ≤ 3; decide⟩⟩⟩
  | 9, h => cases h; exact ⟨_, A9, rfl, by simp, by decide, fun x ⟨u, hu⟩ => ⟨[], raised9 hu, fun sto dr => ⟨_, field9 nd, by show 1 ≤ 3; decide⟩⟩⟩
  | 10, h => cases h; exact ⟨_, A10, rfl, by simp, by decide, fun x ⟨u, hu⟩ => ⟨[], raised10 hu, fun sto dr => ⟨_, field10 nd, by show 1 ≤ 3; decide⟩⟩⟩
  | 11, h => cases h; exact ⟨_, A11, rfl, by simp, by decide, fun x ⟨u, hu⟩ => ⟨[], raised11 hu, fun sto dr => ⟨_, field11 nd, by show 1 ≤ 3; decide⟩⟩⟩
  | 12, h => cases h; exact ⟨_, A12, rfl, by simp, by decide, fun x ⟨u, hu⟩ => ⟨[], raised12 hu, fun sto dr => ⟨_, field12 nd, by show 1 ≤ 3; decide⟩⟩⟩
  | i + 13, h => cases h
theorem enum_get {i : Nat} {e : D} (h : (enumL 0 wds3)[i]? = some e) : ∃ d, wds3[i]? = some d ∧ e = .tup [.int (i : Nat), d] := by
  match i, h with
  | 0, h => cases h; exact ⟨_, rfl, rfl⟩
  | 1, h => cases h; exact ⟨_, rfl, rfl⟩
  | 2, h => cases h; exact ⟨_, rfl, rfl⟩
  | 3, h => cases h; exact ⟨_, rfl, rfl⟩
  | 4, h => cases h; exact ⟨_, rfl, rfl⟩
  | 5, h => cases h; exact ⟨_, rfl, rfl⟩
  | 6, h => cases h; exact ⟨_, rfl, rfl⟩
  | 7, h => cases h; exact ⟨_, rfl, rfl⟩
  | 8, h => cases h; exact ⟨_, rfl, rfl⟩
  | 9, h => cases h; exact ⟨_, rfl, rfl⟩
  | 10, h => cases h; exact ⟨_, rfl, rfl⟩
  | 11, h => cases h; exact ⟨_, rfl, rfl⟩
  | 12, h => cases h; exact ⟨_, rfl, rfl⟩
  | i + 13, h => cases h
theorem round_ok {Rt : DL.T → State → Prop} (h4 : fzO w4) (h5 : fzO w5) (h3 : free w3) (h6 : free w6) (h7 : free w7) (hd : DrOk1 st) : okS (L_law_1 HE A0 A1 A2 A3 A4 A5 A6 A7 A8 A9 A10 A11 A12 P) (LS ns P (some (.own (.lst wds))) w3 w4 w5 w6 w7 st) (Inv ns P) Rt := by
  unfold L_law_1
  have ad : dOp2 addD (dSlot 2) (dV (dLst (dCons (dV (dC (.str "reading"))) (dCons (dV (dC (.str "point"))) (dCons (dV (dC (.str "left"))) (dNil)))))) (LS ns P (some (.own (.lst wds))) w3 w4 w5 w6 w7 st) = .ok (.ow (.lst wds3)) (LS ns P (some (.own (.lst wds))) w3 w4 w5 w6 w7 st) := dOp2_eq rfl rfl rfl rfl (addLL (a := wds) (by show 13 ≤ sizeLine; decide))
  refine okS.forV (ds := [.lst wds3]) (items := enumL 0 wds3) (s2 := LS ns P (some (.own (.lst wds))) w3 w4 w5 w6 w7 st) (dCons_eq (dV_eq ad) (k := dNil) rfl) rfl rfl (okS.walk (fun _ S => Inv ns P S) ?_ ?_ ?_)
  · exact ⟨w3, w4, w5, w6, w7, st, h3, h4, h5, h6, h7, hd, rfl⟩
  · rintro i e S he ⟨w3, w4, w5, w6, w7, st, f3, f4, f5, f6, f7, hd, rfl⟩
    obtain ⟨d, hw, rfl⟩ := enum_get nd he
    obtain ⟨w, C, rfl, m, hi, hr⟩ := words_ok nd hw
    refine ⟨LS ns P (some (.own (.lst wds))) w3 (some (.fz (.int (i : Nat)))) (some (.fz (.str w))) w6 w7 st, ?_, turn_ok m hi hr f6 f7 hd fun x y st' hd' => ⟨w3, _, _, _, _, st', f3, .inr ⟨_, rfl⟩, .inr ⟨_, rfl⟩, free_fz, free_fz, hd', rfl⟩⟩
    rcases f4 with rfl | ⟨_, rfl⟩ <;> rcases f5 with rfl | ⟨_, rfl⟩ <;> rfl
  · exact fun s' h => h
end
theorem begin_ok {ns : List Int} (h : ns.length ≤ 63) : DrOk1 (beginSt ns) := by
  refine ⟨?_, ?_, ?_, ?_⟩
  · show (0 : Int) ≤ 7; decide
  · show (7 : Int) < 2147483629; decide
  · show (largeOf ns).length ≤ 63
    unfold largeOf
    rw [List.length_map]
    exact Nat.le_trans (List.length_filter_le _ _) h
  · exact h
theorem math (a_HourError A0 A1 A2 A3 A4 A5 A6 A7 A8 A9 A10 A11 A12 a_tab_law : Addr) (nx : [a_HourError, A0, A1, A2, A3, A4, A5, A6, A7, A8, A9, A10, A11, A12].Nodup) (ns : List Int) (h : ns.length ≤ 63) :
   ∃ s', F_law a_HourError A0 A1 A2 A3 A4 A5 A6 A7 A8 A9 A10 A11 A12 a_tab_law (lawStT ns 6 [.tab a_tab_law "law.<locals>.<lambda>"]) = .ok (.rt (.fz (.bl true))) s' := by
  have nd : [A0, A1, A2, A3, A4, A5, A6, A7, A8, A9, A10, A11, A12].Nodup := (List.nodup_cons.mp nx).2
  have k : okS (F_law a_HourError A0 A1 A2 A3 A4 A5 A6 A7 A8 A9 A10 A11 A12 a_tab_law) (lawStT ns 6 [.tab a_tab_law "law.<locals>.<lambda>"]) (fun _ => False) (fun t s' => t = .fz (.bl true)) := by
    unfold F_law
    refine okS.seq (okS.asg (ok.eq (a := .ow (.lst wds)) (s1 := LS ns a_tab_law none none none none none none (beginSt ns)) (dLst_eq rfl rfl (by show 10 ≤ sizeLine; decide)) ⟨rfl, ?_⟩))
    change okS _ (LS ns a_tab_law (some (.own (.lst wds))) none none none none none (beginSt ns)) _ _
    refine okS.seq (okS.forV (ds := [.int (2 + min (ns.length : Int) 5)]) (items := rangeL 0 (2 + min (ns.length : Int) 5).toNat) (s2 := LS ns a_tab_law (some (.own (.lst wds))) none none none none none (beginSt ns)) rfl rfl (if_pos ?_) (okS.walk (fun _ S => Inv ns a_tab_law S) ?_ ?_ ?_))
    · unfold bnd62
      rw [Bool.and_eq_true, decide_eq_true_eq, decide_eq_true_eq]
      omega
    · exact ⟨none, none, none, none, none, beginSt ns, .inl rfl, .inl rfl, .inl rfl, .inl rfl, .inl rfl, begin_ok h, rfl⟩
    · rintro i x S hi ⟨w3, w4, w5, w6, w7, st, f3, f4, f5, f6, f7, hd, rfl⟩
      refine ⟨LS ns a_tab_law (some (.own (.lst wds))) (some (.fz x)) w4 w5 w6 w7 st, ?_, round_ok nd f4 f5 free_fz f6 f7 hd⟩
      rcases f3 with rfl | ⟨_, rfl⟩ | ⟨_, rfl⟩ <;> rfl
    · rintro S h
      exact okS.rt rfl rfl
  unfold okS at k
  cases q : F_law a_HourError A0 A1 A2 A3 A4 A5 A6 A7 A8 A9 A10 A11 A12 a_tab_law (lawStT ns 6 [.tab a_tab_law "law.<locals>.<lambda>"]) with
  | bad => rw [q] at k; exact k.elim
  | err x s' => rw [q] at k; exact k.elim
  | ok f s' =>
    rw [q] at k
    cases f with
    | nx => exact k.elim
    | bk => exact k.elim
    | ct => exact k.elim
    | rt t => cases k; exact ⟨s', rfl⟩
end Law
open PySem PySem.W PyProof.Rows
set_option Elab.async false
set_option maxRecDepth 100000 in
set_option maxHeartbeats 0 in
theorem PySem.Challenge.cw_surehour_k01_errors_by_class_holds : PySem.Challenge.rw_surehour_k01_errors_by_class.Holds := by
  w_on; o_law; k_head; (case hw => w_witness2)
  k_fill
  refine DL.walk_ofGT (l := PySem.Challenge.rw_surehour_k01_errors_by_class) (most := 63) (n := 5) (nm := "_law_script") (cx := fun w => L2.CX PySem.Challenge.rw_surehour_k01_errors_by_class.prog w) (pr := fun w cs => DL.spLawT _ cs) rfl (by decide) rfl ⟨⟨rfl, by decide, by decide⟩, rfl⟩ (fun w h Y => by first | exact PySem.W.kIn_of Y | exact PySem.W.km_in_of Y) ?F (fun _ _ _ a ns hl hT nT nd hS => ⟨a, ns, rfl, hS, hl, hT, nT, nd, fun _ => rfl⟩) (fun w H s e s' z => DL.cx_none z)
  case F =>
    intro w mg fa h KX G hmg TT
    refine' Law.all_mk Law.math KX G hmg TT ?zz_abs ?zz_list ?zz_range ?zz_len ?zz_min ?zz_enumerate ?zz_int ?zz_divmod ?zz_str ?zz_isinstance ?zz_ValueError ?zz_repr ?xsp ?xtk ?hm_HourError ?xh_HourError ?xt_HourError ?xb_HourError ?xg_HourError ?xq_HourError ?xc_HourError ?xo_HourError ?hm_NoEvent ?xh_NoEvent ?xt_NoEvent ?xb_NoEvent ?xg_NoEvent ?xq_NoEvent ?xc_NoEvent ?xo_NoEvent ?hm_NoSource ?xh_NoSource ?xt_NoSource ?xb_NoSource ?xg_NoSource ?xq_NoSource ?xc_NoSource ?xo_NoSource ?hm_NoStation ?xh_NoStation ?xt_NoStation ?xb_NoStation ?xg_NoStation ?xq_NoStation ?xc_NoStation ?xo_NoStation ?hm_NoOperation ?xh_NoOperation ?xt_NoOperation ?xb_NoOperation ?xg_NoOperation ?xq_NoOperation ?xc_NoOperation ?xo_NoOperation ?hm_TooMany ?xh_TooMany ?xt_TooMany ?xb_TooMany ?xg_TooMany ?xq_TooMany ?xc_TooMany ?xo_TooMany ?hm_InvalidText ?xh_InvalidText ?xt_InvalidText ?xb_InvalidText ?xg_InvalidText ?xq_InvalidText ?xc_InvalidText ?xo_InvalidText ?hm_NoNetwork ?xh_NoNetwork ?xt_NoNetwork ?xb_NoNetwork ?xg_NoNetwork ?xq_NoNetwork ?xc_NoNetwork ?xo_NoNetwork ?hm_NoMoment ?xh_NoMoment ?xt_NoMoment ?xb_NoMoment ?xg_NoMoment ?xq_NoMoment ?xc_NoMoment ?xo_NoMoment ?hm_NoClock ?xh_NoClock ?xt_NoClock ?xb_NoClock ?xg_NoClock ?xq_NoClock ?xc_NoClock ?xo_NoClock ?hm_NoSpans ?xh_NoSpans ?xt_NoSpans ?xb_NoSpans ?xg_NoSpans ?xq_NoSpans ?xc_NoSpans ?xo_NoSpans ?hm_NoReading ?xh_NoReading ?xt_NoReading ?xb_NoReading ?xg_NoReading ?xq_NoReading ?xc_NoReading ?xo_NoReading ?hm_NoPoint ?xh_NoPoint ?xt_NoPoint ?xb_NoPoint ?xg_NoPoint ?xq_NoPoint ?xc_NoPoint ?xo_NoPoint ?hm_NothingLeft ?xh_NothingLeft ?xt_NothingLeft ?xb_NothingLeft ?xg_NothingLeft ?xq_NothingLeft ?xc_NothingLeft ?xo_NothingLeft ?xk_NoEvent ?xk_NoSource ?xk_NoStation ?xk_NoOperation ?xk_TooMany ?xk_InvalidText ?xe_NoNetwork ?xk_NoNetwork ?xe_NoMoment ?xk_NoMoment ?xe_NoClock ?xk_NoClock ?xe_NoSpans ?xk_NoSpans ?xe_NoReading ?xk_NoReading ?xe_NoPoint ?xk_NoPoint ?xe_NothingLeft ?xk_NothingLeft ?ne_x0_1 ?ne_x0_2 ?ne_x0_3 ?ne_x0_4 ?ne_x0_5 ?ne_x0_6 ?ne_x0_7 ?ne_x0_8 ?ne_x0_9 ?ne_x0_10 ?ne_x0_11 ?ne_x0_12 ?ne_x0_13 ?ne_x1_2 ?ne_x1_3 ?ne_x1_4 ?ne_x1_5 ?ne_x1_6 ?ne_x1_7 ?ne_x1_8 ?ne_x1_9 ?ne_x1_10 ?ne_x1_11 ?ne_x1_12 ?ne_x1_13 ?ne_x2_3 ?ne_x2_4 ?ne_x2_5 ?ne_x2_6 ?ne_x2_7 ?ne_x2_8 ?ne_x2_9 ?ne_x2_10 ?ne_x2_11 ?ne_x2_12 ?ne_x2_13 ?ne_x3_4 ?ne_x3_5 ?ne_x3_6 ?ne_x3_7 ?ne_x3_8 ?ne_x3_9 ?ne_x3_10 ?ne_x3_11 ?ne_x3_12 ?ne_x3_13 ?ne_x4_5 ?ne_x4_6 ?ne_x4_7 ?ne_x4_8 ?ne_x4_9 ?ne_x4_10 ?ne_x4_11 ?ne_x4_12 ?ne_x4_13 ?ne_x5_6 ?ne_x5_7 ?ne_x5_8 ?ne_x5_9 ?ne_x5_10 ?ne_x5_11 ?ne_x5_12 ?ne_x5_13 ?ne_x6_7 ?ne_x6_8 ?ne_x6_9 ?ne_x6_10 ?ne_x6_11 ?ne_x6_12 ?ne_x6_13 ?ne_x7_8 ?ne_x7_9 ?ne_x7_10 ?ne_x7_11 ?ne_x7_12 ?ne_x7_13 ?ne_x8_9 ?ne_x8_10 ?ne_x8_11 ?ne_x8_12 ?ne_x8_13 ?ne_x9_10 ?ne_x9_11 ?ne_x9_12 ?ne_x9_13 ?ne_x10_11 ?ne_x10_12 ?ne_x10_13 ?ne_x11_12 ?ne_x11_13 ?ne_x12_13 ?xn_HourError ?xs_NoEvent_HourError ?xs_NoSource_HourError ?xs_NoStation_HourError ?xs_NoOperation_HourError ?xs_TooMany_HourError ?xs_InvalidText_HourError ?xs_NoNetwork_HourError ?xs_NoMoment_HourError ?xs_NoClock_HourError ?xs_NoSpans_HourError ?xs_NoReading_HourError ?xs_NoPoint_HourError ?xs_NothingLeft_HourError ?xn_NoEvent ?xs_NoEvent_NoEvent ?xs_NoSource_NoEvent ?xs_NoStation_NoEvent ?xs_NoOperation_NoEvent ?xs_TooMany_NoEvent ?xs_InvalidText_NoEvent ?xs_NoNetwork_NoEvent ?xs_NoMoment_NoEvent ?xs_NoClock_NoEvent ?xs_NoSpans_NoEvent ?xs_NoReading_NoEvent ?xs_NoPoint_NoEvent ?xs_NothingLeft_NoEvent ?xn_NoSource ?xs_NoEvent_NoSource ?xs_NoSource_NoSource ?xs_NoStation_NoSource ?xs_NoOperation_NoSource ?xs_TooMany_NoSource ?xs_InvalidText_NoSource ?xs_NoNetwork_NoSource ?xs_NoMoment_NoSource ?xs_NoClock_NoSource ?xs_NoSpans_NoSource ?xs_NoReading_NoSource ?xs_NoPoint_NoSource ?xs_NothingLeft_NoSource ?xn_NoStation ?xs_NoEvent_NoStation ?xs_NoSource_NoStation ?xs_NoStation_NoStation ?xs_NoOperation_NoStation ?xs_TooMany_NoStation ?xs_InvalidText_NoStation ?xs_NoNetwork_NoStation ?xs_NoMoment_NoStation ?xs_NoClock_NoStation ?xs_NoSpans_NoStation ?xs_NoReading_NoStation ?xs_NoPoint_NoStation ?xs_NothingLeft_NoStation ?xn_NoOperation ?xs_NoEvent_NoOperation ?xs_NoSource_NoOperation ?xs_NoStation_NoOperation ?xs_NoOperation_NoOperation ?xs_TooMany_NoOperation ?xs_InvalidText_NoOperation ?xs_NoNetwork_NoOperation ?xs_NoMoment_NoOperation ?xs_NoClock_NoOperation ?xs_NoSpans_NoOperation ?xs_NoReading_NoOperation ?xs_NoPoint_NoOperation ?xs_NothingLeft_NoOperation ?xn_TooMany ?xs_NoEvent_TooMany ?xs_NoSource_TooMany ?xs_NoStation_TooMany ?xs_NoOperation_TooMany ?xs_TooMany_TooMany ?xs_InvalidText_TooMany ?xs_NoNetwork_TooMany ?xs_NoMoment_TooMany ?xs_NoClock_TooMany ?xs_NoSpans_TooMany ?xs_NoReading_TooMany ?xs_NoPoint_TooMany ?xs_NothingLeft_TooMany ?xn_InvalidText ?xs_NoEvent_InvalidText ?xs_NoSource_InvalidText ?xs_NoStation_InvalidText ?xs_NoOperation_InvalidText ?xs_TooMany_InvalidText ?xs_InvalidText_InvalidText ?xs_NoNetwork_InvalidText ?xs_NoMoment_InvalidText ?xs_NoClock_InvalidText ?xs_NoSpans_InvalidText ?xs_NoReading_InvalidText ?xs_NoPoint_InvalidText ?xs_NothingLeft_InvalidText ?xn_NoNetwork ?xs_NoEvent_NoNetwork ?xs_NoSource_NoNetwork ?xs_NoStation_NoNetwork ?xs_NoOperation_NoNetwork ?xs_TooMany_NoNetwork ?xs_InvalidText_NoNetwork ?xs_NoNetwork_NoNetwork ?xs_NoMoment_NoNetwork ?xs_NoClock_NoNetwork ?xs_NoSpans_NoNetwork ?xs_NoReading_NoNetwork ?xs_NoPoint_NoNetwork ?xs_NothingLeft_NoNetwork ?xn_NoMoment ?xs_NoEvent_NoMoment ?xs_NoSource_NoMoment ?xs_NoStation_NoMoment ?xs_NoOperation_NoMoment ?xs_TooMany_NoMoment ?xs_InvalidText_NoMoment ?xs_NoNetwork_NoMoment ?xs_NoMoment_NoMoment ?xs_NoClock_NoMoment ?xs_NoSpans_NoMoment ?xs_NoReading_NoMoment ?xs_NoPoint_NoMoment ?xs_NothingLeft_NoMoment ?xn_NoClock ?xs_NoEvent_NoClock ?xs_NoSource_NoClock ?xs_NoStation_NoClock ?xs_NoOperation_NoClock ?xs_TooMany_NoClock ?xs_InvalidText_NoClock ?xs_NoNetwork_NoClock ?xs_NoMoment_NoClock ?xs_NoClock_NoClock ?xs_NoSpans_NoClock ?xs_NoReading_NoClock ?xs_NoPoint_NoClock ?xs_NothingLeft_NoClock ?xn_NoSpans ?xs_NoEvent_NoSpans ?xs_NoSource_NoSpans ?xs_NoStation_NoSpans ?xs_NoOperation_NoSpans ?xs_TooMany_NoSpans ?xs_InvalidText_NoSpans ?xs_NoNetwork_NoSpans ?xs_NoMoment_NoSpans ?xs_NoClock_NoSpans ?xs_NoSpans_NoSpans ?xs_NoReading_NoSpans ?xs_NoPoint_NoSpans ?xs_NothingLeft_NoSpans ?xn_NoReading ?xs_NoEvent_NoReading ?xs_NoSource_NoReading ?xs_NoStation_NoReading ?xs_NoOperation_NoReading ?xs_TooMany_NoReading ?xs_InvalidText_NoReading ?xs_NoNetwork_NoReading ?xs_NoMoment_NoReading ?xs_NoClock_NoReading ?xs_NoSpans_NoReading ?xs_NoReading_NoReading ?xs_NoPoint_NoReading ?xs_NothingLeft_NoReading ?xn_NoPoint ?xs_NoEvent_NoPoint ?xs_NoSource_NoPoint ?xs_NoStation_NoPoint ?xs_NoOperation_NoPoint ?xs_TooMany_NoPoint ?xs_InvalidText_NoPoint ?xs_NoNetwork_NoPoint ?xs_NoMoment_NoPoint ?xs_NoClock_NoPoint ?xs_NoSpans_NoPoint ?xs_NoReading_NoPoint ?xs_NoPoint_NoPoint ?xs_NothingLeft_NoPoint ?xn_NothingLeft ?xs_NoEvent_NothingLeft ?xs_NoSource_NothingLeft ?xs_NoStation_NothingLeft ?xs_NoOperation_NothingLeft ?xs_TooMany_NothingLeft ?xs_InvalidText_NothingLeft ?xs_NoNetwork_NothingLeft ?xs_NoMoment_NothingLeft ?xs_NoClock_NothingLeft ?xs_NoSpans_NothingLeft ?xs_NoReading_NothingLeft ?xs_NoPoint_NothingLeft ?xs_NothingLeft_NothingLeft ?ytop ?yopq ?zz_super ?l_xNoEvent ?yv_NoEvent ?xsa_NoEvent ?xin_NoEvent ?xti_NoEvent ?xno_NoEvent ?ysup_NoEvent ?xiv_NoEvent ?xow_NoEvent ?l_yNoEvent ?cc_xNoEvent ?l_zNoEvent ?yvs_NoEvent ?yfi_NoEvent ?l_wNoEvent ?l_xNoSource ?yv_NoSource ?xsa_NoSource ?xin_NoSource ?xti_NoSource ?xno_NoSource ?ysup_NoSource ?xiv_NoSource ?xow_NoSource ?l_yNoSource ?cc_xNoSource ?l_zNoSource ?yvs_NoSource ?yfi_NoSource ?l_wNoSource ?l_xNoStation ?yv_NoStation ?xsa_NoStation ?xin_NoStation ?xti_NoStation ?xno_NoStation ?ysup_NoStation ?xiv_NoStation ?xow_NoStation ?l_yNoStation ?cc_xNoStation ?l_zNoStation ?yvs_NoStation ?yfi_NoStation ?l_wNoStation ?l_xNoOperation ?yv_NoOperation ?xsa_NoOperation ?xin_NoOperation ?xti_NoOperation ?xno_NoOperation ?ysup_NoOperation ?xiv_NoOperation ?xow_NoOperation ?l_yNoOperation ?cc_xNoOperation ?l_zNoOperation ?yvs_NoOperation ?yfi_NoOperation ?l_wNoOperation ?l_xTooMany ?yv_TooMany ?xsa_TooMany ?xin_TooMany ?xti_TooMany ?xno_TooMany ?ysup_TooMany ?xiv_TooMany ?xow_TooMany ?l_yTooMany ?cc_xTooMany ?l_zTooMany ?yvs_TooMany ?yfi_TooMany ?l_wTooMany ?l_xInvalidText ?yv_InvalidText ?xsa_InvalidText ?xin_InvalidText ?xti_InvalidText ?xno_InvalidText ?ysup_InvalidText ?xiv_InvalidText ?xow_InvalidText ?l_yInvalidText ?cc_xInvalidText ?l_zInvalidText ?yvs_InvalidText ?yfi_InvalidText ?l_wInvalidText ?xvn ?xiv_NoNetwork ?xiv_NoMoment ?xiv_NoClock ?xiv_NoSpans ?xiv_NoReading ?xiv_NoPoint ?xiv_NothingLeft ?tt_law ?nn_law ?rr_law ?l_law_begin ?cc_law_begin ?kp_law_begin ?at_law_begin ?l_law_take ?cc_law_take ?kp_law_take ?at_law_take ?l_law_pick ?cc_law_pick ?kp_law_pick ?at_law_pick ?l_law_caught ?cc_law_caught ?kp_law_caught ?at_law_caught ?l_law_raised ?cc_law_raised ?kp_law_raised ?at_law_raised ?l_law_field ?cc_law_field ?kp_law_field ?at_law_field ?l_law ?cc_law ?kp_law ?at_law
    (case zz_abs => k_is)
    (case zz_list => k_is)
    (case zz_range => k_is)
    (case zz_len => k_is)
    (case zz_min => k_is)
    (case zz_enumerate => k_is)
    (case zz_int => k_is)
    (case zz_divmod => k_is)
    (case zz_str => k_is)
    (case zz_isinstance => k_is)
    (case zz_ValueError => k_is)
    (case zz_repr => k_is)
    (case hm_HourError => k_is)
    (case hm_NoEvent => k_is)
    (case hm_NoSource => k_is)
    (case hm_NoStation => k_is)
    (case hm_NoOperation => k_is)
    (case hm_TooMany => k_is)
    (case hm_InvalidText => k_is)
    (case hm_NoNetwork => k_is)
    (case hm_NoMoment => k_is)
    (case hm_NoClock => k_is)
    (case hm_NoSpans => k_is)
    (case hm_NoReading => k_is)
    (case hm_NoPoint => k_is)
    (case hm_NothingLeft => k_is)
    (case zz_super => k_is)
    (case xsp => k_is)
    (case xtk => k_is)
    (case xh_HourError => k_is)
    (case xt_HourError => k_is)
    (case xb_HourError => k_is)
    (case xg_HourError => k_is)
    (case xq_HourError => k_is)
    (case xc_HourError => k_is)
    (case xo_HourError => k_is)
    (case xh_NoEvent => k_is)
    (case xt_NoEvent => k_is)
    (case xb_NoEvent => k_is)
    (case xg_NoEvent => k_is)
    (case xq_NoEvent => k_is)
    (case xc_NoEvent => k_is)
    (case xo_NoEvent => k_is)
    (case xh_NoSource => k_is)
    (case xt_NoSource => k_is)
    (case xb_NoSource => k_is)
    (case xg_NoSource => k_is)
    (case xq_NoSource => k_is)
    (case xc_NoSource => k_is)
    (case xo_NoSource => k_is)
    (case xh_NoStation => k_is)
    (case xt_NoStation => k_is)
    (case xb_NoStation => k_is)
    (case xg_NoStation => k_is)
    (case xq_NoStation => k_is)
    (case xc_NoStation => k_is)
    (case xo_NoStation => k_is)
    (case xh_NoOperation => k_is)
    (case xt_NoOperation => k_is)
    (case xb_NoOperation => k_is)
    (case xg_NoOperation => k_is)
    (case xq_NoOperation => k_is)
    (case xc_NoOperation => k_is)
    (case xo_NoOperation => k_is)
    (case xh_TooMany => k_is)
    (case xt_TooMany => k_is)
    (case xb_TooMany => k_is)
    (case xg_TooMany => k_is)
    (case xq_TooMany => k_is)
    (case xc_TooMany => k_is)
    (case xo_TooMany => k_is)
    (case xh_InvalidText => k_is)
    (case xt_InvalidText => k_is)
    (case xb_InvalidText => k_is)
    (case xg_InvalidText => k_is)
    (case xq_InvalidText => k_is)
    (case xc_InvalidText => k_is)
    (case xo_InvalidText => k_is)
    (case xh_NoNetwork => k_is)
    (case xt_NoNetwork => k_is)
    (case xb_NoNetwork => k_is)
    (case xg_NoNetwork => k_is)
    (case xq_NoNetwork => k_is)
    (case xc_NoNetwork => k_is)
    (case xo_NoNetwork => k_is)
    (case xh_NoMoment => k_is)
    (case xt_NoMoment => k_is)
    (case xb_NoMoment => k_is)
    (case xg_NoMoment => k_is)
    (case xq_NoMoment => k_is)
    (case xc_NoMoment => k_is)
    (case xo_NoMoment => k_is)
    (case xh_NoClock => k_is)
    (case xt_NoClock => k_is)
    (case xb_NoClock => k_is)
    (case xg_NoClock => k_is)
    (case xq_NoClock => k_is)
    (case xc_NoClock => k_is)
    (case xo_NoClock => k_is)
    (case xh_NoSpans => k_is)
    (case xt_NoSpans => k_is)
    (case xb_NoSpans => k_is)
    (case xg_NoSpans => k_is)
    (case xq_NoSpans => k_is)
    (case xc_NoSpans => k_is)
    (case xo_NoSpans => k_is)
    (case xh_NoReading => k_is)
    (case xt_NoReading => k_is)
    (case xb_NoReading => k_is)
    (case xg_NoReading => k_is)
    (case xq_NoReading => k_is)
    (case xc_NoReading => k_is)
    (case xo_NoReading => k_is)
    (case xh_NoPoint => k_is)
    (case xt_NoPoint => k_is)
    (case xb_NoPoint => k_is)
    (case xg_NoPoint => k_is)
    (case xq_NoPoint => k_is)
    (case xc_NoPoint => k_is)
    (case xo_NoPoint => k_is)
    (case xh_NothingLeft => k_is)
    (case xt_NothingLeft => k_is)
    (case xb_NothingLeft => k_is)
    (case xg_NothingLeft => k_is)
    (case xq_NothingLeft => k_is)
    (case xc_NothingLeft => k_is)
    (case xo_NothingLeft => k_is)
    (case xk_NoEvent => k_is)
    (case xk_NoSource => k_is)
    (case xk_NoStation => k_is)
    (case xk_NoOperation => k_is)
    (case xk_TooMany => k_is)
    (case xk_InvalidText => k_is)
    (case xe_NoNetwork => k_exc)
    (case xk_NoNetwork => k_is)
    (case xe_NoMoment => k_exc)
    (case xk_NoMoment => k_is)
    (case xe_NoClock => k_exc)
    (case xk_NoClock => k_is)
    (case xe_NoSpans => k_exc)
    (case xk_NoSpans => k_is)
    (case xe_NoReading => k_exc)
    (case xk_NoReading => k_is)
    (case xe_NoPoint => k_exc)
    (case xk_NoPoint => k_is)
    (case xe_NothingLeft => k_exc)
    (case xk_NothingLeft => k_is)
    (case xn_HourError => k_is)
    (case xs_NoEvent_HourError => k_is)
    (case xs_NoSource_HourError => k_is)
    (case xs_NoStation_HourError => k_is)
    (case xs_NoOperation_HourError => k_is)
    (case xs_TooMany_HourError => k_is)
    (case xs_InvalidText_HourError => k_is)
    (case xs_NoNetwork_HourError => k_is)
    (case xs_NoMoment_HourError => k_is)
    (case xs_NoClock_HourError => k_is)
    (case xs_NoSpans_HourError => k_is)
    (case xs_NoReading_HourError => k_is)
    (case xs_NoPoint_HourError => k_is)
    (case xs_NothingLeft_HourError => k_is)
    (case xn_NoEvent => k_is)
    (case xs_NoEvent_NoEvent => k_is)
    (case xs_NoSource_NoEvent => k_is)
    (case xs_NoStation_NoEvent => k_is)
    (case xs_NoOperation_NoEvent => k_is)
    (case xs_TooMany_NoEvent => k_is)
    (case xs_InvalidText_NoEvent => k_is)
    (case xs_NoNetwork_NoEvent => k_is)
    (case xs_NoMoment_NoEvent => k_is)
    (case xs_NoClock_NoEvent => k_is)
    (case xs_NoSpans_NoEvent => k_is)
    (case xs_NoReading_NoEvent => k_is)
    (case xs_NoPoint_NoEvent => k_is)
    (case xs_NothingLeft_NoEvent => k_is)
    (case xn_NoSource => k_is)
    (case xs_NoEvent_NoSource => k_is)
    (case xs_NoSource_NoSource => k_is)
    (case xs_NoStation_NoSource => k_is)
    (case xs_NoOperation_NoSource => k_is)
    (case xs_TooMany_NoSource => k_is)
    (case xs_InvalidText_NoSource => k_is)
    (case xs_NoNetwork_NoSource => k_is)
    (case xs_NoMoment_NoSource => k_is)
    (case xs_NoClock_NoSource => k_is)
    (case xs_NoSpans_NoSource => k_is)
    (case xs_NoReading_NoSource => k_is)
    (case xs_NoPoint_NoSource => k_is)
    (case xs_NothingLeft_NoSource => k_is)
    (case xn_NoStation => k_is)
    (case xs_NoEvent_NoStation => k_is)
    (case xs_NoSource_NoStation => k_is)
    (case xs_NoStation_NoStation => k_is)
    (case xs_NoOperation_NoStation => k_is)
    (case xs_TooMany_NoStation => k_is)
    (case xs_InvalidText_NoStation => k_is)
    (case xs_NoNetwork_NoStation => k_is)
    (case xs_NoMoment_NoStation => k_is)
    (case xs_NoClock_NoStation => k_is)
    (case xs_NoSpans_NoStation => k_is)
    (case xs_NoReading_NoStation => k_is)
    (case xs_NoPoint_NoStation => k_is)
    (case xs_NothingLeft_NoStation => k_is)
    (case xn_NoOperation => k_is)
    (case xs_NoEvent_NoOperation => k_is)
    (case xs_NoSource_NoOperation => k_is)
    (case xs_NoStation_NoOperation => k_is)
    (case xs_NoOperation_NoOperation => k_is)
    (case xs_TooMany_NoOperation => k_is)
    (case xs_InvalidText_NoOperation => k_is)
    (case xs_NoNetwork_NoOperation => k_is)
    (case xs_NoMoment_NoOperation => k_is)
    (case xs_NoClock_NoOperation => k_is)
    (case xs_NoSpans_NoOperation => k_is)
    (case xs_NoReading_NoOperation => k_is)
    (case xs_NoPoint_NoOperation => k_is)
    (case xs_NothingLeft_NoOperation => k_is)
    (case xn_TooMany => k_is)
    (case xs_NoEvent_TooMany => k_is)
    (case xs_NoSource_TooMany => k_is)
    (case xs_NoStation_TooMany => k_is)
    (case xs_NoOperation_TooMany => k_is)
    (case xs_TooMany_TooMany => k_is)
    (case xs_InvalidText_TooMany => k_is)
    (case xs_NoNetwork_TooMany => k_is)
    (case xs_NoMoment_TooMany => k_is)
    (case xs_NoClock_TooMany => k_is)
    (case xs_NoSpans_TooMany => k_is)
    (case xs_NoReading_TooMany => k_is)
    (case xs_NoPoint_TooMany => k_is)
    (case xs_NothingLeft_TooMany => k_is)
    (case xn_InvalidText => k_is)
    (case xs_NoEvent_InvalidText => k_is)
    (case xs_NoSource_InvalidText => k_is)
    (case xs_NoStation_InvalidText => k_is)
    (case xs_NoOperation_InvalidText => k_is)
    (case xs_TooMany_InvalidText => k_is)
    (case xs_InvalidText_InvalidText => k_is)
    (case xs_NoNetwork_InvalidText => k_is)
    (case xs_NoMoment_InvalidText => k_is)
    (case xs_NoClock_InvalidText => k_is)
    (case xs_NoSpans_InvalidText => k_is)
    (case xs_NoReading_InvalidText => k_is)
    (case xs_NoPoint_InvalidText => k_is)
    (case xs_NothingLeft_InvalidText => k_is)
    (case xn_NoNetwork => k_is)
    (case xs_NoEvent_NoNetwork => k_is)
    (case xs_NoSource_NoNetwork => k_is)
    (case xs_NoStation_NoNetwork => k_is)
    (case xs_NoOperation_NoNetwork => k_is)
    (case xs_TooMany_NoNetwork => k_is)
    (case xs_InvalidText_NoNetwork => k_is)
    (case xs_NoNetwork_NoNetwork => k_is)
    (case xs_NoMoment_NoNetwork => k_is)
    (case xs_NoClock_NoNetwork => k_is)
    (case xs_NoSpans_NoNetwork => k_is)
    (case xs_NoReading_NoNetwork => k_is)
    (case xs_NoPoint_NoNetwork => k_is)
    (case xs_NothingLeft_NoNetwork => k_is)
    (case xn_NoMoment => k_is)
    (case xs_NoEvent_NoMoment => k_is)
    (case xs_NoSource_NoMoment => k_is)
    (case xs_NoStation_NoMoment => k_is)
    (case xs_NoOperation_NoMoment => k_is)
    (case xs_TooMany_NoMoment => k_is)
    (case xs_InvalidText_NoMoment => k_is)
    (case xs_NoNetwork_NoMoment => k_is)
    (case xs_NoMoment_NoMoment => k_is)
    (case xs_NoClock_NoMoment => k_is)
    (case xs_NoSpans_NoMoment => k_is)
    (case xs_NoReading_NoMoment => k_is)
    (case xs_NoPoint_NoMoment => k_is)
    (case xs_NothingLeft_NoMoment => k_is)
    (case xn_NoClock => k_is)
    (case xs_NoEvent_NoClock => k_is)
    (case xs_NoSource_NoClock => k_is)
    (case xs_NoStation_NoClock => k_is)
    (case xs_NoOperation_NoClock => k_is)
    (case xs_TooMany_NoClock => k_is)
    (case xs_InvalidText_NoClock => k_is)
    (case xs_NoNetwork_NoClock => k_is)
    (case xs_NoMoment_NoClock => k_is)
    (case xs_NoClock_NoClock => k_is)
    (case xs_NoSpans_NoClock => k_is)
    (case xs_NoReading_NoClock => k_is)
    (case xs_NoPoint_NoClock => k_is)
    (case xs_NothingLeft_NoClock => k_is)
    (case xn_NoSpans => k_is)
    (case xs_NoEvent_NoSpans => k_is)
    (case xs_NoSource_NoSpans => k_is)
    (case xs_NoStation_NoSpans => k_is)
    (case xs_NoOperation_NoSpans => k_is)
    (case xs_TooMany_NoSpans => k_is)
    (case xs_InvalidText_NoSpans => k_is)
    (case xs_NoNetwork_NoSpans => k_is)
    (case xs_NoMoment_NoSpans => k_is)
    (case xs_NoClock_NoSpans => k_is)
    (case xs_NoSpans_NoSpans => k_is)
    (case xs_NoReading_NoSpans => k_is)
    (case xs_NoPoint_NoSpans => k_is)
    (case xs_NothingLeft_NoSpans => k_is)
    (case xn_NoReading => k_is)
    (case xs_NoEvent_NoReading => k_is)
    (case xs_NoSource_NoReading => k_is)
    (case xs_NoStation_NoReading => k_is)
    (case xs_NoOperation_NoReading => k_is)
    (case xs_TooMany_NoReading => k_is)
    (case xs_InvalidText_NoReading => k_is)
    (case xs_NoNetwork_NoReading => k_is)
    (case xs_NoMoment_NoReading => k_is)
    (case xs_NoClock_NoReading => k_is)
    (case xs_NoSpans_NoReading => k_is)
    (case xs_NoReading_NoReading => k_is)
    (case xs_NoPoint_NoReading => k_is)
    (case xs_NothingLeft_NoReading => k_is)
    (case xn_NoPoint => k_is)
    (case xs_NoEvent_NoPoint => k_is)
    (case xs_NoSource_NoPoint => k_is)
    (case xs_NoStation_NoPoint => k_is)
    (case xs_NoOperation_NoPoint => k_is)
    (case xs_TooMany_NoPoint => k_is)
    (case xs_InvalidText_NoPoint => k_is)
    (case xs_NoNetwork_NoPoint => k_is)
    (case xs_NoMoment_NoPoint => k_is)
    (case xs_NoClock_NoPoint => k_is)
    (case xs_NoSpans_NoPoint => k_is)
    (case xs_NoReading_NoPoint => k_is)
    (case xs_NoPoint_NoPoint => k_is)
    (case xs_NothingLeft_NoPoint => k_is)
    (case xn_NothingLeft => k_is)
    (case xs_NoEvent_NothingLeft => k_is)
    (case xs_NoSource_NothingLeft => k_is)
    (case xs_NoStation_NothingLeft => k_is)
    (case xs_NoOperation_NothingLeft => k_is)
    (case xs_TooMany_NothingLeft => k_is)
    (case xs_InvalidText_NothingLeft => k_is)
    (case xs_NoNetwork_NothingLeft => k_is)
    (case xs_NoMoment_NothingLeft => k_is)
    (case xs_NoClock_NothingLeft => k_is)
    (case xs_NoSpans_NothingLeft => k_is)
    (case xs_NoReading_NothingLeft => k_is)
    (case xs_NoPoint_NothingLeft => k_is)
    (case xs_NothingLeft_NothingLeft => k_is)
    (case xsa_NoEvent => k_is)
    (case xin_NoEvent => k_is)
    (case xti_NoEvent => k_is)
    (case xno_NoEvent => k_is)
    (case xiv_NoEvent => k_is)
    (case xow_NoEvent => k_is)
    (case xsa_NoSource => k_is)
    (case xin_NoSource => k_is)
    (case xti_NoSource => k_is)
    (case xno_NoSource => k_is)
    (case xiv_NoSource => k_is)
    (case xow_NoSource => k_is)
    (case xsa_NoStation => k_is)
    (case xin_NoStation => k_is)
    (case xti_NoStation => k_is)
    (case xno_NoStation => k_is)
    (case xiv_NoStation => k_is)
    (case xow_NoStation => k_is)
    (case xsa_NoOperation => k_is)
    (case xin_NoOperation => k_is)
    (case xti_NoOperation => k_is)
    (case xno_NoOperation => k_is)
    (case xiv_NoOperation => k_is)
    (case xow_NoOperation => k_is)
    (case xsa_TooMany => k_is)
    (case xin_TooMany => k_is)
    (case xti_TooMany => k_is)
    (case xno_TooMany => k_is)
    (case xiv_TooMany => k_is)
    (case xow_TooMany => k_is)
    (case xsa_InvalidText => k_is)
    (case xin_InvalidText => k_is)
    (case xti_InvalidText => k_is)
    (case xno_InvalidText => k_is)
    (case xiv_InvalidText => k_is)
    (case xow_InvalidText => k_is)
    (case xvn => k_is)
    (case xiv_NoNetwork => k_is)
    (case xiv_NoMoment => k_is)
    (case xiv_NoClock => k_is)
    (case xiv_NoSpans => k_is)
    (case xiv_NoReading => k_is)
    (case xiv_NoPoint => k_is)
    (case xiv_NothingLeft => k_is)
    (case tt_law => exact DL.tabIn_by (by k_is) (by k_is) (by rfl) (by k_is) (by rfl))
    (case nn_law => kernel_rfl)
    (case rr_law => decide +kernel)
    (case at_law_begin => k_is)
    (case at_law_take => k_is)
    (case at_law_pick => k_is)
    (case at_law_caught => k_is)
    (case at_law_raised => k_is)
    (case at_law_field => k_is)
    (case at_law => k_is)
    (case l_xNoEvent => k_is)
    (case l_yNoEvent => k_is)
    (case l_zNoEvent => k_is)
    (case l_wNoEvent => k_is)
    (case l_xNoSource => k_is)
    (case l_yNoSource => k_is)
    (case l_zNoSource => k_is)
    (case l_wNoSource => k_is)
    (case l_xNoStation => k_is)
    (case l_yNoStation => k_is)
    (case l_zNoStation => k_is)
    (case l_wNoStation => k_is)
    (case l_xNoOperation => k_is)
    (case l_yNoOperation => k_is)
    (case l_zNoOperation => k_is)
    (case l_wNoOperation => k_is)
    (case l_xTooMany => k_is)
    (case l_yTooMany => k_is)
    (case l_zTooMany => k_is)
    (case l_wTooMany => k_is)
    (case l_xInvalidText => k_is)
    (case l_yInvalidText => k_is)
    (case l_zInvalidText => k_is)
    (case l_wInvalidText => k_is)
    (case l_law_begin => k_is)
    (case l_law_take => k_is)
    (case l_law_pick => k_is)
    (case l_law_caught => k_is)
    (case l_law_raised => k_is)
    (case l_law_field => k_is)
    (case l_law => k_is)
    (case ne_x0_1 => decide)
    (case ne_x0_2 => decide)
    (case ne_x0_3 => decide)
    (case ne_x0_4 => decide)
    (case ne_x0_5 => decide)
    (case ne_x0_6 => decide)
    (case ne_x0_7 => decide)
    (case ne_x0_8 => decide)
    (case ne_x0_9 => decide)
    (case ne_x0_10 => decide)
    (case ne_x0_11 => decide)
    (case ne_x0_12 => decide)
    (case ne_x0_13 => decide)
    (case ne_x1_2 => decide)
    (case ne_x1_3 => decide)
    (case ne_x1_4 => decide)
    (case ne_x1_5 => decide)
    (case ne_x1_6 => decide)
    (case ne_x1_7 => decide)
    (case ne_x1_8 => decide)
    (case ne_x1_9 => decide)
    (case ne_x1_10 => decide)
    (case ne_x1_11 => decide)
    (case ne_x1_12 => decide)
    (case ne_x1_13 => decide)
    (case ne_x2_3 => decide)
    (case ne_x2_4 => decide)
    (case ne_x2_5 => decide)
    (case ne_x2_6 => decide)
    (case ne_x2_7 => decide)
    (case ne_x2_8 => decide)
    (case ne_x2_9 => decide)
    (case ne_x2_10 => decide)
    (case ne_x2_11 => decide)
    (case ne_x2_12 => decide)
    (case ne_x2_13 => decide)
    (case ne_x3_4 => decide)
    (case ne_x3_5 => decide)
    (case ne_x3_6 => decide)
    (case ne_x3_7 => decide)
    (case ne_x3_8 => decide)
    (case ne_x3_9 => decide)
    (case ne_x3_10 => decide)
    (case ne_x3_11 => decide)
    (case ne_x3_12 => decide)
    (case ne_x3_13 => decide)
    (case ne_x4_5 => decide)
    (case ne_x4_6 => decide)
    (case ne_x4_7 => decide)
    (case ne_x4_8 => decide)
    (case ne_x4_9 => decide)
    (case ne_x4_10 => decide)
    (case ne_x4_11 => decide)
    (case ne_x4_12 => decide)
    (case ne_x4_13 => decide)
    (case ne_x5_6 => decide)
    (case ne_x5_7 => decide)
    (case ne_x5_8 => decide)
    (case ne_x5_9 => decide)
    (case ne_x5_10 => decide)
    (case ne_x5_11 => decide)
    (case ne_x5_12 => decide)
    (case ne_x5_13 => decide)
    (case ne_x6_7 => decide)
    (case ne_x6_8 => decide)
    (case ne_x6_9 => decide)
    (case ne_x6_10 => decide)
    (case ne_x6_11 => decide)
    (case ne_x6_12 => decide)
    (case ne_x6_13 => decide)
    (case ne_x7_8 => decide)
    (case ne_x7_9 => decide)
    (case ne_x7_10 => decide)
    (case ne_x7_11 => decide)
    (case ne_x7_12 => decide)
    (case ne_x7_13 => decide)
    (case ne_x8_9 => decide)
    (case ne_x8_10 => decide)
    (case ne_x8_11 => decide)
    (case ne_x8_12 => decide)
    (case ne_x8_13 => decide)
    (case ne_x9_10 => decide)
    (case ne_x9_11 => decide)
    (case ne_x9_12 => decide)
    (case ne_x9_13 => decide)
    (case ne_x10_11 => decide)
    (case ne_x10_12 => decide)
    (case ne_x10_13 => decide)
    (case ne_x11_12 => decide)
    (case ne_x11_13 => decide)
    (case ne_x12_13 => decide)
    (case ytop => decide +kernel)
    (case yopq => k_is)
    (case yv_NoEvent => decide +kernel)
    (case ysup_NoEvent => kernel_rfl)
    (case yvs_NoEvent => rfl)
    (case yfi_NoEvent => decide +kernel)
    (case yv_NoSource => decide +kernel)
    (case ysup_NoSource => kernel_rfl)
    (case yvs_NoSource => rfl)
    (case yfi_NoSource => decide +kernel)
    (case yv_NoStation => decide +kernel)
    (case ysup_NoStation => kernel_rfl)
    (case yvs_NoStation => rfl)
    (case yfi_NoStation => decide +kernel)
    (case yv_NoOperation => decide +kernel)
    (case ysup_NoOperation => kernel_rfl)
    (case yvs_NoOperation => rfl)
    (case yfi_NoOperation => decide +kernel)
    (case yv_TooMany => decide +kernel)
    (case ysup_TooMany => kernel_rfl)
    (case yvs_TooMany => rfl)
    (case yfi_TooMany => decide +kernel)
    (case yv_InvalidText => decide +kernel)
    (case ysup_InvalidText => kernel_rfl)
    (case yvs_InvalidText => rfl)
    (case yfi_InvalidText => decide +kernel)
    (case cc_xNoEvent => k_is)
    (case cc_xNoSource => k_is)
    (case cc_xNoStation => k_is)
    (case cc_xNoOperation => k_is)
    (case cc_xTooMany => k_is)
    (case cc_xInvalidText => k_is)
    (case cc_law_begin => k_is)
    (case kp_law_begin => k_is)
    (case cc_law_take => k_is)
    (case kp_law_take => k_is)
    (case cc_law_pick => k_is)
    (case kp_law_pick => k_is)
    (case cc_law_caught => k_is)
    (case kp_law_caught => k_is)
    (case cc_law_raised => k_is)
    (case kp_law_raised => k_is)
    (case cc_law_field => k_is)
    (case kp_law_field => k_is)
    (case cc_law => k_is)
    (case kp_law => k_is)
