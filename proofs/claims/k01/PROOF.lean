import PyProof.Rows.All
import Wide.All
import OpenK.AllK
import Wide.FinOn
import HandS.Base
import HandS.Call
import HandS.List
import HandS.Comp
import HandS.Words
import HandS.Wide
import HandS.Iter
import HandS.Flow
import HandS.SortInts
import HandS.Zip
import HandS.Defaults
import HandS.WordsExc
import HandS.IsInst
import HandS.Style
import HandS.Property
import HandS.HeadHook2
import HandS.Dict
import HandS.DictComp
import PyProof.ZipIter
import HandS.Star
import HandS.Zip0
import KE.KDictZip
import HandS.Slots
import HandS.SlotsOwn
import HandS.TryOnly
import PyProof.ReprRoads
import PyProof.ReprLen
import HandS.EndBits
import HandS.Head2
import HandS.HeadHook4
import HandS.HeadEnd
import HandS.HeadNt
import HandS.Conv
import PyProof.Rows.ChunkEnd
import HandS.OwnEq
import KE.KExcSuper
import HandS.ExcInit
import HandS.ExcSuper
import HandS.ExcOwn
import HandS.ExcValue
import HandS.ExcField
import HandS.ExcIs
import HandS.MakeKw
import KE.KExcIs
import PyProof.StrBlock2
import PySem.Challenge.RW_slideplates_k01_errors_made
set_option Elab.async false
set_option linter.all false
set_option maxRecDepth 100000
set_option maxHeartbeats 0
namespace SP
open PySem L2
abbrev Frag := PySem.W.Frag
class Py (α : Type) where
  rep : Frag → Hp → V → α → Prop
  mono : ∀ {K : Frag} {F F' : Hp} {v : V} {d : α}, Same F F' → rep K F v d → rep K F' v d
abbrev Reps {α : Type} [Py α] (K : Frag) (F : Hp) : List V → List α → Prop := Paired (Py.rep K F)
theorem Reps.mono {α : Type} [Py α] {K : Frag} {F F' : Hp} (e : Same F F') : ∀ {vs : List V} {ds : List α}, Reps K F vs ds → Reps K F' vs ds
  | _, _, .nil => .nil
  | _, _, .cons h t => .cons (Py.mono e h) (Reps.mono e t)
theorem Reps.get {α : Type} [Py α] {K : Frag} {F : Hp} : ∀ {vs : List V} {ds : List α} {i : Nat} {v : V}, Reps K F vs ds → vs[i]? = some v → ∃ d, ds[i]? = some d ∧ Py.rep K F v d
  | _, _, _, _, .nil, e => by simp at e
  | _, _, 0, _, .cons h _, e => by simp at e; subst e; exact ⟨_, rfl, h⟩
  | _, _, i + 1, v, .cons _ t, e => by
    obtain ⟨d, h1, h2⟩ := Reps.get (i := i) (v := v) t (by simpa using e)
    exact ⟨d, by simpa using h1, h2⟩
theorem Reps.getD {α : Type} [Py α] {K : Frag} {F : Hp} : ∀ {vs : List V} {ds : List α} {i : Nat} {d : α}, Reps K F vs ds → ds[i]? = some d → ∃ v, vs[i]? = some v ∧ Py.rep K F v d
  | _, _, _, _, .nil, e => by simp at e
  | _, _, 0, _, .cons h _, e => by simp at e; subst e; exact ⟨_, rfl, h⟩
  | _, _, i + 1, d, .cons _ t, e => by
    obtain ⟨v, h1, h2⟩ := Reps.getD (i := i) (d := d) t (by simpa using e)
    exact ⟨v, by simpa using h1, h2⟩
theorem Reps.len {α : Type} [Py α] {K : Frag} {F : Hp} {vs : List V} {ds : List α} (h : Reps K F vs ds) : vs.length = ds.length := Paired.length h
theorem Reps.app {α : Type} [Py α] {K : Frag} {F : Hp} : ∀ {vs ws : List V} {ds es : List α}, Reps K F vs ds → Reps K F ws es → Reps K F (vs ++ ws) (ds ++ es)
  | _, _, _, _, .nil, s => s
  | _, _, _, _, .cons r t, s => .cons r (Reps.app t s)
theorem Reps.take {α : Type} [Py α] {K : Frag} {F : Hp} : ∀ {vs : List V} {ds : List α} (n : Nat), Reps K F vs ds → Reps K F (vs.take n) (ds.take n)
  | _, _, 0, _ => .nil
  | _, _, _ + 1, .nil => .nil
  | _, _, n + 1, .cons r t => .cons r (Reps.take n t)
theorem Reps.drop {α : Type} [Py α] {K : Frag} {F : Hp} : ∀ {vs : List V} {ds : List α} (n : Nat), Reps K F vs ds → Reps K F (vs.drop n) (ds.drop n)
  | _, _, 0, r => r
  | _, _, _ + 1, .nil => .nil
  | _, _, n + 1, .cons _ t => Reps.drop n t
theorem Reps.set {α : Type} [Py α] {K : Frag} {F : Hp} {v : V} {d : α} (r : Py.rep K F v d) : ∀ {vs : List V} {ds : List α} (i : Nat), Reps K F vs ds → Reps K F (vs.set i v) (ds.set i d)
  | _, _, _, .nil => .nil
  | _, _, 0, .cons _ t => .cons r t
  | _, _, i + 1, .cons q t => .cons q (Reps.set r i t)
theorem seqT_mono {K : Frag} {F F' : Hp} {a : Addr} {xs : List V} (e : Same F F') (h : SqT K F a xs) : SqT K F' a xs := by
  rcases h with (h | ⟨o, h⟩) | h
  · exact .inl (.inl (e _ _ h))
  · exact .inl (.inr ⟨o, e _ _ h⟩)
  · exact .inr h
instance : Py Int where
  rep _ _ v d := v = .int d
  mono _ h := h
instance : Py Bool where
  rep _ _ v d := v = .bl d
  mono _ h := h
instance : Py Str where
  rep _ _ v d := v = .str d
  mono _ h := h
instance : Py Unit where
  rep _ _ v _ := v = .non
  mono _ h := h
instance {α β : Type} [Py α] [Py β] : Py (α × β) where
  rep K F v d := ∃ p x y, v = .ref p ∧ SqT K F p [x, y] ∧ Py.rep K F x d.1 ∧ Py.rep K F y d.2
  mono e := fun ⟨p, x, y, h0, h1, h2, h3⟩ => ⟨p, x, y, h0, seqT_mono e h1, Py.mono e h2, Py.mono e h3⟩
structure T3 (α β γ : Type) where
  a : α
  b : β
  c : γ
  deriving DecidableEq
structure T4 (α β γ δ : Type) where
  a : α
  b : β
  c : γ
  d : δ
  deriving DecidableEq
instance {α β γ : Type} [Py α] [Py β] [Py γ] : Py (T3 α β γ) where
  rep K F v d := ∃ p x y z, v = .ref p ∧ SqT K F p [x, y, z] ∧ Py.rep K F x d.a ∧ Py.rep K F y d.b ∧ Py.rep K F z d.c
  mono e := fun ⟨p, x, y, z, h0, h1, h2, h3, h4⟩ => ⟨p, x, y, z, h0, seqT_mono e h1, Py.mono e h2, Py.mono e h3, Py.mono e h4⟩
instance {α β γ δ : Type} [Py α] [Py β] [Py γ] [Py δ] : Py (T4 α β γ δ) where
  rep K F v d := ∃ p x y z u, v = .ref p ∧ SqT K F p [x, y, z, u] ∧ Py.rep K F x d.a ∧ Py.rep K F y d.b ∧ Py.rep K F z d.c ∧ Py.rep K F u d.d
  mono e := fun ⟨p, x, y, z, u, h0, h1, h2, h3, h4, h5⟩ => ⟨p, x, y, z, u, h0, seqT_mono e h1, Py.mono e h2, Py.mono e h3, Py.mono e h4, Py.mono e h5⟩
structure Tup (α : Type) where
  l : List α
  deriving DecidableEq
instance {α : Type} [Py α] : Py (Tup α) where
  rep K F v d := ∃ p vs, v = .ref p ∧ SqT K F p vs ∧ Reps K F vs d.l
  mono e := fun ⟨p, vs, h0, h1, h2⟩ => ⟨p, vs, h0, seqT_mono e h1, h2.mono e⟩
instance {α : Type} [Py α] : Py (List α) where
  rep K F v d := ∃ p vs, v = .ref p ∧ F p = some (.lst vs) ∧ Reps K F vs d
  mono e := fun ⟨p, vs, h0, h1, h2⟩ => ⟨p, vs, h0, e _ _ h1, h2.mono e⟩
instance {α : Type} [Py α] : Py (Option α) where
  rep K F v d := match d with
    | none => v = .non
    | some x => Py.rep K F v x
  mono {K F F' v d} e h := by
    cases d with
    | none => exact h
    | some x => exact Py.mono (α := α) e h
inductive Fl (β ρ : Type) where
  | nx (b : β)
  | rt (r : ρ)
class PyM (M : Type → Type) (S : outParam Type) extends Monad M where
  run : {α : Type} → M α → S → Option (α × S)
  run_pure : ∀ {α : Type} (a : α) (s : S), run (pure a) s = some (a, s)
  run_bind : ∀ {α β : Type} (m : M α) (f : α → M β) (s : S), run (m >>= f) s = (run m s).bind fun p => run (f p.1) p.2
  up : {α : Type} → Option α → M α
  run_up : ∀ {α : Type} (m : Option α) (s : S), run (up m) s = m.map fun a => (a, s)
instance instOpt : PyM Option Unit where
  run m s := m.map fun a => (a, s)
  run_pure _ _ := rfl
  run_bind m f s := by cases m <;> rfl
  up m := m
  run_up _ _ := rfl
abbrev Stm (S : Type) : Type → Type := StateT S Option
instance instStm {S : Type} : PyM (Stm S) S where
  run m s := m s
  run_pure _ _ := rfl
  run_bind m f s := by
    show (m s >>= fun p => f p.1 p.2) = _
    cases m s <;> rfl
  up m := fun s => m.map fun a => (a, s)
  run_up _ _ := rfl
section
variable {M : Type → Type} {S : Type} [PyM M S] {α β γ : Type}
theorem bindE {m : M α} {f : α → M β} {s : S} {r : β × S} (h : PyM.run (m >>= f) s = some r) : ∃ a s1, PyM.run m s = some (a, s1) ∧ PyM.run (f a) s1 = some r := by
  rw [PyM.run_bind] at h
  cases e : PyM.run m s with
  | none => rw [e] at h; cases h
  | some p =>
    obtain ⟨a, s1⟩ := p
    rw [e] at h
    exact ⟨a, s1, rfl, h⟩
theorem upE {m : Option α} {f : α → M β} {s : S} {r : β × S} (h : PyM.run (PyM.up m >>= f) s = some r) : ∃ a, m = some a ∧ PyM.run (f a) s = some r := by
  obtain ⟨a, s1, h1, h2⟩ := bindE h
  rw [PyM.run_up] at h1
  cases m with
  | none => cases h1
  | some b =>
    have e : (b, s) = (a, s1) := Option.some.inj h1
    injection e with e1 e2
    subst e1 e2
    exact ⟨b, rfl, h2⟩
theorem pureE {a r : α} {s s2 : S} (h : PyM.run (pure a : M α) s = some (r, s2)) : a = r ∧ s = s2 := by
  rw [PyM.run_pure] at h
  injection h with h
  injection h with h1 h2
  exact ⟨h1, h2⟩
end
structure Step (ex : Addr → Prop) (F H F' H' : Hp) : Prop where
  ff : Same F F'
  hh : ∀ a o, ¬ ex a → H a = some o → H' a = some o
  fh : Same F' H'
  nw : ∀ a, F' a = F a ∨ H a = none
  al : ∀ a, H' a = none → H a = none
abbrev no : Addr → Prop := fun _ => False
theorem Step.rfl {ex : Addr → Prop} {F H : Hp} (h : Same F H) : Step ex F H F H := ⟨Same.refl F, fun _ _ _ e => e, h, fun _ => .inl _root_.rfl, fun _ e => e⟩
theorem Step.trans {ex : Addr → Prop} {F H F1 H1 F2 H2 : Hp} (a : Step ex F H F1 H1) (b : Step ex F1 H1 F2 H2) : Step ex F H F2 H2 where
  ff := a.ff.trans b.ff
  hh := fun x o n e => b.hh x o n (a.hh x o n e)
  fh := b.fh
  nw := fun x => by
    rcases b.nw x with e | e
    · rw [e]; exact a.nw x
    · exact .inr (a.al x e)
  al := fun x e => a.al x (b.al x e)
theorem Step.wide {ex ex' : Addr → Prop} {F H F' H' : Hp} (a : Step ex F H F' H') (h : ∀ x, ex x → ex' x) : Step ex' F H F' H' :=
  ⟨a.ff, fun x o n e => a.hh x o (fun z => n (h x z)) e, a.fh, a.nw, a.al⟩
theorem Step.same {F H F' H' : Hp} (a : Step no F H F' H') : Same H H' := fun x o e => a.hh x o (fun z => z) e
theorem same_upd {H : Hp} {p : Addr} {o : HO} (h : H p = none) : Same H (upd H p o) := fun b x e => by
  rw [upd_ne (ne_of_none e h)]
  exact e
theorem Step.new {ex : Addr → Prop} {F H : Hp} {p : Addr} {o : HO} (e : Same F H) (h : H p = none) : Step ex F H (upd F p o) (upd H p o) where
  ff := same_upd (e.free h)
  hh := fun a u _ q => same_upd h a u q
  fh := fun a u q => by
    by_cases ha : a = p
    · subst ha; rw [upd_same] at q; rw [upd_same]; exact q
    · rw [upd_ne ha] at q; rw [upd_ne ha]; exact e a u q
  nw := fun a => by
    by_cases ha : a = p
    · subst ha; exact .inr h
    · exact .inl (upd_ne ha)
  al := fun a q => by
    by_cases ha : a = p
    · subst ha; exact h
    · rw [upd_ne ha] at q; exact q
theorem Step.newC {ex : Addr → Prop} {F H : Hp} {p : Addr} {o : HO} (e : Same F H) (h : H p = none) : Step ex F H F (upd H p o) where
  ff := Same.refl F
  hh := fun a u _ q => same_upd h a u q
  fh := e.trans (same_upd h)
  nw := fun a => .inl _root_.rfl
  al := fun a q => by
    by_cases ha : a = p
    · subst ha; exact h
    · rw [upd_ne ha] at q; exact q
inductive Ent where
    | im (r : Hp → V → Prop) (m : ∀ F F' v, Same F F' → r F v → r F' v)
    | ce (c : Hp → Addr → HO → Prop) (m : ∀ F F' p o, Same F F' → c F p o → c F' p o)
abbrev Env := List (Option Ent)
structure Base (S : Type) where
  F0 : Hp
  H0 : Hp
  ex : Addr → Prop
  st : S → Hp → Hp → Prop
  st_step : ∀ {s F H F' H'}, Step no F H F' H' → st s F H → st s F' H'
  st_own : ∀ {s F H p o}, H0 p = none → st s F H → st s F (upd H p o)
  st_frz : ∀ {s F H p o}, H0 p = none → F p = none → H p = some o → st s F H → st s (upd F p o) H
  ex0 : ∀ a, ex a → H0 a ≠ none
def Ent.ok {S : Type} (B : Base S) (F H : Hp) (v : V) : Ent → Prop
  | .im r _ => r F v
  | .ce c _ => ∃ p, v = .ref p ∧ F p = none ∧ B.H0 p = none ∧ ∃ o, H p = some o ∧ c F p o
structure Ok {S : Type} (B : Base S) (s : S) (Γ : Env) (σ : L2.St) (F H : Hp) : Prop where
  g : Step B.ex B.F0 B.H0 F H
  st : B.st s F H
  ev : ∀ (i : Nat) e, Γ[i]? = some (some e) → ∃ v, σ[i]? = some (some v) ∧ e.ok B F H v
  nd : ∀ (i j : Nat) c m c' m' p, i ≠ j → Γ[i]? = some (some (Ent.ce c m)) → Γ[j]? = some (some (Ent.ce c' m')) → σ[i]? = some (some (.ref p)) → σ[j]? = some (some (.ref p)) → False
  ln : Γ.length ≤ σ.length
section
variable {S : Type} {B : Base S} {s : S} {Γ : Env} {σ : L2.St} {F H F' H' : Hp}
theorem Ent.ok_step {e : Ent} {v : V} (w : Step no F H F' H') (h : e.ok B F H v) : e.ok B F' H' v := by
  cases e with
  | im r m => exact m _ _ _ w.ff h
  | ce c m =>
    obtain ⟨p, h0, h1, h2, o, h3, h4⟩ := h
    refine ⟨p, h0, ?_, h2, o, w.same _ _ h3, m _ _ _ _ w.ff h4⟩
    rcases w.nw p with z | z
    · rw [z]; exact h1
    · rw [z] at h3; cases h3
theorem Ok.fh (k : Ok B s Γ σ F H) : Same F H := k.g.fh
theorem Ok.step (k : Ok B s Γ σ F H) (w : Step no F H F' H') : Ok B s Γ σ F' H' where
  g := k.g.trans (w.wide fun _ z => z.elim)
  st := B.st_step w k.st
  ev := fun i e h => by
    obtain ⟨v, h1, h2⟩ := k.ev i e h
    exact ⟨v, h1, Ent.ok_step (e := e) w h2⟩
  nd := k.nd
  ln := k.ln
theorem Ok.own (k : Ok B s Γ σ F H) {p : Addr} (h : H p = none) : B.H0 p = none := k.g.al p h
theorem Ok.weak {Γ' : Env} (k : Ok B s Γ σ F H) (hl : Γ'.length ≤ Γ.length) (w : ∀ (i : Nat) e, Γ'[i]? = some (some e) → Γ[i]? = some (some e)) : Ok B s Γ' σ F H :=
  ⟨k.g, k.st, fun i e h => k.ev i e (w i e h), fun i j c m c' m' p n h1 h2 => k.nd i j c m c' m' p n (w _ _ h1) (w _ _ h2), Nat.le_trans hl k.ln⟩
theorem getSet {α : Type} {l : List α} {i j : Nat} {x y : α} (h : (l.set i x)[j]? = some y) : (i = j ∧ x = y ∧ i < l.length) ∨ (i ≠ j ∧ l[j]? = some y) := by
  by_cases e : i = j
  · subst e
    by_cases hl : i < l.length
    · rw [List.getElem?_set_self hl] at h
      exact .inl ⟨rfl, Option.some.inj h, hl⟩
    · rw [List.getElem?_eq_none (by simpa using hl)] at h
      cases h
  · rw [List.getElem?_set_ne e] at h
    exact .inr ⟨e, h⟩
theorem Ok.set (k : Ok B s Γ σ F H) {i : Nat} {v : V} {e : Ent} (he : e.ok B F H v) (hd : ∀ c m, e = Ent.ce c m → ∀ (j : Nat) c' m', Γ[j]? = some (some (Ent.ce c' m')) → σ[j]? ≠ some (some v)) : Ok B s (Γ.set i (some e)) (σ.set i (some v)) F H where
  g := k.g
  st := k.st
  ev := fun j e' h => by
    rcases getSet h with ⟨rfl, e1, hl⟩ | ⟨ne, h⟩
    · have e2 : e = e' := Option.some.inj e1
      subst e2
      exact ⟨v, List.getElem?_set_self (Nat.lt_of_lt_of_le hl k.ln), he⟩
    · obtain ⟨u, h1, h2⟩ := k.ev j e' h
      exact ⟨u, by rw [List.getElem?_set_ne ne]; exact h1, h2⟩
  nd := fun j l c m c' m' p n h1 h2 g1 g2 => by
    rcases getSet h1 with ⟨rfl, e1, hl⟩ | ⟨ne, h1⟩
    · rcases getSet h2 with ⟨rfl, _, _⟩ | ⟨ne2, h2⟩
      · exact absurd rfl n
      · rw [List.getElem?_set_self (Nat.lt_of_lt_of_le hl k.ln)] at g1
        rw [List.getElem?_set_ne ne2] at g2
        have ev : v = .ref p := Option.some.inj (Option.some.inj g1)
        exact hd c m (Option.some.inj e1) l c' m' h2 (by rw [ev]; exact g2)
    · rcases getSet h2 with ⟨rfl, e1, hl⟩ | ⟨ne2, h2⟩
      · rw [List.getElem?_set_self (Nat.lt_of_lt_of_le hl k.ln)] at g2
        rw [List.getElem?_set_ne ne] at g1
        have ev : v = .ref p := Option.some.inj (Option.some.inj g2)
        exact hd c' m' (Option.some.inj e1) j c m h1 (by rw [ev]; exact g1)
      · rw [List.getElem?_set_ne ne] at g1
        rw [List.getElem?_set_ne ne2] at g2
        exact k.nd j l c m c' m' p n h1 h2 g1 g2
  ln := by rw [List.length_set, List.length_set]; exact k.ln
theorem Ok.setIm (k : Ok B s Γ σ F H) {i : Nat} {v : V} {r : Hp → V → Prop} {m} (h : r F v) : Ok B s (Γ.set i (some (Ent.im r m))) (σ.set i (some v)) F H := k.set h fun _ _ z => by cases z
theorem Ok.drop (k : Ok B s Γ σ F H) {i : Nat} {x : Option V} : Ok B s (Γ.set i none) (σ.set i x) F H where
  g := k.g
  st := k.st
  ev := fun j e' h => by
    rcases getSet h with ⟨rfl, e1, hl⟩ | ⟨ne, h⟩
    · cases e1
    · obtain ⟨u, h1, h2⟩ := k.ev j e' h
      exact ⟨u, by rw [List.getElem?_set_ne ne]; exact h1, h2⟩
  nd := fun j l c m c' m' p n h1 h2 g1 g2 => by
    rcases getSet h1 with ⟨rfl, e1, _⟩ | ⟨ne, h1⟩
    · cases e1
    · rcases getSet h2 with ⟨rfl, e1, _⟩ | ⟨ne2, h2⟩
      · cases e1
      · rw [List.getElem?_set_ne ne] at g1
        rw [List.getElem?_set_ne ne2] at g2
        exact k.nd j l c m c' m' p n h1 h2 g1 g2
  ln := by rw [List.length_set, List.length_set]; exact k.ln
theorem Ok.cell (k : Ok B s Γ σ F H) {i : Nat} {c : Hp → Addr → HO → Prop} {m} (hi : Γ[i]? = some (some (Ent.ce c m))) :
    ∃ p o, σ[i]? = some (some (.ref p)) ∧ F p = none ∧ B.H0 p = none ∧ H p = some o ∧ c F p o := by
  obtain ⟨v, hv, p, hv0, hF, h0, o1, hH, hc⟩ := k.ev i _ hi
  exact ⟨p, o1, by rw [hv, hv0], hF, h0, hH, hc⟩
theorem Ok.apart (k : Ok B s Γ σ F H) {i j : Nat} {c c' : Hp → Addr → HO → Prop} {m m'} {p q : Addr} (n : i ≠ j) (hi : Γ[i]? = some (some (Ent.ce c m))) (hj : Γ[j]? = some (some (Ent.ce c' m'))) (hp : σ[i]? = some (some (.ref p))) (hq : σ[j]? = some (some (.ref q))) : p ≠ q := fun z => by
  subst z
  exact k.nd i j c m c' m' p n hi hj hp hq
theorem Ok.mut (k : Ok B s Γ σ F H) {i : Nat} {p : Addr} {c c' : Hp → Addr → HO → Prop} {m m'} {o : HO} (hi : Γ[i]? = some (some (Ent.ce c m))) (hp : σ[i]? = some (some (.ref p))) (ho : c' F p o) : Ok B s (Γ.set i (some (Ent.ce c' m'))) σ F (upd H p o) := by
  obtain ⟨p', o1, hv, hF, h0, hH, hc⟩ := k.cell hi
  have e : V.ref p' = V.ref p := Option.some.inj (Option.some.inj (hv.symm.trans hp))
  cases e
  have hil : i < Γ.length := (List.getElem?_eq_some_iff.mp hi).1
  refine ⟨⟨k.g.ff, fun a u n q => ?_, fun a u q => ?_, k.g.nw, fun a q => ?_⟩, B.st_own h0 k.st, fun j e h => ?_, fun j l c1 m1 c2 m2 q n h1 h2 => ?_, by rw [List.length_set]; exact k.ln⟩
  · rw [upd_ne (ne_of_none q h0)]; exact k.g.hh a u n q
  · rw [upd_ne (ne_of_none q hF)]; exact k.g.fh a u q
  · by_cases ha : a = p
    · subst ha; exact h0
    · rw [upd_ne ha] at q; exact k.g.al a q
  · rcases getSet h with ⟨rfl, e1, hl⟩ | ⟨ne, h⟩
    · have e2 := Option.some.inj e1
      subst e2
      exact ⟨_, hp, p, rfl, hF, h0, o, upd_same, ho⟩
    · obtain ⟨u, h1, h2⟩ := k.ev j e h
      refine ⟨u, h1, ?_⟩
      cases e with
      | im r mm => exact h2
      | ce c2 m2 =>
        obtain ⟨q, g0, g1, g2, o2, g3, g4⟩ := h2
        have npq : p ≠ q := k.apart ne hi h hp (by rw [h1, g0])
        exact ⟨q, g0, g1, g2, o2, by rw [upd_ne npq.symm]; exact g3, g4⟩
  · rcases getSet h1 with ⟨rfl, e1, _⟩ | ⟨ne, h1⟩
    · rcases getSet h2 with ⟨rfl, _, _⟩ | ⟨ne2, h2⟩
      · exact absurd rfl n
      · exact k.nd i l c m c2 m2 q ne2 hi h2
    · rcases getSet h2 with ⟨rfl, e1, _⟩ | ⟨ne2, h2⟩
      · exact k.nd j i c1 m1 c m q n h1 hi
      · exact k.nd j l c1 m1 c2 m2 q n h1 h2
theorem Ok.frz (k : Ok B s Γ σ F H) {i : Nat} {c : Hp → Addr → HO → Prop} {m} {r : Hp → V → Prop} {m'} (hi : Γ[i]? = some (some (Ent.ce c m))) (hr : ∀ p o, F p = none → c F p o → r (upd F p o) (.ref p)) :
    ∃ F', Same F F' ∧ Ok B s (Γ.set i (some (Ent.im r m'))) σ F' H := by
  obtain ⟨p, o1, hv, hF, h0, hH, hc⟩ := k.cell hi
  have sm : Same F (upd F p o1) := same_upd hF
  refine ⟨upd F p o1, sm, ⟨k.g.ff.trans sm, k.g.hh, fun a u q => ?_, fun a => ?_, k.g.al⟩, B.st_frz h0 hF hH k.st, fun j e h => ?_, fun j l c1 m1 c2 m2 q n h1 h2 => ?_, by rw [List.length_set]; exact k.ln⟩
  · by_cases ha : a = p
    · subst ha; rw [upd_same] at q; rw [hH]; exact q
    · rw [upd_ne ha] at q; exact k.g.fh a u q
  · by_cases ha : a = p
    · subst ha; exact .inr h0
    · rw [upd_ne ha]; exact k.g.nw a
  · rcases getSet h with ⟨rfl, e1, hl⟩ | ⟨ne, h⟩
    · have e2 := Option.some.inj e1
      subst e2
      exact ⟨_, hv, hr p o1 hF hc⟩
    · obtain ⟨u, h1, h2⟩ := k.ev j e h
      refine ⟨u, h1, ?_⟩
      cases e with
      | im r2 mm => exact mm _ _ _ sm h2
      | ce c2 m2 =>
        obtain ⟨q, g0, g1, g2, o2, g3, g4⟩ := h2
        have npq : p ≠ q := k.apart ne hi h hv (by rw [h1, g0])
        exact ⟨q, g0, by rw [upd_ne npq.symm]; exact g1, g2, o2, g3, m2 _ _ _ _ sm g4⟩
  · rcases getSet h1 with ⟨rfl, e1, _⟩ | ⟨ne, h1⟩
    · cases Option.some.inj e1
    · rcases getSet h2 with ⟨rfl, e1, _⟩ | ⟨ne2, h2⟩
      · cases Option.some.inj e1
      · exact k.nd j l c1 m1 c2 m2 q n h1 h2
end
abbrev imE {α : Type} [Py α] (K : Frag) (d : α) : Ent := Ent.im (fun F v => Py.rep K F v d) (fun _ _ _ e h => Py.mono e h)
abbrev ceL {α : Type} [Py α] (K : Frag) (ds : List α) : Ent := Ent.ce (fun F _ o => ∃ vs, o = .lst vs ∧ Reps K F vs ds) (fun _ _ _ _ e ⟨vs, h0, h1⟩ => ⟨vs, h0, h1.mono e⟩)
abbrev adE (p : Addr) : Ent := Ent.im (fun _ v => v = .ref p) (fun _ _ _ _ h => h)
end SP
namespace SP
open PySem L2
class Arg (X : Type) where
  rep : Frag → Hp → List V → X → Prop
  mono : ∀ {K : Frag} {F F' : Hp} {vs : List V} {x : X}, Same F F' → rep K F vs x → rep K F' vs x
instance : Arg Unit where
  rep _ _ vs _ := vs = []
  mono _ h := h
instance {α X : Type} [Py α] [Arg X] : Arg (α × X) where
  rep K F vs x := ∃ v ws, vs = v :: ws ∧ Py.rep K F v x.1 ∧ Arg.rep K F ws x.2
  mono e := fun ⟨v, ws, h0, h1, h2⟩ => ⟨v, ws, h0, Py.mono e h1, Arg.mono e h2⟩
class ArgL (α : Type) [Py α] (X : Type) [Arg X] where
  toL : X → List α
  ok : ∀ {K : Frag} {F : Hp} {vs : List V} {x : X}, Arg.rep K F vs x → Reps K F vs (toL x)
instance {α : Type} [Py α] : ArgL α Unit where
  toL _ := []
  ok h := by cases h; exact .nil
instance {α X : Type} [Py α] [Arg X] [ArgL α X] : ArgL α (α × X) where
  toL x := x.1 :: ArgL.toL (α := α) x.2
  ok := fun ⟨v, ws, h0, h1, h2⟩ => by subst h0; exact .cons h1 (ArgL.ok h2)
section
variable {S : Type} {B : Base S} {s : S} {Γ : Env} {σ : L2.St} {F H F' H' : Hp}
theorem Base.exOwn (B : Base S) {p : Addr} (h : B.H0 p = none) : ¬ B.ex p := fun z => B.ex0 p z h
theorem Ok.stepX {s1 : S} (k : Ok B s Γ σ F H) (w : Step B.ex F H F' H') (hs : B.st s1 F' H') : Ok B s1 Γ σ F' H' where
  g := k.g.trans w
  st := hs
  ev := fun i e h => by
    obtain ⟨v, h1, h2⟩ := k.ev i e h
    refine ⟨v, h1, ?_⟩
    cases e with
    | im r m => exact m _ _ _ w.ff h2
    | ce c m =>
      obtain ⟨p, g0, g1, g2, o, g3, g4⟩ := h2
      refine ⟨p, g0, ?_, g2, o, w.hh _ _ (B.exOwn g2) g3, m _ _ _ _ w.ff g4⟩
      rcases w.nw p with z | z
      · rw [z]; exact g1
      · rw [z] at g3; cases g3
  nd := k.nd
  ln := k.ln
theorem Ok.newC (k : Ok B s Γ σ F H) {p : Addr} {o : HO} (h : H p = none) : Ok B s Γ σ F (upd H p o) := k.step (Step.newC k.fh h)
def Out (Γ : Env) (σ : L2.St) (p : Addr) : Prop := ∀ (i : Nat) c m, Γ[i]? = some (some (Ent.ce c m)) → σ[i]? ≠ some (some (.ref p))
theorem Ok.out (k : Ok B s Γ σ F H) {p : Addr} (h : H p = none) : Out Γ σ p := fun i c m e z => by
  obtain ⟨q, o, hv, _, _, h3, _⟩ := k.cell e
  rw [z] at hv
  have e1 : V.ref p = V.ref q := Option.some.inj (Option.some.inj hv)
  cases e1
  rw [h] at h3; cases h3
theorem Ok.mutO (k : Ok B s Γ σ F H) {p : Addr} {o : HO} (hF : F p = none) (h0 : B.H0 p = none) (hp : Out Γ σ p) : Ok B s Γ σ F (upd H p o) where
  g := ⟨k.g.ff, fun a u n q => by rw [upd_ne (ne_of_none q h0)]; exact k.g.hh a u n q, fun a u q => by rw [upd_ne (ne_of_none q hF)]; exact k.g.fh a u q, k.g.nw, fun a q => by
    by_cases ha : a = p
    · subst ha; exact h0
    · rw [upd_ne ha] at q; exact k.g.al a q⟩
  st := B.st_own h0 k.st
  ev := fun i e h => by
    obtain ⟨v, h1, h2⟩ := k.ev i e h
    refine ⟨v, h1, ?_⟩
    cases e with
    | im r m => exact h2
    | ce c m =>
      obtain ⟨q, g0, g1, g2, o, g3, g4⟩ := h2
      have npq : q ≠ p := fun z => hp i c m h (by rw [h1, g0, z])
      exact ⟨q, g0, g1, g2, o, by rw [upd_ne npq]; exact g3, g4⟩
  nd := k.nd
  ln := k.ln
theorem Ok.frzO (k : Ok B s Γ σ F H) {p : Addr} {o : HO} (hF : F p = none) (h0 : B.H0 p = none) (hH : H p = some o) (hp : Out Γ σ p) : Ok B s Γ σ (upd F p o) H where
  g := ⟨k.g.ff.trans (same_upd hF), k.g.hh, fun a u q => by
    by_cases ha : a = p
    · subst ha; rw [upd_same] at q; rw [hH]; exact q
    · rw [upd_ne ha] at q; exact k.g.fh a u q, fun a => by
    by_cases ha : a = p
    · subst ha; exact .inr h0
    · rw [upd_ne ha]; exact k.g.nw a, k.g.al⟩
  st := B.st_frz h0 hF hH k.st
  ev := fun i e h => by
    obtain ⟨v, h1, h2⟩ := k.ev i e h
    refine ⟨v, h1, ?_⟩
    cases e with
    | im r m => exact m _ _ _ (same_upd hF) h2
    | ce c m =>
      obtain ⟨q, g0, g1, g2, o, g3, g4⟩ := h2
      have npq : q ≠ p := fun z => hp i c m h (by rw [h1, g0, z])
      exact ⟨q, g0, by rw [upd_ne npq]; exact g1, g2, o, g3, m _ _ _ _ (same_upd hF) g4⟩
  nd := k.nd
  ln := k.ln
end
section
variable (K : Frag) {M : Type → Type} {S : Type} [PyM M S] {ρ α β γ X : Type} [Py α] [Py β] [Py γ] [Arg X] (B : Base S)
def EvK (te : TE) (Γ : Env) (mm : (α → M ρ) → M ρ) : Prop := ∀ (k : α → M ρ) (s : S) (r : ρ) (s2 : S), PyM.run (mm k) s = some (r, s2) → ∀ σ F H, Ok B s Γ σ F H → ∀ Q : VK,
  (∀ a s1 v F' H', PyM.run (k a) s1 = some (r, s2) → Step B.ex F H F' H' → Ok B s1 Γ σ F' H' → Py.rep K F' v a → Q v H') → te σ H Q
def EvC (te : TE) (Γ : Env) (mm : (List α → M ρ) → M ρ) : Prop := ∀ (k : List α → M ρ) (s : S) (r : ρ) (s2 : S), PyM.run (mm k) s = some (r, s2) → ∀ σ F H, Ok B s Γ σ F H → ∀ Q : VK,
  (∀ ds s1 p vs F' H', PyM.run (k ds) s1 = some (r, s2) → Step B.ex F H F' H' → Ok B s1 Γ σ F' H' → F' p = none → B.H0 p = none → H p = none → Out Γ σ p → H' p = some (.lst vs) → Reps K F' vs ds → Q (.ref p) H') → te σ H Q
def EvA (ta : TA) (Γ : Env) (mm : (X → M ρ) → M ρ) : Prop := ∀ (k : X → M ρ) (s : S) (r : ρ) (s2 : S), PyM.run (mm k) s = some (r, s2) → ∀ σ F H, Ok B s Γ σ F H → ∀ Q : List V → Hp → Prop,
  (∀ x s1 vs F' H', PyM.run (k x) s1 = some (r, s2) → Step B.ex F H F' H' → Ok B s1 Γ σ F' H' → Arg.rep K F' vs x → Q vs H') → ta σ H Q
def EvT (tt : TT) (Γ : Env) (mm : (Bool → M ρ) → M ρ) : Prop := ∀ (k : Bool → M ρ) (s : S) (r : ρ) (s2 : S), PyM.run (mm k) s = some (r, s2) → ∀ σ F H, Ok B s Γ σ F H → ∀ Q : Bool → Hp → Prop,
  (∀ b s1 F' H', PyM.run (k b) s1 = some (r, s2) → Step B.ex F H F' H' → Ok B s1 Γ σ F' H' → Q b H') → tt σ H Q
def OpP (r : R2) (f : α → β → Option γ) : Prop := ∀ x y z, f x y = some z → ∀ F H v u, Same F H → Py.rep K F v x → Py.rep K F u y → ∀ Q : VK, (∀ w F' H', Step no F H F' H' → Py.rep K F' w z → Q w H') → r v u H Q
def OpT (r : R2) (g : α → β → γ) : Prop := ∀ x y F H v u, Same F H → Py.rep K F v x → Py.rep K F u y → ∀ Q : VK, (∀ w F' H', Step no F H F' H' → Py.rep K F' w (g x y) → Q w H') → r v u H Q
def OpC (r : R2) (f : α → β → Option (List γ)) : Prop := ∀ x y z, f x y = some z → ∀ F H v u, Same F H → Py.rep K F v x → Py.rep K F u y → ∀ Q : VK, (∀ p ws, H p = none → Reps K F ws z → Q (.ref p) (upd H p (.lst ws))) → r v u H Q
def CallT (r : List V → Hp → VK → Prop) (g : X → γ) : Prop := ∀ x F H vs, Same F H → Arg.rep K F vs x → ∀ Q : VK, (∀ w F' H', Step no F H F' H' → Py.rep K F' w (g x) → Q w H') → r vs H Q
end
section
variable {K : Frag} {M : Type → Type} {S : Type} [PyM M S] {ρ α β γ δ ε X : Type} [Py α] [Py β] [Py γ] [Py δ] [Py ε] [Arg X] {B : Base S} {Γ : Env} {ta tb te tc : TE} {tr tx : TA} {t u : TT} {ma : (α → M ρ) → M ρ} {mb : (β → M ρ) → M ρ} {r : R2}
theorem Ok.st0 {s : S} {σ : L2.St} {F H : Hp} (k : Ok B s Γ σ F H) : Step B.ex F H F H := Step.rfl k.fh
theorem st_no {F H F' H' : Hp} (w : Step no F H F' H') : Step B.ex F H F' H' := w.wide fun _ z => z.elim
theorem ev_var {i : Nat} {d : α} (h : Γ[i]? = some (some (imE K d)) := by rfl) : EvK (M := M) (ρ := ρ) K B (tVar i) Γ (fun k => k d) := fun k s r s2 hr σ F H ok Q q => by
  obtain ⟨v, hv, hr'⟩ := ok.ev i _ h
  exact ⟨v, hv, q d s v F H hr ok.st0 ok hr'⟩
theorem ev_k {v : V} {d : α} (h : ∀ F, Py.rep K F v d) : EvK (M := M) (ρ := ρ) K B (tC v) Γ (fun k => k d) := fun k s r s2 hr σ F H ok Q q => q d s v F H hr ok.st0 ok (h F)
theorem ev_int {i : Int} : EvK (M := M) (ρ := ρ) K B (tC (.int i)) Γ (fun k => k i) := ev_k fun _ => rfl
theorem ev_bl {b : Bool} : EvK (M := M) (ρ := ρ) K B (tC (.bl b)) Γ (fun k => k b) := ev_k fun _ => rfl
theorem ev_str {b : Str} : EvK (M := M) (ρ := ρ) K B (tC (.str b)) Γ (fun k => k b) := ev_k fun _ => rfl
theorem ev_non : EvK (M := M) (ρ := ρ) K B (tC .non) Γ (fun k => k ()) := ev_k fun _ => rfl
theorem ev_op {f : α → β → Option γ} (ho : OpP K r f) (ha : EvK K B ta Γ ma) (hb : EvK K B tb Γ mb) : EvK (M := M) (ρ := ρ) K B (tOp r ta tb) Γ (fun k => ma fun x => mb fun y => PyM.up (f x y) >>= k) := fun k s r' s2 hr σ F H ok Q q =>
  ha _ s r' s2 hr σ F H ok _ fun x s1 v F1 H1 hr1 w1 ok1 rx => hb _ s1 r' s2 hr1 σ F1 H1 ok1 _ fun y s3 u F2 H2 hr2 w2 ok2 ry => by
    obtain ⟨z, hz, hr3⟩ := upE hr2
    exact ho x y z hz F2 H2 v u ok2.fh (Py.mono w2.ff rx) ry Q fun w F3 H3 w3 rz => q z s3 w F3 H3 hr3 ((w1.trans w2).trans (st_no w3)) (ok2.step w3) rz
theorem ev_opT {g : α → β → γ} (ho : OpT K r g) (ha : EvK K B ta Γ ma) (hb : EvK K B tb Γ mb) : EvK (M := M) (ρ := ρ) K B (tOp r ta tb) Γ (fun k => ma fun x => mb fun y => k (g x y)) := fun k s r' s2 hr σ F H ok Q q =>
  ha _ s r' s2 hr σ F H ok _ fun x s1 v F1 H1 hr1 w1 ok1 rx => hb _ s1 r' s2 hr1 σ F1 H1 ok1 _ fun y s3 u F2 H2 hr2 w2 ok2 ry =>
    ho x y F2 H2 v u ok2.fh (Py.mono w2.ff rx) ry Q fun w F3 H3 w3 rz => q _ s3 w F3 H3 hr2 ((w1.trans w2).trans (st_no w3)) (ok2.step w3) rz
theorem newL {s s1 : S} {σ : L2.St} {F H F1 H1 : Hp} {p : Addr} {ws : List V} {ds : List γ} (w : Step B.ex F H F1 H1) (ok : Ok B s1 Γ σ F1 H1) (h : H1 p = none) (hr : Reps K F1 ws ds) :
    Step B.ex F H F1 (upd H1 p (.lst ws)) ∧ Ok B s1 Γ σ F1 (upd H1 p (.lst ws)) ∧ F1 p = none ∧ B.H0 p = none ∧ H p = none ∧ Out Γ σ p ∧ (upd H1 p (.lst ws)) p = some (.lst ws) ∧ Reps K F1 ws ds :=
  ⟨w.trans (Step.newC ok.fh h), ok.newC h, ok.fh.free h, ok.own h, w.al p h, ok.out h, upd_same, hr⟩
theorem ec_op {f : α → β → Option (List γ)} (ho : OpC K r f) (ha : EvK K B ta Γ ma) (hb : EvK K B tb Γ mb) : EvC (M := M) (ρ := ρ) K B (tOp r ta tb) Γ (fun k => ma fun x => mb fun y => PyM.up (f x y) >>= k) := fun k s r' s2 hr σ F H ok Q q =>
  ha _ s r' s2 hr σ F H ok _ fun x s1 v F1 H1 hr1 w1 ok1 rx => hb _ s1 r' s2 hr1 σ F1 H1 ok1 _ fun y s3 u F2 H2 hr2 w2 ok2 ry => by
    obtain ⟨z, hz, hr3⟩ := upE hr2
    refine ho x y z hz F2 H2 v u ok2.fh (Py.mono w2.ff rx) ry Q fun p ws hp rw' => ?_
    obtain ⟨a1, a2, a3, a4, a5, a6, a7, a8⟩ := newL (s := s3) (w1.trans w2) ok2 hp rw'
    exact q z s3 p ws F2 _ hr3 a1 a2 a3 a4 a5 a6 a7 a8
theorem ea_nil : EvA (M := M) (ρ := ρ) (X := Unit) K B tNil Γ (fun k => k ()) := fun k s r s2 hr σ F H ok Q q => q () s [] F H hr ok.st0 ok rfl
theorem ea_cons {mx : (X → M ρ) → M ρ} (ha : EvK K B ta Γ ma) (hx : EvA K B tr Γ mx) : EvA (M := M) (ρ := ρ) K B (tCons ta tr) Γ (fun k => ma fun a => mx fun x => k (a, x)) := fun k s r' s2 hr σ F H ok Q q =>
  ha _ s r' s2 hr σ F H ok _ fun x s1 v F1 H1 hr1 w1 ok1 rx => hx _ s1 r' s2 hr1 σ F1 H1 ok1 _ fun y s3 vs F2 H2 hr2 w2 ok2 ry =>
    q (x, y) s3 (v :: vs) F2 H2 hr2 (w1.trans w2) ok2 ⟨v, vs, rfl, Py.mono w2.ff rx, ry⟩
section
variable {mx : (X → M ρ) → M ρ} {rc : List V → Hp → VK → Prop}
theorem ev_cbT {g : X → γ} (hc : CallT K rc g) (hx : EvA K B tr Γ mx) : EvK (M := M) (ρ := ρ) K B (tCB rc tr) Γ (fun k => mx fun x => k (g x)) := fun k s r' s2 hr σ F H ok Q q =>
  hx _ s r' s2 hr σ F H ok _ fun x s1 vs F1 H1 hr1 w1 ok1 rx =>
    hc x F1 H1 vs ok1.fh rx Q fun w F3 H3 w3 rz => q _ s1 w F3 H3 hr1 (w1.trans (st_no w3)) (ok1.step w3) rz
theorem ec_lst [ArgL α X] (hx : EvA K B tr Γ mx) (hl : ∀ F vs (x : X), Arg.rep K F vs x → vs.length ≤ sizeLine) : EvC (M := M) (ρ := ρ) K B (tLst tr) Γ (fun k => mx fun x => k (ArgL.toL (α := α) x)) := fun k s r' s2 hr σ F H ok Q q =>
  hx _ s r' s2 hr σ F H ok _ fun x s1 vs F1 H1 hr1 w1 ok1 rx => ⟨hl F1 vs x rx, fun p hp => by
    obtain ⟨a1, a2, a3, a4, a5, a6, a7, a8⟩ := newL (s := s1) w1 ok1 hp (ArgL.ok (α := α) rx)
    exact q _ s1 p vs F1 _ hr1 a1 a2 a3 a4 a5 a6 a7 a8⟩
end
theorem ev_fz {ml : (List α → M ρ) → M ρ} (h : EvC K B te Γ ml) : EvK K B te Γ ml := fun k s r' s2 hr σ F H ok Q q =>
  h _ s r' s2 hr σ F H ok _ fun ds s1 p vs F1 H1 hr1 w1 ok1 hF h0 hH hp hL rl => by
    have sm := same_upd (o := HO.lst vs) hF
    refine q ds s1 _ (upd F1 p (.lst vs)) H1 hr1 ?_ (ok1.frzO hF h0 hL hp) ⟨p, vs, rfl, upd_same, rl.mono sm⟩
    refine ⟨w1.ff.trans sm, w1.hh, fun a o e => ?_, fun a => ?_, w1.al⟩
    · by_cases ha : a = p
      · subst ha; rw [upd_same] at e; rw [hL]; exact e
      · rw [upd_ne ha] at e; exact w1.fh a o e
    · by_cases ha : a = p
      · subst ha; exact .inr hH
      · rw [upd_ne ha]; exact w1.nw a
section
variable {mk : (Bool → M ρ) → M ρ} {ml : (Bool → M ρ) → M ρ}
theorem et_val (h : EvK K B te Γ mk) : EvT (M := M) (ρ := ρ) B (tTest te) Γ mk := fun k s r' s2 hr σ F H ok Q q =>
  h _ s r' s2 hr σ F H ok _ fun b s1 v F1 H1 hr1 w1 ok1 rv => ⟨b, rv, q b s1 F1 H1 hr1 w1 ok1⟩
theorem et_B (h : EvK K B te Γ mk) : EvT (M := M) (ρ := ρ) B (tB te) Γ mk := fun k s r' s2 hr σ F H ok Q q =>
  h _ s r' s2 hr σ F H ok _ fun b s1 v F1 H1 hr1 w1 ok1 rv => ⟨b, rv, q b s1 F1 H1 hr1 w1 ok1⟩
theorem et_not (h : EvT B t Γ mk) : EvT (M := M) (ρ := ρ) B (tNot t) Γ (fun k => mk fun b => k (!b)) := fun k s r' s2 hr σ F H ok Q q =>
  h _ s r' s2 hr σ F H ok _ fun b s1 F1 H1 hr1 w1 ok1 => q (!b) s1 F1 H1 hr1 w1 ok1
theorem et_orJ {mj : (Bool → M Bool) → M Bool} (h : EvT B t Γ mk) (h2 : EvT (M := M) (ρ := Bool) B u Γ mj) : EvT (M := M) (ρ := ρ) B (tOr t u) Γ (fun k => mk fun b => (if b = true then pure true else mj pure) >>= k) := fun k s r' s2 hr σ F H ok Q q =>
  h _ s r' s2 hr σ F H ok _ fun b s1 F1 H1 hr1 w1 ok1 => by
    obtain ⟨c, s3, e1, e2⟩ := bindE hr1
    cases b with
    | true =>
      obtain ⟨rfl, rfl⟩ := pureE e1
      exact iteT (q true s1 F1 H1 e2 w1 ok1)
    | false =>
      refine iteF (h2 _ s1 c s3 e1 σ F1 H1 ok1 Q fun c' s4 F2 H2 hr2 w2 ok2 => ?_)
      obtain ⟨rfl, rfl⟩ := pureE hr2
      exact q c' s4 F2 H2 e2 (w1.trans w2) ok2
theorem ev_andJ {mj : (Bool → M Bool) → M Bool} (h : EvK K B ta Γ mk) (h2 : EvK (M := M) (ρ := Bool) K B tb Γ mj) : EvK (M := M) (ρ := ρ) K B (tAndV ta tb) Γ (fun k => mk fun b => (if b = true then mj pure else pure false) >>= k) := fun k s r' s2 hr σ F H ok Q q =>
  h _ s r' s2 hr σ F H ok _ fun b s1 v F1 H1 hr1 w1 ok1 rv => ⟨b, rv, by
    obtain ⟨c, s3, e1, e2⟩ := bindE hr1
    cases b with
    | false =>
      obtain ⟨rfl, rfl⟩ := pureE e1
      exact iteF (q false s1 _ F1 H1 e2 w1 ok1 rfl)
    | true =>
      refine iteT (h2 _ s1 c s3 e1 σ F1 H1 ok1 Q fun c' s4 v F2 H2 hr2 w2 ok2 rv => ?_)
      obtain ⟨rfl, rfl⟩ := pureE hr2
      exact q c' s4 v F2 H2 e2 (w1.trans w2) ok2 rv⟩
end
end
end SP
namespace SP
open PySem L2
inductive Wk : Env → Env → Prop where
  | nil {Γ : Env} : Wk [] Γ
  | skip {x : Option Ent} {Γ' Γ : Env} : Wk Γ' Γ → Wk (none :: Γ') (x :: Γ)
  | keep {x : Option Ent} {Γ' Γ : Env} : Wk Γ' Γ → Wk (x :: Γ') (x :: Γ)
theorem Wk.len {Γ' Γ : Env} (h : Wk Γ' Γ) : Γ'.length ≤ Γ.length := by
  induction h with
  | nil => exact Nat.zero_le _
  | skip _ ih => exact Nat.succ_le_succ ih
  | keep _ ih => exact Nat.succ_le_succ ih
theorem Wk.get {Γ' Γ : Env} (h : Wk Γ' Γ) : ∀ (i : Nat) e, Γ'[i]? = some (some e) → Γ[i]? = some (some e) := by
  induction h with
  | nil => intro i e q; simp at q
  | skip _ ih => intro i e q; cases i with
    | zero => simp at q
    | succ i => simpa using ih i e (by simpa using q)
  | keep _ ih => intro i e q; cases i with
    | zero => simpa using q
    | succ i => simpa using ih i e (by simpa using q)
theorem Wk.refl : ∀ {Γ : Env}, Wk Γ Γ
  | [] => .nil
  | _ :: _ => .keep Wk.refl
theorem Ok.wk {S : Type} {B : Base S} {s : S} {Γ Γ' : Env} {σ : L2.St} {F H : Hp} (k : Ok B s Γ σ F H) (h : Wk Γ' Γ) : Ok B s Γ' σ F H := k.weak h.len h.get
def Fl.go {M : Type → Type} {β ρ ρ' : Type} (k : β → M ρ') (g : ρ → M ρ') : Fl β ρ → M ρ'
  | .nx b => k b
  | .rt r => g r
def compL {M : Type → Type} [Monad M] {α β : Type} (f : α → M (Option β)) : List α → M (List β)
  | [] => pure []
  | x :: xs => f x >>= fun y => compL f xs >>= fun ys => pure (y.toList ++ ys)
def szM (n : Nat) : Option Unit := if n ≤ 16777216 then some () else none
theorem szM_ok {n : Nat} {u : Unit} (h : szM n = some u) : n ≤ sizeLine := by
  unfold szM at h
  split at h
  · rw [sizeLine_eq]; assumption
  · cases h
section
variable (K : Frag) {M : Type → Type} {S : Type} [PyM M S] {ρ α β : Type} [Py α] (B : Base S)
def SK (RT : ρ → Hp → Hp → V → Prop) (ts : TS) (Γ : Env) (mm : (β → M ρ) → M ρ) (out : β → Env) : Prop := ∀ (k : β → M ρ) (s : S) (r : ρ) (s2 : S), PyM.run (mm k) s = some (r, s2) → ∀ σ F H, Ok B s Γ σ F H → ∀ D : Ends,
  (∀ b s1 σ' F' H', PyM.run (k b) s1 = some (r, s2) → Same F F' → Ok B s1 (out b) σ' F' H' → D.nx σ' H') → (∀ v F' H', Step B.ex B.F0 B.H0 F' H' → B.st s2 F' H' → RT r F' H' v → D.rt v H') → ts D σ H
def ST (NX : ρ → Option Env) (RT : ρ → Hp → Hp → V → Prop) (ts : TS) (Γ : Env) (m : M ρ) : Prop := ∀ (s : S) (r : ρ) (s2 : S), PyM.run m s = some (r, s2) → ∀ σ F H, Ok B s Γ σ F H → ∀ D : Ends,
  (∀ Γ' σ' F' H', NX r = some Γ' → Same F F' → Ok B s2 Γ' σ' F' H' → D.nx σ' H') → (∀ v F' H', Step B.ex B.F0 B.H0 F' H' → B.st s2 F' H' → RT r F' H' v → D.rt v H') → ts D σ H
def TgK (g : TG) (Γ : Env) (is : List Nat) (out : α → Env) : Prop := ∀ x v s σ F H, Ok B s Γ σ F H → Py.rep K F v x → ∀ Q : L2.St → Hp → Prop,
  (∀ σ', Ok B s (out x) σ' F H → (∀ vs : List Nat, (∀ i ∈ is, i ∈ vs) → wipe σ' vs = wipe σ vs) → Q σ' H) → g v σ H Q
def JOk (J : It) (xs : List α) (F : Hp) : Prop := ∀ F' H', Same F F' → Same F' H' → (∀ a o, ¬ B.ex a → B.H0 a = some o → H' a = some o) → ∀ i, (∀ x, xs[i]? = some x → J.go i H' ∧ ∀ v H'', J.yld i H' v H'' → ∃ F'', Step no F' H' F'' H'' ∧ Py.rep K F'' v x) ∧ (xs.length ≤ i → J.stop i H')
def WaK (wi : TI) (Γ : Env) (mm : (List α → M ρ) → M ρ) : Prop := ∀ (k : List α → M ρ) (s : S) (r : ρ) (s2 : S), PyM.run (mm k) s = some (r, s2) → ∀ σ F H, Ok B s Γ σ F H → ∀ R : It → Hp → Prop,
  (∀ xs s1 J F' H', PyM.run (k xs) s1 = some (r, s2) → Step B.ex F H F' H' → Ok B s1 Γ σ F' H' → JOk K B J xs F' → R J H') → wi σ H R
end
theorem wipe_set : ∀ (vs : List Nat) (σ : L2.St) (i : Nat) (x : Option V), i ∈ vs → wipe (σ.set i x) vs = wipe σ vs
  | [], _, _, _, h => by simp at h
  | v :: vs, σ, i, x, h => by
    show (wipe (σ.set i x) vs).set v none = (wipe σ vs).set v none
    by_cases hm : i ∈ vs
    · rw [wipe_set vs σ i x hm]
    · have e : i = v := by simpa [hm] using h
      subst e
      have q : ∀ (us : List Nat) (τ : L2.St), i ∉ us → wipe (τ.set i x) us = (wipe τ us).set i x := by
        intro us
        induction us with
        | nil => intro τ _; rfl
        | cons u us ih =>
          intro τ hn
          have hu : i ≠ u := fun z => hn (by simp [z])
          have hus : i ∉ us := fun z => hn (by simp [z])
          show (wipe (τ.set i x) us).set u none = ((wipe τ us).set u none).set i x
          rw [ih τ hus, List.set_comm _ _ hu]
      rw [q vs σ hm, List.set_set]
theorem wipe_wipe (σ : L2.St) : ∀ vs : List Nat, wipe (wipe σ vs) vs = wipe σ vs := by
  intro vs
  have q : ∀ (us : List Nat), (∀ i ∈ us, i ∈ vs) → wipe (wipe σ us) vs = wipe σ vs := by
    intro us
    induction us with
    | nil => intro _; rfl
    | cons u us ih =>
      intro h
      show wipe ((wipe σ us).set u none) vs = _
      rw [wipe_set vs _ u none (h u (by simp)), ih fun i hi => h i (by simp [hi])]
  exact q vs fun _ h => h
section
variable {K : Frag} {M : Type → Type} {S : Type} [PyM M S] {ρ α β γ δ : Type} [Py α] [Py β] [Py γ] [Py δ] {B : Base S} {Γ : Env}
theorem tg_name {i : Nat} : TgK (α := α) K B (gName i) Γ [i] (fun x => Γ.set i (some (imE K x))) := fun x v s σ F H ok hr Q q =>
  q _ (ok.setIm hr) fun vs h => wipe_set vs σ i _ (h i (by simp))
end
section
variable {K : Frag} {M : Type → Type} {S : Type} [PyM M S] {ρ α β γ : Type} [Py α] [Py γ] {B : Base S} {Γ : Env}
variable {RT : ρ → Hp → Hp → V → Prop} {NX : ρ → Option Env} {t u : TS} {te : TE} {tt : TT} {out : β → Env}
theorem st_cons {mm : (β → M ρ) → M ρ} {m : β → M ρ} (h : SK B RT t Γ mm out) (h2 : ∀ b, ST B NX RT u (out b) (m b)) : ST B NX RT (tSeq t u) Γ (mm m) := fun s r s2 hr σ F H ok D nx rt =>
  h m s r s2 hr σ F H ok { D with nx := u D } (fun b s1 σ' F' H' hr1 e1 ok1 => h2 b s1 r s2 hr1 σ' F' H' ok1 D (fun Γ' σ2 F2 H2 z e2 ok2 => nx Γ' σ2 F2 H2 z (e1.trans e2) ok2) rt) rt
theorem st_one {mm : (β → M ρ) → M ρ} {m : β → M ρ} (h : SK B RT t Γ mm out) (h2 : ∀ b, ST B NX RT tNext (out b) (m b)) : ST B NX RT t Γ (mm m) := fun s r s2 hr σ F H ok D nx rt =>
  h m s r s2 hr σ F H ok D (fun b s1 σ' F' H' hr1 e1 ok1 => h2 b s1 r s2 hr1 σ' F' H' ok1 D (fun Γ' σ2 F2 H2 z e2 ok2 => nx Γ' σ2 F2 H2 z (e1.trans e2) ok2) rt) rt
theorem st_end {r0 : ρ} {Γ' : Env} (h : NX r0 = some Γ') (w : Wk Γ' Γ) : ST (M := M) B NX RT tNext Γ (pure r0) := fun s r s2 hr σ F H ok D nx rt => by
  obtain ⟨rfl, rfl⟩ := pureE hr
  exact nx Γ' σ F H h (Same.refl F) (ok.wk w)
theorem st_ret {ma : (α → M ρ) → M ρ} {g : α → ρ} (h : EvK K B te Γ ma) (hg : ∀ a F H v, Py.rep K F v a → RT (g a) F H v) : ST B NX RT (tRet te) Γ (ma fun a => pure (g a)) := fun s r s2 hr σ F H ok D nx rt =>
  h _ s r s2 hr σ F H ok _ fun a s1 v F1 H1 hr1 w1 ok1 ra => by
    obtain ⟨rfl, rfl⟩ := pureE hr1
    exact rt v F1 H1 ok1.g ok1.st (hg a F1 H1 v ra)
def RTC (K : Frag) {γ : Type} [Py γ] (B : Base S) : List γ → Hp → Hp → V → Prop := fun r F H v => ∃ p vs, v = .ref p ∧ F p = none ∧ B.H0 p = none ∧ H p = some (.lst vs) ∧ Reps K F vs r
theorem st_retC {ml : (List α → M ρ) → M ρ} {g : List α → ρ} (h : EvC K B te Γ ml) (hg : ∀ a F H v, RTC K B a F H v → RT (g a) F H v) : ST B NX RT (tRet te) Γ (ml fun a => pure (g a)) := fun s r s2 hr σ F H ok D nx rt =>
  h _ s r s2 hr σ F H ok _ fun ds s1 p vs F1 H1 hr1 w1 ok1 hF h0 hH hp hL rl => by
    obtain ⟨rfl, rfl⟩ := pureE hr1
    exact rt _ F1 H1 ok1.g ok1.st (hg ds F1 H1 _ ⟨p, vs, rfl, hF, h0, hL, rl⟩)
theorem st_when {u' : TS} {mt : (Bool → M ρ) → M ρ} {m1 m2 : M ρ} (h : EvT B tt Γ mt) (h1 : ST B (fun _ => none) RT t Γ m1) (h2 : ST B NX RT u' Γ m2) : ST B NX RT (tSeq (tIfS tt t tNext) u') Γ (mt fun b => if b = true then m1 else m2) := fun s r s2 hr σ F H ok D nx rt =>
  h _ s r s2 hr σ F H ok _ fun b s1 F1 H1 hr1 w1 ok1 => by
    cases b with
    | true => exact iteT (h1 s1 r s2 hr1 σ F1 H1 ok1 { D with nx := u' D } (fun _ _ _ _ z => by cases z) rt)
    | false => exact iteF (h2 s1 r s2 hr1 σ F1 H1 ok1 D (fun Γ' σ2 F2 H2 z e2 ok2 => nx Γ' σ2 F2 H2 z (w1.ff.trans e2) ok2) rt)
theorem st_frz {m : M ρ} (i : Nat) {ds : List α} (hi : Γ[i]? = some (some (ceL K ds))) (h : ST B NX RT t (Γ.set i (some (imE K ds))) m) : ST B NX RT t Γ m := fun s r s2 hr σ F H ok D nx rt => by
  obtain ⟨F', sm, ok'⟩ := ok.frz (r := fun F v => Py.rep K F v ds) (m' := fun _ _ _ e h => Py.mono e h) hi fun p o hF ⟨vs, h0, h1⟩ => ⟨p, vs, rfl, by rw [upd_same, h0], h1.mono (same_upd hF)⟩
  exact h s r s2 hr σ F' H ok' D (fun Γ' σ2 F2 H2 z e2 ok2 => nx Γ' σ2 F2 H2 z (sm.trans e2) ok2) rt
theorem sk_asg {ma : (α → M ρ) → M ρ} {g : TG} {is : List Nat} {o : α → Env} (h : EvK K B te Γ ma) (hg : TgK K B g Γ is o) : SK B RT (tAsg te g) Γ ma o := fun k s r s2 hr σ F H ok D nx rt =>
  h k s r s2 hr σ F H ok _ fun a s1 v F1 H1 hr1 w1 ok1 ra => hg a v s1 σ F1 H1 ok1 ra _ fun σ' ok2 _ => nx a s1 σ' F1 H1 hr1 w1.ff ok2
theorem sk_set {ma : (α → M ρ) → M ρ} {i : Nat} (h : EvK K B te Γ ma) : SK B RT (tAsg te (gName i)) Γ ma (fun a => Γ.set i (some (imE K a))) := sk_asg h tg_name
theorem sk_setC {ml : (List α → M ρ) → M ρ} {i : Nat} (h : EvC K B te Γ ml) : SK B RT (tAsg te (gName i)) Γ ml (fun ds => Γ.set i (some (ceL K ds))) := fun k s r s2 hr σ F H ok D nx rt =>
  h k s r s2 hr σ F H ok _ fun ds s1 p vs F1 H1 hr1 w1 ok1 hF h0 hH hp hL rl => nx ds s1 _ F1 H1 hr1 w1.ff (ok1.set (e := ceL K ds) ⟨p, rfl, hF, h0, _, hL, vs, rfl, rl⟩ fun c m _ j c' m' hj z => hp j c' m' hj z)
theorem sk_if {mt : (Bool → M ρ) → M ρ} {m1 m2 : M β} (h : EvT B tt Γ mt) (h1 : ST B (fun b => some (out b)) (fun _ _ _ _ => False) t Γ m1) (h2 : ST B (fun b => some (out b)) (fun _ _ _ _ => False) u Γ m2) :
    SK B RT (tIfS tt t u) Γ (fun k => mt fun b => (if b = true then m1 else m2) >>= k) out := fun k s r s2 hr σ F H ok D nx rt =>
  h _ s r s2 hr σ F H ok _ fun b s1 F1 H1 hr1 w1 ok1 => by
    obtain ⟨c, s3, e1, e2⟩ := bindE hr1
    cases b with
    | true => exact iteT (h1 s1 c s3 e1 σ F1 H1 ok1 D (fun Γ' σ' F' H' z sm ok' => by cases z; exact nx c s3 σ' F' H' e2 (w1.ff.trans sm) ok') fun _ _ _ _ _ z => z.elim)
    | false => exact iteF (h2 s1 c s3 e1 σ F1 H1 ok1 D (fun Γ' σ' F' H' z sm ok' => by cases z; exact nx c s3 σ' F' H' e2 (w1.ff.trans sm) ok') fun _ _ _ _ _ z => z.elim)
def wipeE (Γ : Env) : List Nat → Env
  | [] => Γ
  | v :: vs => (wipeE Γ vs).set v none
theorem Ok.wipe {s : S} {σ : L2.St} {F H : Hp} (ok : Ok B s Γ σ F H) : ∀ vs : List Nat, Ok B s (wipeE Γ vs) (L2.wipe σ vs) F H
  | [] => ok
  | _ :: vs => (Ok.wipe ok vs).drop
theorem compE {α' : Type} {f : α → M (Option α')} {x : α} {xs : List α} {k : List α' → M ρ} {s : S} {r : ρ × S} (h : PyM.run (compL f (x :: xs) >>= k) s = some r) : ∃ y s1, PyM.run (f x) s = some (y, s1) ∧ PyM.run (compL f xs >>= fun ys => k (y.toList ++ ys)) s1 = some r := by
  obtain ⟨c, s1, h1, h2⟩ := bindE h
  obtain ⟨y, s2, h3, h4⟩ := bindE (M := M) h1
  obtain ⟨ys, s3, h5, h6⟩ := bindE (M := M) h4
  obtain ⟨rfl, rfl⟩ := pureE (M := M) h6
  refine ⟨y, s2, h3, ?_⟩
  rw [PyM.run_bind, h5]
  exact h2
theorem ec_lc {wi : TI} {g : TG} {mw : (List α → M ρ) → M ρ} {is : List Nat} {vs : List Nat} {tgo : α → Env} {mt : α → (Bool → M (Option γ)) → M (Option γ)} {me : α → (γ → M (Option γ)) → M (Option γ)} (hw : WaK K B wi Γ mw) (hg : TgK K B g (wipeE Γ vs) is tgo) (hi : ∀ i ∈ is, i ∈ vs)
    (ht : ∀ x, EvT (M := M) (ρ := Option γ) B tt (tgo x) (mt x)) (he : ∀ x, EvK (M := M) (ρ := Option γ) K B te (tgo x) (me x)) :
    EvC (M := M) (ρ := ρ) K B (tLc wi g tt te vs) Γ (fun k => mw fun xs => PyM.up (szM xs.length) >>= fun _ => compL (fun x => mt x fun b => if b = true then me x fun y => pure (some y) else pure none) xs >>= k) := fun k s r s2 hr σ F H ok Q q =>
  hw _ s r s2 hr σ F H ok _ fun xs s1 J F1 H1 hr1 w1 ok1 hJ => by
    obtain ⟨u, hz, hr1⟩ := upE hr1
    have hsz := szM_ok hz
    intro L hL
    have hLF : F1 L = none := ok1.fh.free hL
    have hL0 : B.H0 L = none := ok1.own hL
    have hLO : Out Γ σ L := ok1.out hL
    let f : α → M (Option γ) := fun x => mt x fun b => if b = true then me x fun y => pure (some y) else pure none
    let I : Nat → Hp → S → Hp → Prop := fun i H s F' => ∃ ds acc, PyM.run (compL f (xs.drop i) >>= fun ys => k (ds ++ ys)) s = some (r, s2) ∧ Step B.ex F1 H1 F' H ∧ Ok B s Γ σ F' H ∧ F' L = none ∧ H L = some (.lst acc) ∧ Reps K F' acc ds ∧ acc.length ≤ i
    refine ⟨fun i m H => m = xs.length - i ∧ i ≤ xs.length ∧ ∃ s F', I i H s F', ⟨xs.length, by simp, Nat.zero_le _, s1, F1, [], [], by simpa using hr1, Step.newC ok1.fh hL, ok1.newC hL, hLF, upd_same, .nil, Nat.le_refl _⟩, ?_⟩
    rintro i m H ⟨rfl, hile, s, F', ds, acc, hr2, wI, okb, hF', hH', hacc, hlen⟩
    have j := hJ F' H wI.ff okb.fh okb.g.hh i
    by_cases hlt : i < xs.length
    · have hx : xs[i]? = some xs[i] := by simp [hlt]
      obtain ⟨hgo, hy⟩ := j.1 _ hx
      rw [List.drop_eq_getElem_cons hlt] at hr2
      obtain ⟨y, s3, e1, e2⟩ := compE hr2
      refine .inr ⟨hgo, fun H' => ∃ F', I (i + 1) H' s3 F', fun H' ⟨F', q⟩ => ⟨xs.length - (i + 1), by omega, rfl, hlt, s3, F', q⟩, fun v H'' hv => ?_⟩
      obtain ⟨F'', w2, rv⟩ := hy v H'' hv
      have ok2 := okb.step w2
      have a2 : F'' L = none := by
        rcases w2.nw L with z | z
        · rw [z]; exact hF'
        · rw [z] at hH'; cases hH'
      have b2 : H'' L = some (.lst acc) := w2.same _ _ hH'
      refine hg _ v s _ F'' H'' (ok2.wipe vs) rv _ fun σ' ok3 hwp => ⟨(hwp vs hi).trans (wipe_wipe σ vs), ?_⟩
      refine ht xs[i] _ s y s3 e1 σ' F'' H'' ok3 _ fun b s4 F4 H4 hr4 w4 ok4 => ?_
      have keep : ∀ {F5 H5 : Hp} {s5 : S}, Step B.ex F'' H'' F5 H5 → B.st s5 F5 H5 → Ok B s5 Γ σ F5 H5 ∧ F5 L = none ∧ H5 L = some (.lst acc) ∧ Step B.ex F1 H1 F5 H5 ∧ Reps K F5 acc ds := fun {F5 H5 s5} w5 hs5 => by
        refine ⟨ok2.stepX w5 hs5, ?_, w5.hh _ _ (B.exOwn hL0) b2, wI.trans ((st_no w2).trans w5), hacc.mono (w2.ff.trans w5.ff)⟩
        rcases w5.nw L with z | z
        · rw [z]; exact a2
        · rw [z] at b2; cases b2
      cases b with
      | false =>
        refine iteF ?_
        obtain ⟨rfl, rfl⟩ := pureE (M := M) hr4
        obtain ⟨k1, k2, k3, k4, k5⟩ := keep w4 ok4.st
        exact ⟨F4, ds, acc, e2, k4, k1, k2, k3, k5, by omega⟩
      | true =>
        refine iteT ?_
        refine he xs[i] _ s4 y s3 hr4 σ' F4 H4 ok4 _ fun z s5 v5 F5 H5 hr5 w5 ok5 rz => ?_
        obtain ⟨rfl, rfl⟩ := pureE (M := M) hr5
        obtain ⟨k1, k2, k3, k4, k5⟩ := keep (w4.trans w5) ok5.st
        refine ⟨acc, k3, Nat.lt_of_le_of_lt hlen (Nat.lt_of_lt_of_le hlt hsz), F5, ds ++ [z], acc ++ [v5], ?_, ?_, k1.mutO k2 hL0 hLO, k2, upd_same, k5.app (.cons rz .nil), by rw [List.length_append]; show acc.length + 1 ≤ i + 1; omega⟩
        · rw [← e2]
          congr 1
          show _ = compL f (xs.drop (i + 1)) >>= fun ys => k (ds ++ ([z] ++ ys))
          congr 1
          funext ys
          rw [List.append_assoc]
        · refine ⟨k4.ff, fun a o n e => ?_, fun a o e => ?_, k4.nw, fun a e => ?_⟩
          · rw [upd_ne (ne_of_none e hL)]; exact k4.hh a o n e
          · rw [upd_ne (ne_of_none e k2)]; exact k4.fh a o e
          · by_cases ha : a = L
            · subst ha; exact hL
            · rw [upd_ne ha] at e; exact k4.al a e
    · have e : i = xs.length := by omega
      subst e
      rw [List.drop_length] at hr2
      obtain ⟨c, s3, e1, e2⟩ := bindE hr2
      obtain ⟨rfl, rfl⟩ := pureE (M := M) e1
      rw [List.append_nil] at e2
      exact .inl ⟨j.2 (Nat.le_refl _), q ds s L acc F' H e2 (w1.trans wI) okb hF' hL0 (w1.al L hL) hLO hH' hacc⟩
end
end SP
namespace SP
open PySem L2 PyProof.Rows
def mulM (i j : Int) : Option Int := if i.natAbs.log2 + j.natAbs.log2 < 1000000 then some (i * j) else none
def divM (i j : Int) : Option Int := if 0 < j ∧ j.natAbs.log2 < 9000 then some (i / j) else none
def modM (i j : Int) : Option Int := if 0 < j then some (i % j) else none
def powM (i j : Int) : Option Int := if 2 ≤ i ∧ 1 ≤ j ∧ ((i.natAbs.log2 : Int) + 1) * j ≤ 1000000 then some (i ^ j.toNat) else none
def atM {α : Type} (xs : List α) (i : Int) : Option α := HT_at xs i
  where HT_at (xs : List α) (i : Int) : Option α := if 0 ≤ i then xs[i.toNat]? else if 0 ≤ i + xs.length then xs[(i + xs.length).toNat]? else none
theorem atM_V {α : Type} [Py α] {K : Frag} {F : Hp} {vs : List V} {ds : List α} {i : Int} {d : α} (h : Reps K F vs ds) (e : atM ds i = some d) : ∃ v, atI vs i = some v ∧ Py.rep K F v d := by
  have hl := h.len
  unfold atM atM.HT_at at e
  by_cases h0 : 0 ≤ i
  · rw [if_pos h0] at e
    obtain ⟨v, hv, rv⟩ := h.getD e
    have hlt : i.toNat < vs.length := (List.getElem?_eq_some_iff.mp hv).1
    refine ⟨v, ?_, rv⟩
    unfold atI ixN
    rw [if_pos h0, if_pos (by omega)]
    exact hv
  · rw [if_neg h0] at e
    by_cases h1 : 0 ≤ i + ds.length
    · rw [if_pos h1] at e
      obtain ⟨v, hv, rv⟩ := h.getD e
      refine ⟨v, ?_, rv⟩
      unfold atI ixN
      rw [if_neg h0, if_pos (by omega), hl]
      exact hv
    · rw [if_neg h1] at e; cases e
section
variable {K : Frag} {α β γ X : Type} [Py α] [Py β] [Py γ] [Arg X]
theorem ot_I {g : Int → Int → Int} : OpT K (rI0 fun i j => .int (g i j)) (fun x y : Int => g x y) := fun x y F H v u e hv hu Q q => ⟨x, y, hv, hu, q _ F H (Step.rfl e) rfl⟩
theorem ot_B {g : Int → Int → Bool} : OpT K (rI0 fun i j => .bl (g i j)) (fun x y : Int => g x y) := fun x y F H v u e hv hu Q q => ⟨x, y, hv, hu, q _ F H (Step.rfl e) rfl⟩
theorem op_mulP : OpP K (rI CMulW fun i j => .int (i * j)) mulM := fun x y z hz F H v u e hv hu Q q => by
  unfold mulM at hz
  split at hz
  · rename_i h
    cases hz
    exact ⟨x, y, hv, hu, h, q _ F H (Step.rfl e) rfl⟩
  · cases hz
theorem op_divP : OpP K (rI CDivW fun i j => .int (i / j)) divM := fun x y z hz F H v u e hv hu Q q => by
  unfold divM at hz
  split at hz
  · rename_i h
    cases hz
    exact ⟨x, y, hv, hu, h, q _ F H (Step.rfl e) rfl⟩
  · cases hz
theorem op_modP : OpP K (rI (fun _ j => 0 < j) fun i j => .int (i % j)) modM := fun x y z hz F H v u e hv hu Q q => by
  unfold modM at hz
  split at hz
  · rename_i h
    cases hz
    exact ⟨x, y, hv, hu, h, q _ F H (Step.rfl e) rfl⟩
  · cases hz
def CPowW (i j : Int) : Prop := 2 ≤ i ∧ 1 ≤ j ∧ ((i.natAbs.log2 : Int) + 1) * j ≤ 1000000
theorem op_powW {X : Cx} : OpR X (binaryOp .Pow) (rI CPowW fun i j => .int (i ^ j.toNat)) := opI fun i j t u s E Q hc q => by
  obtain ⟨h1, h2, h3⟩ := hc
  have b : Builtin.Int.intBits i ≤ i.natAbs.log2 + 1 := by
    unfold Builtin.Int.intBits
    split <;> omega
  have e : bitsLine = 134217728 := by decide
  refine PySem.AutoIntOps.pow_4 (by omega) (by simp; omega) (by simp; omega) (by simp; omega) ?_ q
  unfold Builtin.Int.intTooBig
  rw [e]
  intro z
  have z2 := of_decide_eq_true z
  have b2 : ((Builtin.Int.intBits i : Nat) : Int) ≤ (i.natAbs.log2 : Int) + 1 := by omega
  have b3 : ((Builtin.Int.intBits i : Nat) : Int) * j ≤ ((i.natAbs.log2 : Int) + 1) * j := Int.mul_le_mul_of_nonneg_right b2 (by omega)
  omega
theorem op_powP : OpP K (rI CPowW fun i j => .int (i ^ j.toNat)) powM := fun x y z hz F H v u e hv hu Q q => by
  unfold powM at hz
  split at hz
  · rename_i h
    cases hz
    exact ⟨x, y, hv, hu, h, q _ F H (Step.rfl e) rfl⟩
  · cases hz
theorem ot_neS : OpT K rNe (fun x y : Str => !decide (x = y)) := fun x y F H v u e hv hu Q q => by
  cases hv; cases hu
  exact ⟨rfl, by rw [show decide (V.str x = V.str y) = decide (x = y) by simp]; exact q _ F H (Step.rfl e) rfl⟩
class PyD (α : Type) [Py α] where
  dat : α → PyData
  dp : ∀ {K : Frag} {F H : Hp} {v : V} {d : α}, Same F H → Py.rep K F v d → Dp K H v (dat d)
  lay : ∀ d : α, (dat d).canLay0 = true
  dep : Nat
  dle : ∀ d : α, (dat d).depth ≤ dep
  eqv : ∀ a b : α, PyData.eqv (dat a) (dat b) = true ↔ a = b
theorem PyD.sh {α : Type} [Py α] [PyD α] (h : PyD.dep α ≤ 64) (d : α) : SeqAt.shaped (PyD.dat d) = true := by
  unfold SeqAt.shaped
  rw [PyD.lay, Bool.true_and]
  exact decide_eq_true (Nat.le_trans (PyD.dle d) h)
theorem PyD.eqvD {α : Type} [Py α] [PyD α] [DecidableEq α] (x y : α) : PyData.eqv (PyD.dat x) (PyD.dat y) = decide (x = y) := by
  by_cases hxy : x = y
  · rw [(PyD.eqv x y).mpr hxy, decide_eq_true hxy]
  · rw [decide_eq_false hxy]
    cases z : PyData.eqv (PyD.dat x) (PyD.dat y) with
    | false => rfl
    | true => exact absurd ((PyD.eqv x y).mp z) hxy
theorem ot_eqD [PyD α] [DecidableEq α] (h : PyD.dep α ≤ 64 := by decide) : OpT K (rEqD K) (fun x y : α => decide (x = y)) := fun x y F H v u e hv hu Q q =>
  ⟨PyD.dat x, PyD.dat y, PyD.dp e hv, PyD.dp e hu, PyD.sh h x, PyD.sh h y, by rw [PyD.eqvD]; exact q _ F H (Step.rfl e) rfl⟩
theorem op_ixL : OpP K (rIxL K) (fun (xs : List α) (i : Int) => atM xs i) := fun x y z hz F H v u e hv hu Q q => by
  obtain ⟨p, vs, rfl, hF, hr⟩ := hv
  obtain ⟨w, hw, rw'⟩ := atM_V hr hz
  exact ⟨p, vs, y, w, rfl, hu, SqL.of (e _ _ hF), hw, q _ F H (Step.rfl e) rw'⟩
end
section
variable {K : Frag} {M : Type → Type} {S : Type} [PyM M S] {ρ α β γ δ X : Type} [Py α] [Py β] [Py γ] [Py δ] [Arg X] {B : Base S} {Γ : Env} {ta tb te : TE} {tr : TA}
theorem ct_max2 : CallT K (fun xs H Q => ∃ i j, xs = [.int i, .int j] ∧ Q (.int (if j > i then j else i)) H) (fun x : Int × Int × Unit => max x.1 x.2.1) := fun x F H vs e hv Q q => by
  obtain ⟨v, _, rfl, rv, u, _, rfl, ru, rfl⟩ := hv
  refine ⟨x.1, x.2.1, by rw [show v = .int x.1 from rv, show u = .int x.2.1 from ru], ?_⟩
  rw [show (if x.2.1 > x.1 then x.2.1 else x.1) = max x.1 x.2.1 by rw [Int.max_def]; split <;> split <;> omega]
  exact q _ F H (Step.rfl e) rfl
theorem ct_int : CallT K (fun xs H Q => (∃ i, xs = [.int i] ∧ Q (.int i) H) ∨ ∃ k, xs = [.bl k] ∧ Q (.int (if k then 1 else 0)) H) (fun x : Int × Unit => x.1) := fun x F H vs e hv Q q => by
  obtain ⟨v, _, rfl, rv, rfl⟩ := hv
  exact .inl ⟨x.1, by rw [show v = .int x.1 from rv], q _ F H (Step.rfl e) rfl⟩
theorem ct_lenL : CallT K (fun xs H Q => ∃ p ys, xs = [.ref p] ∧ (SqL K H p ys ∨ SqT K H p ys) ∧ Q (.int ys.length) H) (fun x : List α × Unit => (x.1.length : Int)) := fun x F H vs e hv Q q => by
  obtain ⟨v, _, rfl, ⟨p, ws, rfl, hF, hr⟩, rfl⟩ := hv
  exact ⟨p, ws, rfl, .inl (SqL.of (e _ _ hF)), q _ F H (Step.rfl e) (by show V.int _ = V.int _; rw [hr.len])⟩
theorem reps_int {F : Hp} : ∀ {vs : List V} {ns : List Int}, Reps K F vs ns → vs = ns.map V.int
  | _, _, .nil => rfl
  | _, _, .cons h t => by rw [List.map_cons, ← reps_int t, show _ = V.int _ from h]
theorem int_reps {F : Hp} : ∀ {ns : List Int}, Reps K F (ns.map V.int) ns
  | [] => .nil
  | _ :: _ => .cons rfl int_reps
def catM (xs ys : List α) : Option (List α) := if xs.length + ys.length ≤ 16777216 then some (xs ++ ys) else none
theorem oc_cat : OpC K rCat (fun xs ys : List α => catM xs ys) := fun x y z hz F H v u e hv hu Q q => by
  obtain ⟨p, vs, rfl, hF, hr⟩ := hv
  obtain ⟨p2, vs2, rfl, hF2, hr2⟩ := hu
  have hz : catM x y = some z := hz
  unfold catM at hz
  split at hz
  · rename_i h
    cases hz
    exact ⟨p, p2, vs, vs2, rfl, rfl, e _ _ hF, e _ _ hF2, by rw [sizeLine_eq, hr.len, hr2.len]; exact h, fun l hl => q l _ hl (hr.app hr2)⟩
  · cases hz
def repM (xs : List α) (k : Int) : Option (List α) := if 0 ≤ k ∧ k < 1000000000 ∧ xs.length * k.toNat ≤ 16777216 then some (List.replicate k.toNat xs).flatten else none
theorem Reps.rep {F : Hp} {vs : List V} {ds : List α} (h : Reps K F vs ds) : ∀ n : Nat, Reps K F (List.replicate n vs).flatten (List.replicate n ds).flatten
  | 0 => .nil
  | n + 1 => by rw [List.replicate_succ, List.replicate_succ, List.flatten_cons, List.flatten_cons]; exact h.app (h.rep n)
theorem oc_rep : OpC K rRep (fun (xs : List α) (k : Int) => repM xs k) := fun x y z hz F H v u e hv hu Q q => by
  obtain ⟨p, vs, rfl, hF, hr⟩ := hv
  have hz : repM x y = some z := hz
  unfold repM at hz
  split at hz
  · rename_i h
    cases hz
    exact ⟨p, y, vs, rfl, hu, e _ _ hF, by omega, by omega, by rw [sizeLine_eq, hr.len]; exact h.2.2, fun l hl => q l _ hl (hr.rep _)⟩
  · cases hz
theorem jok_list {a : Addr} {vs : List V} {ds : List α} {F : Hp} (hF : F a = some (.lst vs)) (h : Reps K F vs ds) : JOk K B (Itl K a) ds F := fun F' H' e1 e2 _ i => by
  have hH : H' a = some (.lst vs) := e2 _ _ (e1 _ _ hF)
  refine ⟨fun x hx => ?_, fun hle => ⟨vs, SqL.of hH, by rw [h.len]; exact hle⟩⟩
  obtain ⟨v, hv, rv⟩ := h.getD hx
  refine ⟨⟨vs, v, SqL.of hH, hv⟩, fun u H'' hy => ?_⟩
  obtain ⟨rfl, hy⟩ := hy
  have e : some u = some v := (hy vs (SqL.of hH)).symm.trans hv
  cases e
  exact ⟨F', Step.rfl e2, Py.mono e1 rv⟩
theorem wa_list {ma : (List α → M ρ) → M ρ} (h : EvK K B ta Γ ma) : WaK (M := M) (ρ := ρ) K B (iList K ta) Γ ma := fun k s r s2 hr σ F H ok R q =>
  h k s r s2 hr σ F H ok _ fun xs s1 v F1 H1 hr1 w1 ok1 ⟨p, vs, e0, hF, hr'⟩ => ⟨p, e0, ⟨vs, SqL.of (ok1.fh _ _ hF)⟩, q xs s1 _ F1 H1 hr1 w1 ok1 (jok_list hF hr')⟩
def rangeM (lo hi : Int) : Option (List Int) := if -4611686018427387904 ≤ lo ∧ lo < 4611686018427387904 ∧ -4611686018427387904 ≤ hi ∧ hi < 4611686018427387904 then some ((List.range (hi - lo).toNat).map fun i => lo + (i : Nat)) else none
theorem jok_range {lo : Int} {n : Nat} {F : Hp} : JOk K B (Itr lo n) ((List.range n).map fun i => lo + (i : Nat)) F := fun F' H' e1 e2 _ i => by
  refine ⟨fun x hx => ?_, fun hle => by show n ≤ i; simpa using hle⟩
  have hin : i < n := by
    have := (List.getElem?_eq_some_iff.mp hx).1
    simpa using this
  have ex : x = lo + (i : Nat) := by
    rw [List.getElem?_map, List.getElem?_range hin] at hx
    exact (Option.some.inj hx).symm
  refine ⟨hin, fun u H'' hy => ?_⟩
  obtain ⟨rfl, rfl⟩ := hy
  exact ⟨F', Step.rfl e2, by rw [ex]; rfl⟩
theorem wa_range1 {mx : (Int × Unit → M ρ) → M ρ} (h : EvA K B tr Γ mx) : WaK (M := M) (ρ := ρ) K B (iRng1 tr) Γ (fun k => mx fun x => PyM.up (rangeM 0 x.1) >>= k) := fun k s r s2 hr σ F H ok R q =>
  h _ s r s2 hr σ F H ok _ fun x s1 vs F1 H1 hr1 w1 ok1 rx => by
    obtain ⟨z, hz, hr3⟩ := upE hr1
    obtain ⟨v, _, rfl, rv, rfl⟩ := rx
    have rv : v = .int x.1 := rv
    subst rv
    unfold rangeM at hz
    split at hz
    · rename_i hb
      cases hz
      refine ⟨x.1, rfl, by omega, by omega, q _ s1 _ F1 H1 hr3 w1 ok1 ?_⟩
      rw [show (x.1 - 0).toNat = x.1.toNat by rw [Int.sub_zero]]
      exact jok_range
    · cases hz
end
end SP
namespace SP
open PySem L2 PyProof.Rows
class ArgE (X : Type) [Arg X] where
  en : Frag → X → Env
  ok : ∀ {K : Frag} {F : Hp} {vs : List V} {x : X}, Arg.rep K F vs x → Paired (fun v e => ∃ r m, e = some (Ent.im r m) ∧ r F v) vs (en K x)
instance : ArgE Unit where
  en _ _ := []
  ok h := by cases h; exact .nil
instance {α X : Type} [Py α] [Arg X] [ArgE X] : ArgE (α × X) where
  en K x := some (imE K x.1) :: ArgE.en K x.2
  ok := fun ⟨v, ws, h0, h1, h2⟩ => by subst h0; exact .cons ⟨_, _, rfl, h1⟩ (ArgE.ok h2)
theorem paired_get {α β : Type} {R : α → β → Prop} : ∀ {xs : List α} {ys : List β} {i : Nat} {y : β}, Paired R xs ys → ys[i]? = some y → ∃ x, xs[i]? = some x ∧ R x y
  | _, _, _, _, .nil, e => by simp at e
  | _, _, 0, _, .cons h _, e => by simp at e; subst e; exact ⟨_, rfl, h⟩
  | _, _, i + 1, y, .cons _ t, e => by
    obtain ⟨d, h1, h2⟩ := paired_get (i := i) (y := y) t (by simpa using e)
    exact ⟨d, by simpa using h1, h2⟩
def spP (K : Frag) {X ρ : Type} [Arg X] [Py ρ] (f : X → Option ρ) : Sp := fun vs H Q _ => ∃ (x : X) (r : ρ) (F : Hp), Same F H ∧ Arg.rep K F vs x ∧ f x = some r ∧ ∀ v F' H', Step no F H F' H' → Py.rep K F' v r → Q v H'
def spC (K : Frag) {X γ : Type} [Arg X] [Py γ] (f : X → Option (List γ)) : Sp := fun vs H Q _ => ∃ (x : X) (r : List γ) (F : Hp), Same F H ∧ Arg.rep K F vs x ∧ f x = some r ∧ ∀ p ws F' H', Step no F H F' H' → F' p = none → H p = none → H' p = some (.lst ws) → Reps K F' ws r → Q (.ref p) H'
def spS (K : Frag) {S X ρ : Type} [Arg X] [Py ρ] (cell : Hp → S → HO → Prop) (f : X → Stm S ρ) : Sp := fun vs H Q _ => ∃ (p : Addr) (ws : List V) (x : X) (s : S) (r : ρ) (s' : S) (F : Hp) (o : HO), vs = .ref p :: ws ∧ Same F H ∧ F p = none ∧ H p = some o ∧ cell F s o ∧ Arg.rep K F ws x ∧ f x s = some (r, s') ∧
  ∀ v F' H' o', Step (fun a => a = p) F H F' H' → F' p = none → H' p = some o' → cell F' s' o' → Py.rep K F' v r → Q v H'
def IsP (B : Base Unit) : Prop := ∀ s F H, B.st s F H
def baseP (F H : Hp) : Base Unit where
  F0 := F
  H0 := H
  ex := no
  st := fun _ _ _ => True
  st_step := fun _ _ => trivial
  st_own := fun _ _ => trivial
  st_frz := fun _ _ _ _ => trivial
  ex0 := fun _ z => z.elim
structure IsS {S : Type} (B : Base S) (p : Addr) (cell : Hp → S → HO → Prop) : Prop where
  ex : ∀ a, B.ex a ↔ a = p
  st : ∀ s F H, B.st s F H ↔ (F p = none ∧ ∃ o, H p = some o ∧ cell F s o)
def baseS {S : Type} (cell : Hp → S → HO → Prop) (mono : ∀ {F F' s o}, Same F F' → cell F s o → cell F' s o) (p : Addr) (F H : Hp) (h0 : H p ≠ none) : Base S where
  F0 := F
  H0 := H
  ex := fun a => a = p
  st := fun s F H => F p = none ∧ ∃ o, H p = some o ∧ cell F s o
  st_step := fun {s F H F' H'} w ⟨h1, o, h2, h3⟩ => by
    refine ⟨?_, o, w.same _ _ h2, mono w.ff h3⟩
    rcases w.nw p with z | z
    · rw [z]; exact h1
    · rw [z] at h2; cases h2
  st_own := fun {s F H' q o} hq ⟨h1, o', h2, h3⟩ => by
    have ne : p ≠ q := fun z => h0 (by rw [z]; exact hq)
    exact ⟨h1, o', by rw [upd_ne ne]; exact h2, h3⟩
  st_frz := fun {s F H' q o} hq hF hH ⟨h1, o', h2, h3⟩ => by
    have ne : p ≠ q := fun z => h0 (by rw [z]; exact hq)
    exact ⟨by rw [upd_ne ne]; exact h1, o', h2, mono (same_upd hF) h3⟩
  ex0 := fun a e => by rw [e]; exact h0
theorem baseS_is {S : Type} {cell : Hp → S → HO → Prop} {mono} {p : Addr} {F H : Hp} {h0} : IsS (baseS (S := S) cell mono p F H h0) p cell := ⟨fun _ => Iff.rfl, fun _ _ _ => Iff.rfl⟩
theorem start_get {N : List Str} {vs : List V} {i : Nat} {v : V} (h : vs[i]? = some v) : (L2.start N vs)[i]? = some (some v) := by
  have hl : i < vs.length := (List.getElem?_eq_some_iff.mp h).1
  unfold L2.start
  rw [List.getElem?_append_left (by simpa using hl), List.getElem?_map, h]
  rfl
theorem start_len {N : List Str} {vs : List V} {n : Nat} (h : vs.length + n = N.length) : (L2.start N vs).length = vs.length + n := by
  unfold L2.start
  rw [List.length_append, List.length_map, List.length_replicate]
  omega
theorem start_ok {S : Type} {B : Base S} {s : S} {N : List Str} {vs : List V} {es : Env} {n : Nat} {H : Hp} (hg : Step B.ex B.F0 B.H0 B.F0 H) (hst : B.st s B.F0 H) (he : Paired (fun v e => ∃ r m, e = some (Ent.im r m) ∧ r B.F0 v) vs es) (hn : vs.length + n = N.length) :
    Ok B s (es ++ List.replicate n none) (L2.start N vs) B.F0 H where
  g := hg
  st := hst
  ev := fun i e h => by
    by_cases hi : i < es.length
    · rw [List.getElem?_append_left hi] at h
      obtain ⟨v, hv, r, m, e1, e2⟩ := paired_get he h
      cases Option.some.inj e1
      exact ⟨v, start_get hv, e2⟩
    · rw [List.getElem?_append_right (by omega)] at h
      have := List.getElem?_replicate (n := n) (a := (none : Option Ent)) (i := i - es.length)
      rw [this] at h
      split at h
      · cases h
      · cases h
  nd := fun i j c m c' m' p n h1 h2 _ _ => by
    by_cases hi : i < es.length
    · rw [List.getElem?_append_left hi] at h1
      obtain ⟨v, hv, r, m, e1, e2⟩ := paired_get he h1
      cases Option.some.inj e1
    · rw [List.getElem?_append_right (by omega)] at h1
      rw [List.getElem?_replicate] at h1
      split at h1
      · cases h1
      · cases h1
  ln := by
    rw [List.length_append, List.length_replicate, start_len hn, Paired.length he]
    exact Nat.le_refl _
abbrev NX0 {ρ : Type} : ρ → Option Env := fun _ => none
abbrev RTP (K : Frag) {ρ : Type} [Py ρ] : ρ → Hp → Hp → V → Prop := fun r F _ v => Py.rep K F v r
section
variable {K : Frag} {X ρ γ : Type} [Arg X] [ArgE X] [Py ρ] [Py γ] {t : TS} {N : List Str}
theorem body_P {f : X → Option ρ} (n : Nat) (hn : ∀ vs F (x : X), Arg.rep K F vs x → vs.length + n = N.length) (h : ∀ (B : Base Unit) (x : X), IsP B → ST B NX0 (RTP K) t (ArgE.en K x ++ List.replicate n none) (f x)) :
    ∀ vs H Q E, spP K f vs H Q E → t { nx := fun _ H' => Q .non H', rt := Q } (L2.start N vs) H := fun vs H Q E ⟨x, r, F, sm, ha, hf, q⟩ => by
  refine h (baseP F H) x (fun _ _ _ => trivial) () r () ?_ _ F H (start_ok (B := baseP F H) (Step.rfl sm) trivial (ArgE.ok ha) (hn vs F x ha)) _ (fun _ _ _ _ z => by cases z) fun v F' H' w _ rv => q v F' H' w rv
  show (f x).map (fun a => (a, ())) = _
  rw [hf]; rfl
theorem body_C {f : X → Option (List γ)} (n : Nat) (hn : ∀ vs F (x : X), Arg.rep K F vs x → vs.length + n = N.length) (h : ∀ (B : Base Unit) (x : X), IsP B → ST B NX0 (RTC K B) t (ArgE.en K x ++ List.replicate n none) (f x)) :
    ∀ vs H Q E, spC K f vs H Q E → t { nx := fun _ H' => Q .non H', rt := Q } (L2.start N vs) H := fun vs H Q E ⟨x, r, F, sm, ha, hf, q⟩ => by
  refine h (baseP F H) x (fun _ _ _ => trivial) () r () ?_ _ F H (start_ok (B := baseP F H) (Step.rfl sm) trivial (ArgE.ok ha) (hn vs F x ha)) _ (fun _ _ _ _ z => by cases z) fun v F' H' w _ ⟨p, ws, rv, a1, a2, a3, a4⟩ => by
    subst rv
    exact q p ws F' H' w a1 a2 a3 a4
  show (f x).map (fun a => (a, ())) = _
  rw [hf]; rfl
variable {S : Type} {cell : Hp → S → HO → Prop}
theorem start_S {p : Addr} {vs : List V} {x : X} {F : Hp} (ha : Arg.rep K F vs x) : Paired (fun v e => ∃ r m, e = some (Ent.im r m) ∧ r F v) (.ref p :: vs) (some (adE p) :: ArgE.en K x) := .cons ⟨_, _, rfl, rfl⟩ (ArgE.ok ha)
theorem body_S (mono : ∀ {F F' s o}, Same F F' → cell F s o → cell F' s o) {f : X → Stm S ρ} (n : Nat) (hn : ∀ vs F (x : X), Arg.rep K F vs x → vs.length + 1 + n = N.length) (h : ∀ (B : Base S) (p : Addr) (x : X), IsS B p cell → ST B NX0 (RTP K) t (some (adE p) :: ArgE.en K x ++ List.replicate n none) (f x)) :
    ∀ vs H Q E, spS K cell f vs H Q E → t { nx := fun _ H' => Q .non H', rt := Q } (L2.start N vs) H := fun vs H Q E ⟨p, ws, x, s, r, s', F, o, e0, sm, hF, hH, hc, ha, hf, q⟩ => by
  subst e0
  have h0 : H p ≠ none := by rw [hH]; intro z; cases z
  refine h (baseS cell mono p F H h0) p x baseS_is s r s' hf _ F H (start_ok (B := baseS cell mono p F H h0) (Step.rfl sm) ⟨hF, o, hH, hc⟩ (start_S ha) (by rw [List.length_cons]; exact hn ws F x ha)) _ (fun _ _ _ _ z => by cases z) fun v F' H' w ⟨g1, o', g2, g3⟩ rv => q v F' H' o' w g1 g2 g3 rv
end
section
variable {K : Frag} {M : Type → Type} {S : Type} [PyM M S] {ρ α β γ X X' : Type} [Py α] [Py β] [Py γ] [Arg X] [Arg X'] {B : Base S} {Γ : Env} {ta tb te : TE} {tr : TA} {E : XK} {mx : (X → M ρ) → M ρ}
theorem ev_call {f : X → Option γ} (hx : EvA K B tr Γ mx) : EvK (M := M) (ρ := ρ) K B (tCall (spP K f) [] E tr) Γ (fun k => mx fun x => PyM.up (f x) >>= k) := fun k s r s2 hr σ F H ok Q q =>
  hx _ s r s2 hr σ F H ok _ fun x s1 vs F1 H1 hr1 w1 ok1 rx => by
    obtain ⟨z, hz, hr3⟩ := upE hr1
    rw [List.append_nil]
    exact ⟨x, z, F1, ok1.fh, rx, hz, fun v F' H' w rv => q z s1 v F' H' hr3 (w1.trans (st_no w)) (ok1.step w) rv⟩
theorem ec_call {f : X → Option (List γ)} (hx : EvA K B tr Γ mx) : EvC (M := M) (ρ := ρ) K B (tCall (spC K f) [] E tr) Γ (fun k => mx fun x => PyM.up (f x) >>= k) := fun k s r s2 hr σ F H ok Q q =>
  hx _ s r s2 hr σ F H ok _ fun x s1 vs F1 H1 hr1 w1 ok1 rx => by
    obtain ⟨z, hz, hr3⟩ := upE hr1
    rw [List.append_nil]
    exact ⟨x, z, F1, ok1.fh, rx, hz, fun p ws F' H' w a1 a2 a3 a4 => q z s1 p ws F' H' hr3 (w1.trans (st_no w)) (ok1.step w) a1 (ok1.own a2) (w1.al p a2) (ok1.out a2) a3 a4⟩
variable {cell : Hp → S → HO → Prop} {p : Addr}
theorem IsS.got (hB : IsS B p cell) {s s' : S} {σ : L2.St} {F H F' H' : Hp} {o' : HO} (ok : Ok B s Γ σ F H) (w : Step (fun a => a = p) F H F' H') (h1 : F' p = none) (h2 : H' p = some o') (h3 : cell F' s' o') : Step B.ex F H F' H' ∧ Ok B s' Γ σ F' H' := by
  have w' : Step B.ex F H F' H' := w.wide fun a z => (hB.ex a).mpr z
  exact ⟨w', ok.stepX w' ((hB.st s' F' H').mpr ⟨h1, o', h2, h3⟩)⟩
theorem ev_callS {mx : (X → Stm S ρ) → Stm S ρ} {f : X → Stm S γ} {i0 : Nat} (hB : IsS B p cell) (hx : EvA (M := Stm S) K B tr Γ mx) (h0 : Γ[i0]? = some (some (adE p)) := by rfl) : EvK (M := Stm S) (ρ := ρ) K B (tCall (spS K cell f) [] E (tCons (tVar i0) tr)) Γ (fun k => mx fun x => f x >>= k) := fun k s r s2 hr σ F H ok Q q => by
  obtain ⟨v, hv, ev⟩ := ok.ev i0 _ h0
  have ev : v = .ref p := ev
  subst ev
  refine ⟨_, hv, hx _ s r s2 hr σ F H ok _ fun x s1 vs F1 H1 hr1 w1 ok1 rx => ?_⟩
  obtain ⟨z, s3, e1, e2⟩ := bindE hr1
  obtain ⟨g1, o, g2, g3⟩ := (hB.st s1 F1 H1).mp ok1.st
  rw [List.append_nil]
  refine ⟨p, vs, x, s1, z, s3, F1, o, rfl, ok1.fh, g1, g2, g3, rx, e1, fun v F' H' o' w a1 a2 a3 rv => ?_⟩
  obtain ⟨w2, ok2⟩ := hB.got ok1 w a1 a2 a3
  exact q z s3 v F' H' e2 (w1.trans w2) ok2 rv
end
abbrev Pu : Type := List Int
def pcell : Hp → Pu → HO → Prop := fun _ s o => o = .lst (s.map V.int)
theorem pcell_mono : ∀ {F F' : Hp} {s : Pu} {o : HO}, Same F F' → pcell F s o → pcell F' s o := fun _ h => h
section
variable {K : Frag} {ρ α β γ X : Type} [Py α] [Py β] [Py γ] [Arg X] {B : Base Pu} {Γ : Env} {ta tb te : TE} {p : Addr}
def getP (i : Int) : Stm Pu Int := fun s => (atM s i).map fun v => (v, s)
def setP (i v : Int) : Stm Pu Unit := fun s => if 0 ≤ i ∧ i < s.length then some ((), s.set i.toNat v) else none
theorem ev_getP {i0 : Nat} {mi : (Int → Stm Pu ρ) → Stm Pu ρ} (hB : IsS B p pcell) (hi : EvK (M := Stm Pu) K B ta Γ mi) (h0 : Γ[i0]? = some (some (adE p)) := by rfl) : EvK (M := Stm Pu) (ρ := ρ) K B (tOp (rIxL K) (tVar i0) ta) Γ (fun k => mi fun i => getP i >>= k) := fun k s r s2 hr σ F H ok Q q => by
  obtain ⟨v, hv, ev⟩ := ok.ev i0 _ h0
  have ev : v = .ref p := ev
  subst ev
  refine ⟨_, hv, hi _ s r s2 hr σ F H ok _ fun i s1 u F1 H1 hr1 w1 ok1 ri => ?_⟩
  obtain ⟨z, s3, e1, e2⟩ := bindE hr1
  obtain ⟨g1, o, g2, g3⟩ := (hB.st s1 F1 H1).mp ok1.st
  have g3 : o = .lst (s1.map V.int) := g3
  subst g3
  have e1 : (atM s1 i).map (fun v => (v, s1)) = some (z, s3) := e1
  cases ez : atM s1 i with
  | none => rw [ez] at e1; cases e1
  | some w =>
    rw [ez] at e1
    have e1 := Option.some.inj e1
    injection e1 with e3 e4
    subst e3 e4
    obtain ⟨w', hw, rw'⟩ := atM_V (K := K) (F := F1) (int_reps (ns := s1)) ez
    exact ⟨p, _, i, w', rfl, ri, SqL.of g2, hw, q _ s1 _ F1 H1 e2 w1 ok1 rw'⟩
theorem sk_setP {NXX : ρ → Option Env} {RT : ρ → Hp → Hp → V → Prop} {i0 : Nat} {mv mi : (Int → Stm Pu ρ) → Stm Pu ρ} (hB : IsS B p pcell) (hv : EvK (M := Stm Pu) K B te Γ mv) (hi : EvK (M := Stm Pu) K B ta Γ mi) (h0 : Γ[i0]? = some (some (adE p)) := by rfl) :
    SK (M := Stm Pu) (β := Unit) B RT (tAsg te (gSub (tVar i0) ta rSetL)) Γ (fun k => mv fun v => mi fun i => setP i v >>= k) (fun _ => Γ) := fun k s r s2 hr σ F H ok D nx rt => by
  refine hv _ s r s2 hr σ F H ok _ fun w s1 u F1 H1 hr1 w1 ok1 rw' => ?_
  obtain ⟨x, hx, ex⟩ := ok1.ev i0 _ h0
  have ex : x = .ref p := ex
  subst ex
  refine ⟨_, hx, hi _ s1 r s2 hr1 σ F1 H1 ok1 _ fun i s3 u3 F3 H3 hr3 w3 ok3 ri => ?_⟩
  obtain ⟨z, s4, e1, e2⟩ := bindE hr3
  obtain ⟨g1, o, g2, g3⟩ := (hB.st s3 F3 H3).mp ok3.st
  have g3 : o = .lst (s3.map V.int) := g3
  subst g3
  have e1 : (if 0 ≤ i ∧ i < s3.length then some ((), s3.set i.toNat w) else none) = some (z, s4) := e1
  split at e1
  · rename_i hb
    have e1 := Option.some.inj e1
    injection e1 with e5 e6
    subst e6
    have rw' : u = .int w := rw'
    subst rw'
    refine ⟨p, _, i, i.toNat, rfl, ri, g2, ?_, ?_⟩
    · unfold ixN
      rw [if_pos hb.1, if_pos (by rw [List.length_map]; exact hb.2)]
    · rw [← List.map_set]
      have wst : Step (fun a => a = p) F3 H3 F3 (upd H3 p (.lst ((s3.set i.toNat w).map V.int))) := by
        refine ⟨Same.refl _, fun a o n e => by rw [upd_ne n]; exact e, fun a o e => ?_, fun a => .inl rfl, fun a e => ?_⟩
        · rw [upd_ne (ne_of_none e g1)]; exact ok3.fh a o e
        · by_cases ha : a = p
          · subst ha; rw [upd_same] at e; cases e
          · rw [upd_ne ha] at e; exact e
      obtain ⟨w4, ok4⟩ := hB.got (s' := s3.set i.toNat w) ok3 wst g1 upd_same rfl
      exact nx z _ σ F3 _ e2 (w1.ff.trans (w3.ff.trans w4.ff)) ok4
  · cases e1
end
def noCe : Env → Bool
  | [] => true
  | some (Ent.ce _ _) :: _ => false
  | _ :: r => noCe r
theorem noCe_get : ∀ {Γ : Env} {i : Nat} {c m}, noCe Γ = true → Γ[i]? ≠ some (some (Ent.ce c m))
  | [], i, c, m, _, h => by simp at h
  | some (Ent.ce _ _) :: r, _, c, m, h, _ => by cases h
  | none :: r, 0, c, m, _, h => by simp at h
  | some (Ent.im _ _) :: r, 0, c, m, _, h => by simp at h
  | none :: r, i + 1, c, m, h, e => noCe_get (Γ := r) (i := i) (show noCe r = true from h) (by simpa using e)
  | some (Ent.im _ _) :: r, i + 1, c, m, h, e => noCe_get (Γ := r) (i := i) (show noCe r = true from h) (by simpa using e)
theorem st_purse {K : Frag} {ρ : Type} {B : Base Unit} {Γ : Env} {te : TE} {u : TS} {i : Nat} {NX : ρ → Option Env} {RT : ρ → Hp → Hp → V → Prop} {ml : (List Int → Option ρ) → Option ρ} {m : Stm Pu ρ} (hP : IsP B) (h : EvC (M := Option) K B te Γ ml) (hc : noCe Γ = true)
    (hu : ∀ (B' : Base Pu) (p : Addr), IsS B' p pcell → ST B' NX RT u (Γ.set i (some (adE p))) m) (hnx : ∀ r Γ', NX r = some Γ' → noCe Γ' = true) : ST (M := Option) B NX RT (tSeq (tAsg te (gName i)) u) Γ (ml fun c => (m c).map (·.1)) := fun s r s2 hr σ F H ok D nx rt =>
  h _ s r s2 hr σ F H ok _ fun ds s1 p vs F1 H1 hr1 w1 ok1 hF h0 hH hp hL rl => by
    have ev := reps_int rl
    subst ev
    have hr1 : ((m ds).map (·.1)).map (fun a => (a, ())) = some (r, s2) := hr1
    cases em : m ds with
    | none => rw [em] at hr1; cases hr1
    | some q =>
      obtain ⟨r', c'⟩ := q
      rw [em] at hr1
      have e := Option.some.inj hr1
      injection e with e1 e2
      subst e1
      have n0 : H1 p ≠ none := by rw [hL]; intro z; cases z
      have okB : Ok (baseS pcell pcell_mono p F1 H1 n0) ds (Γ.set i (some (adE p))) (σ.set i (some (.ref p))) F1 H1 := by
        refine Ok.setIm (r := fun _ v => v = .ref p) (show Ok (baseS pcell pcell_mono p F1 H1 n0) ds Γ σ F1 H1 from ⟨Step.rfl ok1.fh, ⟨hF, _, hL, rfl⟩, fun j e he => ?_, fun j l c m c' m' q n a1 _ _ _ => noCe_get hc a1, ok1.ln⟩) rfl
        obtain ⟨v, hv, hv2⟩ := ok1.ev j e he
        refine ⟨v, hv, ?_⟩
        cases e with
        | im r m => exact hv2
        | ce c m => exact absurd he (noCe_get hc)
      have up : ∀ {F' H' : Hp}, Step (fun a => a = p) F1 H1 F' H' → Step B.ex B.F0 B.H0 F' H' := fun {F' H'} w => by
        have g := ok1.g
        exact ⟨g.ff.trans w.ff, fun a o n e => w.hh a o (fun z => by rw [z, h0] at e; cases e) (g.hh a o n e), w.fh, fun a => by
          rcases w.nw a with z | z
          · rw [z]; exact g.nw a
          · exact .inr (g.al a z), fun a e => g.al a (w.al a e)⟩
      refine hu (baseS pcell pcell_mono p F1 H1 n0) p baseS_is ds r' c' em _ F1 H1 okB _ (fun Γ' σ' F' H' z e ok' => ?_) fun v F' H' w st rv => rt v F' H' (up w) (hP _ _ _) rv
      refine nx Γ' σ' F' H' z (w1.ff.trans e) ⟨up ok'.g, hP _ _ _, fun j e he => ?_, fun j l c m c' m' q n a1 _ _ _ => noCe_get (hnx _ _ z) a1, ok'.ln⟩
      obtain ⟨v, hv, hv2⟩ := ok'.ev j e he
      refine ⟨v, hv, ?_⟩
      cases e with
      | im r m => exact hv2
      | ce c m => exact absurd he (noCe_get (hnx _ _ z))
end SP
namespace SP
open PySem L2 PyProof.Rows
class Seq (T : Type) [Py T] (α : outParam Type) [Py α] where
  items : T → List α
  ok : ∀ {K : Frag} {F : Hp} {v : V} {t : T}, Py.rep K F v t → ∃ p vs, v = .ref p ∧ SqT K F p vs ∧ Reps K F vs (items t)
instance {α : Type} [Py α] : Seq (Tup α) α where
  items t := t.l
  ok h := h
instance {α : Type} [Py α] : Seq (α × α) α where
  items t := [t.1, t.2]
  ok := fun ⟨p, x, y, h0, h1, h2, h3⟩ => ⟨p, _, h0, h1, .cons h2 (.cons h3 .nil)⟩
instance {α : Type} [Py α] : Seq (T3 α α α) α where
  items t := [t.a, t.b, t.c]
  ok := fun ⟨p, x, y, z, h0, h1, h2, h3, h4⟩ => ⟨p, _, h0, h1, .cons h2 (.cons h3 (.cons h4 .nil))⟩
instance {α : Type} [Py α] : Seq (T4 α α α α) α where
  items t := [t.a, t.b, t.c, t.d]
  ok := fun ⟨p, x, y, z, u, h0, h1, h2, h3, h4, h5⟩ => ⟨p, _, h0, h1, .cons h2 (.cons h3 (.cons h4 (.cons h5 .nil)))⟩
section
variable {K : Frag} {M : Type → Type} {S : Type} [PyM M S] {ρ α β γ δ T X : Type} [Py α] [Py β] [Py γ] [Py δ] [Py T] [Arg X] {B : Base S} {Γ : Env} {ta tb tc te : TE} {tr : TA}
class PyT (T : Type) [Py T] (n : outParam String) where
  ty : ∀ {K : Frag} {F : Hp} {v : V} {t : T}, Py.rep K F v t → TyX K F v (.type n)
theorem tyx_tup {F : Hp} {p : Addr} {xs : List V} (h : SqT K F p xs) : TyX K F (.ref p) (.type "tuple") := by
  rcases h with (h | ⟨o, h⟩) | ⟨o, its, n, h1, h2, _⟩
  · exact .base (.tup h)
  · exact .fTuple h
  · exact .kTuple h1 h2
instance : PyT Int "int" where
  ty h := by cases h; exact .base (.int _)
instance : PyT Bool "bool" where
  ty h := by cases h; exact .base (.bl _)
instance : PyT Str "str" where
  ty h := by cases h; exact .base (.str _)
instance : PyT Unit "NoneType" where
  ty h := by cases h; exact .base .non
instance : PyT (α × β) "tuple" where
  ty := fun ⟨p, x, y, h0, h1, _⟩ => by subst h0; exact tyx_tup h1
instance : PyT (T3 α β γ) "tuple" where
  ty := fun ⟨p, x, y, z, h0, h1, _⟩ => by subst h0; exact tyx_tup h1
instance : PyT (T4 α β γ δ) "tuple" where
  ty := fun ⟨p, x, y, z, u, h0, h1, _⟩ => by subst h0; exact tyx_tup h1
instance : PyT (Tup α) "tuple" where
  ty := fun ⟨p, vs, h0, h1, _⟩ => by subst h0; exact tyx_tup h1
instance : PyT (List α) "list" where
  ty := fun ⟨p, vs, h0, h1, _⟩ => by subst h0; exact .base (.lst h1)
theorem TyX.mono {F H : Hp} {v : V} {n : String} (e : Same F H) (h : TyX K F v (.type n)) : TyX K H v (.type n) := by
  cases h with
  | base b => cases b with
    | non => exact .base .non
    | bl x => exact .base (.bl x)
    | int x => exact .base (.int x)
    | str x => exact .base (.str x)
    | flt x => exact .base (.flt x)
    | lst h => exact .base (.lst (e _ _ h))
    | frz h => exact .base (.frz (e _ _ h))
    | tup h => exact .base (.tup (e _ _ h))
    | dK h => exact .base (.dK (e _ _ h))
    | dT h => exact .base (.dT (e _ _ h))
  | byt b => exact .byt b
  | set h => exact .set (e _ _ h)
  | kList h c => exact .kList h c
  | kTuple h c => exact .kTuple h c
  | kDict h c => exact .kDict h c
  | fTuple h => exact .fTuple (e _ _ h)
  | fDict h => exact .fDict (e _ _ h)
def apM (xs : List α) (x : α) : Option (List α) := if xs.length < 16777216 then some (xs ++ [x]) else none
theorem sk_app {RT : ρ → Hp → Hp → V → Prop} {i : Nat} {ds : List α} {ma : (α → M ρ) → M ρ} (hi : Γ[i]? = some (some (ceL K ds))) (ha : EvK K B ta Γ ma) :
    SK (M := M) (β := List α) B RT (tDrop (tBM K "list" rAppend (tVar i) (tCons ta tNil))) Γ (fun k => ma fun a => PyM.up (apM ds a) >>= k) (fun es => Γ.set i (some (ceL K es))) := fun k s r s2 hr σ F H ok D nx rt => by
  obtain ⟨p0, o0, hv0, hF0, h00, hH0, vs0, rfl, _⟩ := ok.cell hi
  refine ⟨_, hv0, .inl ⟨rfl, _, SqL.of hH0⟩, ha _ s r s2 hr σ F H ok _ fun a s1 v F1 H1 hr1 w1 ok1 ra => ?_⟩
  obtain ⟨es, hes, hr2⟩ := upE hr1
  obtain ⟨p, o, hv, hF, h0, hH, vs, rfl, hrep⟩ := ok1.cell hi
  have e : V.ref p0 = V.ref p := Option.some.inj (Option.some.inj (hv0.symm.trans hv))
  cases e
  unfold apM at hes
  split at hes
  · rename_i hlt
    cases hes
    exact ⟨p0, vs, v, rfl, rfl, hH, by rw [sizeLine_eq, hrep.len]; exact hlt, nx _ s1 σ F1 _ hr2 w1.ff (ok1.mut (c' := fun F _ o => ∃ vs, o = .lst vs ∧ Reps K F vs (ds ++ [a])) (m' := fun _ _ _ _ e ⟨vs, h0, h1⟩ => ⟨vs, h0, h1.mono e⟩) hi hv ⟨_, rfl, hrep.app (.cons ra .nil)⟩)⟩
  · cases hes
end
theorem dpall {K : Frag} {F H : Hp} {α : Type} [Py α] [PyD α] (e : Same F H) : ∀ {vs : List V} {ds : List α}, Reps K F vs ds → DpAll K H vs (ds.map PyD.dat)
  | _, _, .nil => .nil
  | _, _, .cons h t => .cons (PyD.dp e h) (dpall e t)
theorem eqv_map {α : Type} [Py α] [PyD α] : ∀ (xs ys : List α), PyData.eqvAll (xs.map PyD.dat) (ys.map PyD.dat) = true ↔ xs = ys
  | [], [] => by simp [PyData.eqvAll]
  | [], _ :: _ => by simp [PyData.eqvAll]
  | _ :: _, [] => by simp [PyData.eqvAll]
  | x :: xs, y :: ys => by
    rw [List.map_cons, List.map_cons, PyData.eqvAll, Bool.and_eq_true, PyD.eqv, eqv_map xs ys, List.cons.injEq]
theorem lay_map {α : Type} [Py α] [PyD α] : ∀ xs : List α, PyData.canLayAll0 (xs.map PyD.dat) = true
  | [] => by simp [PyData.canLayAll0]
  | x :: xs => by simp [PyData.canLayAll0, PyD.lay, lay_map xs]
theorem dep_map {α : Type} [Py α] [PyD α] : ∀ xs : List α, PyData.depthAll (xs.map PyD.dat) ≤ PyD.dep α
  | [] => by simp [PyData.depthAll]
  | x :: xs => by
    rw [List.map_cons, PyData.depthAll]
    exact Nat.max_le.mpr ⟨PyD.dle x, dep_map xs⟩
instance : PyD Int where
  dat i := .int i
  dp _ h := by cases h; exact .int _
  lay _ := by simp [PyData.canLay0]
  dep := 0
  dle _ := by simp [PyData.depth]
  eqv a b := by simp [PyData.eqv]
instance : PyD Bool where
  dat i := .bool i
  dp _ h := by cases h; exact .bl _
  lay _ := by simp [PyData.canLay0]
  dep := 0
  dle _ := by simp [PyData.depth]
  eqv a b := by simp [PyData.eqv]
section
variable {α β γ δ : Type} [Py α] [Py β] [Py γ] [Py δ] [PyD α] [PyD β] [PyD γ] [PyD δ]
instance : PyD (List α) where
  dat xs := .list (xs.map PyD.dat)
  dp e := fun ⟨p, vs, h0, h1, h2⟩ => by subst h0; exact .lst (SqL.of (e _ _ h1)) (dpall e h2)
  lay xs := by simp [PyData.canLay0, lay_map]
  dep := PyD.dep α + 1
  dle xs := by rw [PyData.depth]; exact Nat.succ_le_succ (dep_map xs)
  eqv a b := by rw [PyData.eqv]; exact eqv_map a b
instance : PyD (Tup α) where
  dat xs := .tuple (xs.l.map PyD.dat)
  dp e := fun ⟨p, vs, h0, h1, h2⟩ => by subst h0; exact .tup (seqT_mono e h1) (dpall e h2)
  lay xs := by simp [PyData.canLay0, lay_map]
  dep := PyD.dep α + 1
  dle xs := by rw [PyData.depth]; exact Nat.succ_le_succ (dep_map xs.l)
  eqv a b := by
    rw [PyData.eqv, eqv_map]
    exact ⟨fun h => by cases a; cases b; cases h; rfl, fun h => by rw [h]⟩
instance : PyD (α × β) where
  dat x := .tuple [PyD.dat x.1, PyD.dat x.2]
  dp e := fun ⟨p, x, y, h0, h1, h2, h3⟩ => by subst h0; exact .tup (seqT_mono e h1) (.cons (PyD.dp e h2) (.cons (PyD.dp e h3) .nil))
  lay x := by simp [PyData.canLay0, PyData.canLayAll0, PyD.lay]
  dep := max (PyD.dep α) (PyD.dep β) + 1
  dle x := by
    have h1 := PyD.dle x.1
    have h2 := PyD.dle x.2
    simp only [PyData.depth, PyData.depthAll]
    omega
  eqv a b := by
    simp only [PyData.eqv, PyData.eqvAll, Bool.and_eq_true, Bool.and_true, PyD.eqv]
    exact ⟨fun ⟨h1, h2⟩ => Prod.ext h1 h2, fun h => by rw [h]; exact ⟨rfl, rfl⟩⟩
instance : PyD (T3 α β γ) where
  dat x := .tuple [PyD.dat x.a, PyD.dat x.b, PyD.dat x.c]
  dp e := fun ⟨p, x, y, z, h0, h1, h2, h3, h4⟩ => by subst h0; exact .tup (seqT_mono e h1) (.cons (PyD.dp e h2) (.cons (PyD.dp e h3) (.cons (PyD.dp e h4) .nil)))
  lay x := by simp [PyData.canLay0, PyData.canLayAll0, PyD.lay]
  dep := max (PyD.dep α) (max (PyD.dep β) (PyD.dep γ)) + 1
  dle x := by
    have h1 := PyD.dle x.a
    have h2 := PyD.dle x.b
    have h3 := PyD.dle x.c
    simp only [PyData.depth, PyData.depthAll]
    omega
  eqv a b := by
    simp only [PyData.eqv, PyData.eqvAll, Bool.and_eq_true, Bool.and_true, PyD.eqv]
    exact ⟨fun ⟨h1, h2, h3⟩ => by cases a; cases b; simp_all, fun h => by rw [h]; exact ⟨rfl, rfl, rfl⟩⟩
instance : PyD (T4 α β γ δ) where
  dat x := .tuple [PyD.dat x.a, PyD.dat x.b, PyD.dat x.c, PyD.dat x.d]
  dp e := fun ⟨p, x, y, z, u, h0, h1, h2, h3, h4, h5⟩ => by subst h0; exact .tup (seqT_mono e h1) (.cons (PyD.dp e h2) (.cons (PyD.dp e h3) (.cons (PyD.dp e h4) (.cons (PyD.dp e h5) .nil))))
  lay x := by simp [PyData.canLay0, PyData.canLayAll0, PyD.lay]
  dep := max (PyD.dep α) (max (PyD.dep β) (max (PyD.dep γ) (PyD.dep δ))) + 1
  dle x := by
    have h1 := PyD.dle x.a
    have h2 := PyD.dle x.b
    have h3 := PyD.dle x.c
    have h4 := PyD.dle x.d
    simp only [PyData.depth, PyData.depthAll]
    omega
  eqv a b := by
    simp only [PyData.eqv, PyData.eqvAll, Bool.and_eq_true, Bool.and_true, PyD.eqv]
    exact ⟨fun ⟨h1, h2, h3, h4⟩ => by cases a; cases b; simp_all, fun h => by rw [h]; exact ⟨rfl, rfl, rfl, rfl⟩⟩
end
end SP
namespace SP
open PySem L2 PyProof.Rows
class ArgN (X : Type) [Arg X] where
  n : Nat
  ok : ∀ {K : Frag} {F : Hp} {vs : List V} {x : X}, Arg.rep K F vs x → vs.length = n
instance : ArgN Unit where
  n := 0
  ok h := by cases h; rfl
instance {α X : Type} [Py α] [Arg X] [ArgN X] : ArgN (α × X) where
  n := ArgN.n X + 1
  ok := fun ⟨v, ws, h0, h1, h2⟩ => by subst h0; rw [List.length_cons, ArgN.ok h2]
section
variable {K : Frag} {X ρ γ S : Type} [Arg X] [ArgN X] [Py ρ] [Py γ] {cell : Hp → S → HO → Prop}
theorem spP_len {f : X → Option ρ} (vs : List V) (H : Hp) (Q : VK) (E : XK) (h : spP K f vs H Q E) : vs.length = ArgN.n X := by
  obtain ⟨x, r, F, sm, ha, _⟩ := h
  exact ArgN.ok ha
theorem spC_len {f : X → Option (List γ)} (vs : List V) (H : Hp) (Q : VK) (E : XK) (h : spC K f vs H Q E) : vs.length = ArgN.n X := by
  obtain ⟨x, r, F, sm, ha, _⟩ := h
  exact ArgN.ok ha
theorem spS_len {f : X → Stm S ρ} (vs : List V) (H : Hp) (Q : VK) (E : XK) (h : spS K cell f vs H Q E) : vs.length = ArgN.n X + 1 := by
  obtain ⟨p, ws, x, s, r, s', F, o, rfl, sm, _, _, _, ha, _⟩ := h
  rw [List.length_cons, ArgN.ok ha]
end
section
variable {K : Frag} {M : Type → Type} {S : Type} [PyM M S] {ρ α β γ X : Type} [Py α] [Py β] [Py γ] [Arg X] {B : Base S} {Γ : Env} {ta tb te : TE} {tr : TA}
theorem st_conv {NX : ρ → Option Env} {RT : ρ → Hp → Hp → V → Prop} {t : TS} {m m' : M ρ} (h : ST B NX RT t Γ m) (e : m = m') : ST B NX RT t Γ m' := e ▸ h
end
theorem arg0 {K : Frag} : ∀ F vs (x : Unit), Arg.rep K F vs x → vs.length ≤ sizeLine := fun F vs x h => by cases h; exact Nat.zero_le _
theorem argn {K : Frag} {X : Type} [Arg X] [ArgN X] (hn : ArgN.n X ≤ 1000) : ∀ F vs (x : X), Arg.rep K F vs x → vs.length ≤ sizeLine := fun F vs x h => by
  rw [ArgN.ok h, sizeLine_eq]
  exact Nat.le_trans hn (by decide)
section
variable {K : Frag} {α : Type} [Py α]
end
section
variable {K : Frag} {M : Type → Type} {S : Type} [PyM M S] {ρ : Type} {B : Base S} {Γ : Env} {te : TE}
end
def mapL {M : Type → Type} [Monad M] {α β : Type} (f : α → M β) : List α → M (List β)
  | [] => pure []
  | x :: xs => f x >>= fun y => mapL f xs >>= fun ys => pure (y :: ys)
section
variable {K : Frag} {M : Type → Type} {S : Type} [PyM M S] {ρ α γ : Type} [Py α] [Py γ] {B : Base S} {Γ : Env} {te : TE}
theorem mapE {f : α → M γ} {x : α} {xs : List α} {k : List γ → M ρ} {s : S} {r : ρ × S} (h : PyM.run (mapL f (x :: xs) >>= k) s = some r) : ∃ y s1, PyM.run (f x) s = some (y, s1) ∧ PyM.run (mapL f xs >>= fun ys => k (y :: ys)) s1 = some r := by
  obtain ⟨c, s1, h1, h2⟩ := bindE h
  obtain ⟨y, s2, h3, h4⟩ := bindE (M := M) h1
  obtain ⟨ys, s3, h5, h6⟩ := bindE (M := M) h4
  obtain ⟨rfl, rfl⟩ := pureE (M := M) h6
  refine ⟨y, s2, h3, ?_⟩
  rw [PyM.run_bind, h5]
  exact h2
theorem ec_lcN {wi : TI} {g : TG} {mw : (List α → M ρ) → M ρ} {is : List Nat} {vs : List Nat} {tgo : α → Env} {me : α → (γ → M γ) → M γ} (hw : WaK K B wi Γ mw) (hg : TgK K B g (wipeE Γ vs) is tgo) (hi : ∀ i ∈ is, i ∈ vs)
    (he : ∀ x, EvK (M := M) (ρ := γ) K B te (tgo x) (me x)) :
    EvC (M := M) (ρ := ρ) K B (tLc wi g tYes te vs) Γ (fun k => mw fun xs => PyM.up (szM xs.length) >>= fun _ => mapL (fun x => me x pure) xs >>= k) := fun k s r s2 hr σ F H ok Q q =>
  hw _ s r s2 hr σ F H ok _ fun xs s1 J F1 H1 hr1 w1 ok1 hJ => by
    obtain ⟨u, hz, hr1⟩ := upE hr1
    have hsz := szM_ok hz
    intro L hL
    have hLF : F1 L = none := ok1.fh.free hL
    have hL0 : B.H0 L = none := ok1.own hL
    have hLO : Out Γ σ L := ok1.out hL
    let f : α → M γ := fun x => me x pure
    let I : Nat → Hp → S → Hp → Prop := fun i H s F' => ∃ ds acc, PyM.run (mapL f (xs.drop i) >>= fun ys => k (ds ++ ys)) s = some (r, s2) ∧ Step B.ex F1 H1 F' H ∧ Ok B s Γ σ F' H ∧ F' L = none ∧ H L = some (.lst acc) ∧ Reps K F' acc ds ∧ acc.length ≤ i
    refine ⟨fun i m H => m = xs.length - i ∧ i ≤ xs.length ∧ ∃ s F', I i H s F', ⟨xs.length, by simp, Nat.zero_le _, s1, F1, [], [], by simpa using hr1, Step.newC ok1.fh hL, ok1.newC hL, hLF, upd_same, .nil, Nat.le_refl _⟩, ?_⟩
    rintro i m H ⟨rfl, hile, s, F', ds, acc, hr2, wI, okb, hF', hH', hacc, hlen⟩
    have j := hJ F' H wI.ff okb.fh okb.g.hh i
    by_cases hlt : i < xs.length
    · have hx : xs[i]? = some xs[i] := by simp [hlt]
      obtain ⟨hgo, hy⟩ := j.1 _ hx
      rw [List.drop_eq_getElem_cons hlt] at hr2
      obtain ⟨y, s3, e1, e2⟩ := mapE hr2
      refine .inr ⟨hgo, fun H' => ∃ F', I (i + 1) H' s3 F', fun H' ⟨F', q⟩ => ⟨xs.length - (i + 1), by omega, rfl, hlt, s3, F', q⟩, fun v H'' hv => ?_⟩
      obtain ⟨F'', w2, rv⟩ := hy v H'' hv
      have ok2 := okb.step w2
      have a2 : F'' L = none := by
        rcases w2.nw L with z | z
        · rw [z]; exact hF'
        · rw [z] at hH'; cases hH'
      have b2 : H'' L = some (.lst acc) := w2.same _ _ hH'
      refine hg _ v s _ F'' H'' (ok2.wipe vs) rv _ fun σ' ok3 hwp => ⟨(hwp vs hi).trans (wipe_wipe σ vs), ?_⟩
      unfold tYes
      simp only [if_true]
      refine he xs[i] _ s y s3 e1 σ' F'' H'' ok3 _ fun z s5 v5 F5 H5 hr5 w5 ok5 rz => ?_
      obtain ⟨rfl, rfl⟩ := pureE (M := M) hr5
      have k1 : Ok B s5 Γ σ F5 H5 := ok2.stepX w5 ok5.st
      have k2 : F5 L = none := by
        rcases w5.nw L with z | z
        · rw [z]; exact a2
        · rw [z] at b2; cases b2
      have k3 : H5 L = some (.lst acc) := w5.hh _ _ (B.exOwn hL0) b2
      have k4 : Step B.ex F1 H1 F5 H5 := wI.trans ((st_no w2).trans w5)
      have k5 : Reps K F5 acc ds := hacc.mono (w2.ff.trans w5.ff)
      refine ⟨acc, k3, Nat.lt_of_le_of_lt hlen (Nat.lt_of_lt_of_le hlt hsz), F5, ds ++ [z], acc ++ [v5], ?_, ?_, k1.mutO k2 hL0 hLO, k2, upd_same, k5.app (.cons rz .nil), by rw [List.length_append]; show acc.length + 1 ≤ i + 1; omega⟩
      · rw [← e2]
        congr 1
        congr 1
        funext ys
        rw [List.append_assoc]
        rfl
      · refine ⟨k4.ff, fun a o n e => ?_, fun a o e => ?_, k4.nw, fun a e => ?_⟩
        · rw [upd_ne (ne_of_none e hL)]; exact k4.hh a o n e
        · rw [upd_ne (ne_of_none e k2)]; exact k4.fh a o e
        · by_cases ha : a = L
          · subst ha; exact hL
          · rw [upd_ne ha] at e; exact k4.al a e
    · have e : i = xs.length := by omega
      subst e
      rw [List.drop_length] at hr2
      obtain ⟨c, s3, e1, e2⟩ := bindE hr2
      obtain ⟨rfl, rfl⟩ := pureE (M := M) e1
      rw [List.append_nil] at e2
      exact .inl ⟨j.2 (Nat.le_refl _), q ds s L acc F' H e2 (w1.trans wI) okb hF' hL0 (w1.al L hL) hLO hH' hacc⟩
end
section
variable {X : Cx} {K : Frag}
theorem ix_listK (h : X.K = K) : IxR X (rIxL K) := h ▸ ix_list
theorem op_eqDK (h : X.K = K) (hu : X.A.units + 64 < cLine) : OpR X (compareOp .Eq) (rEqD K) := h ▸ op_eqD hu
theorem call_len_seqK (h : X.K = K) : CallR X (.builtin "len") (fun xs H Q => ∃ p ys, xs = [.ref p] ∧ (SqL K H p ys ∨ SqT K H p ys) ∧ Q (.int ys.length) H) := h ▸ call_len_seq
theorem call_isiK (h : X.K = K) : CallR X (.builtin "isinstance") (rIsi K) := h ▸ call_isi
theorem pi_listK {l tg : Expr} {tl : TE} (h : X.K = K) (hl : PE X l tl) : PI X tg l (iList K tl) := h ▸ pi_list hl
end
section
variable {K : Frag} {M : Type → Type} {S : Type} [PyM M S] {ρ α : Type} [Py α] {B : Base S} {Γ : Env} {te : TE} {t : TT}
end
end SP
namespace SP
open PySem L2 PyProof.Rows
structure FR where
  r : Hp → V → Prop
  m : ∀ F F' v, Same F F' → r F v → r F' v
abbrev frD {α : Type} [Py α] (K : Frag) (d : α) : FR := ⟨fun F v => Py.rep K F v d, fun _ _ _ e h => Py.mono e h⟩
abbrev Fls := List (Str × FR)
abbrev FsRep (F : Hp) : List (Str × V) → Fls → Prop := Paired fun kv kf => kv.1 = kf.1 ∧ kf.2.r F kv.2
theorem FsRep.mono {F F' : Hp} (e : Same F F') : ∀ {fs : List (Str × V)} {fl : Fls}, FsRep F fs fl → FsRep F' fs fl
  | _, _, .nil => .nil
  | _, _, .cons h t => .cons ⟨h.1, (_ : FR).m _ _ _ e h.2⟩ (FsRep.mono e t)
theorem FsRep.look {F : Hp} {f : Str} {r : FR} : ∀ {fs : List (Str × V)} {fl : Fls}, FsRep F fs fl → fl.lookup f = some r → ∃ v, fs.lookup f = some v ∧ r.r F v
  | _, _, .nil, e => by cases e
  | (g, x) :: fs, (g', x') :: fl, .cons q t, e => by
    have eg : g = g' := q.1
    subst eg
    by_cases z : f == g
    · rw [List.lookup_cons, z] at e
      cases e
      exact ⟨x, by rw [List.lookup_cons, z], q.2⟩
    · have z : (f == g) = false := by simpa using z
      rw [List.lookup_cons, z] at e
      obtain ⟨v, h1, h2⟩ := FsRep.look t e
      exact ⟨v, by rw [List.lookup_cons, z]; exact h1, h2⟩
theorem FsRep.none {F : Hp} {f : Str} : ∀ {fs : List (Str × V)} {fl : Fls}, FsRep F fs fl → fl.lookup f = none → fs.lookup f = none
  | _, _, .nil, e => rfl
  | (g, x) :: fs, (g', x') :: fl, .cons q t, e => by
    have eg : g = g' := q.1
    subst eg
    by_cases z : f == g
    · rw [List.lookup_cons, z] at e; cases e
    · have z : (f == g) = false := by simpa using z
      rw [List.lookup_cons, z] at e ⊢
      exact FsRep.none t e
theorem FsRep.len {F : Hp} {fs : List (Str × V)} {fl : Fls} (h : FsRep F fs fl) : fs.length = fl.length := Paired.length h
class PyO (ρ : Type) where
  cn : Str
  fl : Frag → ρ → Fls
abbrev clA (K : Frag) (ρ : Type) [PyO ρ] : Addr := He.ga K (PyO.cn ρ)
@[reducible] def PyO.py {ρ : Type} [PyO ρ] : Py ρ where
  rep K F v d := ∃ p dx fs, v = .ref p ∧ F p = some (.ins (clA K ρ) dx fs) ∧ FsRep F fs (PyO.fl K d)
  mono e := fun ⟨p, dx, fs, h0, h1, h2⟩ => ⟨p, dx, fs, h0, e _ _ h1, h2.mono e⟩
instance (priority := low) instPyO {ρ : Type} [PyO ρ] : Py ρ := PyO.py
section
variable {K : Frag} {X ρ : Type} [Arg X] [ArgE X] [PyO ρ] {t : TS} {N : List Str}
end
section
variable {K : Frag} {M : Type → Type} {S : Type} [PyM M S] {ρ α β X X' : Type} [Arg X] [Arg X'] {B : Base S} {Γ : Env} {ta tb te : TE} {tr : TA} {E : XK}
end
section
variable {K : Frag} {M : Type → Type} {S : Type} [PyM M S] {ρ α β X X' : Type} [Arg X] [Arg X'] {B : Base S} {Γ : Env} {ta tb te : TE} {tr : TA} {E : XK}
variable [PyO β]
end
end SP
namespace SP
open PySem L2 PyProof.Rows
structure Dic (α : Type) where
  l : List (Int × α)
def getD? {α : Type} (l : List (Int × α)) (k : Int) : Option α := (l.find? fun e => decide (e.1 = k)).map (·.2)
section
variable {α : Type} [Py α] {K : Frag} {F F' : Hp}
abbrev KReps (K : Frag) (F : Hp) : List (Key × V) → List (Int × α) → Prop := Paired fun kv e => kv.1 = .inl e.1 ∧ Py.rep K F kv.2 e.2
theorem KReps.mono (e : Same F F') : ∀ {kvs : List (Key × V)} {l : List (Int × α)}, KReps K F kvs l → KReps K F' kvs l
  | _, _, .nil => .nil
  | _, _, .cons h t => .cons ⟨h.1, Py.mono e h.2⟩ (KReps.mono e t)
theorem inl_ne {i j : Int} : decide ((Sum.inl i : Key) = .inl j) = decide (i = j) := by
  by_cases h : i = j
  · rw [h]; simp
  · rw [decide_eq_false h, decide_eq_false (fun z => h (Sum.inl.inj z))]
theorem KReps.any {k : Int} : ∀ {kvs : List (Key × V)} {l : List (Int × α)}, KReps K F kvs l → (kvs.any fun kv => decide (kv.1 = (.inl k : Key))) = l.any fun e => decide (e.1 = k)
  | _, _, .nil => rfl
  | (a, v) :: _, (b, x) :: _, .cons h t => by
    have e : a = .inl b := h.1
    subst e
    rw [List.any_cons, List.any_cons, KReps.any t, inl_ne]
theorem KReps.app {kvs more : List (Key × V)} {l m : List (Int × α)} (h : KReps K F kvs l) (g : KReps K F more m) : KReps K F (kvs ++ more) (l ++ m) := by
  induction h with
  | nil => exact g
  | cons h t ih => exact .cons h ih
theorem KReps.get {k : Int} : ∀ {kvs : List (Key × V)} {l : List (Int × α)}, KReps K F kvs l → (∀ x, getD? l k = some x → ∃ v, valV kvs (.inl k : Key) = some v ∧ Py.rep K F v x) ∧ (valV kvs (.inl k : Key)).isSome = (getD? l k).isSome
  | _, _, .nil => ⟨fun x e => (by cases e), rfl⟩
  | (a, v) :: kvs, (b, y) :: l, .cons h t => by
    have e : a = .inl b := h.1
    subst e
    have ih := KReps.get (k := k) t
    by_cases z : b = k
    · subst z
      have e1 : getD? ((b, y) :: l) b = some y := by simp [getD?]
      rw [valV_pos (p := ((.inl b : Key), v)) rfl, e1]
      exact ⟨fun x e => (by cases e; exact ⟨v, rfl, h.2⟩), rfl⟩
    · have e1 : getD? ((b, y) :: l) k = getD? l k := by simp [getD?, List.find?_cons, z]
      rw [valV_neg (p := ((.inl b : Key), v)) (fun q => z (Sum.inl.inj q)), e1]
      exact ih
theorem KReps.len {kvs : List (Key × V)} {l : List (Int × α)} (h : KReps K F kvs l) : kvs.length = l.length := Paired.length h
end
section
variable (K : Frag) {M : Type → Type} {S : Type} [PyM M S] {ρ α : Type} [Py α] (B : Base S)
end
section
variable {K : Frag} {M : Type → Type} {S : Type} [PyM M S] {ρ α β : Type} [Py α] {B : Base S} {Γ : Env} {ta tb te : TE}
end
end SP
open PySem
set_option autoImplicit false
open PySem
open PySem.Sem (wp)
namespace ZN
theorem tupAt {h h' : Heap} {a : Addr} {xs : Array Value} (x : h.IsTuple a xs) (k : ∀ o, h.get? a = some o → h'.get? a = some o) : h'.IsTuple a xs := let ⟨o, ho, r⟩ := x; ⟨o, k o ho, r⟩
structure Apart (z TI TO : Addr) (its ls : List Addr) : Prop where
  TIz : TI ≠ z
  TOz : TO ≠ z
  TITO : TI ≠ TO
  iz : ∀ a ∈ its, a ≠ z
  iTI : ∀ a ∈ its, a ≠ TI
  iTO : ∀ a ∈ its, a ≠ TO
  nd : ∀ (i j : Nat) (a : Addr), its[i]? = some a → its[j]? = some a → i = j
  lz : ∀ a ∈ ls, a ≠ z
  lTO : ∀ a ∈ ls, a ≠ TO
  li : ∀ a ∈ ls, a ∉ its
  len : its.length = ls.length
structure Dr (g h : Heap) (z TO : Addr) (its ls : List Addr) (k j : Nat) : Prop where
  sz : h.objs.size = g.objs.size
  keep : ∀ c o, c ∉ its → c ≠ z → c ≠ TO → g.get? c = some o → h.get? c = some o
  it : ∀ (i : Nat) (a l : Addr), its[i]? = some a → ls[i]? = some l → h.IsTupleIter a l (if i < j then k + 1 else k)
def Rows (h : Heap) (ls : List Addr) (vals : List Value) (k : Nat) : Prop := vals.length = ls.length ∧ ∀ (i : Nat) l v, ls[i]? = some l → vals[i]? = some v → ∃ xs : Array Value, h.IsTuple l xs ∧ xs[k]? = some v
section
variable {prog : Program} {w : World} {A : Around} {E : Value → Shared → Prop} {s : Shared} {z TI TO : Addr} {its ls : List Addr} {vals : List Value} {k : Nat} {g : Heap}
theorem Dr.draw (D : Apart z TI TO its ls) {j : Nat} {y : Addr} (hy : ∀ a ∈ ls, a ≠ y) (d : Dr g s.heap z y its ls k j) (r : Rows g ls vals k) {a : Addr} (ha : its[j]? = some a) {Q : Value → Shared → Prop}
    (q : ∀ v h', vals[j]? = some v → Dr g h' z y its ls k (j + 1) → Heap.SameBut a s.heap h' → Q v { s with heap := h' }) : wpAny (model prog w) A (Builtin.SmallTypes.nextOf (.ref a)) Q E s := by
  have hj : j < its.length := (List.getElem?_eq_some_iff.mp ha).1
  have hjl : j < ls.length := by rw [← D.len]; exact hj
  have hjv : j < vals.length := by rw [r.1]; exact hjl
  have hl : ls[j]? = some ls[j] := List.getElem?_eq_getElem _
  have hv : vals[j]? = some vals[j] := List.getElem?_eq_getElem _
  obtain ⟨xs, hx, hk⟩ := r.2 j _ _ hl hv
  have hm : ls[j] ∈ ls := List.getElem_mem _
  have hit := d.it j a _ ha hl
  rw [if_neg (Nat.lt_irrefl j)] at hit
  refine RZ.nextOf_tuple_item hit (tupAt hx fun o e => d.keep _ o (D.li _ hm) (D.lz _ hm) (hy _ hm) e) hk fun h' h1 hs => q _ h' hv ⟨hs.1.trans d.sz, fun c o c1 c2 c3 e => ?_, fun i b l hb hl' => ?_⟩ hs
  · exact (hs.2 c (fun z => c1 (by rw [z]; exact List.mem_of_getElem? ha))).trans (d.keep c o c1 c2 c3 e)
  · by_cases hij : i = j
    · subst hij
      rw [ha] at hb; rw [hl] at hl'
      cases hb; cases hl'
      rw [if_pos (Nat.lt_succ_self _)]
      exact h1
    · have hba : b ≠ a := fun z => hij (D.nd i j a (by rw [← z]; exact hb) ha)
      have hb2 := (d.it i b l hb hl').extBut hs.extBut hba
      by_cases hlt : i < j
      · rw [if_pos hlt] at hb2
        rw [if_pos (Nat.lt_succ_of_lt hlt)]; exact hb2
      · rw [if_neg hlt] at hb2
        rw [if_neg (by omega)]; exact hb2

end
end ZN
set_option autoImplicit false
namespace SP
open PySem L2 PyProof.Rows ZN
section
variable {K : Frag} {M : Type → Type} {S : Type} [PyM M S] {ρ α : Type} [Py α] {B : Base S} {Γ : Env} {te : TE}
abbrev RowsR (K : Frag) (F : Hp) : List Addr → List (Tup α) → Prop := Paired fun l r => ∃ vs, SqT K F l vs ∧ Reps K F vs r.l
theorem RowsR.mono {F F' : Hp} (e : Same F F') : ∀ {ls : List Addr} {rows : List (Tup α)}, RowsR K F ls rows → RowsR K F' ls rows
  | _, _, .nil => .nil
  | _, _, .cons ⟨vs, h1, h2⟩ t => .cons ⟨vs, seqT_mono e h1, h2.mono e⟩ (RowsR.mono e t)
theorem RowsR.col {F H : Hp} (e : Same F H) {m i : Nat} (hi : i < m) : ∀ {ls : List Addr} {rows : List (Tup α)} {ys : List V}, RowsR K F ls rows → (∀ r ∈ rows, r.l.length = m) → ys.length = ls.length → (∀ (j : Nat) l xs, ls[j]? = some l → SqT K H l xs → xs[i]? = ys[j]?) → Reps K F ys (rows.filterMap fun r => r.l[i]?)
  | _, _, ys, .nil, _, hl, _ => by
    cases ys with
    | nil => exact .nil
    | cons _ _ => cases hl
  | l :: ls, r :: rows, ys, .cons ⟨vs, h1, h2⟩ t, hm, hl, hy => by
    cases ys with
    | nil => cases hl
    | cons y ys =>
      have hri : i < r.l.length := by rw [hm r (List.mem_cons_self ..)]; exact hi
      have e1 : r.l[i]? = some r.l[i] := List.getElem?_eq_getElem hri
      rw [List.filterMap_cons, e1]
      have e2 := hy 0 l vs rfl (seqT_mono e h1)
      have e3 : vs[i]? = some y := e2
      obtain ⟨d, hd, rd⟩ := h2.get e3
      rw [e1] at hd
      cases hd
      exact .cons rd (RowsR.col e hi t (fun r hr => hm r (List.mem_cons_of_mem _ hr)) (by simpa using hl) fun j l xs hj hx => by simpa using hy (j + 1) l xs (by simpa using hj) hx)
end
end SP
set_option autoImplicit false
namespace SP
open PySem L2 PyProof.Rows
section
variable {K : Frag} {M : Type → Type} {S : Type} [PyM M S] {ρ α β γ : Type} [Py α] [Py β] [Py γ] {B : Base S} {Γ : Env} {te tk tv : TE}
structure AtL (K : Frag) (B : Base S) (Γ : Env) (σ : L2.St) (F1 H1 : Hp) (L : Addr) (ds : List γ) (s : S) (F H : Hp) : Prop where
  st : Step B.ex F1 H1 F H
  ok : Ok B s Γ σ F H
  fn : F L = none
  at_ : ∃ acc, H L = some (.lst acc) ∧ Reps K F acc ds
theorem AtL.push {σ : L2.St} {F1 H1 F H : Hp} {L : Addr} {ds : List γ} {s : S} {z : γ} {v : V} {acc : List V} (w : Step B.ex F1 H1 F H) (ok : Ok B s Γ σ F H) (hf : F L = none) (hL : H L = some (.lst acc)) (hr : Reps K F acc ds) (hz : Py.rep K F v z) (hn : H1 L = none) (h0 : B.H0 L = none) (ho : Out Γ σ L) : AtL K B Γ σ F1 H1 L (ds ++ [z]) s F (upd H L (.lst (acc ++ [v]))) := by
  refine ⟨⟨w.ff, fun a o n e => ?_, fun a o e => ?_, w.nw, fun a e => ?_⟩, ok.mutO hf h0 ho, hf, _, upd_same, hr.app (.cons hz .nil)⟩
  · rw [upd_ne (ne_of_none e hn)]; exact w.hh a o n e
  · rw [upd_ne (ne_of_none e hf)]; exact w.fh a o e
  · by_cases ha : a = L
    · subst ha; exact hn
    · rw [upd_ne ha] at e; exact w.al a e
theorem AtL.step {σ σ' : L2.St} {Γ' : Env} {F1 H1 F H F' H' : Hp} {L : Addr} {ds : List γ} {s s' : S} (a : AtL K B Γ σ F1 H1 L ds s F H) (w : Step B.ex F H F' H') (hs : B.st s' F' H') (h0 : B.H0 L = none) : AtL K B Γ σ F1 H1 L ds s' F' H' := by
  obtain ⟨acc, hL, hr⟩ := a.at_
  refine ⟨a.st.trans w, a.ok.stepX w hs, ?_, acc, w.hh _ _ (B.exOwn h0) hL, hr.mono w.ff⟩
  rcases w.nw L with z | z
  · rw [z]; exact a.fn
  · rw [hL] at z; cases z
def CeSub (Γ' Γ : Env) : Prop := ∀ (i : Nat) c m, Γ'[i]? = some (some (Ent.ce c m)) → Γ[i]? = some (some (Ent.ce c m))
theorem CeSub.refl {Γ : Env} : CeSub Γ Γ := fun _ _ _ e => e
theorem CeSub.set {Γ' Γ : Env} {i : Nat} {r : Hp → V → Prop} {m} (h : CeSub Γ' Γ) : CeSub (Γ'.set i (some (Ent.im r m))) Γ := fun j c m' e => by
  rcases getSet e with ⟨_, e1, _⟩ | ⟨_, e1⟩
  · cases Option.some.inj e1
  · exact h j c m' e1
end
section
variable {K : Frag} {M : Type → Type} {S : Type} [PyM M S] {ρ α : Type} [Py α] {B : Base S} {Γ : Env} {te : TE}
end
end SP
set_option autoImplicit false
namespace SP
open PySem L2 PyProof.Rows
section
variable {K : Frag} {M : Type → Type} {S : Type} [PyM M S] {ρ α β γ δ : Type} [Py α] [Py β] [Py γ] [Py δ] {B : Base S} {Γ : Env} {ta tb te : TE}
class NoN (α : Type) [Py α] : Prop where
  nn : ∀ {K : Frag} {F : Hp} {v : V} {d : α}, Py.rep K F v d → v ≠ .non
instance : NoN Int where
  nn h := by cases h; intro z; cases z
end
section
variable {X : Cx}
end
end SP
set_option autoImplicit false
namespace SP
open PySem L2 PyProof.Rows
structure T6 (α β γ δ ε ζ : Type) where
  a : α
  b : β
  c : γ
  d : δ
  e : ε
  f : ζ
  deriving DecidableEq
instance {α β γ δ ε ζ : Type} [Py α] [Py β] [Py γ] [Py δ] [Py ε] [Py ζ] : Py (T6 α β γ δ ε ζ) where
  rep K F v d := ∃ p x y z u s t, v = .ref p ∧ SqT K F p [x, y, z, u, s, t] ∧ Py.rep K F x d.a ∧ Py.rep K F y d.b ∧ Py.rep K F z d.c ∧ Py.rep K F u d.d ∧ Py.rep K F s d.e ∧ Py.rep K F t d.f
  mono e := fun ⟨p, x, y, z, u, s, t, h0, h1, h2, h3, h4, h5, h6, h7⟩ => ⟨p, x, y, z, u, s, t, h0, seqT_mono e h1, Py.mono e h2, Py.mono e h3, Py.mono e h4, Py.mono e h5, Py.mono e h6, Py.mono e h7⟩
section
variable {α β γ δ ε ζ : Type} [Py α] [Py β] [Py γ] [Py δ] [Py ε] [Py ζ] [PyD α] [PyD β] [PyD γ] [PyD δ] [PyD ε] [PyD ζ]
instance : PyD (T6 α β γ δ ε ζ) where
  dat x := .tuple [PyD.dat x.a, PyD.dat x.b, PyD.dat x.c, PyD.dat x.d, PyD.dat x.e, PyD.dat x.f]
  dp e := fun ⟨p, x, y, z, u, s, t, h0, h1, h2, h3, h4, h5, h6, h7⟩ => by subst h0; exact .tup (seqT_mono e h1) (.cons (PyD.dp e h2) (.cons (PyD.dp e h3) (.cons (PyD.dp e h4) (.cons (PyD.dp e h5) (.cons (PyD.dp e h6) (.cons (PyD.dp e h7) .nil))))))
  lay x := by simp [PyData.canLay0, PyData.canLayAll0, PyD.lay]
  dep := max (PyD.dep α) (max (PyD.dep β) (max (PyD.dep γ) (max (PyD.dep δ) (max (PyD.dep ε) (PyD.dep ζ))))) + 1
  dle x := by
    have h1 := PyD.dle x.a
    have h2 := PyD.dle x.b
    have h3 := PyD.dle x.c
    have h4 := PyD.dle x.d
    have h5 := PyD.dle x.e
    have h6 := PyD.dle x.f
    simp only [PyData.depth, PyData.depthAll]
    omega
  eqv a b := by
    simp only [PyData.eqv, PyData.eqvAll, Bool.and_eq_true, Bool.and_true, PyD.eqv]
    exact ⟨fun ⟨h1, h2, h3, h4, h5, h6⟩ => by cases a; cases b; simp_all, fun h => by rw [h]; exact ⟨rfl, rfl, rfl, rfl, rfl, rfl⟩⟩
end
abbrev Form : Type := T6 Int Int Int (List Int) (List Int) (List (Tup Bool))
structure Grid where
  scale : Int
  wide : Int
  high : Int
  xs : List Int
  ys : List Int
  table : List (Tup Bool)
  deriving DecidableEq
def Grid.form (g : Grid) : Form := ⟨g.scale, g.wide, g.high, g.xs, g.ys, g.table⟩
instance : PyO Grid where
  cn := "Grid"
  fl K g := [("scale", frD K g.scale), ("wide", frD K g.wide), ("high", frD K g.high), ("xs", frD K g.xs), ("ys", frD K g.ys), ("table", frD K g.table), ("form", frD K g.form)]
structure Area where
  grid : Grid
  held : Bool
  deriving DecidableEq
instance : PyO Area where
  cn := "Area"
  fl K g := [("grid", frD K g.grid), ("held", frD K g.held)]
abbrev Fr : Type := Int × Int
abbrev Box : Type := T4 Fr Fr Fr Fr
structure Plate where
  across : Fr
  up : Fr
  solids : Tup Box
  deriving DecidableEq
instance : PyO Plate where
  cn := "Plate"
  fl K g := [("across", frD K g.across), ("up", frD K g.up), ("solids", frD K g.solids)]
instance : NoN Grid where
  nn h := by
    obtain ⟨p, dx, fs, rfl, _⟩ := h
    intro z; cases z
section
variable {K : Frag} {M : Type → Type} {S : Type} [PyM M S] {ρ α β γ δ ε ζ : Type} [Py α] [Py β] [Py γ] [Py δ] [Py ε] [Py ζ] {B : Base S} {Γ : Env} {tr : TA}
end
theorem Wk.one {e : Ent} {Γ : Env} (h : Γ[0]? = some (some e)) : Wk [some e] Γ := by
  cases Γ with
  | nil => cases h
  | cons a r =>
    have h : a = some e := by simpa using h
    rw [h]
    exact .keep .nil
section
variable {K : Frag} {α : Type} [Py α] [NoN α]
end
end SP
namespace SP
open PySem L2
section
variable {K : Frag} {X ρ γ α : Type} [Arg X] [ArgE X] [Py ρ] [Py γ] [Py α] {t : TS} {N : List Str}
end
section
variable {K : Frag} {X ρ α : Type} [Arg X] [ArgE X] [PyO ρ] [Py α] {t : TS} {N : List Str}
end
section
variable (K : Frag) {M : Type → Type} {S : Type} [PyM M S] {ρ α X : Type} [Py α] [Arg X] (B : Base S)
end
section
variable {K : Frag} {M : Type → Type} {S : Type} [PyM M S] {ρ α β γ X X' : Type} [Py α] [Py β] [Py γ] [Arg X] [Arg X'] {B : Base S} {Γ : Env} {ta tb te : TE} {tr : TA} {E : XK}
end
section
variable {K : Frag} {M : Type → Type} {S : Type} [PyM M S] {ρ α β X X' : Type} [Py α] [Arg X] [Arg X'] {B : Base S} {Γ : Env} {tr : TA} {E : XK} [PyO β]
end
end SP
namespace SP
open PySem PySem.Spec PyProof.Rows L2
section
variable {X : Cx} {CX : CXT} {k : Nat} {f C : Addr} {fd : FuncData} {ps : List Str} {sp : Sp} {E : XK} {pins : List (Addr × Obj)} {σ : L2.St} {H : Hp} {s : Shared} {a b dx : Addr} {fs : List (Str × V)}
end
section
variable {K : Frag} {M : Type → Type} {S : Type} [PyM M S] {ρ α β γ X X' : Type} [Py α] [Py γ] [PyO β] {B : Base S} {Γ : Env} {te : TE} {E : XK}
end
end SP
namespace SP
open PySem L2
section
variable {K : Frag} {α β γ δ : Type} [Py α] [Py β] [Py γ] [Py δ]
end
section
variable {K : Frag} {α γ ρ X : Type} [Arg X] [ArgN X] [Py α] [Py γ] [Py ρ]
end
structure OwnT (K : Frag) (C : Addr) : Prop where
  cl : Cls K C
  ca : PySem.W.findIn K (.ref C) "__class__" = some (some (.builtin "object.__class__"))
  cn : PySem.W.specialIn K (.builtin "object.__class__") "__get__" = some (some (.builtin "getset_descriptor.__get__"))
  ct : PySem.W.takesIn K (.builtin "object.__class__") = some true
  cm : PySem.W.mroIn K C (.type "object") = some true
section
variable {K : Frag} {M : Type → Type} {S : Type} [PyM M S] {ρ α β γ T X X' : Type} [Py α] [Py γ] [Py T] {B : Base S} {Γ : Env} {ta te : TE} {E : XK}
end
end SP
namespace SP
open PySem L2
section
variable {K : Frag} {M : Type → Type} {S : Type} [PyM M S] {ρ α β γ δ T X X' : Type} [Py α] [Py β] [Py γ] [Py δ] {B : Base S} {Γ : Env} {ta tb te : TE} {E : XK}
end
end SP
namespace SP
open PySem PySem.Spec PyProof.Rows L2
structure FnOkG (P : Program) (w : World) (K : Frag) (mg : Str → Option Value) (base : Heap) (CX : CXT) (k : Nat) (f : Addr) (fd : FuncData) (ps : List Str) (sp : Sp) : Prop where
  len : ∀ vs H Q E, sp vs H Q E → vs.length = ps.length
  run : ∀ (A : Around) (out : List PySem.Env) (s : Shared) (H : Hp) (ar : Args) (us : List Value) (vs : List V) (Q : VK) (E : XK), Room k A → A.guards = some [] → Env0 P w K mg base A out s H → BindsTo s fd ar (ps.zip us) → Vals vs us →
    sp vs H Q E → codeAny (model P w) A (.call (.ref f) ar) (CR CX out P w H s Q E) s
theorem FnOkG.of {P : Program} {w : World} {K : Frag} {mg : Str → Option Value} {base : Heap} {CX : CXT} {k : Nat} {f : Addr} {fd : FuncData} {ps : List Str} {sp : Sp} (F : FnOk P w K mg base CX k f fd ps sp) : FnOkG P w K mg base CX k f fd ps sp :=
  ⟨F.len, fun A out s H ar us vs Q E hr _ => F.run A out s H ar us vs Q E hr⟩
theorem okG {P : Program} {w : World} {K : Frag} {mg : Str → Option Value} {base : Heap} {x qual : Str} {params : Arguments} {body : List Stmt} {scope : Scope} {dvs : List V} {kws : List (Str × V)} {f : Addr} {fd : FuncData} {CX : CXT} {N ps : List Str} {k : Nat} {sp : Sp}
    (D : FunD K x qual params body scope dvs kws f fd) (S : FnScope N ps scope) (ln : ∀ vs H Q E, sp vs H Q E → vs.length = ps.length)
    (go : ∀ (cdv : Value) (A : Around) (out : List PySem.Env) (s : Shared) (H : Hp) (vs : List V) (Q : VK) (E : XK), Room k (A.deeper (envOfC qual scope s.heap.objs.size f cdv)) → A.guards = some [] → sp vs H Q E →
      ∃ t, PSs (cxOf CX P w K mg base N qual scope f cdv A out s H E) body t ∧ t { nx := fun _ H' => Q .non H', rt := Q } (L2.start N vs) H) : FnOkG P w K mg base CX (k + 1) f fd ps sp := by
  obtain ⟨oc, od, dV, kV, doc, pm, an, cdv, ct, osl, efd, lk, hc, _, _⟩ := D.ex
  subst efd
  constructor
  · exact ln
  intro A out s H ar us vs Q E hr hg e0 hb r hsp
  have hlen := ln _ _ _ _ hsp
  have hK : K.In s.heap := e0.mod.kin.keeps fun b o e => (e0.bs b o e).1
  have hL : s.heap.NoLimit := e0.mod.nolimit.keeps fun b o e => (e0.bs b o e).1
  have kinds : ∀ y ∈ ps.zip us, scope.names.lookup y.1 = some .local ∨ (scope.names.lookup y.1 = some .cell ∧ ((cellsFrom (s.heap.objs.size + 1) scope.names []).lookup y.1).isSome = true) := by
    rintro ⟨n, v⟩ hy
    rcases S.par n (List.of_mem_zip hy).1 with q | q
    · exact Or.inl q
    · exact Or.inr ⟨q, PySem.W.cellsFrom_some _ _ _ (Or.inl q)⟩
  refine codeAny_call_function hr.depth (hK _ _ lk) rfl S.co S.gen rfl (PySem.W.codeRec_of hK hc) (hb _ _ _ _ (wpAny_newFunctionEnv_cells S.kind kinds ?_))
  intro env henv s1 hx
  subst henv
  refine ⟨hL.keeps hx.toInCall.keep, codeAny_func ?_⟩
  obtain ⟨t, ht, hq⟩ := go cdv A out s H vs Q E (hr.deeper _) hg hsp
  have I0 : L2.Inv (cxOf CX P w K mg base N qual scope f cdv A out s H E) [] (L2.start N vs) H s1 := inv_start S hr.hd e0 hlen r hx
  have back : ∀ {σ' : L2.St} {H' : Hp} {v : V} {u : Value} {s' : Shared}, L2.Inv (cxOf CX P w K mg base N qual scope f cdv A out s H E) [] σ' H' s' → L2.RelV v u → Q v H' → CE out P w H s Q u s' := by
    intro σ' H' v u s' J rv q
    exact ⟨v, H', J.os, J.bare, J.base, J.hok, rv, q⟩
  refine wpAny_mono (ht.run [] s1 (L2.start N vs) H _ I0 hq) ?_ (fun _ _ h => h)
  intro fl s' hs
  match fl, hs with
  | .ret u, ⟨v, σ', H', J, rv, q⟩ => exact back J rv q
  | .next, ⟨σ', H', J, q⟩ => exact back (v := V.non) (u := Value.none) J rfl q
  | .brk, ⟨_, _, _, q⟩ => exact q.elim
  | .cont, ⟨_, _, _, q⟩ => exact q.elim
section
variable {X : Cx} {CX : CXT} {k : Nat} {f C : Addr} {fd : FuncData} {ps : List Str} {sp : Sp} {E : XK} {pins : List (Addr × Obj)} {σ : L2.St} {H : Hp} {s : Shared}
theorem run_fnG {Q : VK} {us : List Value} {vs : List V} (F : FnOkG X.prog X.w X.K X.mg X.base CX k f fd ps sp) (hr : Room k X.A) (hg : X.A.guards = some []) (hb : Binds X.K fd ps []) (hx : Passes CX X E)
    (I : L2.Inv X pins σ H s) (r : Vals vs us) (h : sp vs H Q E) : wpAny (model X.prog X.w) X.A (call (.ref f) us) (EP X pins σ Q) X.xe s := by
  have hl : (us ++ []).length = ps.length := by rw [List.append_nil, ← r.length]; exact F.len _ _ _ _ h
  have bs := hb s us I.kIn hl
  rw [List.append_nil] at bs
  refine wpAny_call (codeAny_mono (F.run X.A X.stack s H ⟨us, []⟩ us vs Q E hr hg I.env0 bs r h) ?_)
  intro res s' hq
  match res, hq with
  | .error e, hq => exact hx pins σ H s e s' I hq
  | .ok (.ret u), hq => exact I.after hq
  | .ok .next, hq => exact hq.elim
  | .ok .brk, hq => exact hq.elim
  | .ok .cont, hq => exact hq.elim
theorem pe_callG {x : Str} {p pos : Pos} {e : Expr} {es : List Expr} {t : TA} (F : FnOkG X.prog X.w X.K X.mg X.base CX k f fd ps sp) (hr : Room k X.A) (hG : X.A.guards = some []) (hg : Gl X x) (hm : X.mg x = some (.ref f)) (hk : PySem.W.keepIn X.K (.ref f) = true) (hb : Binds X.K fd ps []) (hx : Passes CX X E)
    (ha : PA X (e :: es) t) (hdb : (x == ("__debug__" : Str)) = false := by decide) (he : starEach (e :: es) X.env = (false, eval e X.env) :: starEach es X.env := by rfl) (hpl : (backTo pos (starEach es X.env)).any (·.1) = false := by rfl) :
    PE X (.Call (.Name x p) (e :: es) [] pos) (tCall sp [] E t) := by
  constructor
  intro pins s σ H Q I h
  have h2 : t σ H fun vs H1 => sp vs H1 Q E := by
    have h3 : t σ H fun vs H1 => sp (vs ++ []) H1 Q E := h
    simpa only [List.append_nil] using h3
  refine wpAny_Call_Name_kw (ld_glob I hg hm (PySem.W.callWith_K (h₀ := X.base) I.ok.mod.kin hk (thn (ha.run pos pins s σ H _ I h2) ?_) he hpl) hdb)
  rintro us s1 ⟨vs, H1, I1, r, q⟩
  exact ⟨I1.kIn, run_fnG F hr hG hb hx I1 r q⟩
mutual
theorem dp_noDict {K : Frag} {H : Hp} : ∀ (d : PyData) (v : V), Dp K H v d → d.hasDict = false
  | .none, _, _ => rfl
  | .bool _, _, _ => rfl
  | .int _, _, _ => rfl
  | .str _, _, _ => rfl
  | .list ds, _, h => by cases h with | lst _ ha => simp only [PyData.hasDict]; exact dp_noDictAll ds _ ha
  | .tuple ds, _, h => by cases h with | tup _ ha => simp only [PyData.hasDict]; exact dp_noDictAll ds _ ha
  | .dict _, _, h => by cases h
theorem dp_noDictAll {K : Frag} {H : Hp} : ∀ (ds : List PyData) (vs : List V), DpAll K H vs ds → PyData.hasDictAll ds = false
  | [], _, _ => by simp only [PyData.hasDictAll]
  | d :: ds, _, h => by cases h with | cons h1 h2 => simp only [PyData.hasDictAll, dp_noDict d _ h1, dp_noDictAll ds _ h2, Bool.or_false]
end
end
end SP
namespace SP
open PySem PySem.Spec PyProof.Rows L2
section
variable {P : Program} {w : World} {K : Frag} {mg mb : Str → Option Value} {CX : CXT} {k : Nat} {fa a : Addr} {fd : FuncData} {x : Str} {sp : Sp} {t : Shared} {vals : List Value} {ns : List Int}
abbrev Ends1 (t : Shared) : Result → Shared → Prop := fun r t' => r = .ok (.ret (.bool true)) ∧ OldK t.heap t'.heap ∧ t'.os = t.os ∧ AllBare t'.gens
theorem callAt {H : Hp} (kin : K.In t.heap) (ng : t.heap.Ns mainGlobals mg) (nb : t.heap.Ns builtinsNs mb) (hbb : ∀ x : Str, x ≠ "__name__" → mb x = bootBuiltins x) (nl : t.heap.NoLimit) (gs : t.gens = #[])
    (ha : t.heap.get? a = some { cls := .type "list", data := .seq vals.toArray }) (hr : Room k callerA) (F : ∀ base : Heap, K.In base → base.Ns mainGlobals mg → FnOkG P w K mg base CX k fa fd [x] sp)
    (bnd : ∀ (s : Shared) (u : Value), BindsTo s fd ⟨[u], []⟩ [(x, u)]) (q : sp [.ref a] H (fun v _ => v = .bl true) fun _ _ _ => False) (noX : ∀ H e s', CX [] H t (fun _ _ _ => False) e s' → False)
    (ok : HOk P w H t.heap) (frz : ∀ b, H b = none ∨ ∃ o xs, H b = some (.frz o (.lst xs))) (alone : ∀ b, H b ≠ none → b = a) (apart : H a ≠ none → K.lookup a = none) : codeAny (model P w) callerA (.call (.ref fa) ⟨[.ref a], []⟩) (Ends1 t) t := by
  have at_a : ∀ {b : Addr} {u : HO}, H b = some u → b = a := fun {b u} e => alone b (by rw [e]; intro z; cases z)
  have hid : ∀ {b : Addr} {o : Obj}, t.heap.get? b = some o → H b = none → (hidT t.heap H).get? b = some o := fun e n => hidT_get e n
  have noDict : ∀ {b : Addr} {o : Obj} {es : Array DictEntry} {n : Nat}, t.heap.get? b = some o → o.data = .dict es n → H b = none := by
    intro b o es n e d
    rcases hq : H b with _ | u
    · rfl
    · have eb := at_a hq
      rw [eb, ha] at e
      have e2 := congrArg Obj.data (Option.some.inj e)
      rw [d] at e2
      cases e2
  have ns_hid : ∀ {b : Addr} {m : Str → Option Value}, t.heap.Ns b m → (hidT t.heap H).Ns b m := by
    rintro b m ⟨o, es, n, e, d, r⟩
    exact ⟨o, es, n, hid e (noDict e d), d, r⟩
  have kin' : K.In (hidT t.heap H) := by
    intro b o e
    refine hid (kin b o e) ?_
    rcases hq : H b with _ | u
    · rfl
    · have eb := at_a hq
      have := apart (by rw [← eb, hq]; intro z; cases z)
      rw [eb, this] at e
      cases e
  have md : Mod K mg (hidT t.heap H) := by
    refine ⟨kin', ns_hid ng, ⟨mb, ns_hid nb, hbb⟩, ?_⟩
    obtain ⟨mc, c1, c2⟩ := nl
    exact ⟨mc, ns_hid c1, c2⟩
  have noEx : ∀ b : Addr, b ∉ ([] : List Addr) := fun b z => by cases z
  have env0 : Env0 P w K mg (hidT t.heap H) callerA [] t H := ⟨rfl, md, fun b o e => of_hidT e, Nat.le_of_eq (hidT_size _ _), trivial, fun b z => absurd z (noEx b), ok, .of_eq gs⟩
  refine codeAny_mono ((F _ kin' (ns_hid ng)).run callerA [] t H ⟨[.ref a], []⟩ [.ref a] [.ref a] _ _ hr rfl env0 (bnd t (.ref a)) (.cons rfl .nil) q) ?_
  intro r t' h
  match r, h with
  | .error e, h => exact (noX H e t' h).elim
  | .ok .next, h => exact h.elim
  | .ok .brk, h => exact h.elim
  | .ok .cont, h => exact h.elim
  | .ok (.ret u), ⟨v, H', os, bare, un, ok', rv, hv⟩ =>
    have hv : v = .bl true := hv
    subst hv
    cases (show u = Value.bool true from rv)
    refine ⟨rfl, OldK.of_keep ?_, os, bare⟩
    intro b o e
    rcases hq : H b with _ | ho
    · exact un.keep b o e hq (fun z => absurd z (noEx b)) (by simp)
    · rcases frz b with z | ⟨ob, xs, z⟩
      · rw [hq] at z; cases z
      · obtain ⟨e1, _⟩ := ok b _ z
        obtain ⟨e2, _⟩ := ok' b _ (un.frzs b ob _ z)
        rw [e] at e1
        cases e1
        exact e2
theorem callG (kin : K.In t.heap) (ng : t.heap.Ns mainGlobals mg) (nb : t.heap.Ns builtinsNs mb) (hbb : ∀ x : Str, x ≠ "__name__" → mb x = bootBuiltins x) (nl : t.heap.NoLimit) (gs : t.gens = #[])
    (ha : t.heap.get? a = some { cls := .type "list", data := .seq vals.toArray }) (hi : IntsAre vals ns) (hl : ns.length ≤ sizeLine) (hr : Room k callerA) (F : ∀ base : Heap, K.In base → base.Ns mainGlobals mg → FnOkG P w K mg base CX k fa fd [x] sp)
    (bnd : ∀ (s : Shared) (u : Value), BindsTo s fd ⟨[u], []⟩ [(x, u)]) (q : ∀ H : Hp, Only H → SqL K H a (ns.map V.int) → sp [.ref a] H (fun v _ => v = .bl true) fun _ _ _ => False) (noX : ∀ H e s', CX [] H t (fun _ _ _ => False) e s' → False) :
    codeAny (model P w) callerA (.call (.ref fa) ⟨[.ref a], []⟩) (Ends1 t) t := by
  have rv := vals_ints hi
  have ln := hi.length
  by_cases hk : ∃ o, K.lookup a = some o
  · obtain ⟨o, hk⟩ := hk
    have e := kin a o hk
    rw [ha] at e
    cases e
    have hs : SqL K (fun _ => none) a (ns.map V.int) := Or.inr ⟨_, vals.toArray, _, hk, rfl, rfl, rfl, by rw [List.size_toArray, ln]; exact hl, by simpa using rv⟩
    exact callAt kin ng nb hbb nl gs ha hr F bnd (q _ (fun _ => .inl rfl) hs) noX (fun b u z => by cases (show (none : Option HO) = some u from z)) (fun _ => .inl rfl) (fun b z => absurd rfl z) fun z => absurd rfl z
  · have hk : K.lookup a = none := by
      rcases h : K.lookup a with _ | o
      · rfl
      · exact absurd ⟨o, h⟩ hk
    let ob : Obj := { cls := .type "list", data := .seq vals.toArray }
    let H : Hp := fun b => if b = a then some (.frz ob (.lst (ns.map V.int))) else none
    have atA : H a = some (.frz ob (.lst (ns.map V.int))) := if_pos rfl
    have off : ∀ b, b ≠ a → H b = none := fun b n => if_neg n
    have ow : ∀ b u, H b = some u → b = a ∧ u = .frz ob (.lst (ns.map V.int)) := by
      intro b u z
      by_cases hb : b = a
      · subst hb
        rw [atA] at z
        exact ⟨rfl, (Option.some.inj z).symm⟩
      · rw [off b hb] at z
        cases z
    have frz : ∀ b, H b = none ∨ ∃ o xs, H b = some (.frz o (.lst xs)) := by
      intro b
      by_cases hb : b = a
      · exact .inr ⟨_, _, by rw [hb]; exact atA⟩
      · exact .inl (off b hb)
    refine callAt (H := H) kin ng nb hbb nl gs ha hr F bnd (q H frz (.inl (.inr ⟨ob, atA⟩))) noX ?_ frz ?_ fun _ => hk
    · intro b u z
      obtain ⟨e1, e2⟩ := ow b u z
      subst e1 e2
      exact ⟨ha, by rw [List.length_map]; exact hl, vals, _, rv, ha⟩
    · intro b z
      by_cases hb : b = a
      · exact hb
      · exact absurd (off b hb) z
end
theorem walkG {l : PySem.W.OpenLaw} {n k : Nat} {q : Program} {loose : List Str} {XP : (Str → Option Value) → Heap → Prop} {YP : World → Heap → Prop} {d : DefRec} {CX : World → CXT} {sp : World → Frag → Sp} {x : Str}
    (hn : l.most = some n) (hn2 : n ≤ sizeLine) (hdf : d.params.defaults = []) (hr : Room k callerA)
    (go : ∀ (w : World) (mg : Str → Option Value) (fa : Addr) (h : Heap), YP w h → h.Ns mainGlobals mg → mg d.name = some (.ref fa) → ∃ (K : Frag) (fd : FuncData), K.In h ∧ (∀ (s : Shared) (u : Value), BindsTo s fd ⟨[u], []⟩ [(x, u)]) ∧
      (∀ base : Heap, K.In base → base.Ns mainGlobals mg → FnOkG l.prog w K mg base (CX w) k fa fd [x] (sp w K)))
    (hsp : ∀ (w : World) (K : Frag) (H : Hp) (a : Addr) (ns : List Int), ns.length ≤ n → (∀ z ∈ ns, Builtin.Int.intBits z ≤ 1048576) → Only H → SqL K H a (ns.map V.int) → sp w K [.ref a] H (fun v _ => v = .bl true) fun _ _ _ => False)
    (noX : ∀ (w : World) (H : Hp) (s : Shared) (e : Value) (s' : Shared), CX w [] H s (fun _ _ _ => False) e s' → False) :
    PySem.W.WalkO q loose XP YP l.row.toRowW d [] (fun f vs => PySem.call f vs) := by
  refine Att.attach_callB hn hdf ?_
  intro w s₀ s₁ mg mb fa o pm cd doc a vs ns G Y ho hd hcd hmg hobj hints hlen hbits hg
  obtain ⟨K, fd, kin, bnd, F⟩ := go w mg fa _ Y G.T.g hmg
  exact callG kin G.T.g G.T.b G.T.builtins G.T.nolimit hg hobj hints (Nat.le_trans hlen hn2) hr F bnd (fun H hO hS => hsp w K H a ns hlen hbits hO hS) fun H e s' => noX w H s₁ e s'
end SP
namespace SP
open PySem PySem.Spec PyProof.Rows L2
class PyR (α : Type) [Py α] where
  dat : α → PyData
  dp : ∀ {K : Frag} {F H : Hp} {v : V} {d : α}, Same F H → Py.rep K F v d → Dp K H v (dat d)
instance (priority := low) instPyR {α : Type} [Py α] [PyD α] : PyR α := ⟨PyD.dat, PyD.dp⟩
class ArgR (X : Type) [Arg X] where
  dats : X → List PyData
  dp : ∀ {K : Frag} {F H : Hp} {vs : List V} {x : X}, Same F H → Arg.rep K F vs x → DpAll K H vs (dats x)
instance : ArgR Unit := ⟨fun _ => [], fun _ h => by cases h; exact .nil⟩
instance {α X : Type} [Py α] [PyR α] [Arg X] [ArgR X] : ArgR (α × X) := ⟨fun x => PyR.dat x.1 :: ArgR.dats x.2, fun e ⟨v, ws, h0, h1, h2⟩ => by subst h0; exact .cons (PyR.dp e h1) (ArgR.dp e h2)⟩
structure HL (X : Type) where
  x : X
instance {X : Type} [Arg X] : Py (HL X) where
  rep K F v d := ∃ p vs, v = .ref p ∧ F p = some (.lst vs) ∧ Arg.rep K F vs d.x
  mono e := fun ⟨p, vs, h0, h1, h2⟩ => ⟨p, vs, h0, e _ _ h1, Arg.mono e h2⟩
instance {X : Type} [Arg X] [ArgR X] : PyR (HL X) := ⟨fun d => .list (ArgR.dats d.x), fun e ⟨p, vs, h0, h1, h2⟩ => by subst h0; exact .lst (SqL.of (e _ _ h1)) (ArgR.dp e h2)⟩
section
variable {K : Frag} {M : Type → Type} {S : Type} [PyM M S] {ρ α X : Type} [Py α] [Arg X] {B : Base S} {Γ : Env} {te : TE} {tr : TA}
end
end SP
namespace SP
open PySem L2
end SP
namespace SP
open PySem L2
def prA (K : Frag) (C : Addr) (f : Str) : Addr := He.ma K C f
def prG (K : Frag) (C : Addr) (f : Str) : Addr := match PySem.W.recIn K (prA K C f) "property" with
  | some (.ref g :: _) => g
  | _ => He5.wf K C "staticmethod" f
inductive Fx where
  | own (c : Str)
  | ne (c : Str)
  | kc (c d : Str) (b : Bool)
  | kt (t : String) (d : Str)
  | pr (c f : Str)
  | tb4 (x : Str) (a b c d : Bool)
  | nt (c : Str) (t : String)
  | nc (c d : Str)
  | sm (c f : Str)
def ownB (K : Frag) (C : Addr) : Bool := He.eqO (PySem.W.findIn K (.ref C) "__class__") (some (some (.builtin "object.__class__"))) && (He.eqO (PySem.W.specialIn K (.builtin "object.__class__") "__get__") (some (some (.builtin "getset_descriptor.__get__"))) && (decide (PySem.W.takesIn K (.builtin "object.__class__") = some true) &&
  (decide (PySem.W.mroIn K C (.type "object") = some true) && (PySem.W.selfFirst K C && (PySem.W.notFirst K C (.ref C) && decide (PySem.W.subIn K (.ref C) (.type "object") = some true))))))
def prB (K : Frag) (C : Addr) (f : Str) : Bool := He.eqO (PySem.W.findIn K (.ref C) f) (some (some (.ref (prA K C f)))) && (He.eqO (PySem.W.specialIn K (.ref (prA K C f)) "__get__") (some (some (.builtin "property.__get__"))) && (decide (PySem.W.takesIn K (.ref (prA K C f)) = some true) &&
  (match PySem.W.recIn K (prA K C f) "property" with
    | some (.ref _ :: _) => true
    | _ => false)))
def tb4B (K : Frag) (x : Str) (a b c d : Bool) : Bool := He.tupB K x [.bl a, .bl b, .bl c, .bl d]
structure CSt (K : Frag) (C : Addr) (m : Str) (p g : Addr) : Prop where
  rd : PySem.W.readsIn K C (.type "type") = true
  ga : PySem.W.specialIn K (.ref C) "__getattribute__" = some (some (.builtin "type.__getattribute__"))
  at_ : PySem.W.findCls K (.ref C) (.type "type") m = some (.get (.builtin "staticmethod.__get__") (.ref p) .none (.ref C))
  rc : ∃ rest, PySem.W.recIn K p "staticmethod" = some (.ref g :: rest)
def smB (K : Frag) (C : Addr) (f : Str) : Bool := He5.wrapB K C "staticmethod" "staticmethod.__get__" f && (PySem.W.readsIn K C (.type "type") && (He.eqO (PySem.W.specialIn K (.ref C) "__getattribute__") (some (some (.builtin "type.__getattribute__"))) && decide (prG K C f = He5.wf K C "staticmethod" f)))
def Fx.ok (K : Frag) : Fx → Bool
  | .own c => ownB K (He.ga K c)
  | .ne c => He.eqO (PySem.W.findIn K (.ref (He.ga K c)) "__ne__") (some (some (.builtin "object.__ne__")))
  | .kc c d b => decide (PySem.W.kitOne K (.ref (He.ga K c)) (.ref (He.ga K d)) = some b)
  | .kt t d => decide (PySem.W.kitOne K (.type t) (.ref (He.ga K d)) = some false)
  | .pr c f => prB K (He.ga K c) f
  | .tb4 x a b c d => tb4B K x a b c d
  | .nt c t => PySem.W.notFirst K (He.ga K c) (.type t)
  | .nc c d => PySem.W.notFirst K (He.ga K c) (.ref (He.ga K d))
  | .sm c f => smB K (He.ga K c) f
section
variable {K : Frag}
structure GetD where
  c : Str
  f : Str
  d : He.DefD
def fnAt (K : Frag) (a : Addr) : He.FnW := match K.lookup a with
  | some ⟨_, _, .func fd, _⟩ => some (fd.name, fd.qualname, fd.params, fd.body, fd.scope, fd.globals, fd.closure, fd.builtins)
  | _ => none
def okAt (K : Frag) (a : Addr) (d : He.DefD) : Bool := PySem.W.keepIn K (.ref a) && (match K.lookup a with
  | some ⟨_, _, .func fd, _⟩ => PySem.W.codeIn K fd.code d.qual && (He.dflB K fd.defaults (d.dvs K) && He.kwdB K fd.kwdefaults (d.kws K))
  | _ => false)
theorem funAt {a : Addr} {d : He.DefD} (e : fnAt K a = d.val) (c : okAt K a d = true) : ∃ fd, FunD K d.name d.qual d.params d.body d.scope (d.dvs K) (d.kws K) a fd := by
  obtain ⟨kp, c2⟩ := He.ba c
  unfold fnAt at e
  cases q : K.lookup a with
  | none => rw [q] at c2; cases c2
  | some o =>
    obtain ⟨oc, od, dt, osl⟩ := o
    rw [q] at c2 e
    cases dt with
    | func fd =>
      obtain ⟨n1, n2, n3, n4, n5, n6, n7, n8, n9, n10, n11, n12, n13, n14, n15⟩ := fd
      have e2 : (some (n1, n2, n3, n4, n5, n6, n7, n15) : He.FnW) = some (d.name, d.qual, d.params, .stmts d.body, d.scope, mainGlobals, [], builtinsNs) := e
      simp only [Option.some.injEq, Prod.mk.injEq] at e2
      obtain ⟨g1, g2, g3, g4, g5, g6, g7, g8⟩ := e2
      subst g1 g2 g3 g4 g5 g6 g7 g8
      obtain ⟨k1, k2⟩ := He.ba (show (PySem.W.codeIn K n13 d.qual && (He.dflB K n8 (d.dvs K) && He.kwdB K n9 (d.kws K))) = true from c2)
      obtain ⟨k3, k4⟩ := He.ba k2
      exact ⟨_, ⟨oc, od, n8, n9, n10, n11, n12, n13, n14, osl, rfl, q, k1, He.dflB_ok k3, He.kwdB_ok k4⟩, kp⟩
    | _ => cases c2
end
abbrev AlT : Type := He.AlD × (Bool × List He.FnW)
def obsT (as : List Addr) (fa : List He.Fa) (fn : List He.DefD) (fx : List Fx) (gt : List GetD) (g : Addr → Option Obj) : AlT :=
  (He.obsD fa fn (He.frG g as), ((fx.all fun f => f.ok (He.frG g as)) && (gt.all fun d => okAt (He.frG g as) (prG (He.frG g as) (He.ga (He.frG g as) d.c) d.f) d.d), gt.map fun d => fnAt (He.frG g as) (prG (He.frG g as) (He.ga (He.frG g as) d.c) d.f)))
structure SaysT (fa : List He.Fa) (fn : List He.DefD) (fx : List Fx) (gt : List GetD) (K : Frag) : Prop where
  d : He.SaysD fa fn K
  x : ((fx.all fun f => f.ok K) && (gt.all fun d => okAt K (prG K (He.ga K d.c) d.f) d.d)) = true
  g : (gt.map fun d => fnAt K (prG K (He.ga K d.c) d.f)) = gt.map fun d => d.d.val
section
variable {fa : List He.Fa} {fn : List He.DefD} {xs : List Fx} {gt : List GetD} {K : Frag}
theorem SaysT.fact (c : SaysT fa fn xs gt K) (i : Nat) {f : Fx} (h : xs[i]? = some f := by rfl) : f.ok K = true := List.all_eq_true.mp (He.ba c.x).1 f (List.mem_of_getElem? h)
theorem SaysT.get (c : SaysT fa fn xs gt K) (i : Nat) {d : GetD} (h : gt[i]? = some d := by rfl) : ∃ fd, FunD K d.d.name d.d.qual d.d.params d.d.body d.d.scope (d.d.dvs K) (d.d.kws K) (prG K (He.ga K d.c) d.f) fd := by
  have h1 := List.all_eq_true.mp (He.ba c.x).2 d (List.mem_of_getElem? h)
  have h2 : (gt.map fun d => fnAt K (prG K (He.ga K d.c) d.f))[i]? = (gt.map fun d => d.d.val)[i]? := by rw [c.g]
  rw [List.getElem?_map, List.getElem?_map, h] at h2
  exact funAt (Option.some.inj h2) h1
end
end SP
namespace SP
open PySem L2
structure Script where
  l : List Int
theorem rd_mono {F F' : Hp} {a : Addr} {o : HO} (e : Same F F') (h : Rd F a o) : Rd F' a o := by
  rcases h with h | ⟨u, h⟩
  · exact .inl (e _ _ h)
  · exact .inr ⟨u, e _ _ h⟩
theorem sqL_mono {K : Frag} {F F' : Hp} {a : Addr} {xs : List V} (e : Same F F') (h : SqL K F a xs) : SqL K F' a xs := by
  rcases h with h | h
  · exact .inl (rd_mono e h)
  · exact .inr h
instance : Py Script where
  rep K F v d := ∃ p, v = .ref p ∧ SqL K F p (d.l.map V.int)
  mono e := fun ⟨p, h0, h1⟩ => ⟨p, h0, sqL_mono e h1⟩
section
variable {K : Frag}
theorem ct_lenSc : CallT K (fun xs H Q => ∃ p ys, xs = [.ref p] ∧ (SqL K H p ys ∨ SqT K H p ys) ∧ Q (.int ys.length) H) (fun x : Script × Unit => (x.1.l.length : Int)) := fun x F H vs e hv Q q => by
  obtain ⟨v, ws, e0, ⟨p, e1, h1⟩, e2⟩ := hv
  have e2 : ws = [] := e2
  subst e0 e1 e2
  exact ⟨p, _, rfl, .inl (sqL_mono e h1), q _ F H (Step.rfl e) (by show V.int _ = V.int _; rw [List.length_map])⟩
theorem op_ixSc : OpP K (rIxL K) (fun (x : Script) (i : Int) => atM x.l i) := fun x y z hz F H v u e hv hu Q q => by
  obtain ⟨p, e1, h1⟩ := hv
  have hu : u = .int y := hu
  subst e1 hu
  obtain ⟨w, hw, rw'⟩ := atM_V (F := F) (int_reps (K := K) (F := F) (ns := x.l)) hz
  exact ⟨p, _, y, w, rfl, rfl, sqL_mono e h1, hw, q w F H (Step.rfl e) rw'⟩
theorem spLaw_of {f : Script × Unit → Option Bool} {H : Hp} {a : Addr} {ns : List Int} {E : XK} (h : SqL K H a (ns.map V.int)) (e : f (⟨ns⟩, ()) = some true) : spP K f [.ref a] H (fun v _ => v = .bl true) E :=
  ⟨(⟨ns⟩, ()), true, H, Same.refl H, ⟨_, [], rfl, ⟨a, rfl, h⟩, rfl⟩, e, fun v F' H' w rv => rv⟩
end
end SP
namespace SP
open PySem PySem.Spec PyProof.Rows L2
section
variable {K : Frag} {M : Type → Type} {S : Type} [PyM M S] {ρ α β γ : Type} [Py α] [Py β] [Py γ] {B : Base S} {Γ : Env} {te : TE}
end
end SP
namespace SP
open PySem PySem.Spec PyProof.Rows L2
section
variable {X : Cx} {CX : CXT} {k : Nat} {f C : Addr} {fd : FuncData} {ps : List Str} {sp : Sp} {E : XK}
end
section
variable {K : Frag} {M : Type → Type} {S : Type} [PyM M S] {ρ α β γ T X X' : Type} [Py α] [Py γ] [Py T] [PyO β] {B : Base S} {Γ : Env} {ta te : TE} {E : XK}
end
class ArgD (X : Type) [Arg X] where
  dats : X → List PyData
  dp : ∀ {K : Frag} {F H : Hp} {vs : List V} {x : X}, Same F H → Arg.rep K F vs x → DpAll K H vs (dats x)
  lay : ∀ x : X, PyData.canLayAll0 (dats x) = true
  dep : Nat
  dle : ∀ x : X, PyData.depthAll (dats x) ≤ dep
  eqv : ∀ a b : X, PyData.eqvAll (dats a) (dats b) = true ↔ a = b
instance : ArgD Unit where
  dats _ := []
  dp _ h := by cases h; exact .nil
  lay _ := rfl
  dep := 0
  dle _ := Nat.le_refl 0
  eqv a b := by simp [PyData.eqvAll]
instance {α X : Type} [Py α] [PyD α] [Arg X] [ArgD X] : ArgD (α × X) where
  dats x := PyD.dat x.1 :: ArgD.dats x.2
  dp e := fun ⟨v, ws, h0, h1, h2⟩ => by subst h0; exact .cons (PyD.dp e h1) (ArgD.dp e h2)
  lay x := by simp [PyData.canLayAll0, PyD.lay, ArgD.lay]
  dep := max (PyD.dep α) (ArgD.dep X)
  dle x := by
    have h1 := PyD.dle x.1
    have h2 := ArgD.dle x.2
    simp only [PyData.depthAll]
    omega
  eqv a b := by
    obtain ⟨a1, a2⟩ := a
    obtain ⟨b1, b2⟩ := b
    simp only [PyData.eqvAll, Bool.and_eq_true, PyD.eqv, ArgD.eqv, Prod.mk.injEq]
instance {X : Type} [Arg X] [ArgD X] : PyD (HL X) where
  dat d := .list (ArgD.dats d.x)
  dp e := fun ⟨p, vs, h0, h1, h2⟩ => by subst h0; exact .lst (SqL.of (e _ _ h1)) (ArgD.dp e h2)
  lay d := by simp [PyData.canLay0, ArgD.lay]
  dep := ArgD.dep X + 1
  dle d := by rw [PyData.depth]; exact Nat.succ_le_succ (ArgD.dle d.x)
  eqv a b := by
    rw [PyData.eqv, ArgD.eqv]
    exact ⟨fun h => by cases a; cases b; cases h; rfl, fun h => by rw [h]⟩
instance {X : Type} [DecidableEq X] : DecidableEq (HL X) := fun a b => if h : a.x = b.x then .isTrue (by cases a; cases b; cases h; rfl) else .isFalse fun z => h (by rw [z])
end SP
namespace SP
open PySem PySem.Spec PyProof.Rows L2
structure T5 (α β γ δ ε : Type) where
  a : α
  b : β
  c : γ
  d : δ
  e : ε
  deriving DecidableEq
instance {α β γ δ ε : Type} [Py α] [Py β] [Py γ] [Py δ] [Py ε] : Py (T5 α β γ δ ε) where
  rep K F v d := ∃ p x y z u s, v = .ref p ∧ SqT K F p [x, y, z, u, s] ∧ Py.rep K F x d.a ∧ Py.rep K F y d.b ∧ Py.rep K F z d.c ∧ Py.rep K F u d.d ∧ Py.rep K F s d.e
  mono e := fun ⟨p, x, y, z, u, s, h0, h1, h2, h3, h4, h5, h6⟩ => ⟨p, x, y, z, u, s, h0, seqT_mono e h1, Py.mono e h2, Py.mono e h3, Py.mono e h4, Py.mono e h5, Py.mono e h6⟩
section
variable {α β γ δ ε : Type} [Py α] [Py β] [Py γ] [Py δ] [Py ε]
instance [PyD α] [PyD β] [PyD γ] [PyD δ] [PyD ε] : PyD (T5 α β γ δ ε) where
  dat x := .tuple [PyD.dat x.a, PyD.dat x.b, PyD.dat x.c, PyD.dat x.d, PyD.dat x.e]
  dp e := fun ⟨p, x, y, z, u, s, h0, h1, h2, h3, h4, h5, h6⟩ => by subst h0; exact .tup (seqT_mono e h1) (.cons (PyD.dp e h2) (.cons (PyD.dp e h3) (.cons (PyD.dp e h4) (.cons (PyD.dp e h5) (.cons (PyD.dp e h6) .nil)))))
  lay x := by simp [PyData.canLay0, PyData.canLayAll0, PyD.lay]
  dep := max (PyD.dep α) (max (PyD.dep β) (max (PyD.dep γ) (max (PyD.dep δ) (PyD.dep ε)))) + 1
  dle x := by
    have h1 := PyD.dle x.a
    have h2 := PyD.dle x.b
    have h3 := PyD.dle x.c
    have h4 := PyD.dle x.d
    have h5 := PyD.dle x.e
    simp only [PyData.depth, PyData.depthAll]
    omega
  eqv a b := by
    simp only [PyData.eqv, PyData.eqvAll, Bool.and_eq_true, Bool.and_true, PyD.eqv]
    exact ⟨fun ⟨h1, h2, h3, h4, h5⟩ => by cases a; cases b; simp_all, fun h => by rw [h]; exact ⟨rfl, rfl, rfl, rfl, rfl⟩⟩
variable {K : Frag} {M : Type → Type} {S : Type} [PyM M S] {ρ : Type} {B : Base S} {Γ : Env} {tr : TA} {ta : TE}
end
end SP
namespace SP
open PySem PySem.Spec PyProof.Rows L2
section
variable {X : Cx} {CX : CXT} {k : Nat} {f C : Addr} {fd : FuncData} {ps : List Str} {sp : Sp} {E : XK} {ta : TE} {a : Expr} {pos : Pos}
end
section
variable {K : Frag} {M : Type → Type} {S : Type} [PyM M S] {ρ β : Type} [PyO β] {B : Base S} {Γ : Env} {te : TE} {E : XK}
end
section
variable {X : Cx} {CX : CXT} {k : Nat} {C p f : Addr} {fd : FuncData} {ps : List Str} {sp : Sp} {E : XK} {o : Expr} {m : Str} {pos apos : Pos} {ta : TE} {pins : List (Addr × Obj)} {σ : L2.St} {H : Hp} {s : Shared} {A : Around} {EE : Value → Shared → Prop}
end
section
variable {K : Frag} {M : Type → Type} {S : Type} [PyM M S] {ρ γ : Type} [Py γ] {B : Base S} {Γ : Env} {C : Addr} {E : XK}
end
end SP
namespace SP
open PySem PySem.Spec PyProof.Rows L2
abbrev FldT := T3 (Int × Int) (Int × Int) (List (T4 (Int × Int) (Int × Int) (Int × Int) (Int × Int)))
inductive Tree where
  | box (f : FldT)
  | inv (t : Tree)
  | bin (s : Str) (a b : Tree)
def Tree.rep (K : Frag) (F : Hp) : V → Tree → Prop
  | v, .box f => Py.rep K F v (T3.mk ("box" : Str) f (0 : Int))
  | v, .inv t => ∃ p x y z, v = .ref p ∧ SqT K F p [x, y, z] ∧ x = .str "~" ∧ Tree.rep K F y t ∧ z = .int 0
  | v, .bin s a b => ∃ p x y z, v = .ref p ∧ SqT K F p [x, y, z] ∧ x = .str s ∧ Tree.rep K F y a ∧ Tree.rep K F z b
theorem Tree.rep_mono {K : Frag} {F F' : Hp} (e : Same F F') : ∀ (t : Tree) (v : V), Tree.rep K F v t → Tree.rep K F' v t
  | .box f, v, h => Py.mono (α := T3 Str FldT Int) e h
  | .inv t, v, ⟨p, x, y, z, h0, h1, h2, h3, h4⟩ => ⟨p, x, y, z, h0, seqT_mono e h1, h2, Tree.rep_mono e t y h3, h4⟩
  | .bin s a b, v, ⟨p, x, y, z, h0, h1, h2, h3, h4⟩ => ⟨p, x, y, z, h0, seqT_mono e h1, h2, Tree.rep_mono e a y h3, Tree.rep_mono e b z h4⟩
instance : Py Tree where
  rep K F v t := Tree.rep K F v t
  mono {_ _ _ v d} e h := Tree.rep_mono e d v h
section
variable {K : Frag}
end
section
variable {K : Frag} {X ρ γ : Type} [Arg X] [Py ρ] [Py γ]
variable {P : Program} {w : World} {mg : Str → Option Value} {base : Heap} {CX : CXT} {k : Nat} {a : Addr} {fd : FuncData} {ps : List Str} {sp s1 s2 s3 : Sp}
end
section
variable {K : Frag} {M : Type → Type} {S : Type} [PyM M S] {ρ α β : Type} [Py α] [Py β] {B : Base S} {Γ : Env} {ta tk tv tb te : TE}
end
end SP
namespace SP
open PySem PySem.Spec PyProof.Rows L2
section
variable {K : Frag} {M : Type → Type} {S : Type} [PyM M S] {ρ α : Type} [Py α] {B : Base S} {Γ : Env}
end
section
variable {prog : Program} {w : World} {A : Around} {E : Value → Shared → Prop} {s : Shared}
end
instance : PyT Tree "tuple" where
  ty {K F v t} h := by
    cases t with
    | box f => exact PyT.ty (T := T3 Str FldT Int) (n := "tuple") h
    | inv t => obtain ⟨p, x, y, z, rfl, h1, _⟩ := h; exact tyx_tup h1
    | bin s a b => obtain ⟨p, x, y, z, rfl, h1, _⟩ := h; exact tyx_tup h1
end SP
namespace SP
open PySem PySem.Spec PyProof.Rows L2
section
variable {K : Frag} {M : Type → Type} {S : Type} [PyM M S] {ρ : Type} {B : Base S} {Γ : Env} {tr : TA}
end
section
variable {K : Frag} {M : Type → Type} {S : Type} [PyM M S] {ρ α β γ δ : Type} [Py α] [Py β] [Py γ] [Py δ] {B : Base S} {Γ : Env} {ta te : TE}
end
end SP
namespace SP
open PySem PySem.Spec PyProof.Rows L2
section
variable {K : Frag} {M : Type → Type} {S : Type} [PyM M S] {ρ α β T U : Type} [Py α] [Py β] [Py T] [Py U] {B : Base S} {Γ : Env} {tr : TA}
end
end SP
namespace SP
open PySem PySem.Spec PyProof.Rows L2
section
variable {K : Frag} {M : Type → Type} {S : Type} [PyM M S] {ρ α β γ δ ε ζ : Type} [Py α] [Py β] [Py γ] [Py δ] [Py ε] [Py ζ] {B : Base S} {Γ : Env} {ta : TE}
end
end SP
namespace SP
open PySem L2
inductive Itm where
  | fr (x : Fr)
  | li (x : List Fr)
  | bo (x : Bool)
  | bx (x : List Box)
def Itm.rep (K : Frag) (F : Hp) (v : V) : Itm → Prop
  | .fr x => Py.rep K F v x
  | .li x => Py.rep K F v x
  | .bo x => Py.rep K F v x
  | .bx x => Py.rep K F v x
instance : Py Itm where
  rep K F v d := d.rep K F v
  mono := fun {K F F' v d} e h => by
    cases d with
    | fr x => exact Py.mono (α := Fr) e h
    | li x => exact Py.mono (α := List Fr) e h
    | bo x => exact Py.mono (α := Bool) e h
    | bx x => exact Py.mono (α := List Box) e h
def Itm.dat : Itm → PyData
  | .fr x => PyD.dat x
  | .li x => PyD.dat x
  | .bo x => PyD.dat x
  | .bx x => PyD.dat x
theorem Itm.dp {K : Frag} {F H : Hp} {v : V} {d : Itm} (e : Same F H) (h : Py.rep K F v d) : Dp K H v d.dat := by
  cases d with
  | fr x => exact PyD.dp (α := Fr) e h
  | li x => exact PyD.dp (α := List Fr) e h
  | bo x => exact PyD.dp (α := Bool) e h
  | bx x => exact PyD.dp (α := List Box) e h
theorem Itm.lay (d : Itm) : d.dat.canLay0 = true := by cases d <;> exact PyD.lay _
theorem Itm.dep (d : Itm) : d.dat.depth ≤ 30 := by
  cases d with
  | fr x => exact Nat.le_trans (PyD.dle x) (by decide)
  | li x => exact Nat.le_trans (PyD.dle x) (by decide)
  | bo x => exact Nat.le_trans (PyD.dle x) (by decide)
  | bx x => exact Nat.le_trans (PyD.dle x) (by decide)
def datL (l : List Itm) : PyData := .list (l.map Itm.dat)
theorem dpItms {K : Frag} {F H : Hp} (e : Same F H) : ∀ {vs : List V} {ds : List Itm}, Reps K F vs ds → DpAll K H vs (ds.map Itm.dat)
  | _, _, .nil => .nil
  | _, _, .cons h t => .cons (Itm.dp e h) (dpItms e t)
theorem datL_dp {K : Frag} {F H : Hp} {v : V} {ds : List Itm} (e : Same F H) (h : Py.rep K F v ds) : Dp K H v (datL ds) := by
  obtain ⟨p, vs, rfl, h1, h2⟩ := h
  exact .lst (SqL.of (e _ _ h1)) (dpItms e h2)
def Itm.own (N : Addr → Prop) (v : V) : Itm → Prop
  | .li _ => ∃ q, v = .ref q ∧ N q
  | .bx _ => ∃ q, v = .ref q ∧ N q
  | _ => True
section
variable (K : Frag) {M : Type → Type} {S : Type} [PyM M S] {ρ : Type} (B : Base S)
end
section
variable {K : Frag} {M : Type → Type} {S : Type} [PyM M S] {ρ α X : Type} [Py α] [Arg X] {B : Base S} {Γ : Env} {te ta : TE} {tr : TA} {E : XK}
end
structure Chg (N : Addr → Prop) (H H' : Hp) : Prop where
  old : ∀ a o, ¬ N a → H a = some o → H' a = some o
  al : ∀ a, H' a = none → H a = none
theorem Chg.refl {N : Addr → Prop} {H : Hp} : Chg N H H := ⟨fun _ _ _ e => e, fun _ e => e⟩
theorem Chg.trans {N : Addr → Prop} {H H1 H2 : Hp} (a : Chg N H H1) (b : Chg N H1 H2) : Chg N H H2 := ⟨fun x o n e => b.old x o n (a.old x o n e), fun x e => a.al x (b.al x e)⟩
theorem Chg.new {N : Addr → Prop} {H : Hp} {p : Addr} {o : HO} (h : H p = none) : Chg N H (upd H p o) := ⟨fun a u _ e => same_upd h a u e, fun a e => by
  by_cases ha : a = p
  · subst ha; exact h
  · rw [upd_ne ha] at e; exact e⟩
theorem Chg.mut {N : Addr → Prop} {H : Hp} {p : Addr} {o : HO} (h : N p) (h1 : H p ≠ none) : Chg N H (upd H p o) := ⟨fun a u n e => by
  rw [upd_ne fun z => n (by rw [z]; exact h)]; exact e, fun a e => by
  by_cases ha : a = p
  · subst ha; rw [upd_same] at e; cases e
  · rw [upd_ne ha] at e; exact e⟩
def LsN (N : Addr → Prop) (m : Nat) (H : Hp) : Prop := ∀ a, N a → ∃ xs, H a = some (.lst xs) ∧ xs.length ≤ m
theorem LsN.of {N : Addr → Prop} {m m' : Nat} {H : Hp} (h : LsN N m H) (e : m ≤ m') : LsN N m' H := fun a n => by
  obtain ⟨xs, h1, h2⟩ := h a n
  exact ⟨xs, h1, Nat.le_trans h2 e⟩
theorem LsN.upd {N : Addr → Prop} {m : Nat} {H : Hp} {p : Addr} {ys : List V} (h : LsN N m H) (hy : N p → ys.length ≤ m) : LsN N m (upd H p (.lst ys)) := fun a n => by
  by_cases ha : a = p
  · subst ha; exact ⟨ys, upd_same, hy n⟩
  · rw [upd_ne ha]; exact h a n
section
variable {K : Frag} {M : Type → Type} {S : Type} [PyM M S] {ρ : Type} {B : Base S} {Γ : Env} {te : TE} {tt : TT} {t1 u : TS} {E : XK}
end
section
variable {K : Frag} {M : Type → Type} {S : Type} [PyM M S] {ρ : Type} {B : Base S} {Γ : Env} {te : TE} {tt : TT} {t1 : TS} {E : XK}
end
section
variable {K : Frag} {M : Type → Type} {S : Type} [PyM M S] {ρ α β γ δ X : Type} [Py α] [Py β] [Py γ] [Py δ] [Arg X] {B : Base S} {Γ : Env} {ta tb te : TE} {tr : TA} {E : XK}
end
section
variable {X : Cx} {CX : CXT} {k n : Nat} {f C f' C' : Addr} {fd fd' : FuncData} {ps ps' : List Str} {E E' : XK} {K : Frag} {β β' : Type} [Py β] [Py β'] {g : β × β × Unit → Option Bool} {g' : β' × β' × Unit → Option Bool}
end
section
variable {K : Frag} {M : Type → Type} {S : Type} [PyM M S] {ρ α β : Type} [PyO α] [PyO β] {B : Base S} {Γ : Env} {ta tb te : TE}
end
end SP
namespace SX
open PySem PySem.W PySem.Calls PyProof.Rows
abbrev exBody (p0 p1 p2 p3 p4 p5 p6 p7 p8 p9 : Pos) : List Stmt :=
  [.Expr (.Call (.Attribute (.Call (.Name "super" p0) [] [] p1) "__init__" p2) [.Name "value" p3] [] p4) p5, .Assign [.Attribute (.Name "self" p6) "value" p7] (.Name "value" p8) p9]
abbrev excD (C : Addr) (d : Option Addr) (t1 : Addr) : Obj := { cls := .ref C, dict := d, data := .fields #[.ref t1, .none, .none, .none, .bool false, .none] }
section
variable {prog : Program} {w : World} {M : Model} {A : Around} {E : Value → Shared → Prop} {h : Heap} {g : Array GenState} {d : Drawn} {t : Nat} {os : OsState}
variable {nm q : Str} {C N : Addr} {bs bm : List Value} {hdct : Bool} {sn : List Str} {sub : List Value} {ab : Bool} {col : Option Bool} {dd : Option Addr} {k0 k1 k2 k3 k5 : Option Value}
theorem call_mw {u e t0 : Addr} {rest : List Value} {Q : Value → Shared → Prop} (hbm : HandSPX.refsVE bm = true)
    (hC : h.get? C = some (excClassObj nm q C N bs bm hdct sn sub ab col dd k0 k1 k2 k3 k5 "ValueError.__new__")) (he : h.get? e = some (HandSPX.excO C t0)) (hu : h.get? u = some (kxs_mw "ValueError.__init__" e)) (hrest : rest.length ≤ sizeLine)
    (hq : ∀ h' t1, (∀ b o, b ≠ e → h.get? b = some o → h'.get? b = some o) → h'.get? e = some (HandSPX.excO C t1) → Q .none ⟨h', g, d, t, os⟩) :
    wpAny (model prog w) A (call (.ref u) rest) Q E ⟨h, g, d, t, os⟩ := by
  have F := F.excBase_ValueError
  refine wpAny_call (codeAny_of_tree ?_)
  show wpAny _ A.in1 (callAny (.ref u) ⟨rest, []⟩) _ _ _
  simp only [callAny]
  refine wpAny_bind (wpAny_load hu ?_)
  simp only [kxs_mw, show (Value.type "method-wrapper" == Value.type "method" || Value.type "method-wrapper" == Value.type "builtin_function_or_method" || Value.type "method-wrapper" == Value.type "method-wrapper") = true by decide, if_true]
  refine W.KFB.if_so (by decide) ?_
  refine wpAny_bind (ESX.check_bound F hC he rfl ?_)
  refine wpAny_bind (wpAny_pure (wpAny_pure ?_))
  refine ⟨Code.quiet_builtin _ (by decide +kernel), codeAny_builtin F.initEntry ?_⟩
  rw [Around.under_plainId F.init.plain _]
  wp_walk
  refine hq _ h.objs.size (fun b o hb ho => ?_) ?_
  · rw [Heap.get?_update_other _ _ (Ne.symm hb)]
    exact Heap.get?_push_of_some _ ho
  · rw [Heap.get?_update_self _ (Heap.get?_push_of_some _ he) rfl]
    rfl
end
structure ExC (P : Program) (K : Frag) (C : Addr) : Prop where
  o : L2.OexC K C
  sup : ks_superIn K C C "__init__" = some (some (.builtin "ValueError.__init__"))
  ve : subIn K (.ref C) (.type "ValueError") = some true
  self : mroIn K C (.ref C) = some true
  any : nsIn K cStatics "thirdparty.any" = some none
  val : findIn K (.ref C) "value" = some none
section
variable {prog : Program} {w : World} {A : Around} {E : Value → Shared → Prop} {hp : Heap} {g : Array GenState} {d : Drawn} {t : Nat} {os : OsState}
variable {K : Frag} {C fI cc cda e L t0 : Addr} {u : Value} {m mg mb : Str → Option Value} {qual : Str} {params : Arguments} {scope : Scope} {dV kV doc pm ct : Value} {an : Option Addr}
variable {p0 p1 p2 p3 p4 p5 p6 p7 p8 p9 : Pos} {oc : Value} {od : Option Addr} {osl : Array (Option Value)} {ccl : Value} {cdd : Option Addr} {vs : Array Value} {ccs : Array (Option Value)} {file : Str} {tf : Tok} {cl : Value} {cld : Option Addr} {csl : Array (Option Value)} {ar : Arg}
def Done (hp : Heap) (C e : Addr) (u : Value) (g : Array GenState) (os : OsState) (s' : Shared) : Prop :=
  ∃ dx t1, (∀ b o, b ≠ e → hp.get? b = some o → s'.heap.get? b = some o) ∧ hp.objs.size ≤ dx ∧ s'.heap.get? e = some (excD C (some dx) t1) ∧ s'.heap.Ns1 dx (fun y => if y = "value" then some u else none) ∧ s'.gens = g ∧ s'.os = os
theorem init_body (X : ExC prog K C) (KX : K.In hp) (hglob : hp.Ns mainGlobals mg) (hsup : mg "super" = none) (hblt : hp.Ns builtinsNs mb) (hboot : mb "super" = some (.type "super"))
    (hf : K.lookup fI = some ⟨oc, od, .func (ksFn "__init__" qual params (exBody p0 p1 p2 p3 p4 p5 p6 p7 p8 p9) scope dV kV doc pm an (.ref cda) ct cc), osl⟩)
    (hp1 : (params.posonlyargs ++ params.args).head? = some ar) (har : ar.arg = ("self" : Str)) (hcode : K.lookup cda = some ⟨ccl, cdd, .fields vs, ccs⟩) (hvs : vs[2]? = some (.str file tf)) (hfile : ((prog.main.file : Str) == file) = true)
    (hcell : K.lookup cc = some ⟨cl, cld, .cell (some (.ref C)), csl⟩) (hks : scope.names.lookup ("super" : Str) = some .globalImplicit) (hkc : scope.names.lookup ("__class__" : Str) = some .free) (hka : scope.names.lookup ("self" : Str) = some .local) (hkv : scope.names.lookup ("value" : Str) = some .local) (hk : scope.kind = .function)
    (htop : (prog.main.scope.names.lookup ("super" : Str)).isSome = false) (hL : hp.Ns L m) (hms : m "self" = some (.ref e)) (hmv : m "value" = some u) (he : hp.get? e = some (HandSPX.excO C t0)) (hu : L ≠ e) (heK : K.lookup e = none) (hi : interactive (ksEnv qual scope L fI (.ref cda) cc) = false)
    (hsw : swapsWith (.Name "value" p8) (some (.Attribute (.Name "self" p6) "value" p7)) p9.line (ksEnv qual scope L fI (.ref cda) cc) = pure false)
    {pl : Sem Bool} (hev : eval (.Call (.Attribute (.Call (.Name "super" p0) [] [] p1) "__init__" p2) [.Name "value" p3] [] p4) (ksEnv qual scope L fI (.ref cda) cc) = (do
      let ov ← attributeBase (.Call (.Name "super" p0) [] [] p1) "__init__" (ksEnv qual scope L fI (.ref cda) cc) (eval (.Call (.Name "super" p0) [] [] p1) (ksEnv qual scope L fI (.ref cda) cc))
      standAt p2.atName
      let (f, first) ← holding [ov] (getMethod ov "__init__" pl)
      callWith p4 f first (backTo p4 (starEach [.Name "value" p3] (ksEnv qual scope L fI (.ref cda) cc))) [])) :
    _root_.PySem.wpAt (model prog w) A (.func (exBody p0 p1 p2 p3 p4 p5 p6 p7 p8 p9) (ksEnv qual scope L fI (.ref cda) cc)) (execs (exBody p0 p1 p2 p3 p4 p5 p6 p7 p8 p9) (ksEnv qual scope L fI (.ref cda) cc))
      (fun fl s' => fl = .next ∧ Done hp C e u g os s') E ⟨hp, g, d, t, os⟩ := by
  obtain ⟨nm, q, N, bs, bm, sn, sub, ab, col, dd, k0, k1, k2, k3, k5, hCK, hbm⟩ := X.o.cls
  have hcl : clsIn K C = some { name := nm, bases := bs, mro := .ref C :: bm, ns := N, qualname := q, hasDict := true, slotNames := sn, subclasses := sub, abstract := ab, collection := col, hasDel := false } := by unfold clsIn; rw [hCK] <;> rfl
  have hCh := KX _ _ hCK
  have eC : e ≠ C := fun z => by rw [z, hCh] at he; cases he
  refine ks_wpAt_execs_cons (ks_wpAt_Expr_any (ks_wpAt_MethodCall (pl := pl) ?_ hev) hi)
  refine ks_wpAt_super_base (env := ksEnv qual scope L fI (.ref cda) cc) hks hkc (by decide) rfl (KX _ _ hf) rfl hp1 rfl (KX _ _ hcode) rfl hvs hfile htop ?_
  refine ks_loadName_global hk hks (loadGlobal_builtin (env := ksEnv qual scope L fI (.ref cda) cc) hglob hsup hblt hboot ⟨rfl, ?_⟩)
  refine wpAny_loadName_free hk hkc rfl ⟨_, KX _ _ hcell, rfl⟩ ?_
  rw [har]
  refine wpAny_loadName_local hk hka hL hms ?_
  refine ks_wpAny_isType_cls hCh rfl ⟨rfl, ?_⟩
  refine ks_wpAny_call_super hCh rfl he rfl (fun c z => by cases z) (looks_mroIn KX X.self) (fun h1 e1 k1 => ?_)
  -- the method
  have KX1 : K.In h1 := KX.keeps k1
  have I1 : InstAt h1 e (HandSPX.excO C t0) C none := ⟨k1 _ _ he, rfl, rfl, trivial⟩
  have hsup' := X.sup
  unfold ks_superIn at hsup'
  rw [hcl] at hsup'
  refine kxs_getMethod kxs_ValueError e1 (looks_opaque KX1 X.any) (l₀ := .ref C :: bm) (fun A Q E s k q => wpAny_bind ((looks_clsIn KX1 hcl) A _ E s k (wpAny_pure q))) rfl KX1 hsup' (I1.type.andThen (looks_subIn KX1 X.ve)) eC rfl ?_
  have k2 : ∀ b o, h1.get? b = some o → (h1.push (kxs_mw "ValueError.__init__" e)).get? b = some o := fun b o z => Heap.get?_push_of_some _ z
  have hmw : (h1.push (kxs_mw "ValueError.__init__" e)).get? h1.objs.size = some (kxs_mw "ValueError.__init__" e) := Heap.get?_push_at rfl rfl
  have hL2 : (h1.push (kxs_mw "ValueError.__init__" e)).Ns L m := hL.keeps fun b o z => k2 _ _ (k1 _ _ z)
  refine kxs_callWith (i := "ValueError.__init__") (x := e) rfl (evalArgs_plain (Calls.spliced_cons (wpAny_Name (wpAny_loadName_local (env := ksEnv qual scope L fI (.ref cda) cc) hk hkv hL2 hmv (Calls.spliced_nil ⟨hmw, ?_⟩)) (by decide))))
  refine call_mw hbm (k2 _ _ (k1 _ _ hCh)) (k2 _ _ (k1 _ _ he)) hmw (by show 1 ≤ sizeLine; rw [sizeLine_eq]; omega) fun h3 t1 k3 he3 => ?_
  -- self.value = value
  have kk : ∀ b o, b ≠ e → hp.get? b = some o → h3.get? b = some o := fun b o hb z => k3 b o hb (k2 _ _ (k1 _ _ z))
  have KX3 : K.In h3 := fun b o z => kk b o (fun y => by rw [y, heK] at z; cases z) (KX b o z)
  have hL3 : h3.Ns L m := by
    obtain ⟨oL, es, ep, z, r⟩ := hL
    exact ⟨oL, es, ep, kk _ _ hu z, r⟩
  refine ks_wpAt_execs_cons (wpAt_of_wpAny (plainObj_wpAny_Assign_Attribute (wpAny_Name (wpAny_loadName_local (env := ksEnv qual scope L fI (.ref cda) cc) hk hkv hL3 hmv (wpAny_Name (wpAny_loadName_local (env := ksEnv qual scope L fI (.ref cda) cc) hk hka hL3 hms ?_) (by decide))) (by decide)) hsw))
  refine set_plain KX3 (ox := excD C none t1) (od := none) ⟨he3, rfl, rfl, trivial⟩ X.o.sa ?_
  refine HandSPX.exc_osa KX3 he3 hcl (show HandSPX.refsVE (.ref C :: bm) = true from hbm) rfl X.val (fun h' tk' dx k dn dne hx hn => ?_)
  have z1 : hp.objs.size < h1.objs.size := Heap.lt_size e1
  have ne : h1.objs.size ≠ e := fun z => absurd (Heap.lt_size he) (by rw [← z]; exact Nat.not_lt_of_lt z1)
  have z2 : h1.objs.size < h3.objs.size := Heap.lt_size (k3 _ _ ne hmw)
  have nd : hp.objs.size ≤ dx := Nat.le_trans (Nat.le_of_lt (Nat.lt_trans z1 z2)) dn
  refine wpAt_of_wpAny (wpAny_execs_nil ⟨rfl, dx, t1, fun b o hb z => k b o hb (kk b o hb z), nd, hx, hn, rfl, rfl⟩)
end
structure ExA (qual : Str) (params : Arguments) (body : List Stmt) (scope : Scope) : Prop where
  bd : ∃ p0 p1 p2 p3 p4 p5 p6 p7 p8 p9, body = exBody p0 p1 p2 p3 p4 p5 p6 p7 p8 p9 ∧ ∀ (L f : Addr) (cd : Value) (cc : Addr), interactive (ksEnv qual scope L f cd cc) = false ∧
    swapsWith (.Name "value" p8) (some (.Attribute (.Name "self" p6) "value" p7)) p9.line (ksEnv qual scope L f cd cc) = pure false ∧
    ∃ pl, eval (.Call (.Attribute (.Call (.Name "super" p0) [] [] p1) "__init__" p2) [.Name "value" p3] [] p4) (ksEnv qual scope L f cd cc) = (do
      let ov ← attributeBase (.Call (.Name "super" p0) [] [] p1) "__init__" (ksEnv qual scope L f cd cc) (eval (.Call (.Name "super" p0) [] [] p1) (ksEnv qual scope L f cd cc))
      standAt p2.atName
      let (f', first) ← holding [ov] (getMethod ov "__init__" pl)
      callWith p4 f' first (backTo p4 (starEach [.Name "value" p3] (ksEnv qual scope L f cd cc))) [])
  ar : ∃ ar, (params.posonlyargs ++ params.args).head? = some ar ∧ ar.arg = ("self" : Str)
  su : scope.names.lookup ("super" : Str) = some .globalImplicit
  cl : scope.names.lookup ("__class__" : Str) = some .free
  se : scope.names.lookup ("self" : Str) = some .local
  va : scope.names.lookup ("value" : Str) = some .local
  ki : scope.kind = .function
  co : scope.isCoroutine = false
  ge : scope.isGenerator = false
  ce : ∀ x ∈ scope.names, x.2 ≠ .cell
  bi : ∀ (T : Addr) (kV doc pm : Value) (an : Option Addr) (cdv ct : Value) (cc : Addr) (a v d : Value), ∃ k, bindArgs (ksFn "__init__" qual params body scope (.ref T) kV doc pm an cdv ct cc) ⟨[a, v], []⟩ = seqItems? (.ref T) >>= k ∧ k (some #[d]) = pure ([("self", a), ("value", v)] : List (Str × Value))
structure ExT (P : Program) (K : Frag) (mg : Str → Option Value) (C fI : Addr) : Prop where
  c : ExC P K C
  ini : findIn K (.ref C) "__init__" = some (some (.ref fI))
  tI : typeIn K (.ref fI) = some (.type "function")
  su : mg "super" = none
  top : (P.main.scope.names.lookup ("super" : Str)).isSome = false
  fn : ∃ (qual : Str) (params : Arguments) (body : List Stmt) (scope : Scope) (cc cda : Addr) (oc : Value) (od : Option Addr) (osl : Array (Option Value)) (dT : Addr) (dO : Obj) (dv : Value) (dn : Nat) (kV doc pm ct : Value) (an : Option Addr) (ccl : Value) (cdd : Option Addr) (vs : Array Value) (ccs : Array (Option Value)) (file : Str) (tf : Tok) (cl : Value) (cld : Option Addr) (csl : Array (Option Value)),
    ExA qual params body scope ∧ K.lookup fI = some ⟨oc, od, .func (ksFn "__init__" qual params body scope (.ref dT) kV doc pm an (.ref cda) ct cc), osl⟩ ∧ codeIn K (.ref cda) qual = true ∧
    K.lookup cda = some ⟨ccl, cdd, .fields vs, ccs⟩ ∧ vs[2]? = some (.str file tf) ∧ ((P.main.file : Str) == file) = true ∧ K.lookup cc = some ⟨cl, cld, .cell (some (.ref C)), csl⟩ ∧ K.lookup dT = some dO ∧ dO.data = .seq #[dv] dn
structure Made (h h' : Heap) (e C d : Addr) (v : Value) : Prop where
  keep : ∀ b o, h.get? b = some o → h'.get? b = some o
  new : h.objs.size ≤ e
  obj : ∃ t1, h'.get? e = some (excD C (some d) t1)
  dbig : h.objs.size ≤ d
  dne : d ≠ e
  ns : h'.Ns1 d (fun y => if y = "value" then some v else none)
section
variable {prog : Program} {w : World} {A : Around} {E : Value → Shared → Prop} {R : Result → Shared → Prop} {s : Shared} {K : Frag} {mg mb : Str → Option Value} {C fI : Addr}
end
end SX
namespace SP
open PySem PySem.Spec PyProof.Rows L2
theorem relO_val {v : V} {v' : Value} (r : RelV v v') (f : Str) : RelO (List.lookup f [(("value" : Str), v)]) (if f = "value" then some v' else none) := by
  by_cases hw : f = "value"
  · subst hw
    rw [if_pos rfl]
    have q : List.lookup ("value" : Str) [(("value" : Str), v)] = some v := by simp [List.lookup]
    rw [q]
    exact r
  · rw [if_neg hw]
    have qw : (f == ("value" : Str)) = false := by simpa using hw
    have q2 : List.lookup f [(("value" : Str), v)] = none := by simp [List.lookup, qw]
    rw [q2]
    trivial
section
variable {X : Cx} {C fI : Addr}
end
def Grow (H H' : Hp) : Prop := ∀ a o, H a = some o → H' a = some o
theorem Grow.step {F H H' : Hp} (g : Grow H H') (e : Same F H) : Step no F H F H' := ⟨Same.refl _, fun a o _ z => g a o z, fun a o z => g a o (e a o z), fun _ => .inl rfl, fun a z => by
  cases h : H a with
  | none => rfl
  | some o => rw [g a o h] at z; cases z⟩
theorem Grow.trans {H H1 H2 : Hp} (a : Grow H H1) (b : Grow H1 H2) : Grow H H2 := fun x o e => b x o (a x o e)
section
variable {K : Frag} {M : Type → Type} {S : Type} [PyM M S] {ρ α β X Y : Type} [Py α] [Py β] [Arg X] [Arg Y] {B : Base S} {Γ : Env} {te : TE} {tt : TT} {ta : TA}
variable {W : WX} {P : Value → Prop}
end
section
variable {K : Frag} {M : Type → Type} {S : Type} [PyM M S] {β X : Type} [PyO β] [Arg X] {B : Base S} {Γ : Env} {te : TE} {ta : TA} {W : WX} {P : Value → Prop}
end
end SP
namespace SP
open PySem PySem.W L2
structure XcD where
  c : Str
  b : Str
  d : He.DefD
  file : Str
abbrev FnC : Type := Option (Str × Str × Arguments × FuncBody × Scope × Addr × List Str × Addr)
def fnC (K : Frag) (a : Addr) : FnC := match K.lookup a with
  | some ⟨_, _, .func fd, _⟩ => some (fd.name, fd.qualname, fd.params, fd.body, fd.scope, fd.globals, fd.closure.map (·.1), fd.builtins)
  | _ => none
def ccOf (K : Frag) (a : Addr) : Addr := match K.lookup a with
  | some ⟨_, _, .func fd, _⟩ => (match fd.closure with
    | (_, c) :: _ => c
    | _ => 0)
  | _ => 0
def dvOf (K : Frag) (a : Addr) : Option (Addr × Obj × Value × Nat) := match K.lookup a with
  | some ⟨_, _, .func fd, _⟩ => (match fd.defaults with
    | .ref T => (match K.lookup T with
      | some o => (match o.data with
        | .seq its n => (match its.toList with
          | [v] => some (T, o, v, n)
          | _ => none)
        | _ => none)
      | none => none)
    | _ => none)
  | _ => none
def XcD.val (x : XcD) : FnC := some ("__init__", x.d.qual, x.d.params, .stmts x.d.body, x.d.scope, mainGlobals, ["__class__"], builtinsNs)
def XcD.at_ (K : Frag) (x : XcD) : Addr := He.fAd K (x.c, some "__init__")
def xcCls (K : Frag) (C : Addr) : Bool := match K.lookup C with
  | some ⟨.type "type", _, .cls cd, sl⟩ => (match cd.mro, sl.toList with
    | .ref C' :: bm, [_, _, _, _, some (.builtin n), _] => C' == C && (n == "ValueError.__new__" && (!cd.hasDel && (cd.hasDict && HandSPX.refsVE bm)))
    | _, _ => false)
  | _ => false
def xcFile (K : Frag) (a : Addr) (q f : Str) : Bool := match K.lookup a with
  | some ⟨_, _, .func fd, _⟩ => (match fd.code with
    | .ref cda => codeIn K (.ref cda) q && (match K.lookup cda with
      | some ⟨_, _, .fields vs, _⟩ => (match vs.toList with
        | _ :: _ :: Value.str g _ :: _ => f == g
        | _ => false)
      | _ => false)
    | _ => false)
  | _ => false
def xcCell (K : Frag) (c C : Addr) : Bool := match K.lookup c with
  | some ⟨_, _, .cell (some (.ref D)), _⟩ => D == C
  | _ => false
def xcB (K : Frag) (x : XcD) : Bool :=
  xcCls K (He.ga K x.c) && (He.eqO (findIn K (.ref (He.ga K x.c)) "__setattr__") (some (some (.builtin "object.__setattr__"))) && (decide (subIn K (.ref (He.ga K x.c)) (.type "BaseException") = some true) && (decide (typeIn K (.ref (He.ga K x.c)) = some (.type "type")) && (keepIn K (.ref (He.ga K x.c)) &&
  (He.eqO (ks_superIn K (He.ga K x.c) (He.ga K x.c) "__init__") (some (some (.builtin "ValueError.__init__"))) && (decide (subIn K (.ref (He.ga K x.c)) (.type "ValueError") = some true) && (decide (mroIn K (He.ga K x.c) (.ref (He.ga K x.c)) = some true) && (He.eqO (nsIn K cStatics "thirdparty.any") (some none) &&
  (He.eqO (findIn K (.ref (He.ga K x.c)) "value") (some none) && (He.eqO (findIn K (.ref (He.ga K x.c)) "__init__") (some (some (.ref (x.at_ K)))) && (decide (typeIn K (.ref (x.at_ K)) = some (.type "function")) && (xcFile K (x.at_ K) x.d.qual x.file && (xcCell K (ccOf K (x.at_ K)) (He.ga K x.c) && (decide (exmOne K (.ref (He.ga K x.c)) (.ref (He.ga K x.b)) = some true) && (dvOf K (x.at_ K)).isSome))))))))))))))
theorem xcCls_ok {K : Frag} {C : Addr} (h : xcCls K C = true) : ∃ nm q N bs bm sn sub ab col dd k0 k1 k2 k3 k5, K.lookup C = some (excClassObj nm q C N bs bm true sn sub ab col dd k0 k1 k2 k3 k5 "ValueError.__new__") ∧ HandSPX.refsVE bm = true := by
  unfold xcCls at h
  split at h
  · rename_i dd cd sl ho
    split at h
    · rename_i C' bm k0 k1 k2 k3 n k5 hm hs
      obtain ⟨h1, h⟩ := He.ba h
      obtain ⟨h2, h⟩ := He.ba h
      obtain ⟨h3, h⟩ := He.ba h
      obtain ⟨h4, h5⟩ := He.ba h
      have h1 := beq_iff_eq.mp h1
      have h2 := beq_iff_eq.mp h2
      subst h1 h2
      obtain ⟨nm, bs, mro, ns, qn, hd, sn, sub, ab, col, del⟩ := cd
      dsimp only at hm h3 h4
      simp only [Bool.not_eq_true'] at h3
      subst hm h3 h4
      have hsl : sl = #[k0, k1, k2, k3, some (.builtin "ValueError.__new__"), k5] := by
        obtain ⟨l⟩ := sl
        simp only at hs
        rw [hs]
      subst hsl
      exact ⟨nm, qn, ns, bs, bm, sn, sub, ab, col, dd, k0, k1, k2, k3, k5, ho, h5⟩
    · cases h
  · cases h
theorem xcFile_ok {K : Frag} {a : Addr} {q f : Str} (h : xcFile K a q f = true) : ∃ oc od fd osl cda ccl cdd vs ccs file tf, K.lookup a = some ⟨oc, od, .func fd, osl⟩ ∧ fd.code = .ref cda ∧ codeIn K (.ref cda) q = true ∧ K.lookup cda = some ⟨ccl, cdd, .fields vs, ccs⟩ ∧ vs[2]? = some (.str file tf) ∧ f = file := by
  unfold xcFile at h
  split at h
  · rename_i oc od fd osl ho
    split at h
    · rename_i cda hc
      obtain ⟨h1, h⟩ := He.ba h
      split at h
      · rename_i ccl cdd vs ccs hk
        split at h
        · rename_i v0 v1 g tf v2 hv
          exact ⟨oc, od, fd, osl, cda, ccl, cdd, vs, ccs, g, tf, ho, hc, h1, hk, by rw [← Array.getElem?_toList, hv]; rfl, beq_iff_eq.mp h⟩
        · cases h
      · cases h
    · cases h
  · cases h
theorem dvOf_ok {K : Frag} {a : Addr} (h : (dvOf K a).isSome = true) : ∃ oc od fd osl T o v n, K.lookup a = some ⟨oc, od, .func fd, osl⟩ ∧ fd.defaults = .ref T ∧ K.lookup T = some o ∧ o.data = .seq #[v] n := by
  unfold dvOf at h
  split at h
  · rename_i oc od fd osl ho
    split at h
    · rename_i T hT
      split at h
      · rename_i o hl
        split at h
        · rename_i its n hd
          split at h
          · rename_i v hv
            refine ⟨oc, od, fd, osl, T, o, v, n, ho, hT, hl, ?_⟩
            rw [hd]
            obtain ⟨l⟩ := its
            simp only at hv
            rw [hv]
          · cases h
        · cases h
      · cases h
    · cases h
  · cases h
theorem xcCell_ok {K : Frag} {c C : Addr} (h : xcCell K c C = true) : ∃ cl cld csl, K.lookup c = some ⟨cl, cld, .cell (some (.ref C)), csl⟩ := by
  unfold xcCell at h
  split at h
  · rename_i cl cld D csl ho
    have := beq_iff_eq.mp h
    subst this
    exact ⟨_, _, _, ho⟩
  · cases h
theorem xc_ok {P : Program} {K : Frag} {mg : Str → Option Value} {x : XcD} (h : xcB K x = true) (e : fnC K (x.at_ K) = x.val) (EA : SX.ExA x.d.qual x.d.params x.d.body x.d.scope) (su : mg "super" = none) (top : (P.main.scope.names.lookup ("super" : Str)).isSome = false) (hf : ((P.main.file : Str) == x.file) = true) :
    SX.ExT P K mg (He.ga K x.c) (x.at_ K) ∧ exmOne K (.ref (He.ga K x.c)) (.ref (He.ga K x.b)) = some true := by
  obtain ⟨c1, h⟩ := He.ba h
  obtain ⟨c2, h⟩ := He.ba h
  obtain ⟨c3, h⟩ := He.ba h
  obtain ⟨c4, h⟩ := He.ba h
  obtain ⟨c5, h⟩ := He.ba h
  obtain ⟨c6, h⟩ := He.ba h
  obtain ⟨c7, h⟩ := He.ba h
  obtain ⟨c8, h⟩ := He.ba h
  obtain ⟨c9, h⟩ := He.ba h
  obtain ⟨c10, h⟩ := He.ba h
  obtain ⟨c11, h⟩ := He.ba h
  obtain ⟨c12, h⟩ := He.ba h
  obtain ⟨c13, h⟩ := He.ba h
  obtain ⟨c14, h⟩ := He.ba h
  obtain ⟨c15, c16⟩ := He.ba h
  refine ⟨?_, of_decide_eq_true c15⟩
  refine ⟨⟨⟨xcCls_ok c1, He.eqO_ok c2, of_decide_eq_true c3, of_decide_eq_true c4, c5⟩, He.eqO_ok c6, of_decide_eq_true c7, of_decide_eq_true c8, He.eqO_ok c9, He.eqO_ok c10⟩, He.eqO_ok c11, of_decide_eq_true c12, su, top, ?_⟩
  obtain ⟨oc, od, fd, osl, cda, ccl, cdd, vs, ccs, file, tf, ho, hc, hq, hk, hv, ef⟩ := xcFile_ok c13
  obtain ⟨_, _, fd', _, dT, dO, dv, dn, ho', hdf, hdT, hdO⟩ := dvOf_ok c16
  have efd : fd = fd' := by
    rw [ho] at ho'
    injection ho' with ho'
    injection ho' with _ _ q _
    injection q with q
  subst efd
  unfold fnC at e
  rw [ho] at e
  obtain ⟨n1, n2, n3, n4, n5, n6, n7, n8, n9, n10, n11, n12, n13, n14, n15⟩ := fd
  have e2 : (some (n1, n2, n3, n4, n5, n6, n7.map (·.1), n15) : FnC) = some (("__init__" : Str), x.d.qual, x.d.params, .stmts x.d.body, x.d.scope, mainGlobals, [("__class__" : Str)], builtinsNs) := e
  simp only [Option.some.injEq, Prod.mk.injEq] at e2
  obtain ⟨g1, g2, g3, g4, g5, g6, g7, g8⟩ := e2
  have hc : n13 = .ref cda := hc
  subst g1 g3 g4 g5 g6 g8 hc
  match n7, g7 with
  | [(nm, cc)], g7 =>
    have : nm = ("__class__" : Str) := by simpa using g7
    subst this
    have ec : ccOf K (x.at_ K) = cc := by unfold ccOf; rw [ho]
    rw [ec] at c14
    obtain ⟨cl, cld, csl, hcell⟩ := xcCell_ok c14
    subst g2
    have hdf : n8 = .ref dT := hdf
    subst hdf
    exact ⟨_, _, _, _, cc, cda, oc, od, osl, dT, dO, dv, dn, n9, n10, n11, n14, n12, ccl, cdd, vs, ccs, file, tf, cl, cld, csl, EA, ho, hq, hk, hv, by rw [← ef]; exact hf, hcell, hdT, hdO⟩
abbrev AlE : Type := AlT × (Bool × List FnC)
structure SaysE (fa : List He.Fa) (fn : List He.DefD) (fx : List Fx) (gt : List GetD) (xs : List XcD) (K : Frag) : Prop where
  t : SaysT fa fn fx gt K
  x : (xs.all fun x => xcB K x) = true
  g : (xs.map fun x => fnC K (x.at_ K)) = xs.map XcD.val
theorem SaysE.exc {fa : List He.Fa} {fn : List He.DefD} {fx : List Fx} {gt : List GetD} {xs : List XcD} {K : Frag} (c : SaysE fa fn fx gt xs K) (i : Nat) {x : XcD} (h : xs[i]? = some x := by rfl) : xcB K x = true ∧ fnC K (x.at_ K) = x.val := by
  have h2 : (xs.map fun x => fnC K (x.at_ K))[i]? = (xs.map XcD.val)[i]? := by rw [c.g]
  rw [List.getElem?_map, List.getElem?_map, h] at h2
  exact ⟨List.all_eq_true.mp c.x x (List.mem_of_getElem? h), Option.some.inj h2⟩
end SP
namespace SP
open PySem PySem.Spec PyProof.Rows L2
instance instPyRItm : PyR (List Itm) := ⟨datL, fun e h => datL_dp e h⟩
section
variable {K : Frag} {M : Type → Type} {S : Type} [PyM M S] {ρ α β : Type} [Py α] [Py β] {B : Base S} {Γ : Env} {ta tb : TE}
end
end SP
namespace SX
open PySem PySem.Spec PySem.Calls PySem.W PyProof.Rows HandSPX
section
variable {M : Model} {A : Around} {E : Value → Shared → Prop} {h : Heap} {g : Array GenState} {d : Drawn} {t : Nat} {os : OsState}
variable {nm q : Str} {C N : Addr} {bs bm bmB : List Value} {hdct : Bool} {sn : List Str} {sub : List Value} {ab : Bool} {col : Option Bool} {dd : Option Addr} {k0 k1 k2 k3 k5 : Option Value} {B newId initId : String}
theorem check_new_kw (F : ExcBaseFacts B newId initId bmB) (hT : ∀ X : String, bm.contains (.type X) = bmB.contains (.type X)) {kx : Str} {kv : Value} {Q : Unit → Shared → Prop}
    (hC : h.get? C = some (excClassObj nm q C N bs bm hdct sn sub ab col dd k0 k1 k2 k3 k5 newId)) (hq : Q () ⟨h, g, d, t, os⟩) : wpAny M A (checkBuiltinCall newId ⟨[.ref C], [(kx, kv)]⟩) Q E ⟨h, g, d, t, os⟩ := by
  have hcont : (Value.ref C :: bm).contains (.type B) = true := by rw [List.contains_cons, hT, F.hasB, Bool.or_true]
  have hstar := F.noStar
  simp only [checkBuiltinCall, F.newKind, F.newSplit, F.newRow]
  repeat (first | refine wpAny_loadPart_at hC ?_ | (refine wpAny_isSubtype_exc hC ?_; rw [hcont]) | refine wpAny_staticBase_exc hC ?_ | refine wpAny_madeBy_exc hC ?_ | simp only [bne_self_eq_false, Bool.false_eq_true, if_false] | wp_step)
  exact hq
end
section
variable {prog : Program} {w : World} {A : Around} {E : Value → Shared → Prop} {R : Result → Shared → Prop} {h : Heap} {g : Array GenState} {d : Drawn} {t : Nat} {os : OsState}
variable {nm q : Str} {C N : Addr} {bs bm bmB : List Value} {hdct : Bool} {sn : List Str} {sub : List Value} {ab : Bool} {col : Option Bool} {dd : Option Addr} {k0 k1 k2 k3 k5 : Option Value} {B newId initId : String}
theorem new_kw (F : ExcBaseFacts B newId initId bmB) (hT : ∀ X : String, bm.contains (.type X) = bmB.contains (.type X)) {kx : Str} {kv : Value}
    (hC : h.get? C = some (excClassObj nm q C N bs bm hdct sn sub ab col dd k0 k1 k2 k3 k5 newId))
    (hq : R (.ok (.ret (.ref (h.objs.size + 1)))) ⟨(h.push { cls := .type "tuple", data := .seq #[] }).push
      { cls := .ref C, data := .fields #[.ref h.objs.size, .none, .none, .none, .bool false, .none] }, g, d, t, os⟩) :
    codeAny (model prog w) A (.builtin newId ⟨[.ref C], [(kx, kv)]⟩) R ⟨h, g, d, t, os⟩ := by
  have hends := F.ends
  have hcB : (Value.ref C :: bm).contains (.type B) = true := by rw [List.contains_cons, hT, F.hasB, Bool.or_true]
  have hcA : (Value.ref C :: bm).contains (.type "AttributeError") = false := by rw [List.contains_cons, hT, F.noAttr]; rfl
  have hcN : (Value.ref C :: bm).contains (.type "NameError") = false := by rw [List.contains_cons, hT, F.noName]; rfl
  refine codeAny_builtinAt F.entry ?_
  unfold Builtin.«BaseException.__new__»
  refine PySem.wpAt_bind ?_
  show PySem.wpAt _ _ _ (stack >>= _) _ _ _
  refine PySem.wpAt_bind (PySem.wpAt_stack fun p below => PySem.wpAt_of_wpAny ?_)
  wp_walk
  refine PySem.wpAt_of_wpAny ?_
  rw [F.owner]
  repeat (first | with_reducible refine wpAny_madeHere_exc F.canon hC ?_ | with_reducible refine wpAny_loadPart_at hC ?_ | (with_reducible refine wpAny_isSubtype_exc hC ?_; first | rw [hcB] | rw [hcA] | rw [hcN]) | wp_step)
  show R _ _
  rw [Heap.size_push]
  exact hq
theorem type_call_kw (F : ExcBaseFacts B newId initId bmB) (hT : ∀ X : String, bm.contains (.type X) = bmB.contains (.type X)) {kx : Str} {kv : Value} {fI : Addr} {Q : Fin → Shared → Prop}
    (hC : h.get? C = some (excClassObj nm q C N bs bm hdct sn sub ab col dd k0 k1 k2 k3 k5 newId))
    (hi : W.Looks (model prog w) h (typeLookup (.ref C) "__init__") (some (.ref fI))) (hb : ∀ self, W.Looks (model prog w) h (bindSpecial (.ref fI) self) (.ref fI, [self]))
    (hq : codeAny (model prog w) A (.call (.ref fI) ⟨[.ref (h.objs.size + 1)], [(kx, kv)]⟩)
      (fun r s' => match r with | .ok (.ret v) => v = .none ∧ Q (.done (.ret (.ref (h.objs.size + 1)))) s' | .ok _ => False | .error e => E e s')
      ⟨(h.push (W.kdv_tup [])).push (excO C h.objs.size), g, d, t, os⟩) :
    wpAny (model prog w) A (Builtin.«type.__call__» ⟨[.ref C], [(kx, kv)]⟩) Q E ⟨h, g, d, t, os⟩ := by
  repeat (first | with_reducible refine wpAny_loadPart_at hC ?_ | with_reducible refine wpAny_madeBy_exc hC ?_ | wp_step)
  refine codeAny_call_builtin_code (Code.quiet_builtin _ F.quiet) (check_new_kw F hT hC ?_)
  refine new_kw F hT hC ?_
  show wpAny _ _ _ _ _ _
  have k : ∀ b o, h.get? b = some o → ((h.push (W.kdv_tup [])).push (excO C h.objs.size)).get? b = some o := fun b o e => Heap.get?_push_of_some _ (Heap.get?_push_of_some _ e)
  have hC₁ := k _ _ hC
  have hget : ((h.push (W.kdv_tup [])).push (excO C h.objs.size)).get? (h.objs.size + 1) = some (excO C h.objs.size) := by heap_get
  have hcC : (Value.ref C :: bm).contains (.ref C) = true := by simp
  have i1 := hi.keeps k
  have b1 := (hb (.ref (h.objs.size + 1))).keeps k
  unfold isInstance
  repeat (first | with_reducible refine wpAny_loadPart_at hget ?_ | (with_reducible refine wpAny_isSubtype_exc hC₁ ?_; rw [hcC]) | wp_step)
  show wpAny _ _ (typeLookup (.ref C) _) _ _ _
  refine i1.at ?_
  refine wpAny_holding (wpAny_bind (b1.at ?_))
  refine wpAny_bind (wpAny_call (codeAny_mono hq fun r s' z => ?_))
  rcases r with e | (v | _ | _ | _) <;> first | exact z | exact z.elim | skip
  obtain ⟨rfl, z⟩ := z
  first
    | exact wpAny_pure (wpAny_pure z)
    | (wp_walk; exact z)
theorem call_kw (F : ExcBaseFacts B newId initId bmB) (hT : ∀ X : String, bm.contains (.type X) = bmB.contains (.type X)) {kx : Str} {kv : Value} {fI : Addr}
    (hC : h.get? C = some (excClassObj nm q C N bs bm hdct sn sub ab col dd k0 k1 k2 k3 k5 newId))
    (hi : W.Looks (model prog w) h (typeLookup (.ref C) "__init__") (some (.ref fI))) (hb : ∀ self, W.Looks (model prog w) h (bindSpecial (.ref fI) self) (.ref fI, [self]))
    (hq : codeAny (model prog w) (A.under (.builtin "type.__call__" ⟨[.ref C], [(kx, kv)]⟩)) (.call (.ref fI) ⟨[.ref (h.objs.size + 1)], [(kx, kv)]⟩) (W.InitBack (h.objs.size + 1) R)
      ⟨(h.push (W.kdv_tup [])).push (excO C h.objs.size), g, d, t, os⟩) :
    codeAny (model prog w) A (.call (.ref C) ⟨[], [(kx, kv)]⟩) R ⟨h, g, d, t, os⟩ := by
  have f1 := tc_lookup
  have f2 := tc_bind (.ref C)
  have hTy : (⟨h, g, d, t, os⟩ : Shared).TypeIs (.ref C) "type" := ⟨_, hC, rfl⟩
  refine codeAny_of_tree ?_
  show wpAny _ _ (callAny (.ref C) _) _ _ _
  repeat (any_goals (first | assumption | with_reducible refine wpAny_loadPart_at hC ?_ | wp_step))
  refine ⟨rfl, ?_⟩
  refine codeAny_call_builtin_at (Code.quiet_builtin _ (by decide +kernel)) entry_typeCall (wpAny_check_type_call_sub hC (type_call_kw F hT hC hi hb ?_))
  refine codeAny_mono hq fun r s' z => ?_
  rcases r with e | (v | _ | _ | _) <;> exact z
end
end SX
namespace SX
open PySem PySem.Spec PySem.Calls PySem.W PyProof.Rows HandSPX
structure ExA2 (qual : Str) (params : Arguments) (body : List Stmt) (scope : Scope) : Prop where
  bk : ∀ (T : Addr) (kV doc pm : Value) (an : Option Addr) (cdv ct : Value) (cc : Addr) (a v d : Value), ∃ k, bindArgs (ksFn "__init__" qual params body scope (.ref T) kV doc pm an cdv ct cc) ⟨[a], [("value", v)]⟩ = seqItems? (.ref T) >>= k ∧ k (some #[d]) = pure ([("self", a), ("value", v)] : List (Str × Value))
  b0 : ∀ (T : Addr) (kV doc pm : Value) (an : Option Addr) (cdv ct : Value) (cc : Addr) (a d : Value), ∃ k, bindArgs (ksFn "__init__" qual params body scope (.ref T) kV doc pm an cdv ct cc) ⟨[a], []⟩ = seqItems? (.ref T) >>= k ∧ k (some #[d]) = pure ([("self", a), ("value", d)] : List (Str × Value))
structure ExU (P : Program) (K : Frag) (mg : Str → Option Value) (C fI : Addr) : Prop where
  c : ExC P K C
  ini : findIn K (.ref C) "__init__" = some (some (.ref fI))
  tI : typeIn K (.ref fI) = some (.type "function")
  su : mg "super" = none
  top : (P.main.scope.names.lookup ("super" : Str)).isSome = false
  fn : ∃ (qual : Str) (params : Arguments) (body : List Stmt) (scope : Scope) (cc cda : Addr) (oc : Value) (od : Option Addr) (osl : Array (Option Value)) (dT : Addr) (dO : Obj) (dn : Nat) (kV doc pm ct : Value) (an : Option Addr) (ccl : Value) (cdd : Option Addr) (vs : Array Value) (ccs : Array (Option Value)) (file : Str) (tf : Tok) (cl : Value) (cld : Option Addr) (csl : Array (Option Value)),
    ExA qual params body scope ∧ ExA2 qual params body scope ∧ K.lookup fI = some ⟨oc, od, .func (ksFn "__init__" qual params body scope (.ref dT) kV doc pm an (.ref cda) ct cc), osl⟩ ∧ codeIn K (.ref cda) qual = true ∧
    K.lookup cda = some ⟨ccl, cdd, .fields vs, ccs⟩ ∧ vs[2]? = some (.str file tf) ∧ ((P.main.file : Str) == file) = true ∧ K.lookup cc = some ⟨cl, cld, .cell (some (.ref C)), csl⟩ ∧ K.lookup dT = some dO ∧ dO.data = .seq #[.none] dn
inductive Way (v : Value) : List Value → List (Str × Value) → Prop
  | pos : Way v [v] []
  | kw : Way v [] [("value", v)]
  | bare (h : v = .none) : Way v [] []
section
variable {prog : Program} {w : World} {A : Around} {E : Value → Shared → Prop} {R : Result → Shared → Prop} {s : Shared} {K : Frag} {mg mb : Str → Option Value} {C fI : Addr}
theorem exc_initU (T : ExU prog K mg C fI) {x t0 : Addr} {v : Value} {vs : List Value} {kw : List (Str × Value)} (hw : Way v vs kw) (X : K.In s.heap) (hglob : s.heap.Ns mainGlobals mg) (hblt : s.heap.Ns builtinsNs mb) (hboot : mb "super" = some (.type "super")) (hlim : s.heap.NoLimit) (hx : s.heap.get? x = some (HandSPX.excO C t0)) (hnx : K.lookup x = none) (hroom : A.depth < recursionLimit)
    (hq : ∀ s', Done s.heap C x v s.gens s.os s' → R (.ok (.ret .none)) s') :
    codeAny (model prog w) A (.call (.ref fI) ⟨.ref x :: vs, kw⟩) R s := by
  obtain ⟨qual, params, body, scope, cc, cda, oc, od, osl, dT, dO, dn, kV, doc, pm, ct, an, ccl, cdd, fs, ccs, file, tf, cl, cld, csl, EA, EB, hf, hcd, hcode, hvs, hfile, hcell, hdT, hdO⟩ := T.fn
  obtain ⟨p0, p1, p2, p3, p4, p5, p6, p7, p8, p9, rfl, hb⟩ := EA.bd
  obtain ⟨ar, har, har2⟩ := EA.ar
  refine ks_codeAny_call_defAt (fd := ksFn "__init__" qual params (exBody p0 p1 p2 p3 p4 p5 p6 p7 p8 p9) scope (.ref dT) kV doc pm an (.ref cda) ct cc) (body := exBody p0 p1 p2 p3 p4 p5 p6 p7 p8 p9) (binds := [("self", .ref x), ("value", v)]) hroom (X _ _ hf) rfl hlim (codeRec_of X hcd) rfl (by
    cases hw with
    | pos =>
      obtain ⟨kk, e1, e2⟩ := EA.bi dT kV doc pm an (.ref cda) ct cc (.ref x) v .none
      exact L2.BindsTo.of_looks fun M => by rw [e1]; exact L2.looks_items X hdT hdO (.of_pure e2)
    | kw =>
      obtain ⟨kk, e1, e2⟩ := EB.bk dT kV doc pm an (.ref cda) ct cc (.ref x) v .none
      exact L2.BindsTo.of_looks fun M => by rw [e1]; exact L2.looks_items X hdT hdO (.of_pure e2)
    | bare h =>
      subst h
      obtain ⟨kk, e1, e2⟩ := EB.b0 dT kV doc pm an (.ref cda) ct cc (.ref x) .none
      exact L2.BindsTo.of_looks fun M => by rw [e1]; exact L2.looks_items X hdT hdO (.of_pure e2)) EA.ce (fun y hy => ?_) (fun h₀ hns hk₀ => ?_) EA.co EA.ge EA.ki
  · rcases List.mem_cons.mp hy with rfl | hy
    · exact EA.se
    · have : y = (("value" : Str), v) := by simpa using hy
      rw [this]; exact EA.va
  · obtain ⟨hi, hsw, pl, hev⟩ := hb s.heap.objs.size fI (.ref cda) cc
    have lx : s.heap.objs.size ≠ x := Nat.ne_of_gt (Heap.lt_size hx)
    refine ks_wpAt_mono (init_body (prog := prog) (w := w) T.c (X.keeps hk₀) (hglob.keeps hk₀) T.su (hblt.keeps hk₀) hboot hf har har2 hcode hvs hfile hcell EA.su EA.cl EA.se EA.va EA.ki T.top hns (by rfl) (by rfl) (hk₀ _ _ hx) lx hnx hi hsw hev) (fun fl s' hd => ?_) fun e s' z => z
    obtain ⟨rfl, dx, t1, a1, a2, a3, a4, a5, a6⟩ := hd
    exact hq s' ⟨dx, t1, fun b o hb z => a1 b o hb (hk₀ b o z), Nat.le_trans (Nat.le_of_lt hns.lt) a2, a3, a4, a5, a6⟩
theorem exc_madeU (T : ExU prog K mg C fI) {v : Value} {vs : List Value} {kw : List (Str × Value)} (hw : Way v vs kw) (X : K.In s.heap) (hglob : s.heap.Ns mainGlobals mg) (hblt : s.heap.Ns builtinsNs mb) (hboot : mb "super" = some (.type "super")) (hlim : s.heap.NoLimit) (hroom : A.depth + 1 < recursionLimit)
    (hq : ∀ s' e d, Made s.heap s'.heap e C d v → s'.gens = s.gens → s'.os = s.os → R (.ok (.ret (.ref e))) s') :
    codeAny (model prog w) A (.call (.ref C) ⟨vs, kw⟩) R s := by
  obtain ⟨nm, q, N, bs, bm, sn, sub, ab, col, dd, k0, k1, k2, k3, k5, hC, hbm⟩ := T.c.o.cls
  obtain ⟨hp, g, dr, tk, os⟩ := s
  have go : ∀ (vs : List Value) (kw : List (Str × Value)) (A2 : Around) (_ : A2.depth = A.depth + 1), Way v vs kw → codeAny (model prog w) A2 (.call (.ref fI) ⟨.ref (hp.objs.size + 1) :: vs, kw⟩) (W.InitBack (hp.objs.size + 1) R)
      ⟨(hp.push (W.kdv_tup vs)).push (excO C hp.objs.size), g, dr, tk, os⟩ := fun vs kw A2 hd2 hw => by
    have k : ∀ b o, hp.get? b = some o → ((hp.push (kdv_tup vs)).push (HandSPX.excO C hp.objs.size)).get? b = some o := fun b o e => Heap.get?_push_of_some _ (Heap.get?_push_of_some _ e)
    have hget : ((hp.push (kdv_tup vs)).push (HandSPX.excO C hp.objs.size)).get? (hp.objs.size + 1) = some (HandSPX.excO C hp.objs.size) := by heap_get
    have hnx : K.lookup (hp.objs.size + 1) = none := by
      cases e : K.lookup (hp.objs.size + 1) with
      | none => rfl
      | some o =>
        have z : hp.get? (hp.objs.size + 1) = some o := X _ _ e
        exact absurd (Nat.lt_of_succ_lt (Heap.lt_size z)) (Nat.lt_irrefl _)
    refine exc_initU (s := ⟨(hp.push (kdv_tup vs)).push (HandSPX.excO C hp.objs.size), g, dr, tk, os⟩) T hw (X.keeps k) (hglob.keeps k) (hblt.keeps k) hboot (hlim.keeps k) hget hnx (by rw [hd2]; exact hroom) fun s' hd => ?_
    obtain ⟨dx, t1, a1, a2, a3, a4, a5, a6⟩ := hd
    have a2 : hp.objs.size + 1 + 1 ≤ dx := by
      have q := a2
      rw [Heap.size_push, Heap.size_push] at q
      exact q
    exact ⟨rfl, hq s' (hp.objs.size + 1) dx ⟨fun b o e => a1 b o (Nat.ne_of_lt (Nat.lt_succ_of_lt (Heap.lt_size e))) (k b o e), Nat.le_succ _, ⟨t1, a3⟩, Nat.le_trans (Nat.le_trans (Nat.le_succ _) (Nat.le_succ _)) a2, fun z => absurd (z ▸ a2) (Nat.not_succ_le_self _), a4⟩ a5 a6⟩
  have one : ∀ l : List Value, l.length ≤ 1 → l.length ≤ sizeLine := fun l h => by
    rw [sizeLine_eq]
    omega
  cases hw with
  | pos => exact HandSPX.call_own F.excBase_ValueError (fun X => HandSPX.refsVE_contains X bm hbm) (X _ _ hC) (looks_findIn X T.ini) (fun self => bind_fn X self T.tI) (one _ (by simp)) (go _ _ _ rfl .pos)
  | kw => exact call_kw F.excBase_ValueError (fun X => HandSPX.refsVE_contains X bm hbm) (X _ _ hC) (looks_findIn X T.ini) (fun self => bind_fn X self T.tI) (go _ _ _ rfl .kw)
  | bare h => exact HandSPX.call_own F.excBase_ValueError (fun X => HandSPX.refsVE_contains X bm hbm) (X _ _ hC) (looks_findIn X T.ini) (fun self => bind_fn X self T.tI) (one _ (by simp)) (go _ _ _ rfl (.bare h))
end
end SX
namespace SP
open PySem PySem.Spec PyProof.Rows L2
def ExD (C d e : Addr) : HO := .ext fun h => ∃ (oe : Obj) (vs : Array Value), h.get? e = some oe ∧ Zc (.ref C) (some d) oe ∧ oe.data = .fields vs
theorem exD_ok {P : Program} {w : World} {H : Hp} {h : Heap} {C d e : Addr} {oe : Obj} {vs : Array Value} (g : h.get? e = some oe) (z : Zc (.ref C) (some d) oe) (f : oe.data = .fields vs) : ObjOk P w H h e (ExD C d e) :=
  ⟨⟨oe, vs, g, z, f⟩, ⟨oe, g⟩, fun _ _ ⟨o, v, q, r⟩ k => ⟨o, v, k o q, r⟩⟩
section
variable {X : Cx} {C fI : Addr}
def QMk (C : Addr) (v : V) (Q : VK) (H1 : Hp) : Prop := ∀ e d, H1 e = none → H1 d = none → d ≠ e → Q (.ref e) (upd (upd H1 d (.xd [(("value" : Str), v)])) e (ExD C d e))
theorem run_exc {pins : List (Addr × Obj)} {σ : L2.St} {H1 : Hp} {s1 : Shared} {Q : VK} {k : Nat} (T : SX.ExU X.prog X.K X.mg C fI) (hr : Room k X.A) {v : V} {v' : Value} {vs : List Value} {kw : List (Str × Value)} (hw : SX.Way v' vs kw) (rv : RelV v v') (I1 : Inv X pins σ H1 s1) (q1 : QMk C v Q H1) :
    wpAny (model X.prog X.w) X.A (call (.ref C) vs kw) (EP X pins σ Q) X.xe s1 := by
  have hlim := I1.nolimit
  obtain ⟨mb, hb1, hb2⟩ := I1.mod.blt
  have hgl : s1.heap.Ns mainGlobals X.mg := I1.mod.glob.keeps I1.bk
  have hbl : s1.heap.Ns builtinsNs mb := hb1.keeps I1.bk
  obtain ⟨hp, g, dr, tk, os⟩ := s1
  refine wpAny_call (SX.exc_madeU T hw I1.kIn hgl hbl ((hb2 _ (by decide)).trans (by first | rfl | kernel_rfl | decide +kernel)) hlim (by have := hr.dp; omega) fun s' e d M hgens hos => ?_)
  obtain ⟨h', g', dr', tk', os'⟩ := s'
  obtain rfl : g' = g := hgens
  obtain rfl : os' = os := hos
  show EP X pins σ Q (.ref e) ⟨h', g', dr', tk', os'⟩
  obtain ⟨t1, hoe⟩ := M.obj
  have hns := M.ns
  obtain ⟨G', g1, g2⟩ := restrict h' fun b => decide (b ≠ e)
  have gk : ∀ b, b ≠ e → G'.get? b = h'.get? b := fun b hb => g1 b (decide_eq_true hb)
  have ge : G'.get? e = none := g2 e (by simp)
  have old : ∀ b o, hp.get? b = some o → G'.get? b = some o := fun b o q => (gk b (Nat.ne_of_lt (Nat.lt_of_lt_of_le (Heap.lt_size q) M.new))).trans (M.keep b o q)
  have ob : ObjOk X.prog X.w (upd H1 d (.xd [(("value" : Str), v)])) G' d (.xd [(("value" : Str), v)]) :=
    ⟨_, hns.at (fun o q => (gk d M.dne).trans q), fun f => relO_val rv f⟩
  have J0 : Inv X pins σ (upd H1 d (.xd [(("value" : Str), v)])) ⟨G', g', dr, tk', os'⟩ := I1.laid (t' := tk') old M.dbig ob
  have J : Inv X pins σ (upd H1 d (.xd [(("value" : Str), v)])) ⟨G', g', dr', tk', os'⟩ := ⟨J0.ok, J0.os, J0.bare, J0.base, J0.loc, J0.cell, J0.free, J0.freeC, J0.pin, J0.hok, J0.len⟩
  have hd : H1 d = none := I1.hok.fresh M.dbig
  have he : H1 e = none := I1.hok.fresh M.new
  have he2 : upd H1 d (.xd [(("value" : Str), v)]) e = none := by rw [upd_ne (Ne.symm M.dne)]; exact he
  have kk : ∀ b o, G'.get? b = some o → h'.get? b = some o := fun b o q => by
    by_cases hb : b = e
    · rw [hb, ge] at q; cases q
    · exact (gk b hb).symm.trans q
  have J2 := J.laidN (t' := tk') kk ge he2 (exD_ok (C := C) (d := d) hoe ⟨rfl, rfl⟩ rfl)
  exact ⟨.ref e, _, J2, rfl, q1 e d he hd M.dne⟩
def tMkX (C : Addr) (ta : TA) : TE := fun σ H Q => ta σ H fun vs H1 => ∃ v, vs = [v] ∧ QMk C v Q H1
theorem pe_excP {x : Str} {a : Expr} {ta : TA} {p pos : Pos} {k : Nat} (T : SX.ExU X.prog X.K X.mg C fI) (gC : X.mg x = some (.ref C)) (hr : Room k X.A) (ha : PA X [a] ta) (hg : Gl X x := by rfl) (hdb : (x == ("__debug__" : Str)) = false := by decide)
    (he : starEach (a :: []) X.env = (false, eval a X.env) :: starEach [] X.env := by rfl) (hpl : (backTo pos (starEach [] X.env)).any (·.1) = false := by rfl) :
    PE X (.Call (.Name x p) [a] [] pos) (tMkX C ta) := by
  refine ⟨fun pins s σ H Q I h => ?_⟩
  refine wpAny_Call_Name_kw (ld_glob I hg gC ?_ hdb)
  refine PySem.W.callWith_K (h₀ := X.base) I.ok.mod.kin T.c.o.kC (thn (ha.run pos pins s σ H _ I h) fun us s1 hh => ?_) he hpl
  obtain ⟨vs, H1, I1, r1, v, ev, q1⟩ := hh
  subst ev
  refine ⟨I1.kIn, ?_⟩
  cases r1 with
  | cons rv rn =>
    cases rn
    exact run_exc T hr .pos rv I1 q1
theorem pe_exc0 {x : Str} {p pos : Pos} {k : Nat} (T : SX.ExU X.prog X.K X.mg C fI) (gC : X.mg x = some (.ref C)) (hr : Room k X.A) (hg : Gl X x := by rfl) (hdb : (x == ("__debug__" : Str)) = false := by decide) :
    PE X (.Call (.Name x p) [] [] pos) (fun σ H Q => QMk C .non Q H) := by
  refine ⟨fun pins s σ H Q I h => ?_⟩
  refine wpAny_Call_Name_kw (ld_glob I hg gC ?_ hdb)
  exact PySem.W.callWith_K0 I.kIn T.c.o.kC (run_exc (v := .non) (v' := .none) T hr (.bare rfl) rfl I h)
theorem pe_excK {x : Str} {ks : List Keyword} {tk : TA} {p pos : Pos} {k : Nat} (T : SX.ExU X.prog X.K X.mg C fI) (gC : X.mg x = some (.ref C)) (hr : Room k X.A) (ha : PK X ks tk) (hall : (backToKw pos (keywordEach ks X.env)).all (·.1.isSome) = true := by rfl) (hks : (backToKw pos (keywordEach ks X.env)).filterMap (·.1) = [("value" : Str)] := by rfl) (hg : Gl X x := by rfl) (hdb : (x == ("__debug__" : Str)) = false := by decide)
    (hpl : ((backTo pos (starEach [] X.env)).any (·.1) || (backToKw pos (keywordEach ks X.env)).any (·.1.isNone)) = false := by rfl) :
    PE X (.Call (.Name x p) [] ks pos) (tMkX C tk) := by
  refine ⟨fun pins s σ H Q I h => ?_⟩
  refine wpAny_Call_Name_kw (ld_glob I hg gC ?_ hdb)
  refine PySem.W.callWith_KW0 (h₀ := X.base) I.ok.mod.kin T.c.o.kC hall (thn (ha.run pos pins s σ H _ I h) fun us s1 hh => ?_) hpl
  obtain ⟨vs, H1, I1, r1, v, ev, q1⟩ := hh
  subst ev
  refine ⟨I1.kIn, ?_⟩
  cases r1 with
  | cons rv rn =>
    cases rn
    rw [hks]
    exact run_exc T hr .kw rv I1 q1
end
end SP
namespace SP
open PySem PySem.Spec PyProof.Rows L2
def IsX (H : Hp) (C : Addr) (v u : V) : Prop := ∃ e d, u = .ref e ∧ H e = some (ExD C d e) ∧ H d = some (.xd [(("value" : Str), v)])
theorem IsX.inst {X : Cx} {pins : List (Addr × Obj)} {σ : L2.St} {H : Hp} {s : Shared} {C d e : Addr} {fs : List (Str × V)} (I : Inv X pins σ H s) (he : H e = some (ExD C d e)) (hd : H d = some (.xd fs)) : ∃ (oe od : Obj), PySem.W.InstAt s.heap e oe C (some od) ∧ ∀ n v, fs.lookup n = some v → ∃ u, PySem.W.lookIn n od = some (some u) ∧ RelV v u := by
  obtain ⟨⟨oe, vs, ho, hz, hf⟩, _, _⟩ := I.hok e _ he
  have hx : ObjOk X.prog X.w H s.heap d (.xd fs) := I.hok d _ hd
  obtain ⟨mA, hns, hr⟩ := hx
  obtain ⟨od, hod, hl⟩ := lookIn_ns hns
  refine ⟨oe, od, ⟨ho, hz.1, by unfold PySem.W.notCls; rw [hf] <;> rfl, by rw [hz.2]; exact hod⟩, fun n v l => ?_⟩
  obtain ⟨u, hu, ru⟩ := RelO.some_of (v := v) (o := mA n) (by rw [← l]; exact hr n)
  exact ⟨u, by rw [hl, hu], ru⟩
def rIsX (K : Frag) (D : Addr) : List V → Hp → VK → Prop := fun xs H Q => ∃ (a d : Addr) (fs : List (Str × V)) (c : V) (cv : Value) (b : Bool), xs = [.ref a, c] ∧ H a = some (ExD D d a) ∧ H d = some (.xd fs) ∧ (∀ u, RelV c u → u = cv) ∧ PySem.W.kitOne K (.ref D) cv = some b ∧ Q (.bl b) H
theorem call_isX {X : Cx} {D : Addr} (C : ExcC X.K D) : CallR X (.builtin "isinstance") (rIsX X.K D) := by
  intro pins s σ H xs us Q I r h
  obtain ⟨a, d, fs, c, cv, b, rfl, ha, hd, hcv, e, q⟩ := h
  cases r with
  | cons rx rr =>
    cases rr with
    | cons rt rr =>
      cases rr
      cases rx
      have ec := hcv _ rt
      subst ec
      obtain ⟨oe, od, J, _⟩ := IsX.inst I ha hd
      exact PySem.W.kia_one (PySem.W.kitx_exc (by obtain ⟨cd, hc, _⟩ := PySem.W.any_some C.hd; rw [hc]; rfl) C.hg C.hk C.hs C.ha C.hn C.ht C.hm) I.kIn J e (fun z => nomatch z) fun tk => ⟨.bl b, H, I.kept (t' := tk) fun _ _ z => z, rfl, q⟩
end SP
namespace SP
open PySem PySem.Spec PyProof.Rows L2
theorem sql_mono {K : Frag} {F F' : Hp} {a : Addr} {xs : List V} (e : Same F F') (h : SqL K F a xs) : SqL K F' a xs := by
  rcases h with (h | ⟨o, h⟩) | h
  · exact .inl (.inl (e _ _ h))
  · exact .inl (.inr ⟨o, e _ _ h⟩)
  · exact .inr h
mutual
theorem Dp.mono {K : Frag} {H H' : Hp} (e : Same H H') : ∀ (d : PyData) (v : V), Dp K H v d → Dp K H' v d
  | .none, _, h => by cases h; exact .non
  | .bool b, _, h => by cases h; exact .bl b
  | .int i, _, h => by cases h; exact .int i
  | .str x, _, h => by cases h; exact .str x
  | .list ds, _, h => by cases h with | lst h1 h2 => exact .lst (sql_mono e h1) (DpAll.mono e ds _ h2)
  | .tuple ds, _, h => by cases h with | tup h1 h2 => exact .tup (seqT_mono e h1) (DpAll.mono e ds _ h2)
  | .dict _, _, h => by cases h
theorem DpAll.mono {K : Frag} {H H' : Hp} (e : Same H H') : ∀ (ds : List PyData) (vs : List V), DpAll K H vs ds → DpAll K H' vs ds
  | [], _, h => by cases h; exact .nil
  | d :: ds, _, h => by cases h with | cons h1 h2 => exact .cons (Dp.mono e d _ h1) (DpAll.mono e ds _ h2)
end
def Dq (K : Frag) (H : Hp) (v : V) (d : PyData) : Prop := Dp K H v d ∨ ∃ a, v = .ref a ∧ H a = some (.dK []) ∧ d = .dict []
theorem Dq.mono {K : Frag} {H H' : Hp} (e : Same H H') {d : PyData} {v : V} (h : Dq K H v d) : Dq K H' v d := by
  rcases h with h | ⟨a, h1, h2, h3⟩
  · exact .inl (Dp.mono e d v h)
  · exact .inr ⟨a, h1, e _ _ h2, h3⟩
instance : Py V where
  rep _ _ u x := u = x
  mono _ h := h
structure Exv where
  c : Str
  v : V
instance : Py Exv where
  rep K F u x := ∃ e d, u = .ref e ∧ F e = some (ExD (He.ga K x.c) d e) ∧ F d = some (.xd [(("value" : Str), x.v)])
  mono e := fun ⟨a, d, h0, h1, h2⟩ => ⟨a, d, h0, e _ _ h1, e _ _ h2⟩
structure Giv where
  v : V
  d : PyData
instance : Py Giv where
  rep K F u x := u = x.v ∧ Dq K F x.v x.d
  mono e := fun ⟨h0, h1⟩ => ⟨h0, Dq.mono e h1⟩
def rIsY (K : Frag) : List V → Hp → VK → Prop := fun xs H Q => ∃ D, ExcC K D ∧ rIsX K D xs H Q
theorem call_isY {X : Cx} {K : Frag} (h : X.K = K) : CallR X (.builtin "isinstance") (rIsY K) := h ▸ fun pins s σ H xs us Q I r ⟨D, C, z⟩ => call_isX C pins s σ H xs us Q I r z
def tXw (K : Frag) (f : Str) (te : TE) : TE := fun σ H Q => te σ H fun x H1 => ∃ (C a d : Addr) (fs : List (Str × V)) (v : V), XfC K C ∧ PySem.W.findIn K (.ref C) f = some none ∧ x = .ref a ∧ H1 a = some (ExD C d a) ∧ H1 d = some (.xd fs) ∧ fs.lookup f = some v ∧ Q v H1
theorem pe_xw {X : Cx} {K : Frag} {e : Expr} {te : TE} {pos : Pos} {n : Str} (hK : X.K = K) (he : PE X e te) (hb : attributeBase e n X.env (eval e X.env) = eval e X.env := by rfl) : PE X (.Attribute e n pos) (tXw K n te) := by
  subst hK
  refine ⟨fun pins s σ H Q I h => ?_⟩
  refine attr_of hb (thn (he.run pins s σ H _ I h) fun u s1 hh => ?_)
  obtain ⟨x, H1, I1, rx, C, a, d, fs, v, T, hno, ex, ha, hd, l, q⟩ := hh
  subst ex
  obtain rfl : u = Value.ref a := rx
  obtain ⟨oe, od, J, look⟩ := IsX.inst I1 ha hd
  obtain ⟨u, hu, ru⟩ := look n v l
  exact HandSPX.exc_get I1.kIn J T.ga T.gg T.exC (PySem.W.findObj_own T.hdC hno rfl hu) (handed_of ru) ⟨v, H1, I1.tok _, ru, q⟩
def SysK (K : Frag) : Prop := ∃ o, K.lookup sysModules = some o ∧ o.cls = .type "dict"
def rReprV (K : Frag) : List V → Hp → VK → Prop := fun xs H Q => ∃ (a : Addr) (vs : List V) (v : V) (d : PyData), xs = [.ref a] ∧ SqL K H a vs ∧ (∀ x ∈ vs, x = v) ∧ Dq K H v d ∧ PyData.showable d = true ∧ (PyData.shown (.list (List.replicate vs.length d))).length ≤ sizeLine ∧ d.depth ≤ 31 ∧ Q (.str (PyData.shown (.list (List.replicate vs.length d)))) H
theorem sysK_ne {X : Cx} {pins : List (Addr × Obj)} {σ : L2.St} {H : Hp} {s : Shared} {a : Addr} {o : Obj} (I : Inv X pins σ H s) (S : SysK X.K) (ho : s.heap.get? a = some o) (hc : o.cls = .type "list") : a ≠ sysModules := fun e => by
  obtain ⟨o2, h2, c2⟩ := S
  rw [e, I.kIn _ _ h2] at ho
  cases ho
  rw [hc] at c2
  exact absurd c2 (by decide)
theorem showableAll_rep {d : PyData} (h : PyData.showable d = true) : ∀ n, PyData.showableAll (List.replicate n d) = true
  | 0 => rfl
  | n + 1 => by rw [List.replicate_succ]; simp only [PyData.showableAll]; rw [h, showableAll_rep h n]; rfl
theorem depthAll_rep {d : PyData} {k : Nat} (h : d.depth ≤ k) : ∀ n, PyData.depthAll (List.replicate n d) ≤ k
  | 0 => Nat.zero_le _
  | n + 1 => by rw [List.replicate_succ, PyData.depthAll]; exact Nat.max_le.mpr ⟨h, depthAll_rep h n⟩
theorem reads_rep {h : Heap} {d : PyData} {P : Addr → Prop} : ∀ {us : List Value}, (∀ u ∈ us, ∃ bs, Reads h u d bs ∧ ∀ b ∈ bs, P b) → ∃ cs, ReadsAll h us (List.replicate us.length d) cs ∧ ∀ b ∈ cs, P b
  | [], _ => ⟨[], .nil, fun b hb => by cases hb⟩
  | u :: us, hr => by
    obtain ⟨bs, r1, r2⟩ := hr u (List.mem_cons_self ..)
    obtain ⟨cs, q1, q2⟩ := reads_rep (us := us) fun x hx => hr x (List.mem_cons_of_mem _ hx)
    exact ⟨bs ++ cs, .cons r1 q1, fun b hb => by
      rcases List.mem_append.mp hb with z | z
      · exact r2 b z
      · exact q2 b z⟩
theorem noDict_rep {d : PyData} (h : d.hasDict = false) : ∀ n, PyData.hasDictAll (List.replicate n d) = false
  | 0 => by simp [PyData.hasDictAll]
  | n + 1 => by rw [List.replicate_succ, PyData.hasDictAll, h, noDict_rep h n]; rfl
theorem vals_mem {v : V} : ∀ {vs : List V} {us : List Value}, Vals vs us → (∀ x ∈ vs, x = v) → ∀ u ∈ us, RelV v u
  | _, _, .nil, _, _, hu => by cases hu
  | _, _, .cons h t, hx, u, hu => by
    rcases List.mem_cons.mp hu with rfl | hu
    · have := hx _ (List.mem_cons_self ..)
      subst this; exact h
    · exact vals_mem t (fun x z => hx x (List.mem_cons_of_mem _ z)) u hu
theorem call_reprV {X : Cx} {k : Nat} (hG : X.A.guards = some []) (hr : Room k X.A) (S : SysK X.K) : CallR X (.builtin "repr") (rReprV X.K) := by
  intro pins s σ H xs us Q I r h
  obtain ⟨a, vs, v, d, e0, hL, hv, hq, hs, hz, hdep, q⟩ := h
  subst e0
  obtain ⟨u, e1, ru⟩ := r.one
  subst e1
  cases (show u = Value.ref _ from ru)
  have hu := hr.units
  obtain ⟨its, rv, ⟨o, n, ho, hc, hdt, hdat⟩, hsz⟩ := I.list hL
  have len : its.length = vs.length := rv.length.symm
  have hne := sysK_ne I S ho hc
  have hsw : PyData.showable (.list (List.replicate vs.length d)) = true := by simp only [PyData.showable]; exact showableAll_rep hs _
  have hdp : PyData.depth (.list (List.replicate vs.length d)) ≤ 32 := by rw [PyData.depth]; exact Nat.succ_le_succ (depthAll_rep hdep _)
  have key : ∃ as, Reads s.heap (.ref a) (.list (List.replicate vs.length d)) as ∧ (PyData.hasDict (.list (List.replicate vs.length d)) = true → sysModules ∉ as) := by
    rcases hq with hq | ⟨a2, e2, h2, e3⟩
    · have hnd := dp_noDict d v hq
      obtain ⟨cs, q1, _⟩ := reads_rep (h := s.heap) (d := d) (P := fun _ => True) (us := its) fun u hu => by
        obtain ⟨bs, hR⟩ := Dp.reads I d v u hq (vals_mem rv hv u hu)
        exact ⟨bs, hR, fun _ _ => trivial⟩
      rw [len] at q1
      refine ⟨_, Reads.list ho hc hdat (by simpa using q1), fun z => ?_⟩
      rw [PyData.hasDict, noDict_rep hnd] at z
      cases z
    · subst e2 e3
      have hok : ObjOk X.prog X.w H s.heap a2 (.dK []) := I.hok a2 _ h2
      obtain ⟨_, hsm, ws, hkv, hD⟩ := hok
      have hne2 : a2 ≠ sysModules := fun e => by rw [e] at hsm; exact absurd hsm (by decide)
      cases hkv
      obtain ⟨cs, q1, q2⟩ := reads_rep (h := s.heap) (d := .dict []) (P := fun b => b ≠ sysModules) (us := its) fun u hu => by
        have ru2 : RelV (.ref a2) u := vals_mem rv hv u hu
        cases (show u = Value.ref _ from ru2)
        obtain ⟨o2, es, ep, h3, hx, hd2, _, hp, _⟩ := hD
        have e0 : es.toList = [] := by
          cases hl : es.toList with
          | nil => rfl
          | cons e l => rw [hl] at hp; first | exact hp.elim | cases hp
        exact ⟨_, Reads.dict (kvs := []) h3 hx.1 hd2 (by rw [e0]; exact .nil) (by rw [e0]; exact .nil), fun b hb => by
          simp only [List.append_nil, List.mem_cons, List.not_mem_nil, or_false] at hb
          rw [hb]; exact hne2⟩
      rw [len] at q1
      refine ⟨_, Reads.list ho hc hdat (by simpa using q1), fun _ z => ?_⟩
      rcases List.mem_cons.mp z with z | z
      · exact hne z.symm
      · exact q2 _ z rfl
  obtain ⟨as, hR, hsm⟩ := key
  exact repr_of_reads' hR hsw hsm hG (by omega) (fun _ _ e => e) (fun h' t tk hk => ⟨.str _, H, I.kept hk, ⟨_, rfl⟩, q⟩) hz
end SP
namespace SP
open PySem PySem.Spec PyProof.Rows L2
def valM (ns : List Str) (x : Exv) : Option V := if x.c ∈ ns then some x.v else none
def isM (ns : List Str) (n : Str) (x : Exv) : Option Bool := if x.c ∈ ns then some (decide (x.c = n)) else none
def isA (ns : List Str) (x : Exv) : Option Bool := if x.c ∈ ns then some true else none
def reprV (l : List V) (g : Giv) : Option Str :=
  if (∀ v ∈ l, v = g.v) ∧ PyData.showable g.d = true ∧ (PyData.shown (.list (List.replicate l.length g.d))).length ≤ 16777216 ∧ g.d.depth ≤ 31 then some (PyData.shown (.list (List.replicate l.length g.d))) else none
structure XcAll (K : Frag) (ns : List Str) : Prop where
  e : ∀ c ∈ ns, ExcC K (He.ga K c)
  f : ∀ c ∈ ns, XfC K (He.ga K c)
  v : ∀ c ∈ ns, PySem.W.findIn K (.ref (He.ga K c)) "value" = some none
section
variable {K : Frag} {M : Type → Type} {S : Type} [PyM M S] {ρ : Type} {B : Base S} {Γ : Env} {te : TE} {ns : List Str} {c : Str}
theorem two_new {F1 H1 : Hp} {e d : Addr} {oe od : HO} (fh : Same F1 H1) (he : H1 e = none) (hd : H1 d = none) (hne : d ≠ e) : Step no F1 H1 (upd (upd F1 d od) e oe) (upd (upd H1 d od) e oe) := by
  have w1 : Step no F1 H1 (upd F1 d od) (upd H1 d od) := Step.new fh hd
  have he2 : upd H1 d od e = none := by rw [upd_ne (Ne.symm hne)]; exact he
  exact w1.trans (Step.new w1.fh he2)
theorem exv_new {F1 : Hp} {e d : Addr} {v : V} (hne : d ≠ e) : Py.rep K (upd (upd F1 d (.xd [(("value" : Str), v)])) e (ExD (He.ga K c) d e)) (.ref e) (Exv.mk c v) := by
  refine ⟨e, d, rfl, upd_same, ?_⟩
  rw [upd_ne hne]
  exact upd_same
theorem ev_exc {mx : (Giv → M ρ) → M ρ} (hx : EvK K B te Γ mx) : EvK (M := M) (ρ := ρ) K B (tMkX (He.ga K c) (tCons te tNil)) Γ (fun k => mx fun x => k (Exv.mk c x.v)) := fun k s r s2 hr σ F H ok Q q =>
  hx _ s r s2 hr σ F H ok _ fun x s1 v F1 H1 hr1 w1 ok1 rx => ⟨v, rfl, fun e d he hd hne => by
    obtain ⟨ev, _⟩ := rx
    subst ev
    have w2 := two_new (oe := ExD (He.ga K c) d e) (od := .xd [(("value" : Str), x.v)]) ok1.fh he hd hne
    exact q _ s1 _ _ _ hr1 (w1.trans (st_no w2)) (ok1.step w2) (exv_new hne)⟩
theorem ev_exc0 : EvK (M := M) (ρ := ρ) K B (fun σ H Q => QMk (He.ga K c) .non Q H) Γ (fun k => k (Exv.mk c .non)) := fun k s r s2 hr σ F H ok Q q => fun e d he hd hne => by
    have w2 := two_new (oe := ExD (He.ga K c) d e) (od := .xd [(("value" : Str), V.non)]) ok.fh he hd hne
    exact q _ s _ _ _ hr (st_no w2) (ok.step w2) (exv_new hne)
theorem ev_xval {mx : (Exv → M ρ) → M ρ} (T : XcAll K ns) (hx : EvK K B te Γ mx) : EvK (M := M) (ρ := ρ) K B (tXw K "value" te) Γ (fun k => mx fun x => PyM.up (valM ns x) >>= k) := fun k s r s2 hr σ F H ok Q q =>
  hx _ s r s2 hr σ F H ok _ fun x s1 v F1 H1 hr1 w1 ok1 rx => by
    obtain ⟨z, hz, hr2⟩ := upE hr1
    unfold valM at hz
    split at hz
    · rename_i hc
      cases hz
      obtain ⟨e, d, e0, h1, h2⟩ := rx
      exact ⟨_, e, d, _, _, T.f _ hc, T.v _ hc, e0, ok1.fh _ _ h1, ok1.fh _ _ h2, by simp [List.lookup], q x.v s1 _ F1 H1 hr2 w1 ok1 rfl⟩
    · cases hz
theorem ev_isX {n : Str} {mx : (Exv → M ρ) → M ρ} (T : XcAll K ns) (hk : ∀ c ∈ ns, PySem.W.kitOne K (.ref (He.ga K c)) (.ref (He.ga K n)) = some (decide (c = n))) (hx : EvK K B te Γ mx) : EvK (M := M) (ρ := ρ) K B (tCB (rIsY K) (tCons te (tCons (tC (.ref (He.ga K n))) tNil))) Γ (fun k => mx fun x => PyM.up (isM ns n x) >>= k) := fun k s r s2 hr σ F H ok Q q =>
  hx _ s r s2 hr σ F H ok _ fun x s1 v F1 H1 hr1 w1 ok1 rx => by
    obtain ⟨z, hz, hr2⟩ := upE hr1
    unfold isM at hz
    split at hz
    · rename_i hc
      cases hz
      obtain ⟨e, d, e0, h1, h2⟩ := rx
      subst e0
      exact ⟨_, T.e _ hc, e, d, _, _, .ref (He.ga K n), _, rfl, ok1.fh _ _ h1, ok1.fh _ _ h2, fun u hu => hu, hk _ hc, q _ s1 _ F1 H1 hr2 w1 ok1 rfl⟩
    · cases hz
theorem ev_isAC {n : Str} {mx : (Exv → M ρ) → M ρ} (T : XcAll K ns) (hk : ∀ c ∈ ns, PySem.W.kitOne K (.ref (He.ga K c)) (.ref (He.ga K n)) = some true) (hx : EvK K B te Γ mx) : EvK (M := M) (ρ := ρ) K B (tCB (rIsY K) (tCons te (tCons (tC (.ref (He.ga K n))) tNil))) Γ (fun k => mx fun x => PyM.up (isA ns x) >>= k) := fun k s r s2 hr σ F H ok Q q =>
  hx _ s r s2 hr σ F H ok _ fun x s1 v F1 H1 hr1 w1 ok1 rx => by
    obtain ⟨z, hz, hr2⟩ := upE hr1
    unfold isA at hz
    split at hz
    · rename_i hc
      cases hz
      obtain ⟨e, d, e0, h1, h2⟩ := rx
      subst e0
      exact ⟨_, T.e _ hc, e, d, _, _, .ref (He.ga K n), _, rfl, ok1.fh _ _ h1, ok1.fh _ _ h2, fun u hu => hu, hk _ hc, q _ s1 _ F1 H1 hr2 w1 ok1 rfl⟩
    · cases hz
theorem ev_isAT {n : String} {mx : (Exv → M ρ) → M ρ} (T : XcAll K ns) (hk : ∀ c ∈ ns, PySem.W.kitOne K (.ref (He.ga K c)) (.type n) = some true) (hx : EvK K B te Γ mx) : EvK (M := M) (ρ := ρ) K B (tCB (rIsY K) (tCons te (tCons (tC (.ty n)) tNil))) Γ (fun k => mx fun x => PyM.up (isA ns x) >>= k) := fun k s r s2 hr σ F H ok Q q =>
  hx _ s r s2 hr σ F H ok _ fun x s1 v F1 H1 hr1 w1 ok1 rx => by
    obtain ⟨z, hz, hr2⟩ := upE hr1
    unfold isA at hz
    split at hz
    · rename_i hc
      cases hz
      obtain ⟨e, d, e0, h1, h2⟩ := rx
      subst e0
      exact ⟨_, T.e _ hc, e, d, _, _, .type n, _, rfl, ok1.fh _ _ h1, ok1.fh _ _ h2, fun u hu => hu, hk _ hc, q _ s1 _ F1 H1 hr2 w1 ok1 rfl⟩
    · cases hz
theorem ev_gv {mx : (Giv → M ρ) → M ρ} (hx : EvK K B te Γ mx) : EvK (M := M) (ρ := ρ) (α := V) K B te Γ (fun k => mx fun x => k x.v) := fun k s r s2 hr σ F H ok Q q =>
  hx _ s r s2 hr σ F H ok Q fun x s1 v F1 H1 hr1 w1 ok1 rx => q x.v s1 v F1 H1 hr1 w1 ok1 rx.1
theorem ev_reprV {j : Nat} {g : Giv} {ml : (List V → M ρ) → M ρ} (hj : Γ[j]? = some (some (imE K g))) (hx : EvK K B te Γ ml) : EvK (M := M) (ρ := ρ) K B (tCB (rReprV K) (tCons te tNil)) Γ (fun k => ml fun l => PyM.up (reprV l g) >>= k) := fun k s r s2 hr σ F H ok Q q =>
  hx _ s r s2 hr σ F H ok _ fun l s1 v F1 H1 hr1 w1 ok1 rl => by
    obtain ⟨z, hz, hr2⟩ := upE hr1
    unfold reprV at hz
    split at hz
    · rename_i hc
      cases hz
      obtain ⟨c1, c2, c3, c4⟩ := hc
      obtain ⟨p, vs, e0, h1, h2⟩ := rl
      obtain ⟨u, _, rg⟩ := ok1.ev j _ hj
      obtain ⟨_, hq⟩ : u = g.v ∧ Dq K F1 g.v g.d := rg
      have e : vs = l := by
        have : ∀ {a b : List V}, Reps K F1 a b → a = b := fun h => by
          induction h with
          | nil => rfl
          | cons h _ ih => rw [ih]; exact congrArg (· :: _) h
        exact this h2
      subst e
      exact ⟨p, vs, g.v, g.d, by rw [e0], SqL.of (ok1.fh _ _ h1), c1, Dq.mono ok1.fh hq, c2, by rw [sizeLine_eq]; exact c3, c4, q _ s1 _ F1 H1 hr2 w1 ok1 rfl⟩
    · cases hz
theorem call_reprVK {X : Cx} {K : Frag} {k : Nat} (h : X.K = K) (hG : X.A.guards = some []) (hr : Room k X.A) (S : SysK K) : CallR X (.builtin "repr") (rReprV K) := by
  subst h
  exact call_reprV hG hr S
end
end SP
namespace SP
open PySem PySem.Spec PyProof.Rows L2
structure GivB (N : Addr → Prop) where
  g : Giv
def OwnLs (K : Frag) (F : Hp) (N : Addr → Prop) (p : Addr) (ds : List PyData) : Prop := N p ∧ ∃ xs, F p = some (.lst xs) ∧ (∀ G : Hp, (∀ a, a ≠ p → G a = F a) → DpAll K G xs ds) ∧ ∀ u ∈ xs, ∀ e, u = .ref e → ∃ ys, F e = some (.lst ys)
theorem OwnLs.mono {K : Frag} {F F' : Hp} {N : Addr → Prop} {p : Addr} {ds : List PyData} (e : Same F F') (h : OwnLs K F N p ds) : OwnLs K F' N p ds := by
  obtain ⟨h0, xs, h1, h2, h3⟩ := h
  refine ⟨h0, xs, e _ _ h1, fun G hG => ?_, fun u hu a ha => by
    obtain ⟨ys, hy⟩ := h3 u hu a ha
    exact ⟨ys, e _ _ hy⟩⟩
  have d := h2 (fun a => if a = p then G p else F a) fun a ha => by simp only [if_neg ha]
  refine DpAll.mono (fun a o q => ?_) ds xs d
  by_cases ha : a = p
  · subst ha
    simp only [if_pos] at q
    exact q
  · simp only [if_neg ha] at q
    rw [hG a ha]
    exact e _ _ q
instance {N : Addr → Prop} : Py (GivB N) where
  rep K F u x := Py.rep K F u x.g ∧ ∀ p ds, x.g.d = .list ds → u = .ref p → OwnLs K F N p ds
  mono e := fun ⟨h0, h1⟩ => ⟨Py.mono (α := Giv) e h0, fun p ds a b => (h1 p ds a b).mono e⟩
def NB {S : Type} (B : Base S) : Addr → Prop := fun p => B.H0 p = none ∧ B.F0 p = none
def Gok {S : Type} (B : Base S) (K : Frag) (F : Hp) (v : V) (d : PyData) : Prop := Dq K F v d ∧ ∀ p ds, d = .list ds → v = .ref p → OwnLs K F (NB B) p ds
theorem Gok.mono {S : Type} {B : Base S} {K : Frag} {F F' : Hp} {v : V} {d : PyData} (e : Same F F') (h : Gok B K F v d) : Gok B K F' v d := ⟨h.1.mono e, fun p ds a b => (h.2 p ds a b).mono e⟩
section
variable {K : Frag} {M : Type → Type} {S : Type} [PyM M S] {ρ α : Type} [Py α] (B : Base S)
def EvG (K : Frag) (te : TE) (Γ : Env) (mm : (PyData → M ρ) → M ρ) : Prop := ∀ (k : PyData → M ρ) (s : S) (r : ρ) (s2 : S), PyM.run (mm k) s = some (r, s2) → ∀ σ F H, Ok B s Γ σ F H → ∀ Q : VK,
  (∀ a s1 v F' H', PyM.run (k a) s1 = some (r, s2) → Step B.ex F H F' H' → Ok B s1 Γ σ F' H' → Gok B K F' v a → Q v H') → te σ H Q
def EvGA (K : Frag) (ta : TA) (Γ : Env) (mm : (List PyData → M ρ) → M ρ) : Prop := ∀ (k : List PyData → M ρ) (s : S) (r : ρ) (s2 : S), PyM.run (mm k) s = some (r, s2) → ∀ σ F H, Ok B s Γ σ F H → ∀ Q : List V → Hp → Prop,
  (∀ ds s1 vs F' H', PyM.run (k ds) s1 = some (r, s2) → Step B.ex F H F' H' → Ok B s1 Γ σ F' H' → Paired (Gok B K F') vs ds → Q vs H') → ta σ H Q
end
section
variable {K : Frag} {M : Type → Type} {S : Type} [PyM M S] {ρ α : Type} [Py α] {B : Base S} {Γ : Env} {te : TE} {ta : TA}
theorem reps_mem {F : Hp} : ∀ {vs : List V} {ds : List α}, Reps K F vs ds → ∀ u ∈ vs, ∃ x : α, Py.rep K F u x
  | _, _, .nil, _, h => by cases h
  | _, _, .cons h t, u, hu => by
    rcases List.mem_cons.mp hu with rfl | hu
    · exact ⟨_, h⟩
    · exact reps_mem t u hu
theorem eg_of {mx : (α → M ρ) → M ρ} (f : α → PyData) (h : EvK K B te Γ mx) (hf : ∀ F v (x : α), Py.rep K F v x → Dq K F v (f x)) (hn : ∀ x ds, f x ≠ .list ds) : EvG B K te Γ (fun k => mx fun x => k (f x)) := fun k s r s2 hr σ F H ok Q q =>
  h _ s r s2 hr σ F H ok _ fun x s1 v F1 H1 hr1 w1 ok1 rx => q _ s1 v F1 H1 hr1 w1 ok1 ⟨hf F1 v x rx, fun p ds e _ => absurd e (hn x ds)⟩
theorem eg_lst {ml : (List α → M ρ) → M ρ} (g : α → PyData) (h : EvC K B te Γ ml) (hf : ∀ F vs (l : List α), Reps K F vs l → DpAll K F vs (l.map g)) (hi : ∀ F v (x : α), Py.rep K F v x → ∀ e, v = .ref e → ∃ ys, F e = some (.lst ys)) : EvG B K te Γ (fun k => ml fun l => k (.list (l.map g))) := fun k s r' s2 hr σ F H ok Q q =>
  h _ s r' s2 hr σ F H ok _ fun ds s1 p vs F1 H1 hr1 w1 ok1 hF h0 hH hp hL rl => by
    have sm := same_upd (o := HO.lst vs) hF
    refine q _ s1 _ (upd F1 p (.lst vs)) H1 hr1 ?_ (ok1.frzO hF h0 hL hp) ⟨.inl (.lst (SqL.of upd_same) (hf _ _ _ (rl.mono sm))), fun p' ds' e e2 => by
      injection e with e
      subst e
      cases e2
      refine ⟨⟨h0, ?_⟩, vs, upd_same, fun G hG => hf _ _ _ (rl.mono fun a o z => by
        have na : a ≠ p := fun y => by rw [y, hF] at z; cases z
        rw [hG a na, upd_ne na]
        exact z), fun u hu e he => ?_⟩
      rotate_left
      · obtain ⟨x, hx⟩ := reps_mem (rl.mono sm) u hu
        exact hi _ u x hx e he
      cases z : B.F0 p with
      | none => rfl
      | some o =>
        have := ok1.g.ff _ _ z
        rw [hF] at this
        cases this⟩
    refine ⟨w1.ff.trans sm, w1.hh, fun a o e => ?_, fun a => ?_, w1.al⟩
    · by_cases ha : a = p
      · subst ha; rw [upd_same] at e; rw [hL]; exact e
      · rw [upd_ne ha] at e; exact w1.fh a o e
    · by_cases ha : a = p
      · subst ha; exact .inr hH
      · rw [upd_ne ha]; exact w1.nw a
theorem eg_dic : EvG B K (M := M) (ρ := ρ) tDNewK Γ (fun k => k (.dict [])) := fun k s r s2 hr σ F H ok Q q p hp => by
  have w2 : Step no F H (upd F p (.dK [])) (upd H p (.dK [])) := Step.new ok.fh hp
  exact q _ s _ _ _ hr (st_no w2) (ok.step w2) ⟨.inr ⟨p, rfl, upd_same, rfl⟩, fun _ _ e => by cases e⟩
theorem eg_tup0 : EvG B K (M := M) (ρ := ρ) (tTup tNil) Γ (fun k => k (.tuple [])) := fun k s r s2 hr σ F H ok Q q => ⟨Nat.zero_le _, fun p hp => by
  have w2 : Step no F H (upd F p (.tup [])) (upd H p (.tup [])) := Step.new ok.fh hp
  exact q _ s _ _ _ hr (st_no w2) (ok.step w2) ⟨.inl (.tup (SqT.of upd_same) .nil), fun _ _ e => by cases e⟩⟩
theorem ega_nil : EvGA B K (M := M) (ρ := ρ) tNil Γ (fun k => k []) := fun k s r s2 hr σ F H ok Q q => q [] s [] F H hr ok.st0 ok .nil
theorem ega_cons {mx : (PyData → M ρ) → M ρ} {my : (List PyData → M ρ) → M ρ} (hx : EvG B K te Γ mx) (hy : EvGA B K ta Γ my) : EvGA B K (tCons te ta) Γ (fun k => mx fun x => my fun y => k (x :: y)) := fun k s r' s2 hr σ F H ok Q q =>
  hx _ s r' s2 hr σ F H ok _ fun x s1 v F1 H1 hr1 w1 ok1 rx => hy _ s1 r' s2 hr1 σ F1 H1 ok1 _ fun y s3 vs F2 H2 hr2 w2 ok2 ry =>
    q (x :: y) s3 (v :: vs) F2 H2 hr2 (w1.trans w2) ok2 (.cons (rx.mono w2.ff) ry)
end
open Classical in
noncomputable def allV {S ρ : Type} (f : V → Stm S ρ) : Stm S ρ := fun s => if h : ∃ r, ∀ v, f v s = some r then some h.choose else none
theorem allV_run {S ρ : Type} {f : V → Stm S ρ} {s : S} {r : ρ × S} (h : allV f s = some r) (v : V) : f v s = some r := by
  unfold allV at h
  split at h
  · rename_i hx
    cases h
    exact hx.choose_spec v
  · cases h
theorem allV_eq {S ρ : Type} {f : V → Stm S ρ} {s : S} {r : ρ × S} (h : ∀ v, f v s = some r) : allV f s = some r := by
  have hx : ∃ r, ∀ v, f v s = some r := ⟨r, h⟩
  unfold allV
  rw [dif_pos hx]
  have := hx.choose_spec .non
  rw [h] at this
  rw [this]
theorem paired_at {α β : Type} {R : α → β → Prop} : ∀ {vs : List α} {ds : List β} {n : Nat} {d : β}, Paired R vs ds → ds[n]? = some d → ∃ v, vs[n]? = some v ∧ R v d
  | _, _, _, _, .nil, e => by simp at e
  | _, _, 0, _, .cons h _, e => by
    simp only [List.getElem?_cons_zero] at e
    cases e
    exact ⟨_, by simp, h⟩
  | _, _, n + 1, _, .cons _ t, e => by
    simp only [List.getElem?_cons_succ] at e
    obtain ⟨v, h1, h2⟩ := paired_at t e
    exact ⟨v, by simpa using h1, h2⟩
theorem paired_atM {α β : Type} {R : α → β → Prop} {vs : List α} {ds : List β} {i : Int} {d : β} (h : Paired R vs ds) (e : atM ds i = some d) : ∃ v, atM vs i = some v ∧ R v d := by
  have hl := h.length
  unfold atM atM.HT_at at *
  by_cases h0 : 0 ≤ i
  · rw [if_pos h0] at *
    exact paired_at h e
  · rw [if_neg h0] at *
    rw [hl]
    by_cases h1 : 0 ≤ i + (ds.length : Int)
    · rw [if_pos h1] at *
      exact paired_at h e
    · rw [if_neg h1] at e
      cases e
theorem reps_V {K : Frag} {F : Hp} : ∀ vs : List V, Reps K F vs vs
  | [] => .nil
  | _ :: vs => .cons rfl (reps_V vs)
theorem ev_pick {K : Frag} {ρ : Type} {B : Base Pu} {Γ : Env} {tr : TA} {E : XK} {p : Addr} {i0 : Nat} {mx : (List PyData → Stm Pu ρ) → Stm Pu ρ} {f : List V → Stm Pu V} (draw : Int → Stm Pu Int) (hf : ∀ vs, f vs = draw (vs.length : Int) >>= fun i => PyM.up (atM vs i) >>= fun g => pure g) (hB : IsS B p pcell) (hx : EvGA (M := Stm Pu) B K tr Γ mx) (h0 : Γ[i0]? = some (some (adE p)) := by rfl) :
    EvK (M := Stm Pu) (ρ := ρ) (α := GivB (NB B)) K B (tCall (spS K pcell (fun x : List V × Unit => f x.1)) [] E (tCons (tVar i0) (tCons (tLst tr) tNil))) Γ (fun k => mx fun ds => PyM.up (szM ds.length) >>= fun _ => draw (ds.length : Int) >>= fun i => allV fun v => PyM.up (atM ds i) >>= fun d => k ⟨⟨v, d⟩⟩) := fun k s r s2 hr σ F H ok Q q => by
  obtain ⟨v0, hv, ev⟩ := ok.ev i0 _ h0
  have ev : v0 = .ref p := ev
  subst ev
  refine ⟨_, hv, hx _ s r s2 hr σ F H ok _ fun ds s1 vs F1 H1 hr1 w1 ok1 rds => ?_⟩
  obtain ⟨u0, hz, hr1⟩ := upE hr1
  have hlen : vs.length = ds.length := rds.length
  refine ⟨by rw [hlen, sizeLine_eq]; exact szM_ok hz, fun l hl => ?_⟩
  obtain ⟨i, s3, e1, e2⟩ := bindE hr1
  have w2 : Step no F1 H1 (upd F1 l (.lst vs)) (upd H1 l (.lst vs)) := Step.new ok1.fh hl
  have ok2 := ok1.step w2
  obtain ⟨g1, o, g2, g3⟩ := (hB.st s1 _ _).mp ok2.st
  -- the item
  obtain ⟨d, hd⟩ : ∃ d, atM ds i = some d := by
    have := allV_run e2 .non
    obtain ⟨d, hd, _⟩ := upE (M := Stm Pu) this
    exact ⟨d, hd⟩
  obtain ⟨v, hvi, hg⟩ := paired_atM rds hd
  have run : f vs s1 = some (v, s3) := by
    rw [hf, hlen]
    show PyM.run (M := Stm Pu) (draw (ds.length : Int) >>= fun i => PyM.up (atM vs i) >>= fun g => pure g) s1 = _
    rw [PyM.run_bind, e1]
    show PyM.run (M := Stm Pu) (PyM.up (atM vs i) >>= fun g => pure g) s3 = _
    rw [PyM.run_bind, PyM.run_up, hvi]
    rfl
  show spS K pcell (fun x : List V × Unit => f x.1) [.ref p, .ref l] (upd H1 l (.lst vs)) Q E
  refine ⟨p, [.ref l], (vs, ()), s1, v, s3, _, o, rfl, ok2.fh, g1, g2, g3, ⟨.ref l, [], rfl, ⟨l, vs, rfl, upd_same, ?_⟩, rfl⟩, run, fun v' F' H' o' w a1 a2 a3 rv => ?_⟩
  · exact reps_V vs
  · obtain ⟨w3, ok3⟩ := hB.got ok2 w a1 a2 a3
    have rv : v' = v := rv
    subst rv
    have e3 := allV_run e2 v'
    obtain ⟨d', hd', e4⟩ := upE (M := Stm Pu) e3
    rw [hd] at hd'
    cases hd'
    have gg := hg.mono (w2.ff.trans w3.ff)
    exact q ⟨⟨v', d⟩⟩ s3 v' F' H' e4 ((w1.trans (st_no w2)).trans w3) ok3 ⟨⟨rfl, gg.1⟩, gg.2⟩
end SP
namespace SP
open PySem PySem.Spec PyProof.Rows L2
section
variable {K : Frag} {M : Type → Type} {S : Type} [PyM M S] {ρ : Type} {B : Base S} {Γ : Env} {te ta tb : TE} {RT : ρ → Hp → Hp → V → Prop}
theorem sk_giv {N : Addr → Prop} {mm : (GivB N → M ρ) → M ρ} {i : Nat} (h : EvK K B te Γ mm) : SK (β := Giv) B RT (tAsg te (gName i)) Γ (fun k => mm fun b => k b.g) (fun g => Γ.set i (some (imE K (GivB.mk g : GivB N)))) := fun k s r s2 hr σ F H ok D nx rt =>
  sk_set (RT := RT) h (fun b => k b.g) s r s2 hr σ F H ok D (fun b => nx b.g) rt
def isL : PyData → Bool
  | .list _ => true
  | _ => false
theorem dq_ty {F : Hp} {v : V} {d : PyData} (h : Dq K F v d) : ∃ n : String, TyX K F v (.type n) ∧ PySem.W.kitOne K (.type n) (.type "list") = some (isL d) := by
  rcases h with h | ⟨a, rfl, h2, rfl⟩
  · cases h with
    | non => exact ⟨_, .base .non, kit_ty (by decide +kernel)⟩
    | bl b => exact ⟨_, .base (.bl b), kit_ty (show kitB "bool" "list" = some false by decide +kernel)⟩
    | int i => exact ⟨_, .base (.int i), kit_ty (show kitB "int" "list" = some false by decide +kernel)⟩
    | str x => exact ⟨_, .base (.str x), kit_ty (show kitB "str" "list" = some false by decide +kernel)⟩
    | lst h1 _ =>
      refine ⟨"list", ?_, kit_ty (show kitB "list" "list" = some true by decide +kernel)⟩
      rcases h1 with (h | ⟨o, h⟩) | ⟨o, its, n, h1, h2, _⟩
      · exact .base (.lst h)
      · exact .base (.frz h)
      · exact .kList h1 h2
    | tup h1 _ => exact ⟨"tuple", tyx_tup h1, kit_ty (show kitB "tuple" "list" = some false by decide +kernel)⟩
  · exact ⟨"dict", .base (.dK h2), kit_ty (by decide +kernel)⟩
theorem ev_isG {mx : (Giv → M ρ) → M ρ} (h : EvK K B te Γ mx) : EvK (M := M) (ρ := ρ) K B (tCB (rIsi K) (tCons te (tCons (tC (.ty "list")) tNil))) Γ (fun k => mx fun g => k (isL g.d)) := fun k s r s2 hr σ F H ok Q q =>
  h _ s r s2 hr σ F H ok _ fun g s1 v F1 H1 hr1 w1 ok1 rv => by
    obtain ⟨ev, hq⟩ := rv
    subst ev
    obtain ⟨n, ht, hb⟩ := dq_ty hq
    exact ⟨g.v, .ty "list", .type n, .type "list", _, rfl, .ty "list", TyX.mono ok1.fh ht, hb, q _ s1 _ F1 H1 hr1 w1 ok1 rfl⟩
def smulM (a : Str) (n : Int) : Option Str := if a = "x" ∧ 0 ≤ n ∧ n < 9 then some (Txt.mul a n) else none
def rSMul : R2 := fun x y H Q => ∃ a n, x = .str a ∧ y = .int n ∧ MulOk a n ∧ Q (.str (Txt.mul a n)) H
theorem op_smulP : OpP K rSMul smulM := fun x y z hz F H v u e hv hu Q q => by
  unfold smulM at hz
  split at hz
  · rename_i h
    obtain ⟨rfl, h0, h1⟩ := h
    cases hz
    refine ⟨"x", y, hv, hu, ?_, q _ F H (Step.rfl e) rfl⟩
    have : y = 0 ∨ y = 1 ∨ y = 2 ∨ y = 3 ∨ y = 4 ∨ y = 5 ∨ y = 6 ∨ y = 7 ∨ y = 8 := by omega
    rcases this with rfl | rfl | rfl | rfl | rfl | rfl | rfl | rfl | rfl <;> exact ⟨by decide +kernel, by decide +kernel, by decide +kernel⟩
  · cases hz
end
theorem op_smul {X : Cx} : OpR X (binaryOp .Mult) rSMul := by
  intro pins s σ H x y v u Q I rx ry h
  obtain ⟨a, n, rfl, rfl, hm, q⟩ := h
  obtain ⟨t, rfl⟩ := rx
  obtain ⟨t2, rfl⟩ := ry
  exact SB.mul hm fun t' k => ⟨.str _, H, I.tok _, ⟨_, rfl⟩, q⟩
section
variable {K : Frag} {M : Type → Type} {S : Type} [PyM M S] {ρ : Type} {B : Base S} {Γ : Env} {te : TE}
theorem eg_int {mx : (Int → M ρ) → M ρ} (h : EvK K B te Γ mx) : EvG B K te Γ (fun k => mx fun x => k (.int x)) := eg_of PyData.int h (fun _ _ _ r => by cases r; exact .inl (.int _)) fun _ _ e => by cases e
theorem eg_bl {mx : (Bool → M ρ) → M ρ} (h : EvK K B te Γ mx) : EvG B K te Γ (fun k => mx fun x => k (.bool x)) := eg_of PyData.bool h (fun _ _ _ r => by cases r; exact .inl (.bl _)) fun _ _ e => by cases e
theorem eg_str {mx : (Str → M ρ) → M ρ} (h : EvK K B te Γ mx) : EvG B K te Γ (fun k => mx fun x => k (.str x)) := eg_of PyData.str h (fun _ _ _ r => by cases r; exact .inl (.str _)) fun _ _ e => by cases e
theorem eg_non {mx : (Unit → M ρ) → M ρ} (h : EvK K B te Γ mx) : EvG B K te Γ (fun k => mx fun _ => k .none) := eg_of (fun _ => PyData.none) h (fun _ _ _ r => by cases r; exact .inl .non) fun _ _ e => by cases e
theorem dp_ints {F : Hp} : ∀ {vs : List V} {l : List Int}, Reps K F vs l → DpAll K F vs (l.map PyData.int)
  | _, _, .nil => .nil
  | _, _, .cons h t => .cons (by cases h; exact .int _) (dp_ints t)
theorem dp_strs {F : Hp} : ∀ {vs : List V} {l : List Str}, Reps K F vs l → DpAll K F vs (l.map PyData.str)
  | _, _, .nil => .nil
  | _, _, .cons h t => .cons (by cases h; exact .str _) (dp_strs t)
theorem dp_strss {F : Hp} : ∀ {vs : List V} {l : List (List Str)}, Reps K F vs l → DpAll K F vs (l.map fun x => PyData.list (x.map PyData.str))
  | _, _, .nil => .nil
  | _, _, .cons h t => .cons (by obtain ⟨p, us, rfl, h1, h2⟩ := h; exact .lst (SqL.of h1) (dp_strs h2)) (dp_strss t)
theorem eg_ints {ml : (List Int → M ρ) → M ρ} (h : EvC K B te Γ ml) : EvG B K te Γ (fun k => ml fun l => k (.list (l.map PyData.int))) := eg_lst PyData.int h (fun _ _ _ r => dp_ints r) fun _ _ _ r e he => by cases r; cases he
theorem eg_strss {ml : (List (List Str) → M ρ) → M ρ} (h : EvC K B te Γ ml) : EvG B K te Γ (fun k => ml fun l => k (.list (l.map fun x => PyData.list (x.map PyData.str)))) := eg_lst _ h (fun _ _ _ r => dp_strss r) fun _ _ _ r e he => by
  obtain ⟨p, us, rfl, h1, h2⟩ := r
  cases he
  exact ⟨us, h1⟩
end
def moreM (x y : List Exv) (g : Giv) : Option Giv := match g.d with
  | .list ds => if x ≠ [] ∧ y ≠ [] ∧ ds.length < 16777216 then some ⟨g.v, .list (ds ++ [.str "more"])⟩ else none
  | _ => none
theorem reps_upd {F : Hp} {K : Frag} {p : Addr} {xs ws : List V} (hp : F p = some (.lst xs)) : ∀ {vs : List V} {x : List Exv}, Reps K F vs x → Reps K (upd F p (.lst ws)) vs x
  | _, _, .nil => .nil
  | _, _, .cons h t => .cons (by
    obtain ⟨e, d, h0, h1, h2⟩ := h
    have ne1 : e ≠ p := fun z => by rw [z, hp] at h1; cases h1
    have ne2 : d ≠ p := fun z => by rw [z, hp] at h2; cases h2
    exact ⟨e, d, h0, by rw [upd_ne ne1]; exact h1, by rw [upd_ne ne2]; exact h2⟩) (reps_upd hp t)
theorem list_upd {F : Hp} {K : Frag} {p : Addr} {xs ws : List V} {v : V} {x : List Exv} (hp : F p = some (.lst xs)) (hi : ∀ u ∈ xs, ∀ e, u = .ref e → ∃ ys, F e = some (.lst ys)) (hx : x ≠ []) (h : Py.rep K F v x) : Py.rep K (upd F p (.lst ws)) v x := by
  obtain ⟨q, vs, h0, h1, h2⟩ := h
  have ne : q ≠ p := fun z => by
    subst z
    rw [hp] at h1
    cases h1
    cases h2 with
    | nil => exact hx rfl
    | cons h t =>
      obtain ⟨e, d, e0, e1, _⟩ := h
      obtain ⟨ys, hy⟩ := hi _ (List.mem_cons_self ..) e e0
      rw [hy] at e1
      cases e1
  exact ⟨q, vs, h0, by rw [upd_ne ne]; exact h1, reps_upd hp h2⟩
def Γ3 (n ip iq j : Nat) (a b c : Ent) : Env := (((List.replicate n none).set ip (some a)).set iq (some b)).set j (some c)
theorem dpAll_app {K : Frag} {H : Hp} : ∀ {vs us : List V} {ds es : List PyData}, DpAll K H vs ds → DpAll K H us es → DpAll K H (vs ++ us) (ds ++ es)
  | _, _, _, _, .nil, h => h
  | _, _, _, _, .cons h t, h2 => .cons h (dpAll_app t h2)
theorem dpAll_len {K : Frag} {H : Hp} : ∀ {vs : List V} {ds : List PyData}, DpAll K H vs ds → vs.length = ds.length
  | _, _, .nil => rfl
  | _, _, .cons _ t => congrArg Nat.succ (dpAll_len t)
theorem Γ3_get {n ip iq j i : Nat} {a b c e : Ent} (h : (Γ3 n ip iq j a b c)[i]? = some (some e)) : (i = ip ∧ e = a) ∨ (i = iq ∧ e = b) ∨ (i = j ∧ e = c) := by
  unfold Γ3 at h
  rcases getSet h with ⟨rfl, e1, _⟩ | ⟨_, h⟩
  · exact .inr (.inr ⟨rfl, (Option.some.inj e1).symm⟩)
  · rcases getSet h with ⟨rfl, e1, _⟩ | ⟨_, h⟩
    · exact .inr (.inl ⟨rfl, (Option.some.inj e1).symm⟩)
    · rcases getSet h with ⟨rfl, e1, _⟩ | ⟨_, h⟩
      · exact .inl ⟨rfl, (Option.some.inj e1).symm⟩
      · rw [List.getElem?_replicate] at h
        split at h <;> cases h
theorem st_more {K : Frag} {ρ : Type} {B : Base Pu} {Γ : Env} {RT : ρ → Hp → Hp → V → Prop} {t : TS} {p0 : Addr} {m : Giv → Stm Pu ρ} (ip iq j : Nat) {x y : List Exv} {g : Giv} (hB : IsS B p0 pcell) (hip : Γ[ip]? = some (some (imE K x))) (hiq : Γ[iq]? = some (some (imE K y))) (hj : Γ[j]? = some (some (imE K (GivB.mk g : GivB (NB B)))))
    (h2 : ∀ g', ST B (fun _ => none) RT t (Γ3 Γ.length ip iq j (imE K x) (imE K y) (imE K (GivB.mk g' : GivB (NB B)))) (m g')) :
    ST (M := Stm Pu) B (fun _ => none) RT (tSeq (tDrop (tBM K "list" rAppend (tVar j) (tCons (tC (.str "more")) tNil))) t) Γ (PyM.up (moreM x y g) >>= m) := fun s r s2 hr σ F H ok D nx rt => by
  obtain ⟨g', hg, hr1⟩ := upE hr
  obtain ⟨v, hv, hvr⟩ := ok.ev j _ hj
  obtain ⟨gv, gd⟩ := g
  obtain ⟨⟨ev, hq⟩, hown⟩ : (v = gv ∧ Dq K F gv gd) ∧ ∀ p ds, gd = .list ds → v = .ref p → OwnLs K F (NB B) p ds := hvr
  subst ev
  unfold moreM at hg
  dsimp only at hg
  split at hg
  · rename_i ds
    split at hg
    · rename_i hc
      obtain ⟨hx, hy, hlen⟩ := hc
      cases hg
      obtain ⟨p, ep⟩ : ∃ p, v = .ref p := by
        rcases hq with h | ⟨a, _, _, h3⟩
        · cases h with | lst h1 _ => exact ⟨_, rfl⟩
        · cases h3
      subst ep
      obtain ⟨⟨n0, n1⟩, xs, hF, hdp, hit⟩ := hown p ds rfl rfl
      have hdx : DpAll K F xs ds := hdp F fun _ _ => rfl
      have hH := ok.fh _ _ hF
      have hlx := dpAll_len hdx
      refine ⟨_, hv, .inl ⟨rfl, _, SqL.of hH⟩, p, xs, .str "more", rfl, rfl, hH, by rw [sizeLine_eq, hlx]; exact hlen, ?_⟩
      have old : ∀ a, a ≠ p → upd F p (.lst (xs ++ [.str "more"])) a = F a := fun a ha => upd_ne ha
      obtain ⟨g1, o, g2, g3⟩ := (hB.st s F H).mp ok.st
      have hp0 : p0 ≠ p := fun z => by rw [z, hF] at g1; cases g1
      have okn : Ok B s (Γ3 Γ.length ip iq j (imE K x) (imE K y) (imE K (GivB.mk ⟨.ref p, .list (ds ++ [.str "more"])⟩ : GivB (NB B)))) σ (upd F p (.lst (xs ++ [.str "more"]))) (upd H p (.lst (xs ++ [.str "more"]))) := by
        refine ⟨⟨fun a o z => ?_, fun a o n z => ?_, fun a o z => ?_, fun a => ?_, fun a z => ?_⟩, (hB.st s _ _).mpr ⟨by rw [upd_ne hp0]; exact g1, o, by rw [upd_ne hp0]; exact g2, g3⟩, fun i e h => ?_, fun i j' c m c' m' q n h1 _ _ _ => ?_, ?_⟩
        · have na : a ≠ p := fun y => by rw [y, n1] at z; cases z
          rw [upd_ne na]; exact ok.g.ff _ _ z
        · have na : a ≠ p := fun y => by rw [y, n0] at z; cases z
          rw [upd_ne na]; exact ok.g.hh _ _ n z
        · by_cases ha : a = p
          · subst ha; rw [upd_same] at z ⊢; exact z
          · rw [upd_ne ha] at z ⊢; exact ok.fh _ _ z
        · by_cases ha : a = p
          · subst ha; exact .inr n0
          · rw [upd_ne ha]; exact ok.g.nw a
        · by_cases ha : a = p
          · subst ha; exact n0
          · rw [upd_ne ha] at z; exact ok.g.al a z
        · rcases Γ3_get h with ⟨rfl, rfl⟩ | ⟨rfl, rfl⟩ | ⟨rfl, rfl⟩
          · obtain ⟨u, hu, ru⟩ := ok.ev i _ hip
            exact ⟨u, hu, list_upd hF hit hx ru⟩
          · obtain ⟨u, hu, ru⟩ := ok.ev i _ hiq
            exact ⟨u, hu, list_upd hF hit hy ru⟩
          · have key : ∀ G : Hp, (∀ a, a ≠ p → G a = upd F p (.lst (xs ++ [.str "more"])) a) → DpAll K G (xs ++ [.str "more"]) (ds ++ [.str "more"]) := fun G hG => dpAll_app (hdp G fun a ha => (hG a ha).trans (old a ha)) (.cons (.str _) .nil)
            refine ⟨_, hv, ⟨rfl, .inl (.lst (SqL.of upd_same) (key _ fun _ _ => rfl))⟩, fun p' ds' e1 e2 => ?_⟩
            have e1 : PyData.list (ds ++ [.str "more"]) = .list ds' := e1
            cases e2
            cases e1
            refine ⟨⟨n0, n1⟩, _, upd_same, key, fun u hu e he => ?_⟩
            rcases List.mem_append.mp hu with hu | hu
            · obtain ⟨ys, hy2⟩ := hit u hu e he
              by_cases ha : e = p
              · subst ha; exact ⟨_, upd_same⟩
              · exact ⟨ys, by rw [upd_ne ha]; exact hy2⟩
            · rw [List.mem_singleton.mp hu] at he; cases he
        · rcases Γ3_get h1 with ⟨_, z⟩ | ⟨_, z⟩ | ⟨_, z⟩ <;> cases z
        · unfold Γ3
          rw [List.length_set, List.length_set, List.length_set, List.length_replicate]
          exact ok.ln
      exact h2 _ s r s2 hr1 σ _ _ okn D (fun _ _ _ _ z => by cases z) rt
    · cases hg
  · cases hg
theorem sk_pick {K : Frag} {ρ : Type} {B : Base Pu} {Γ : Env} {tr : TA} {E : XK} {RT : ρ → Hp → Hp → V → Prop} {p : Addr} {i0 i : Nat} {mx : (List PyData → Stm Pu ρ) → Stm Pu ρ} {f : List V → Stm Pu V} (draw : Int → Stm Pu Int) (hf : ∀ vs, f vs = draw (vs.length : Int) >>= fun i => PyM.up (atM vs i) >>= fun g => pure g) (hB : IsS B p pcell) (hx : EvGA (M := Stm Pu) B K tr Γ mx) (h0 : Γ[i0]? = some (some (adE p)) := by rfl) :
    SK (M := Stm Pu) (β := Giv) B RT (tAsg (tCall (spS K pcell (fun x : List V × Unit => f x.1)) [] E (tCons (tVar i0) (tCons (tLst tr) tNil))) (gName i)) Γ (fun k => mx fun ds => PyM.up (szM ds.length) >>= fun _ => draw (ds.length : Int) >>= fun i => allV fun v => PyM.up (atM ds i) >>= fun d => k ⟨v, d⟩) (fun g => Γ.set i (some (imE K (GivB.mk g : GivB (NB B))))) := fun k s r s2 hr σ F H ok D nx rt =>
  sk_giv (RT := RT) (ev_pick draw hf hB hx h0) k s r s2 hr σ F H ok D nx rt
theorem ev_gbv {K : Frag} {M : Type → Type} {S : Type} [PyM M S] {ρ : Type} {B : Base S} {Γ : Env} {j : Nat} {N : Addr → Prop} {g : Giv} (hj : Γ[j]? = some (some (imE K (GivB.mk g : GivB N)))) : EvK (M := M) (ρ := ρ) K B (tVar j) Γ (fun k => k g) := fun k s r s2 hr σ F H ok Q q => by
  obtain ⟨v, hv, hr'⟩ := ok.ev j _ hj
  exact ⟨v, hv, q g s v F H hr ok.st0 ok hr'.1⟩
end SP
namespace SP
open PySem PySem.W L2
abbrev xns : List Str := ["InvalidArea", "InvalidPlate", "InvalidPoint", "InvalidLength", "InvalidFactor", "InvalidFlag"]
def excB (K : Frag) (D : Addr) : Bool :=
  decide (findIn K (.ref D) "__getattribute__" = some (some (.builtin "BaseException.__getattribute__"))) && (decide (findIn K (.ref D) "__getattr__" = some none) && (decide (subIn K (.ref D) (.type "BaseException") = some true) && (hasDictIn K D && (decide (findIn K (.ref D) "__class__" = some (some (.builtin "object.__class__"))) &&
  (decide (specialIn K (.builtin "object.__class__") "__get__" = some (some (.builtin "getset_descriptor.__get__"))) && (decide (takesIn K (.builtin "object.__class__") = some true) && (decide (mroIn K D (.type "object") = some true) && decide (findIn K (.ref D) "value" = some none))))))))
theorem excB_ok {K : Frag} {D : Addr} (h : excB K D = true) : ExcC K D ∧ XfC K D ∧ findIn K (.ref D) "value" = some none := by
  obtain ⟨h1, h⟩ := He.ba h
  obtain ⟨h2, h⟩ := He.ba h
  obtain ⟨h3, h⟩ := He.ba h
  obtain ⟨h4, h⟩ := He.ba h
  obtain ⟨h5, h⟩ := He.ba h
  obtain ⟨h6, h⟩ := He.ba h
  obtain ⟨h7, h⟩ := He.ba h
  obtain ⟨h8, h9⟩ := He.ba h
  exact ⟨⟨of_decide_eq_true h1, of_decide_eq_true h2, of_decide_eq_true h3, h4, of_decide_eq_true h5, of_decide_eq_true h6, of_decide_eq_true h7, of_decide_eq_true h8⟩, ⟨of_decide_eq_true h1, of_decide_eq_true h2, of_decide_eq_true h3, h4⟩, of_decide_eq_true h9⟩
def kitB2 (K : Frag) (c : Str) : Bool := (xns.all fun n => decide (kitOne K (.ref (He.ga K c)) (.ref (He.ga K n)) = some (decide (c = n)))) && (decide (kitOne K (.ref (He.ga K c)) (.ref (He.ga K "SlidePlatesError")) = some true) && decide (kitOne K (.ref (He.ga K c)) (.type "ValueError") = some true))
def sysB (K : Frag) : Bool := match K.lookup sysModules with
  | some o => decide (o.cls = .type "dict")
  | none => false
def xaB (K : Frag) : Bool := (xns.all fun c => excB K (He.ga K c) && kitB2 K c) && sysB K
structure XaOk (K : Frag) : Prop where
  xc : XcAll K xns
  xk : ∀ n ∈ xns, ∀ c ∈ xns, kitOne K (.ref (He.ga K c)) (.ref (He.ga K n)) = some (decide (c = n))
  xs : ∀ c ∈ xns, kitOne K (.ref (He.ga K c)) (.ref (He.ga K "SlidePlatesError")) = some true
  xv : ∀ c ∈ xns, kitOne K (.ref (He.ga K c)) (.type "ValueError") = some true
  sys : SysK K
theorem xaB_ok {K : Frag} (h : xaB K = true) : XaOk K := by
  obtain ⟨h1, h2⟩ := He.ba h
  have h1 := List.all_eq_true.mp h1
  have e := fun c hc => excB_ok (He.ba (h1 c hc)).1
  have k := fun c hc => He.ba (He.ba (h1 c hc)).2
  refine ⟨⟨fun c hc => (e c hc).1, fun c hc => (e c hc).2.1, fun c hc => (e c hc).2.2⟩, fun n hn c hc => of_decide_eq_true (List.all_eq_true.mp (k c hc).1 n hn), fun c hc => of_decide_eq_true (He.ba (k c hc).2).1, fun c hc => of_decide_eq_true (He.ba (k c hc).2).2, ?_⟩
  unfold sysB at h2
  split at h2
  · rename_i o ho
    exact ⟨o, ho, of_decide_eq_true h2⟩
  · cases h2
def dnB (K : Frag) (a : Addr) : Bool := match dvOf K a with
  | some (_, _, v, _) => decide (v = .none)
  | none => false
def xuB (K : Frag) (x : XcD) : Bool := xcB K x && dnB K (x.at_ K)
theorem dnB_ok {K : Frag} {a : Addr} (h : dnB K a = true) : ∃ oc od fd osl T o n, K.lookup a = some ⟨oc, od, .func fd, osl⟩ ∧ fd.defaults = .ref T ∧ K.lookup T = some o ∧ o.data = .seq #[.none] n := by
  unfold dnB at h
  cases hd : dvOf K a with
  | none => rw [hd] at h; cases h
  | some q =>
    rw [hd] at h
    obtain ⟨T0, o0, v0, n0⟩ := q
    have hv : v0 = .none := of_decide_eq_true h
    subst hv
    unfold dvOf at hd
    split at hd
    · rename_i oc od fd osl ho
      split at hd
      · rename_i T hT
        split at hd
        · rename_i o hl
          split at hd
          · rename_i its n hdat
            split at hd
            · rename_i v hv
              cases hd
              refine ⟨oc, od, fd, osl, T0, o0, n0, ho, hT, hl, ?_⟩
              rw [hdat]
              obtain ⟨l⟩ := its
              simp only at hv
              rw [hv]
            · cases hd
          · cases hd
        · cases hd
      · cases hd
    · cases hd
theorem xu_ok {P : Program} {K : Frag} {mg : Str → Option Value} {x : XcD} (h : xuB K x = true) (e : fnC K (x.at_ K) = x.val) (EA : SX.ExA x.d.qual x.d.params x.d.body x.d.scope) (EB : SX.ExA2 x.d.qual x.d.params x.d.body x.d.scope) (su : mg "super" = none) (top : (P.main.scope.names.lookup ("super" : Str)).isSome = false) (hf : ((P.main.file : Str) == x.file) = true) :
    SX.ExU P K mg (He.ga K x.c) (x.at_ K) := by
  obtain ⟨h1, h2⟩ := He.ba h
  obtain ⟨T, _⟩ := xc_ok (P := P) (mg := mg) h1 e EA su top hf
  refine ⟨T.c, T.ini, T.tI, T.su, T.top, ?_⟩
  obtain ⟨_, _, fd', _, dT, dO, dn, ho', hdf, hdT, hdO⟩ := dnB_ok h2
  obtain ⟨qual, params, body, scope, cc, cda, oc, od, osl, dT2, dO2, dv, dn2, kV, doc, pm, ct, an, ccl, cdd, vs, ccs, file, tf, cl, cld, csl, _, hf2, hcd, hcode, hvs, hfile, hcell, hdT2, hdO2⟩ := T.fn
  rw [hf2] at ho'
  injection ho' with ho'
  injection ho' with _ _ q _
  injection q with q
  subst q
  have edT : dT2 = dT := Value.ref.inj hdf
  subst edT
  rw [hdT2] at hdT
  cases hdT
  unfold fnC at e
  rw [hf2] at e
  have e2 : (some (("__init__" : Str), qual, params, .stmts body, scope, mainGlobals, [("__class__" : Str)], builtinsNs) : FnC) = some (("__init__" : Str), x.d.qual, x.d.params, .stmts x.d.body, x.d.scope, mainGlobals, [("__class__" : Str)], builtinsNs) := e
  simp only [Option.some.injEq, Prod.mk.injEq, FuncBody.stmts.injEq, true_and, and_true] at e2
  obtain ⟨g1, g2, g3, g4⟩ := e2
  subst g1 g2 g3 g4
  exact ⟨_, _, _, _, cc, cda, oc, od, osl, dT2, _, dn, kV, doc, pm, ct, an, ccl, cdd, vs, ccs, file, tf, cl, cld, csl, EA, EB, hf2, hcd, hcode, hvs, hfile, hcell, hdT2, hdO⟩
def obsU (as : List Addr) (fa : List He.Fa) (fn : List He.DefD) (fx : List Fx) (gt : List GetD) (xs : List XcD) (g : Addr → Option Obj) : AlE :=
  (obsT as fa fn fx gt g, ((xs.all fun x => xuB (He.frG g as) x) && xaB (He.frG g as), xs.map fun x => fnC (He.frG g as) (x.at_ (He.frG g as))))
structure SaysU (fa : List He.Fa) (fn : List He.DefD) (fx : List Fx) (gt : List GetD) (xs : List XcD) (K : Frag) : Prop where
  t : SaysT fa fn fx gt K
  x : ((xs.all fun x => xuB K x) && xaB K) = true
  g : (xs.map fun x => fnC K (x.at_ K)) = xs.map XcD.val
def hookU (as : List Addr) (fa : List He.Fa) (fn : List He.DefD) (fx : List Fx) (gt : List GetD) (xs : List XcD) : PySem.W.Hook where
  α := AlE
  obs := fun s => obsU as fa fn fx gt xs s.heap.get?
  val := fun _ => ((He.valD fn, (true, gt.map fun d => d.d.val)), (true, xs.map XcD.val))
  says := fun _ h => ∃ K : Frag, K.In h ∧ SaysU fa fn fx gt xs K
  of := fun _ s e => ⟨He.frG s.heap.get? as, He.frG_in, ⟨congrArg (fun z : AlE => z.1.1) e, congrArg (fun z : AlE => z.1.2.1) e, by
    have h : (gt.map fun d => fnAt (He.frG s.heap.get? as) (prG (He.frG s.heap.get? as) (He.ga (He.frG s.heap.get? as) d.c) d.f)) = gt.map fun d => d.d.val := congrArg (fun z : AlE => z.1.2.2) e
    exact h⟩, congrArg (fun z : AlE => z.2.1) e, congrArg (fun z : AlE => z.2.2) e⟩
  keeps := fun _ _ _ ⟨K, hK, c⟩ k => ⟨K, PySem.W.Frag.In.keeps hK k, c⟩
theorem obsU_eq {as : List Addr} {fa : List He.Fa} {fn : List He.DefD} {fx : List Fx} {gt : List GetD} {xs : List XcD} {g : Addr → Option Obj} {s : Shared} (h : ∀ a, g a = s.heap.get? a) : obsU as fa fn fx gt xs g = (hookU as fa fn fx gt xs).obs s := by
  have e : g = s.heap.get? := funext h
  rw [e] <;> rfl
abbrev AlU : Type := AlE
theorem SaysU.exc {fa : List He.Fa} {fn : List He.DefD} {fx : List Fx} {gt : List GetD} {xs : List XcD} {K : Frag} (c : SaysU fa fn fx gt xs K) (i : Nat) {x : XcD} (h : xs[i]? = some x := by rfl) : xuB K x = true ∧ fnC K (x.at_ K) = x.val := by
  have h2 : (xs.map fun x => fnC K (x.at_ K))[i]? = (xs.map XcD.val)[i]? := by rw [c.g]
  rw [List.getElem?_map, List.getElem?_map, h] at h2
  exact ⟨List.all_eq_true.mp (He.ba c.x).1 x (List.mem_of_getElem? h), Option.some.inj h2⟩
theorem SaysU.all {fa : List He.Fa} {fn : List He.DefD} {fx : List Fx} {gt : List GetD} {xs : List XcD} {K : Frag} (c : SaysU fa fn fx gt xs K) : XaOk K := xaB_ok (He.ba c.x).2
end SP
namespace SP
open PySem PySem.Spec PyProof.Rows L2
section
variable {K : Frag} {M : Type → Type} {S : Type} [PyM M S] {ρ : Type} {B : Base S} {Γ : Env}
theorem ev_gnon : EvK (M := M) (ρ := ρ) K B (tC .non) Γ (fun k => k (Giv.mk .non .none)) := ev_k fun _ => ⟨rfl, .inl .non⟩
end
theorem boot_ValueError : bootBuiltins "ValueError" = some (.type "ValueError") := by first | rfl | kernel_rfl | decide +kernel
end SP
namespace SP
open PySem PySem.Spec PyProof.Rows L2
def top (i : Nat) : Stmt := PySem.Challenge.pw_slideplates_k01_errors_made.main.body.getD i (.Pass ⟨0, 0, 0, 0⟩)
def hd0 : He.DefD := ⟨("_law_purse", none), "_law_purse", "_law_purse", defArgs (top 9), defBody (top 9), defScope (top 9), [], []⟩
def hd1 : He.DefD := ⟨("_law_draw", none), "_law_draw", "_law_draw", defArgs (top 10), defBody (top 10), defScope (top 10), [], []⟩
def hd2 : He.DefD := ⟨("_law_pick", none), "_law_pick", "_law_pick", defArgs (top 11), defBody (top 11), defScope (top 11), [], []⟩
def hd3 : He.DefD := ⟨("_law_classes", none), "_law_classes", "_law_classes", defArgs (top 12), defBody (top 12), defScope (top 12), [], []⟩
def hd4 : He.DefD := ⟨("_law_right", none), "_law_right", "_law_right", defArgs (top 13), defBody (top 13), defScope (top 13), [], []⟩
def hd5 : He.DefD := ⟨("law", none), "law", "law", defArgs (top 14), defBody (top 14), defScope (top 14), [], []⟩
def hfn0 : List He.DefD := [hd0, hd1, hd2, hd3, hd4, hd5]
def hfn : List He.DefD := hfn0
def hgt0 : List GetD := []
def hgt : List GetD := hgt0
def hfa0 : List He.Fa := [.free "ValueError", .free "int", .free "isinstance", .free "len", .free "list", .free "max", .free "range", .free "repr", .free "super", .glo "InvalidArea", .glo "InvalidFactor", .glo "InvalidFlag", .glo "InvalidLength", .glo "InvalidPlate", .glo "InvalidPoint", .glo "SlidePlatesError", .glo "_law_purse", .glo "_law_draw", .glo "_law_pick", .glo "_law_classes", .glo "_law_right", .glo "law"]
def hfa : List He.Fa := hfa0
def hfx0 : List Fx := []
def hfx : List Fx := hfx0
def hx0 : XcD := ⟨"InvalidArea", "SlidePlatesError", ⟨("InvalidArea", some "__init__"), "__init__", "InvalidArea.__init__", defArgs (inClass (top 2) 0), defBody (inClass (top 2) 0), defScope (inClass (top 2) 0), [.non], []⟩, PySem.Challenge.pw_slideplates_k01_errors_made.main.file⟩
theorem exa_0 : SX.ExA "InvalidArea.__init__" (defArgs (inClass (top 2) 0)) (defBody (inClass (top 2) 0)) (defScope (inClass (top 2) 0)) where
  bd := ⟨_, _, _, _, _, _, _, _, _, _, rfl, fun L f cd cc => ⟨rfl, rfl, ⟨_, rfl⟩⟩⟩
  ar := ⟨_, rfl, rfl⟩
  su := rfl
  cl := rfl
  se := rfl
  va := rfl
  ki := rfl
  co := rfl
  ge := rfl
  ce := by decide +kernel
  bi := fun T kV doc pm an cdv ct cc a v d => ⟨_, rfl, rfl⟩
theorem exb_0 : SX.ExA2 "InvalidArea.__init__" (defArgs (inClass (top 2) 0)) (defBody (inClass (top 2) 0)) (defScope (inClass (top 2) 0)) where
  bk := fun T kV doc pm an cdv ct cc a v d => ⟨_, rfl, rfl⟩
  b0 := fun T kV doc pm an cdv ct cc a d => ⟨_, rfl, rfl⟩
def hx1 : XcD := ⟨"InvalidPlate", "SlidePlatesError", ⟨("InvalidPlate", some "__init__"), "__init__", "InvalidPlate.__init__", defArgs (inClass (top 3) 0), defBody (inClass (top 3) 0), defScope (inClass (top 3) 0), [.non], []⟩, PySem.Challenge.pw_slideplates_k01_errors_made.main.file⟩
theorem exa_1 : SX.ExA "InvalidPlate.__init__" (defArgs (inClass (top 3) 0)) (defBody (inClass (top 3) 0)) (defScope (inClass (top 3) 0)) where
  bd := ⟨_, _, _, _, _, _, _, _, _, _, rfl, fun L f cd cc => ⟨rfl, rfl, ⟨_, rfl⟩⟩⟩
  ar := ⟨_, rfl, rfl⟩
  su := rfl
  cl := rfl
  se := rfl
  va := rfl
  ki := rfl
  co := rfl
  ge := rfl
  ce := by decide +kernel
  bi := fun T kV doc pm an cdv ct cc a v d => ⟨_, rfl, rfl⟩
theorem exb_1 : SX.ExA2 "InvalidPlate.__init__" (defArgs (inClass (top 3) 0)) (defBody (inClass (top 3) 0)) (defScope (inClass (top 3) 0)) where
  bk := fun T kV doc pm an cdv ct cc a v d => ⟨_, rfl, rfl⟩
  b0 := fun T kV doc pm an cdv ct cc a d => ⟨_, rfl, rfl⟩
def hx2 : XcD := ⟨"InvalidPoint", "SlidePlatesError", ⟨("InvalidPoint", some "__init__"), "__init__", "InvalidPoint.__init__", defArgs (inClass (top 4) 0), defBody (inClass (top 4) 0), defScope (inClass (top 4) 0), [.non], []⟩, PySem.Challenge.pw_slideplates_k01_errors_made.main.file⟩
theorem exa_2 : SX.ExA "InvalidPoint.__init__" (defArgs (inClass (top 4) 0)) (defBody (inClass (top 4) 0)) (defScope (inClass (top 4) 0)) where
  bd := ⟨_, _, _, _, _, _, _, _, _, _, rfl, fun L f cd cc => ⟨rfl, rfl, ⟨_, rfl⟩⟩⟩
  ar := ⟨_, rfl, rfl⟩
  su := rfl
  cl := rfl
  se := rfl
  va := rfl
  ki := rfl
  co := rfl
  ge := rfl
  ce := by decide +kernel
  bi := fun T kV doc pm an cdv ct cc a v d => ⟨_, rfl, rfl⟩
theorem exb_2 : SX.ExA2 "InvalidPoint.__init__" (defArgs (inClass (top 4) 0)) (defBody (inClass (top 4) 0)) (defScope (inClass (top 4) 0)) where
  bk := fun T kV doc pm an cdv ct cc a v d => ⟨_, rfl, rfl⟩
  b0 := fun T kV doc pm an cdv ct cc a d => ⟨_, rfl, rfl⟩
def hx3 : XcD := ⟨"InvalidLength", "SlidePlatesError", ⟨("InvalidLength", some "__init__"), "__init__", "InvalidLength.__init__", defArgs (inClass (top 5) 0), defBody (inClass (top 5) 0), defScope (inClass (top 5) 0), [.non], []⟩, PySem.Challenge.pw_slideplates_k01_errors_made.main.file⟩
theorem exa_3 : SX.ExA "InvalidLength.__init__" (defArgs (inClass (top 5) 0)) (defBody (inClass (top 5) 0)) (defScope (inClass (top 5) 0)) where
  bd := ⟨_, _, _, _, _, _, _, _, _, _, rfl, fun L f cd cc => ⟨rfl, rfl, ⟨_, rfl⟩⟩⟩
  ar := ⟨_, rfl, rfl⟩
  su := rfl
  cl := rfl
  se := rfl
  va := rfl
  ki := rfl
  co := rfl
  ge := rfl
  ce := by decide +kernel
  bi := fun T kV doc pm an cdv ct cc a v d => ⟨_, rfl, rfl⟩
theorem exb_3 : SX.ExA2 "InvalidLength.__init__" (defArgs (inClass (top 5) 0)) (defBody (inClass (top 5) 0)) (defScope (inClass (top 5) 0)) where
  bk := fun T kV doc pm an cdv ct cc a v d => ⟨_, rfl, rfl⟩
  b0 := fun T kV doc pm an cdv ct cc a d => ⟨_, rfl, rfl⟩
def hx4 : XcD := ⟨"InvalidFactor", "SlidePlatesError", ⟨("InvalidFactor", some "__init__"), "__init__", "InvalidFactor.__init__", defArgs (inClass (top 6) 0), defBody (inClass (top 6) 0), defScope (inClass (top 6) 0), [.non], []⟩, PySem.Challenge.pw_slideplates_k01_errors_made.main.file⟩
theorem exa_4 : SX.ExA "InvalidFactor.__init__" (defArgs (inClass (top 6) 0)) (defBody (inClass (top 6) 0)) (defScope (inClass (top 6) 0)) where
  bd := ⟨_, _, _, _, _, _, _, _, _, _, rfl, fun L f cd cc => ⟨rfl, rfl, ⟨_, rfl⟩⟩⟩
  ar := ⟨_, rfl, rfl⟩
  su := rfl
  cl := rfl
  se := rfl
  va := rfl
  ki := rfl
  co := rfl
  ge := rfl
  ce := by decide +kernel
  bi := fun T kV doc pm an cdv ct cc a v d => ⟨_, rfl, rfl⟩
theorem exb_4 : SX.ExA2 "InvalidFactor.__init__" (defArgs (inClass (top 6) 0)) (defBody (inClass (top 6) 0)) (defScope (inClass (top 6) 0)) where
  bk := fun T kV doc pm an cdv ct cc a v d => ⟨_, rfl, rfl⟩
  b0 := fun T kV doc pm an cdv ct cc a d => ⟨_, rfl, rfl⟩
def hx5 : XcD := ⟨"InvalidFlag", "SlidePlatesError", ⟨("InvalidFlag", some "__init__"), "__init__", "InvalidFlag.__init__", defArgs (inClass (top 7) 0), defBody (inClass (top 7) 0), defScope (inClass (top 7) 0), [.non], []⟩, PySem.Challenge.pw_slideplates_k01_errors_made.main.file⟩
theorem exa_5 : SX.ExA "InvalidFlag.__init__" (defArgs (inClass (top 7) 0)) (defBody (inClass (top 7) 0)) (defScope (inClass (top 7) 0)) where
  bd := ⟨_, _, _, _, _, _, _, _, _, _, rfl, fun L f cd cc => ⟨rfl, rfl, ⟨_, rfl⟩⟩⟩
  ar := ⟨_, rfl, rfl⟩
  su := rfl
  cl := rfl
  se := rfl
  va := rfl
  ki := rfl
  co := rfl
  ge := rfl
  ce := by decide +kernel
  bi := fun T kV doc pm an cdv ct cc a v d => ⟨_, rfl, rfl⟩
theorem exb_5 : SX.ExA2 "InvalidFlag.__init__" (defArgs (inClass (top 7) 0)) (defBody (inClass (top 7) 0)) (defScope (inClass (top 7) 0)) where
  bk := fun T kV doc pm an cdv ct cc a v d => ⟨_, rfl, rfl⟩
  b0 := fun T kV doc pm an cdv ct cc a d => ⟨_, rfl, rfl⟩
def hxs : List XcD := [hx0, hx1, hx2, hx3, hx4, hx5]
def hads0 : List Addr := [3, 24, 47, 69, 91, 113, 135, 157, 166, 173, 180, 185, 190, 197, 23, 46, 68, 90, 112, 134, 156, 165, 172, 179, 184, 189, 196, 44, 66, 88]
def hads1 : List Addr := [110, 132, 154, 43, 36, 31, 65, 58, 53, 87, 80, 75, 109, 102, 97, 131, 124, 119, 153, 146, 141, 2, 1]
def hads : List Addr := hads0 ++ (hads1)
abbrev hR : PySem.W.OpenRow := PySem.W.OpenLaw.row PySem.Challenge.rw_slideplates_k01_errors_made
abbrev hhk : PySem.W.Hook := hookU hads hfa hfn hfx hgt hxs
def hob (s : PySem.W.SharedT) : AlU := obsU hads hfa hfn hfx hgt hxs (HandSHeadRun.getT s)
theorem hob_eq (s : PySem.W.SharedT) : hob s = hhk.obs s.abs := obsU_eq (HandSHeadRun.getT_eq s)
def hnames0 : List PySem.Str := ["SlidePlatesError", "InvalidArea", "InvalidPlate", "InvalidPoint", "InvalidLength", "InvalidFactor", "InvalidFlag", "_law_purse", "_law_draw", "_law_pick", "_law_classes", "_law_right"]
def hnames : List PySem.Str := hnames0
theorem hrun (w : World) : HandSHeadRun.RunEq hR (PySem.W.view hR.prog [14]) hhk hob 2270 hnames w := by
  intro os
  kernel_rfl
theorem htop : (PySem.Challenge.pw_slideplates_k01_errors_made.main.scope.names.lookup ("super" : Str)).isSome = false := by kernel_rfl
end SP
set_option synthInstance.maxSize 4096
namespace SP
open PySem PySem.Spec PyProof.Rows L2
def m_law_purse (law_script_1 : Script) (law_at_2 : Int) : Option (List Int) :=
  let law_cell_3 : Int := (0 : Int); (if decide (law_at_2 < (law_script_1.l.length : Int)) = true then (PyM.up (atM law_script_1.l law_at_2) >>= fun g_5 => let law_cell_4 : Int := g_5; pure law_cell_4) else (pure law_cell_3)) >>= fun (j_6 : Int) => PyM.up (powM (10 : Int) (18 : Int)) >>= fun m_8 => PyM.up (powM (10 : Int) (40 : Int)) >>= fun m_10 => PyM.up (powM m_10 (10 : Int)) >>= fun m_9 => PyM.up (modM (max (j_6 - m_8) (0 : Int)) m_9) >>= fun m_7 => PyM.up (mulM (7919 : Int) law_at_2) >>= fun m_12 => PyM.up (modM (j_6 + m_12) (2147483629 : Int)) >>= fun m_11 => pure ([m_7, m_11, (0 : Int)])
def m_law_draw (law_many_1 : Int) : Stm Pu Int :=
  getP (0 : Int) >>= fun g_24 => if decide ((0 : Int) < g_24) = true then (getP (0 : Int) >>= fun g_7 => PyM.up (modM g_7 law_many_1) >>= fun m_6 => let law_drawn_2 : Int := m_6; getP (0 : Int) >>= fun g_5 => PyM.up (divM g_5 law_many_1) >>= fun m_4 => setP (0 : Int) m_4 >>= fun z_3 => pure law_drawn_2) else (getP (2 : Int) >>= fun g_23 => let law_turn_8 : Int := (g_23 + (1 : Int)); setP (2 : Int) law_turn_8 >>= fun z_9 => getP (1 : Int) >>= fun g_20 => PyM.up (mulM (104729 : Int) law_turn_8) >>= fun m_21 => PyM.up (mulM law_turn_8 law_turn_8) >>= fun m_22 => PyM.up (mulM (g_20 + m_21) (m_22 + (7919 : Int))) >>= fun m_19 => PyM.up (modM m_19 (2147483629 : Int)) >>= fun m_18 => let law_number_10 : Int := m_18; PyM.up (mulM law_number_10 law_number_10) >>= fun m_17 => PyM.up (modM (m_17 + law_turn_8) (2147483587 : Int)) >>= fun m_16 => let law_number_11 : Int := m_16; PyM.up (mulM law_number_11 (48271 : Int)) >>= fun m_15 => PyM.up (modM m_15 (2147483647 : Int)) >>= fun m_14 => PyM.up (divM m_14 (64 : Int)) >>= fun m_13 => PyM.up (modM m_13 law_many_1) >>= fun m_12 => pure m_12)
def m_law_pick_0 (law_items_1 : (List V)) : Stm Pu V :=
  m_law_draw (law_items_1.length : Int) >>= fun r_3 => PyM.up (atM law_items_1 r_3) >>= fun g_2 => pure g_2
def m_law_classes (law_error_1 : Exv) : Option (List Int) :=
  PyM.up (isM xns "InvalidArea" law_error_1) >>= fun b_15 => PyM.up (isM xns "InvalidPlate" law_error_1) >>= fun b_16 => PyM.up (isM xns "InvalidPoint" law_error_1) >>= fun b_17 => let law_some_2 : (List Bool) := [b_15, b_16, b_17]; PyM.up (isM xns "InvalidLength" law_error_1) >>= fun b_12 => PyM.up (isM xns "InvalidFactor" law_error_1) >>= fun b_13 => PyM.up (isM xns "InvalidFlag" law_error_1) >>= fun b_14 => PyM.up (catM law_some_2 ([b_12, b_13, b_14])) >>= fun cat_11 => let law_some_3 : (List Bool) := cat_11; PyM.up (isA xns law_error_1) >>= fun b_10 => (if (!b_10) = true then pure true else PyM.up (isA xns law_error_1) >>= fun b_9 => pure (!b_9)) >>= fun b_8 => if b_8 = true then (pure ([] : (List Int))) else (PyM.up (rangeM 0 (law_some_3.length : Int)) >>= fun xs_7 => PyM.up (szM xs_7.length) >>= fun _ => compL (fun (law_at_4 : Int) => PyM.up (atM law_some_3 law_at_4) >>= fun g_5 => if g_5 = true then pure (some law_at_4) else pure none) xs_7 >>= fun ys_6 => pure ys_6)
def m_law_right (law_errors_1 : (List Exv)) (law_given_2 : Giv) : Option Bool :=
  PyM.up (szM law_errors_1.length) >>= fun _ => mapL (fun (law_error_3 : Exv) => PyM.up (valM xns law_error_3) >>= fun v_4 => pure v_4) law_errors_1 >>= fun ys_17 => let law_told_5 : (List V) := ys_17; PyM.up (reprV law_told_5 law_given_2) >>= fun s_14 => PyM.up (repM ([law_given_2.v]) (law_errors_1.length : Int)) >>= fun rep_16 => PyM.up (reprV rep_16 law_given_2) >>= fun s_15 => if (!decide (s_14 = s_15)) = true then (pure false) else (PyM.up (szM law_errors_1.length) >>= fun _ => mapL (fun (law_error_8 : Exv) => PyM.up (m_law_classes law_error_8) >>= fun r_9 => pure r_9) law_errors_1 >>= fun ys_11 => PyM.up (rangeM 0 (law_errors_1.length : Int)) >>= fun xs_13 => PyM.up (szM xs_13.length) >>= fun _ => mapL (fun (law_at_10 : Int) => pure ([law_at_10])) xs_13 >>= fun ys_12 => pure (decide (ys_11 = ys_12)))
noncomputable def m_law (law_script_1 : Script) : Option Bool :=
  PyM.up (m_law_purse law_script_1 (0 : Int)) >>= fun r_31 => (((PyM.up (powM (10 : Int) (6 : Int)) >>= fun m_26 => m_law_draw m_26 >>= fun r_25 => PyM.up (powM (10 : Int) (33 : Int)) >>= fun m_27 => PyM.up (mulM r_25 m_27) >>= fun m_24 => PyM.up (powM (10 : Int) (6 : Int)) >>= fun m_29 => m_law_draw m_29 >>= fun r_28 => let law_number_2 : Int := (m_24 + r_28); m_law_draw (9 : Int) >>= fun r_23 => PyM.up (smulM ("x") r_23) >>= fun rep_22 => PyM.up (szM ([PyData.none, PyData.bool true, PyData.int law_number_2, PyData.int ((0 : Int) - law_number_2), PyData.str rep_22, PyData.tuple [], PyData.list (List.map PyData.int ([law_number_2])), PyData.list (List.map (fun x => PyData.list (List.map PyData.str x)) ([([] : (List Str)), ["a"]])), PyData.dict []] : List PyData).length) >>= fun _ => m_law_draw (([PyData.none, PyData.bool true, PyData.int law_number_2, PyData.int ((0 : Int) - law_number_2), PyData.str rep_22, PyData.tuple [], PyData.list (List.map PyData.int ([law_number_2])), PyData.list (List.map (fun x => PyData.list (List.map PyData.str x)) ([([] : (List Str)), ["a"]])), PyData.dict []] : List PyData).length : Int) >>= fun i_4 => allV fun v_5 => PyM.up (atM ([PyData.none, PyData.bool true, PyData.int law_number_2, PyData.int ((0 : Int) - law_number_2), PyData.str rep_22, PyData.tuple [], PyData.list (List.map PyData.int ([law_number_2])), PyData.list (List.map (fun x => PyData.list (List.map PyData.str x)) ([([] : (List Str)), ["a"]])), PyData.dict []] : List PyData) i_4) >>= fun d_6 => let law_given_3 : Giv := Giv.mk v_5 d_6; let law_placed_7 : (List Exv) := [(Exv.mk "InvalidArea" law_given_3.v), (Exv.mk "InvalidPlate" law_given_3.v), (Exv.mk "InvalidPoint" law_given_3.v), (Exv.mk "InvalidLength" law_given_3.v), (Exv.mk "InvalidFactor" law_given_3.v)]; PyM.up (apM law_placed_7 (Exv.mk "InvalidFlag" law_given_3.v)) >>= fun law_placed_8 => let law_named_9 : (List Exv) := [(Exv.mk "InvalidArea" law_given_3.v), (Exv.mk "InvalidPlate" law_given_3.v), (Exv.mk "InvalidPoint" law_given_3.v), (Exv.mk "InvalidLength" law_given_3.v)]; PyM.up (catM law_named_9 ([(Exv.mk "InvalidFactor" law_given_3.v), (Exv.mk "InvalidFlag" law_given_3.v)])) >>= fun cat_21 => let law_named_10 : (List Exv) := cat_21; let law_bare_11 : (List Exv) := [(Exv.mk "InvalidArea" V.non), (Exv.mk "InvalidPlate" V.non), (Exv.mk "InvalidPoint" V.non), (Exv.mk "InvalidLength" V.non), (Exv.mk "InvalidFactor" V.non), (Exv.mk "InvalidFlag" V.non)]; PyM.up (m_law_right law_placed_8 law_given_3) >>= fun r_20 => (if (!r_20) = true then pure true else PyM.up (m_law_right law_named_10 law_given_3) >>= fun r_19 => (if (!r_19) = true then pure true else PyM.up (m_law_right law_bare_11 (Giv.mk V.non PyData.none)) >>= fun r_18 => pure (!r_18)) >>= fun b_17 => pure b_17) >>= fun b_16 => if b_16 = true then (pure false) else (if (isL law_given_3.d) = true then (PyM.up (moreM law_placed_8 law_named_10 law_given_3) >>= fun law_given_12 => PyM.up (m_law_right law_placed_8 law_given_12) >>= fun r_15 => (if r_15 = true then PyM.up (m_law_right law_named_10 law_given_12) >>= fun r_14 => pure r_14 else pure false) >>= fun b_13 => pure b_13) else (pure true))) : Stm Pu Bool) r_31).map (·.1)
end SP
set_option synthInstance.maxSize 4096
namespace SP
open PySem PySem.Spec PyProof.Rows L2

structure Tx (P : Program) (K : Frag) (mg : Str → Option Value) : Prop where
  b_ValueError : mg "ValueError" = none
  b_int : mg "int" = none
  b_isinstance : mg "isinstance" = none
  b_len : mg "len" = none
  b_list : mg "list" = none
  b_max : mg "max" = none
  b_range : mg "range" = none
  b_repr : mg "repr" = none
  gc_InvalidArea : mg "InvalidArea" = some (.ref (He.ga K "InvalidArea"))
  gc_InvalidFactor : mg "InvalidFactor" = some (.ref (He.ga K "InvalidFactor"))
  gc_InvalidFlag : mg "InvalidFlag" = some (.ref (He.ga K "InvalidFlag"))
  gc_InvalidLength : mg "InvalidLength" = some (.ref (He.ga K "InvalidLength"))
  gc_InvalidPlate : mg "InvalidPlate" = some (.ref (He.ga K "InvalidPlate"))
  gc_InvalidPoint : mg "InvalidPoint" = some (.ref (He.ga K "InvalidPoint"))
  gc_SlidePlatesError : mg "SlidePlatesError" = some (.ref (He.ga K "SlidePlatesError"))
  g_law_purse : mg "_law_purse" = some (.ref (He.fAd K ("_law_purse", none)))
  f_law_purse : ∃ fd, FunD K "_law_purse" "_law_purse" (defArgs (top 9)) (defBody (top 9)) (defScope (top 9)) [] [] (He.fAd K ("_law_purse", none)) fd
  g_law_draw : mg "_law_draw" = some (.ref (He.fAd K ("_law_draw", none)))
  f_law_draw : ∃ fd, FunD K "_law_draw" "_law_draw" (defArgs (top 10)) (defBody (top 10)) (defScope (top 10)) [] [] (He.fAd K ("_law_draw", none)) fd
  g_law_pick : mg "_law_pick" = some (.ref (He.fAd K ("_law_pick", none)))
  f_law_pick : ∃ fd, FunD K "_law_pick" "_law_pick" (defArgs (top 11)) (defBody (top 11)) (defScope (top 11)) [] [] (He.fAd K ("_law_pick", none)) fd
  g_law_classes : mg "_law_classes" = some (.ref (He.fAd K ("_law_classes", none)))
  f_law_classes : ∃ fd, FunD K "_law_classes" "_law_classes" (defArgs (top 12)) (defBody (top 12)) (defScope (top 12)) [] [] (He.fAd K ("_law_classes", none)) fd
  g_law_right : mg "_law_right" = some (.ref (He.fAd K ("_law_right", none)))
  f_law_right : ∃ fd, FunD K "_law_right" "_law_right" (defArgs (top 13)) (defBody (top 13)) (defScope (top 13)) [] [] (He.fAd K ("_law_right", none)) fd
  g_law : mg "law" = some (.ref (He.fAd K ("law", none)))
  f_law : ∃ fd, FunD K "law" "law" (defArgs (top 14)) (defBody (top 14)) (defScope (top 14)) [] [] (He.fAd K ("law", none)) fd
  xu_InvalidArea : SX.ExU P K mg (He.ga K "InvalidArea") (He.fAd K ("InvalidArea", some "__init__"))
  xu_InvalidPlate : SX.ExU P K mg (He.ga K "InvalidPlate") (He.fAd K ("InvalidPlate", some "__init__"))
  xu_InvalidPoint : SX.ExU P K mg (He.ga K "InvalidPoint") (He.fAd K ("InvalidPoint", some "__init__"))
  xu_InvalidLength : SX.ExU P K mg (He.ga K "InvalidLength") (He.fAd K ("InvalidLength", some "__init__"))
  xu_InvalidFactor : SX.ExU P K mg (He.ga K "InvalidFactor") (He.fAd K ("InvalidFactor", some "__init__"))
  xu_InvalidFlag : SX.ExU P K mg (He.ga K "InvalidFlag") (He.fAd K ("InvalidFlag", some "__init__"))
  xa : XaOk K
section
variable {P : Program} {w : World} {K : Frag} {mg : Str → Option Value} {base : Heap}
abbrev s_law_purse : Stmt := top 9
abbrev N_law_purse : List Str := ["_law_script", "_law_at", "_law_cell"]
theorem sc_law_purse : FnScope N_law_purse ["_law_script", "_law_at"] (defScope s_law_purse) := ⟨rfl, rfl, rfl, by decide +kernel, rfl, by decide +kernel, by decide +kernel⟩
theorem ok_law_purse (T : Tx P K mg) : ∃ fd, FnOk P w K mg base (L2.CX P w) 1 (He.fAd K ("_law_purse", none)) fd ["_law_script", "_law_at"] (spC K (fun x : Script × Int × Unit => m_law_purse x.1 x.2.1)) ∧ Binds K fd ["_law_script", "_law_at"] [] ∧ PySem.W.keepIn K (.ref (He.fAd K ("_law_purse", none))) = true ∧ mg "_law_purse" = some (.ref (He.fAd K ("_law_purse", none))) := by
  obtain ⟨fd, F⟩ := T.f_law_purse
  refine ⟨fd, ?_, F.bindsN (fun _ _ _ _ _ _ us hl => match us, hl with | [_, _], _ => rfl), F.kp, T.g_law_purse⟩
  refine F.ok sc_law_purse (fun vs H Q E h => spC_len vs H Q E h) (fun cdv A outer s H vs Q E hr h => ?_)
  refine ⟨?t, PSs.nox ?p, ?s⟩
  case p =>
   refine' pss_cons ?a1 ?a2
   case a1 => exact ps_set (i := 2) sc_law_purse.nd rfl (Or.inl rfl) pe_int
   case a2 =>
   refine' pss_cons ?a3 ?a4
   case a3 =>
    refine' ps_if ?a5 ?a6 pss_nil
    case a5 =>
     refine' pt_cmpR op_lt (pv 1) ?a7 (nomark _)
     case a7 => exact pe_callB (call_len_seqK (K := K) rfl) rfl T.b_len boot_len (pa_cons (pv 0) pa_nil)
    case a6 =>
    refine' pss_one ?a8
    case a8 => exact ps_set (i := 2) sc_law_purse.nd rfl (Or.inl rfl) (pe_ix (ix_listK (K := K) rfl) (pv 0) (pv 1) (fun _ _ => rfl))
   case a4 =>
   refine' pss_one ?a9
   case a9 =>
   refine' ps_ret ?a10
   case a10 =>
   refine' pe_lst ?a11
   case a11 =>
   refine' pa_cons ?a12 ?a13
   case a12 =>
    refine' pe_op op_mod ?a14 ?a15
    case a14 =>
     refine' pe_callTy call_int1 rfl T.b_int boot_int ?a16
     case a16 =>
     refine' pa_cons ?a17 pa_nil
     case a17 =>
     refine' pe_callB (call_max2 rfl) rfl T.b_max boot_max ?a18
     case a18 =>
     refine' pa_cons ?a19 ?a20
     case a19 => exact pe_op op_sub (pv 2) (pe_op op_powW pe_int pe_int)
     case a20 => exact pa_cons pe_int pa_nil
    case a15 => exact pe_op op_powW (pe_op op_powW pe_int pe_int) pe_int
   case a13 =>
   refine' pa_cons ?a21 ?a22
   case a21 =>
    refine' pe_op op_mod ?a23 pe_int
    case a23 =>
    refine' pe_callTy call_int1 rfl T.b_int boot_int ?a24
    case a24 =>
    refine' pa_cons ?a25 pa_nil
    case a25 => exact pe_op op_add (pv 2) (pe_op op_mulW pe_int (pv 1))
   case a22 => exact pa_cons pe_int pa_nil
  case s =>
    refine' body_C 1 (fun vs F x ha => by rw [ArgN.ok ha] <;> rfl) ?b0 vs H Q E h
    case b0 =>
      intro B x hP
      refine' st_conv ?c0 ?d0
      case c0 =>
       refine' st_cons ?a26 ?a27
       case a26 =>
        refine' sk_set (K := K) (α := Int) (i := 2) ?a28
        case a28 => exact ev_int (i := 0)
       case a27 =>
       intro law_cell_3
       refine' st_cons ?a29 ?a30
       case a29 =>
        refine' sk_if (β := Int) (out := fun (j_6 : Int) => [some (imE K (x.1 : Script)), some (imE K (x.2.1 : Int)), some (imE K (j_6 : Int))]) ?a31 ?a32 ?a33
        case a31 =>
         refine' et_val (K := K) ?a34
         case a34 =>
         refine' ev_opT (ot_B (g := fun i j => decide (i < j))) ?a35 ?a36
         case a35 => exact ev_var (i := 1) (d := (x.2.1 : Int)) rfl
         case a36 => exact ev_cbT ct_lenSc (ea_cons (α := Script) (X := Unit) (ev_var (i := 0) (d := (x.1 : Script)) rfl) ea_nil)
        case a32 =>
         refine' st_one ?a37 ?a38
         case a37 =>
          refine' sk_set (K := K) (α := Int) (i := 2) ?a39
          case a39 => exact ev_op op_ixSc (ev_var (i := 0) (d := (x.1 : Script)) rfl) (ev_var (i := 1) (d := (x.2.1 : Int)) rfl)
         case a38 =>
         intro law_cell_4
         exact st_end (r0 := law_cell_4) rfl (.keep (.keep (.keep .nil)))
        case a33 => exact st_end (r0 := law_cell_3) rfl (.keep (.keep (.keep .nil)))
       case a30 =>
       intro j_6
       refine' st_retC (K := K) (α := Int) (g := (fun a => a)) ?a40 (fun _ _ _ _ h => h)
       case a40 =>
       refine' ec_lst (α := Int) (X := Int × Int × Int × Unit) ?a41 (argn (by decide))
       case a41 =>
       refine' ea_cons (α := Int) (X := Int × Int × Unit) ?a42 ?a43
       case a42 =>
        refine' ev_op op_modP ?a44 ?a45
        case a44 =>
         refine' ev_cbT ct_int ?a46
         case a46 =>
         refine' ea_cons (α := Int) (X := Unit) ?a47 ea_nil
         case a47 =>
         refine' ev_cbT ct_max2 ?a48
         case a48 =>
         refine' ea_cons (α := Int) (X := Int × Unit) ?a49 ?a50
         case a49 => exact ev_opT (ot_I (g := fun i j => i - j)) (ev_var (i := 2) (d := (j_6 : Int)) rfl) (ev_op op_powP (ev_int (i := 10)) (ev_int (i := 18)))
         case a50 => exact ea_cons (α := Int) (X := Unit) (ev_int (i := 0)) ea_nil
        case a45 => exact ev_op op_powP (ev_op op_powP (ev_int (i := 10)) (ev_int (i := 40))) (ev_int (i := 10))
       case a43 =>
       refine' ea_cons (α := Int) (X := Int × Unit) ?a51 ?a52
       case a51 =>
        refine' ev_op op_modP ?a53 ?a54
        case a53 =>
         refine' ev_cbT ct_int ?a55
         case a55 =>
         refine' ea_cons (α := Int) (X := Unit) ?a56 ea_nil
         case a56 => exact ev_opT (ot_I (g := fun i j => i + j)) (ev_var (i := 2) (d := (j_6 : Int)) rfl) (ev_op op_mulP (ev_int (i := 7919)) (ev_var (i := 1) (d := (x.2.1 : Int)) rfl))
        case a54 => exact ev_int (i := 2147483629)
       case a52 => exact ea_cons (α := Int) (X := Unit) (ev_int (i := 0)) ea_nil
      case d0 => rfl
abbrev s_law_draw : Stmt := top 10
abbrev N_law_draw : List Str := ["_law_purse_here", "_law_many", "_law_drawn", "_law_turn", "_law_number"]
theorem sc_law_draw : FnScope N_law_draw ["_law_purse_here", "_law_many"] (defScope s_law_draw) := ⟨rfl, rfl, rfl, by decide +kernel, rfl, by decide +kernel, by decide +kernel⟩
theorem ok_law_draw (T : Tx P K mg) : ∃ fd, FnOk P w K mg base (L2.CX P w) 1 (He.fAd K ("_law_draw", none)) fd ["_law_purse_here", "_law_many"] (spS K pcell (fun x : Int × Unit => m_law_draw x.1)) ∧ Binds K fd ["_law_purse_here", "_law_many"] [] ∧ PySem.W.keepIn K (.ref (He.fAd K ("_law_draw", none))) = true ∧ mg "_law_draw" = some (.ref (He.fAd K ("_law_draw", none))) := by
  obtain ⟨fd, F⟩ := T.f_law_draw
  refine ⟨fd, ?_, F.bindsN (fun _ _ _ _ _ _ us hl => match us, hl with | [_, _], _ => rfl), F.kp, T.g_law_draw⟩
  refine F.ok sc_law_draw (fun vs H Q E h => spS_len vs H Q E h) (fun cdv A outer s H vs Q E hr h => ?_)
  refine ⟨?t, PSs.nox ?p, ?s⟩
  case p =>
   refine' pss_cons ?a1 ?a2
   case a1 =>
    refine' ps_if ?a3 ?a4 pss_nil
    case a3 => exact pt_cmpR op_gt (pe_ix (ix_listK (K := K) rfl) (pv 0) pe_int (fun _ _ => rfl)) pe_int (nomark _)
    case a4 =>
    refine' pss_cons ?a5 ?a6
    case a5 =>
     refine' ps_set (i := 2) sc_law_draw.nd rfl (Or.inl rfl) ?a7
     case a7 =>
     refine' pe_op op_mod ?a8 (pv 1)
     case a8 =>
     refine' pe_callTy call_int1 rfl T.b_int boot_int ?a9
     case a9 => exact pa_cons (pe_ix (ix_listK (K := K) rfl) (pv 0) pe_int (fun _ _ => rfl)) pa_nil
    case a6 =>
    refine' pss_cons ?a10 ?a11
    case a10 =>
     refine' ps_asg ?a12 ?a13
     case a12 => exact pe_op op_fdivW (pe_ix (ix_listK (K := K) rfl) (pv 0) pe_int (fun _ _ => rfl)) (pv 1)
     case a13 => exact pg_sub (pv 0) pe_int set_list
    case a11 =>
    refine' pss_one ?a14
    case a14 => exact ps_ret (pv 2)
   case a2 =>
   refine' pss_cons ?a15 ?a16
   case a15 =>
    refine' ps_set (i := 3) sc_law_draw.nd rfl (Or.inl rfl) ?a17
    case a17 => exact pe_op op_add (pe_ix (ix_listK (K := K) rfl) (pv 0) pe_int (fun _ _ => rfl)) pe_int
   case a16 =>
   refine' pss_cons ?a18 ?a19
   case a18 => exact ps_asg (pv 3) (pg_sub (pv 0) pe_int set_list)
   case a19 =>
   refine' pss_cons ?a20 ?a21
   case a20 =>
    refine' ps_set (i := 4) sc_law_draw.nd rfl (Or.inl rfl) ?a22
    case a22 =>
    refine' pe_op op_mod ?a23 pe_int
    case a23 =>
    refine' pe_callTy call_int1 rfl T.b_int boot_int ?a24
    case a24 =>
    refine' pa_cons ?a25 pa_nil
    case a25 =>
    refine' pe_op op_mulW ?a26 ?a27
    case a26 =>
     refine' pe_op op_add ?a28 ?a29
     case a28 => exact pe_ix (ix_listK (K := K) rfl) (pv 0) pe_int (fun _ _ => rfl)
     case a29 => exact pe_op op_mulW pe_int (pv 3)
    case a27 => exact pe_op op_add (pe_op op_mulW (pv 3) (pv 3)) pe_int
   case a21 =>
   refine' pss_cons ?a30 ?a31
   case a30 =>
    refine' ps_set (i := 4) sc_law_draw.nd rfl (Or.inl rfl) ?a32
    case a32 =>
    refine' pe_op op_mod ?a33 pe_int
    case a33 =>
    refine' pe_callTy call_int1 rfl T.b_int boot_int ?a34
    case a34 =>
    refine' pa_cons ?a35 pa_nil
    case a35 => exact pe_op op_add (pe_op op_mulW (pv 4) (pv 4)) (pv 3)
   case a31 =>
   refine' pss_one ?a36
   case a36 =>
   refine' ps_ret ?a37
   case a37 =>
   refine' pe_op op_mod ?a38 (pv 1)
   case a38 =>
   refine' pe_op op_fdivW ?a39 pe_int
   case a39 =>
   refine' pe_op op_mod ?a40 pe_int
   case a40 =>
   refine' pe_callTy call_int1 rfl T.b_int boot_int ?a41
   case a41 => exact pa_cons (pe_op op_mulW (pv 4) pe_int) pa_nil
  case s =>
    refine' body_S (cell := pcell) (f := fun x : Int × Unit => m_law_draw x.1) pcell_mono 3 (fun vs F x ha => by rw [ArgN.ok ha] <;> rfl) ?b0 vs H Q E h
    case b0 =>
      intro B p x hB
      refine' st_conv ?c0 ?d0
      case c0 =>
       refine' st_when ?a42 ?a43 ?a44
       case a42 =>
        refine' et_val (K := K) ?a45
        case a45 => exact ev_opT (ot_B (g := fun i j => decide (j < i))) (ev_getP (i0 := 0) hB (ev_int (i := 0))) (ev_int (i := 0))
       case a43 =>
        refine' st_cons ?a46 ?a47
        case a46 =>
         refine' sk_set (K := K) (α := Int) (i := 2) ?a48
         case a48 =>
         refine' ev_op op_modP ?a49 ?a50
         case a49 => exact ev_cbT ct_int (ea_cons (α := Int) (X := Unit) (ev_getP (i0 := 0) hB (ev_int (i := 0))) ea_nil)
         case a50 => exact ev_var (i := 1) (d := (x.1 : Int)) rfl
        case a47 =>
        intro law_drawn_2
        refine' st_cons ?a51 ?a52
        case a51 =>
         refine' sk_setP (K := K) (i0 := 0) (NXX := fun _ => none) hB ?a53 ?a54
         case a53 => exact ev_op op_divP (ev_getP (i0 := 0) hB (ev_int (i := 0))) (ev_var (i := 1) (d := (x.1 : Int)) rfl)
         case a54 => exact ev_int (i := 0)
        case a52 =>
        intro _
        refine' st_ret (K := K) (α := Int) (g := (fun a => a)) ?a55 (fun _ _ _ _ h => h)
        case a55 => exact ev_var (i := 2) (d := (law_drawn_2 : Int)) rfl
       case a44 =>
       refine' st_cons ?a56 ?a57
       case a56 =>
        refine' sk_set (K := K) (α := Int) (i := 3) ?a58
        case a58 => exact ev_opT (ot_I (g := fun i j => i + j)) (ev_getP (i0 := 0) hB (ev_int (i := 2))) (ev_int (i := 1))
       case a57 =>
       intro law_turn_8
       refine' st_cons ?a59 ?a60
       case a59 =>
        refine' sk_setP (K := K) (i0 := 0) (NXX := fun _ => none) hB ?a61 ?a62
        case a61 => exact ev_var (i := 3) (d := (law_turn_8 : Int)) rfl
        case a62 => exact ev_int (i := 2)
       case a60 =>
       intro _
       refine' st_cons ?a63 ?a64
       case a63 =>
        refine' sk_set (K := K) (α := Int) (i := 4) ?a65
        case a65 =>
        refine' ev_op op_modP ?a66 ?a67
        case a66 =>
         refine' ev_cbT ct_int ?a68
         case a68 =>
         refine' ea_cons (α := Int) (X := Unit) ?a69 ea_nil
         case a69 =>
         refine' ev_op op_mulP ?a70 ?a71
         case a70 =>
          refine' ev_opT (ot_I (g := fun i j => i + j)) ?a72 ?a73
          case a72 => exact ev_getP (i0 := 0) hB (ev_int (i := 1))
          case a73 => exact ev_op op_mulP (ev_int (i := 104729)) (ev_var (i := 3) (d := (law_turn_8 : Int)) rfl)
         case a71 => exact ev_opT (ot_I (g := fun i j => i + j)) (ev_op op_mulP (ev_var (i := 3) (d := (law_turn_8 : Int)) rfl) (ev_var (i := 3) (d := (law_turn_8 : Int)) rfl)) (ev_int (i := 7919))
        case a67 => exact ev_int (i := 2147483629)
       case a64 =>
       intro law_number_10
       refine' st_cons ?a74 ?a75
       case a74 =>
        refine' sk_set (K := K) (α := Int) (i := 4) ?a76
        case a76 =>
        refine' ev_op op_modP ?a77 ?a78
        case a77 =>
         refine' ev_cbT ct_int ?a79
         case a79 =>
         refine' ea_cons (α := Int) (X := Unit) ?a80 ea_nil
         case a80 => exact ev_opT (ot_I (g := fun i j => i + j)) (ev_op op_mulP (ev_var (i := 4) (d := (law_number_10 : Int)) rfl) (ev_var (i := 4) (d := (law_number_10 : Int)) rfl)) (ev_var (i := 3) (d := (law_turn_8 : Int)) rfl)
        case a78 => exact ev_int (i := 2147483587)
       case a75 =>
       intro law_number_11
       refine' st_ret (K := K) (α := Int) (g := (fun a => a)) ?a81 (fun _ _ _ _ h => h)
       case a81 =>
       refine' ev_op op_modP ?a82 ?a83
       case a82 =>
        refine' ev_op op_divP ?a84 ?a85
        case a84 =>
         refine' ev_op op_modP ?a86 ?a87
         case a86 =>
          refine' ev_cbT ct_int ?a88
          case a88 => exact ea_cons (α := Int) (X := Unit) (ev_op op_mulP (ev_var (i := 4) (d := (law_number_11 : Int)) rfl) (ev_int (i := 48271))) ea_nil
         case a87 => exact ev_int (i := 2147483647)
        case a85 => exact ev_int (i := 64)
       case a83 => exact ev_var (i := 1) (d := (x.1 : Int)) rfl
      case d0 => rfl
abbrev s_law_pick_0 : Stmt := top 11
abbrev N_law_pick_0 : List Str := ["_law_purse_here", "_law_items"]
theorem sc_law_pick_0 : FnScope N_law_pick_0 ["_law_purse_here", "_law_items"] (defScope s_law_pick_0) := ⟨rfl, rfl, rfl, by decide +kernel, rfl, by decide +kernel, by decide +kernel⟩
theorem ok_law_pick_0 (T : Tx P K mg) : ∃ fd, FnOk P w K mg base (L2.CX P w) 2 (He.fAd K ("_law_pick", none)) fd ["_law_purse_here", "_law_items"] (spS K pcell (fun x : (List V) × Unit => m_law_pick_0 x.1)) ∧ Binds K fd ["_law_purse_here", "_law_items"] [] ∧ PySem.W.keepIn K (.ref (He.fAd K ("_law_pick", none))) = true ∧ mg "_law_pick" = some (.ref (He.fAd K ("_law_pick", none))) := by
  obtain ⟨fd_law_draw, G_law_draw, b_law_draw, k_law_draw, q_law_draw⟩ := ok_law_draw (P := P) (w := w) (base := base) T
  obtain ⟨fd, F⟩ := T.f_law_pick
  refine ⟨fd, ?_, F.bindsN (fun _ _ _ _ _ _ us hl => match us, hl with | [_, _], _ => rfl), F.kp, T.g_law_pick⟩
  refine F.ok sc_law_pick_0 (fun vs H Q E h => spS_len vs H Q E h) (fun cdv A outer s H vs Q E hr h => ?_)
  refine ⟨?t, PSs.nox ?p, ?s⟩
  case p =>
   refine' pss_one ?a1
   case a1 =>
   refine' ps_ret ?a2
   case a2 =>
   refine' pe_ix (ix_listK (K := K) rfl) (pv 1) ?a3 (fun _ _ => rfl)
   case a3 =>
   refine' pe_call G_law_draw (hr.mono (by decide)) rfl q_law_draw k_law_draw b_law_draw .nil passL ?a4
   case a4 =>
   refine' pa_cons (pv 0) ?a5
   case a5 =>
   refine' pa_cons ?a6 pa_nil
   case a6 => exact pe_callB (call_len_seqK (K := K) rfl) rfl T.b_len boot_len (pa_cons (pv 1) pa_nil)
  case s =>
    refine' body_S (cell := pcell) (f := fun x : (List V) × Unit => m_law_pick_0 x.1) pcell_mono 0 (fun vs F x ha => by rw [ArgN.ok ha] <;> rfl) ?b0 vs H Q E h
    case b0 =>
      intro B p x hB
      refine' st_conv ?c0 ?d0
      case c0 =>
       refine' st_ret (K := K) (α := V) (g := (fun a => a)) ?a7 (fun _ _ _ _ h => h)
       case a7 =>
       refine' ev_op (op_ixL (α := V)) ?a8 ?a9
       case a8 => exact ev_var (i := 1) (d := (x.1 : (List V))) rfl
       case a9 =>
       refine' ev_callS (i0 := 0) hB ?a10
       case a10 =>
       refine' ea_cons (α := Int) (X := Unit) ?a11 ea_nil
       case a11 => exact ev_cbT (ct_lenL (α := V)) (ea_cons (α := (List V)) (X := Unit) (ev_var (i := 1) (d := (x.1 : (List V))) rfl) ea_nil)
      case d0 => rfl
abbrev s_law_classes : Stmt := top 12
abbrev N_law_classes : List Str := ["_law_error", "_law_some", "_law_at"]
theorem sc_law_classes : FnScope N_law_classes ["_law_error"] (defScope s_law_classes) := ⟨rfl, rfl, rfl, by decide +kernel, rfl, by decide +kernel, by decide +kernel⟩
theorem ok_law_classes (T : Tx P K mg) : ∃ fd, FnOk P w K mg base (L2.CX P w) 1 (He.fAd K ("_law_classes", none)) fd ["_law_error"] (spC K (fun x : Exv × Unit => m_law_classes x.1)) ∧ Binds K fd ["_law_error"] [] ∧ PySem.W.keepIn K (.ref (He.fAd K ("_law_classes", none))) = true ∧ mg "_law_classes" = some (.ref (He.fAd K ("_law_classes", none))) := by
  obtain ⟨fd, F⟩ := T.f_law_classes
  refine ⟨fd, ?_, F.bindsN (fun _ _ _ _ _ _ us hl => match us, hl with | [_], _ => rfl), F.kp, T.g_law_classes⟩
  refine F.ok sc_law_classes (fun vs H Q E h => spC_len vs H Q E h) (fun cdv A outer s H vs Q E hr h => ?_)
  refine ⟨?t, PSs.nox ?p, ?s⟩
  case p =>
   refine' pss_cons ?a1 ?a2
   case a1 =>
    refine' ps_set (i := 1) sc_law_classes.nd rfl (Or.inr rfl) ?a3
    case a3 =>
    refine' pe_lst ?a4
    case a4 =>
    refine' pa_cons ?a5 ?a6
    case a5 =>
     refine' pe_callB (call_isY (K := K) rfl) rfl T.b_isinstance boot_isinstance ?a7
     case a7 => exact pa_cons (pv 0) (pa_cons (pe_glob (v := V.ref (He.ga K "InvalidArea")) rfl T.gc_InvalidArea rfl) pa_nil)
    case a6 =>
    refine' pa_cons ?a8 ?a9
    case a8 =>
     refine' pe_callB (call_isY (K := K) rfl) rfl T.b_isinstance boot_isinstance ?a10
     case a10 => exact pa_cons (pv 0) (pa_cons (pe_glob (v := V.ref (He.ga K "InvalidPlate")) rfl T.gc_InvalidPlate rfl) pa_nil)
    case a9 =>
    refine' pa_cons ?a11 pa_nil
    case a11 =>
    refine' pe_callB (call_isY (K := K) rfl) rfl T.b_isinstance boot_isinstance ?a12
    case a12 => exact pa_cons (pv 0) (pa_cons (pe_glob (v := V.ref (He.ga K "InvalidPoint")) rfl T.gc_InvalidPoint rfl) pa_nil)
   case a2 =>
   refine' pss_cons ?a13 ?a14
   case a13 =>
    refine' ps_set (i := 1) sc_law_classes.nd rfl (Or.inr rfl) ?a15
    case a15 =>
    refine' pe_op op_cat (pv 1) ?a16
    case a16 =>
    refine' pe_lst ?a17
    case a17 =>
    refine' pa_cons ?a18 ?a19
    case a18 =>
     refine' pe_callB (call_isY (K := K) rfl) rfl T.b_isinstance boot_isinstance ?a20
     case a20 => exact pa_cons (pv 0) (pa_cons (pe_glob (v := V.ref (He.ga K "InvalidLength")) rfl T.gc_InvalidLength rfl) pa_nil)
    case a19 =>
    refine' pa_cons ?a21 ?a22
    case a21 =>
     refine' pe_callB (call_isY (K := K) rfl) rfl T.b_isinstance boot_isinstance ?a23
     case a23 => exact pa_cons (pv 0) (pa_cons (pe_glob (v := V.ref (He.ga K "InvalidFactor")) rfl T.gc_InvalidFactor rfl) pa_nil)
    case a22 =>
    refine' pa_cons ?a24 pa_nil
    case a24 =>
    refine' pe_callB (call_isY (K := K) rfl) rfl T.b_isinstance boot_isinstance ?a25
    case a25 => exact pa_cons (pv 0) (pa_cons (pe_glob (v := V.ref (He.ga K "InvalidFlag")) rfl T.gc_InvalidFlag rfl) pa_nil)
   case a14 =>
   refine' pss_cons ?a26 ?a27
   case a26 =>
    refine' ps_if ?a28 ?a29 pss_nil
    case a28 =>
     refine' PW.pt ?a30
     case a30 =>
     refine' pw_or ?a31 ?a32
     case a31 =>
      refine' pt_not ?a33
      case a33 =>
      refine' pt_val ?a34
      case a34 =>
      refine' pe_callB (call_isY (K := K) rfl) rfl T.b_isinstance boot_isinstance ?a35
      case a35 => exact pa_cons (pv 0) (pa_cons (pe_glob (v := V.ref (He.ga K "SlidePlatesError")) rfl T.gc_SlidePlatesError rfl) pa_nil)
     case a32 =>
     refine' pw_or1 ?a36
     case a36 =>
     refine' pt_not ?a37
     case a37 =>
     refine' pt_val ?a38
     case a38 =>
     refine' pe_callB (call_isY (K := K) rfl) rfl T.b_isinstance boot_isinstance ?a39
     case a39 => exact pa_cons (pv 0) (pa_cons (pe_bltn (v := V.ty "ValueError") rfl T.b_ValueError boot_ValueError rfl) pa_nil)
    case a29 =>
    refine' pss_one ?a40
    case a40 => exact ps_ret (pe_lst pa_nil)
   case a27 =>
   refine' pss_one ?a41
   case a41 =>
   refine' ps_ret ?a42
   case a42 =>
   refine' pe_lc (own := [("_law_at", 2)]) rfl sc_law_classes.nd ?a43 (blkOk_by (own := [("_law_at", 2)]) (by kernel_rfl)) ?a44 ?a45 ?a46
   case a43 =>
    refine' pi_range1 rfl T.b_range ?a47
    case a47 =>
    refine' pa_cons ?a48 pa_nil
    case a48 => exact pe_callB (call_len_seqK (K := K) rfl) rfl T.b_len boot_len (pa_cons (pv 1) pa_nil)
   case a44 =>
    intro _ _ _ _ _
    exact pg_name (i := 2) sc_law_classes.nd rfl (Or.inl rfl)
   case a45 =>
    intro _ _ _ _ _
    exact pts_one (pt_val (pe_ix (ix_listK (K := K) rfl) (pv 1) (pv 2) (fun _ _ => rfl)))
   case a46 =>
   intro _ _ _ _ _
   exact pv 2
  case s =>
    refine' body_C 2 (fun vs F x ha => by rw [ArgN.ok ha] <;> rfl) ?b0 vs H Q E h
    case b0 =>
      intro B x hP
      refine' st_conv ?c0 ?d0
      case c0 =>
       refine' st_cons ?a49 ?a50
       case a49 =>
        refine' sk_set (K := K) (α := (List Bool)) (i := 1) ?a51
        case a51 =>
        refine' ev_fz (α := Bool) ?a52
        case a52 =>
        refine' ec_lst (α := Bool) (X := Bool × Bool × Bool × Unit) ?a53 (argn (by decide))
        case a53 =>
        refine' ea_cons (α := Bool) (X := Bool × Bool × Unit) ?a54 ?a55
        case a54 => exact ev_isX (n := "InvalidArea") T.xa.xc (T.xa.xk "InvalidArea" (by decide +kernel)) (ev_var (i := 0) (d := (x.1 : Exv)) rfl)
        case a55 =>
        refine' ea_cons (α := Bool) (X := Bool × Unit) ?a56 ?a57
        case a56 => exact ev_isX (n := "InvalidPlate") T.xa.xc (T.xa.xk "InvalidPlate" (by decide +kernel)) (ev_var (i := 0) (d := (x.1 : Exv)) rfl)
        case a57 => exact ea_cons (α := Bool) (X := Unit) (ev_isX (n := "InvalidPoint") T.xa.xc (T.xa.xk "InvalidPoint" (by decide +kernel)) (ev_var (i := 0) (d := (x.1 : Exv)) rfl)) ea_nil
       case a50 =>
       intro law_some_2
       refine' st_cons ?a58 ?a59
       case a58 =>
        refine' sk_set (K := K) (α := (List Bool)) (i := 1) ?a60
        case a60 =>
        refine' ev_fz (α := Bool) ?a61
        case a61 =>
        refine' ec_op (oc_cat (α := Bool)) ?a62 ?a63
        case a62 => exact ev_var (i := 1) (d := (law_some_2 : (List Bool))) rfl
        case a63 =>
        refine' ev_fz (α := Bool) ?a64
        case a64 =>
        refine' ec_lst (α := Bool) (X := Bool × Bool × Bool × Unit) ?a65 (argn (by decide))
        case a65 =>
        refine' ea_cons (α := Bool) (X := Bool × Bool × Unit) ?a66 ?a67
        case a66 => exact ev_isX (n := "InvalidLength") T.xa.xc (T.xa.xk "InvalidLength" (by decide +kernel)) (ev_var (i := 0) (d := (x.1 : Exv)) rfl)
        case a67 =>
        refine' ea_cons (α := Bool) (X := Bool × Unit) ?a68 ?a69
        case a68 => exact ev_isX (n := "InvalidFactor") T.xa.xc (T.xa.xk "InvalidFactor" (by decide +kernel)) (ev_var (i := 0) (d := (x.1 : Exv)) rfl)
        case a69 => exact ea_cons (α := Bool) (X := Unit) (ev_isX (n := "InvalidFlag") T.xa.xc (T.xa.xk "InvalidFlag" (by decide +kernel)) (ev_var (i := 0) (d := (x.1 : Exv)) rfl)) ea_nil
       case a59 =>
       intro law_some_3
       refine' st_when ?a70 ?a71 ?a72
       case a70 =>
        refine' et_orJ ?a73 ?a74
        case a73 =>
         refine' et_not ?a75
         case a75 =>
         refine' et_B (K := K) ?a76
         case a76 => exact ev_isAC (n := "SlidePlatesError") T.xa.xc T.xa.xs (ev_var (i := 0) (d := (x.1 : Exv)) rfl)
        case a74 =>
        refine' et_not ?a77
        case a77 =>
        refine' et_B (K := K) ?a78
        case a78 => exact ev_isAT (n := "ValueError") T.xa.xc T.xa.xv (ev_var (i := 0) (d := (x.1 : Exv)) rfl)
       case a71 =>
        refine' st_retC (K := K) (α := Int) (g := (fun a => a)) ?a79 (fun _ _ _ _ h => h)
        case a79 => exact ec_lst (α := Int) (X := Unit) ea_nil arg0
       case a72 =>
       refine' st_retC (K := K) (α := Int) (g := (fun a => a)) ?a80 (fun _ _ _ _ h => h)
       case a80 =>
       refine' ec_lc (α := Int) (γ := Int) (vs := [2]) (is := [2]) ?a81 tg_name (by simp) ?a82 ?a83
       case a81 =>
        refine' wa_range1 ?a84
        case a84 =>
        refine' ea_cons (α := Int) (X := Unit) ?a85 ea_nil
        case a85 => exact ev_cbT (ct_lenL (α := Bool)) (ea_cons (α := (List Bool)) (X := Unit) (ev_var (i := 1) (d := (law_some_3 : (List Bool))) rfl) ea_nil)
       case a82 =>
        intro law_at_4
        refine' et_B (K := K) ?a86
        case a86 => exact ev_op (op_ixL (α := Bool)) (ev_var (i := 1) (d := (law_some_3 : (List Bool))) rfl) (ev_var (i := 2) (d := (law_at_4 : Int)) rfl)
       case a83 =>
       intro law_at_4
       exact ev_var (i := 2) (d := (law_at_4 : Int)) rfl
      case d0 => rfl
abbrev s_law_right : Stmt := top 13
abbrev N_law_right : List Str := ["_law_errors", "_law_given", "_law_told", "_law_error", "_law_at"]
theorem sc_law_right : FnScope N_law_right ["_law_errors", "_law_given"] (defScope s_law_right) := ⟨rfl, rfl, rfl, by decide +kernel, rfl, by decide +kernel, by decide +kernel⟩
theorem ok_law_right (T : Tx P K mg) : ∃ fd, FnOkG P w K mg base (L2.CX P w) 2 (He.fAd K ("_law_right", none)) fd ["_law_errors", "_law_given"] (spP K (fun x : (List Exv) × Giv × Unit => m_law_right x.1 x.2.1)) ∧ Binds K fd ["_law_errors", "_law_given"] [] ∧ PySem.W.keepIn K (.ref (He.fAd K ("_law_right", none))) = true ∧ mg "_law_right" = some (.ref (He.fAd K ("_law_right", none))) := by
  obtain ⟨fd_law_classes, G_law_classes, b_law_classes, k_law_classes, q_law_classes⟩ := ok_law_classes (P := P) (w := w) (base := base) T
  obtain ⟨fd, F⟩ := T.f_law_right
  refine ⟨fd, ?_, F.bindsN (fun _ _ _ _ _ _ us hl => match us, hl with | [_, _], _ => rfl), F.kp, T.g_law_right⟩
  refine okG F sc_law_right (fun vs H Q E h => spP_len vs H Q E h) (fun cdv A outer s H vs Q E hr hg h => ?_)
  refine ⟨?t, PSs.nox ?p, ?s⟩
  case p =>
   refine' pss_cons ?a1 ?a2
   case a1 =>
    refine' ps_setLc (i := 2) (own := [("_law_error", 3)]) (tt := tYes) rfl sc_law_right.nd rfl rfl (sw_true rfl rfl rfl (by decide +kernel)) ?a3 (blkOk_by (own := [("_law_error", 3)]) (by kernel_rfl)) ?a4 ?a5 ?a6
    case a3 => exact pi_listK (K := K) rfl (pv 0)
    case a4 =>
     intro _ _ _ _ _
     exact pg_name (i := 3) sc_law_right.nd rfl (Or.inl rfl)
    case a5 =>
     intro _ _ _ _ _
     exact pts_nil
    case a6 =>
    intro _ _ _ _ _
    exact pe_xw (K := K) rfl (pv 3)
   case a2 =>
   refine' pss_cons ?a7 ?a8
   case a7 =>
    refine' ps_if ?a9 ?a10 pss_nil
    case a9 =>
     refine' pt_cmpR op_ne ?a11 ?a12 (nomark _)
     case a11 => exact pe_callB (call_reprVK (K := K) rfl hg hr T.xa.sys) rfl T.b_repr boot_repr (pa_cons (pv 2) pa_nil)
     case a12 =>
     refine' pe_callB (call_reprVK (K := K) rfl hg hr T.xa.sys) rfl T.b_repr boot_repr ?a13
     case a13 =>
     refine' pa_cons ?a14 pa_nil
     case a14 =>
     refine' pe_op op_rep ?a15 ?a16
     case a15 => exact pe_lst (pa_cons (pv 1) pa_nil)
     case a16 => exact pe_callB (call_len_seqK (K := K) rfl) rfl T.b_len boot_len (pa_cons (pv 0) pa_nil)
    case a10 =>
    refine' pss_one ?a17
    case a17 => exact ps_ret pe_bl
   case a8 =>
   refine' pss_one ?a18
   case a18 =>
   refine' ps_ret ?a19
   case a19 =>
   refine' pe_cmpR (op_eqDK (K := K) rfl hr.units) ?a20 ?a21 (nomark _)
   case a20 =>
    refine' pe_lc (own := [("_law_error", 3)]) (tt := tYes) rfl sc_law_right.nd ?a22 (blkOk_by (own := [("_law_error", 3)]) (by kernel_rfl)) ?a23 ?a24 ?a25
    case a22 => exact pi_listK (K := K) rfl (pv 0)
    case a23 =>
     intro _ _ _ _ _
     exact pg_name (i := 3) sc_law_right.nd rfl (Or.inl rfl)
    case a24 =>
     intro _ _ _ _ _
     exact pts_nil
    case a25 =>
    intro _ _ _ _ _
    exact pe_call G_law_classes (hr.mono (by decide)) rfl q_law_classes k_law_classes b_law_classes .nil passL (pa_cons (pv 3) pa_nil)
   case a21 =>
   refine' pe_lc (own := [("_law_at", 4)]) (tt := tYes) rfl sc_law_right.nd ?a26 (blkOk_by (own := [("_law_at", 4)]) (by kernel_rfl)) ?a27 ?a28 ?a29
   case a26 =>
    refine' pi_range1 rfl T.b_range ?a30
    case a30 =>
    refine' pa_cons ?a31 pa_nil
    case a31 => exact pe_callB (call_len_seqK (K := K) rfl) rfl T.b_len boot_len (pa_cons (pv 0) pa_nil)
   case a27 =>
    intro _ _ _ _ _
    exact pg_name (i := 4) sc_law_right.nd rfl (Or.inl rfl)
   case a28 =>
    intro _ _ _ _ _
    exact pts_nil
   case a29 =>
   intro _ _ _ _ _
   exact pe_lst (pa_cons (pv 4) pa_nil)
  case s =>
    refine' body_P 3 (fun vs F x ha => by rw [ArgN.ok ha] <;> rfl) ?b0 vs H Q E h
    case b0 =>
      intro B x hP
      refine' st_conv ?c0 ?d0
      case c0 =>
       refine' st_cons ?a32 ?a33
       case a32 =>
        refine' sk_set (K := K) (α := (List V)) (i := 2) ?a34
        case a34 =>
        refine' ev_fz (α := V) ?a35
        case a35 =>
        refine' ec_lcN (α := Exv) (γ := V) (vs := [3]) (is := [3]) ?a36 tg_name (by simp) ?a37
        case a36 => exact wa_list (α := Exv) (ev_var (i := 0) (d := (x.1 : (List Exv))) rfl)
        case a37 =>
        intro law_error_3
        exact ev_xval T.xa.xc (ev_var (i := 3) (d := (law_error_3 : Exv)) rfl)
       case a33 =>
       intro law_told_5
       refine' st_when ?a38 ?a39 ?a40
       case a38 =>
        refine' et_val (K := K) ?a41
        case a41 =>
        refine' ev_opT ot_neS ?a42 ?a43
        case a42 => exact ev_reprV (j := 1) (g := x.2.1) rfl (ev_var (i := 2) (d := (law_told_5 : (List V))) rfl)
        case a43 =>
        refine' ev_reprV (j := 1) (g := x.2.1) rfl ?a44
        case a44 =>
        refine' ev_fz (α := V) ?a45
        case a45 =>
        refine' ec_op (oc_rep (α := V)) ?a46 ?a47
        case a46 =>
         refine' ev_fz (α := V) ?a48
         case a48 => exact ec_lst (α := V) (X := V × Unit) (ea_cons (α := V) (X := Unit) (ev_gv (ev_var (i := 1) (d := (x.2.1 : Giv)) rfl)) ea_nil) (argn (by decide))
        case a47 => exact ev_cbT (ct_lenL (α := Exv)) (ea_cons (α := (List Exv)) (X := Unit) (ev_var (i := 0) (d := (x.1 : (List Exv))) rfl) ea_nil)
       case a39 => exact st_ret (K := K) (α := Bool) (g := (fun a => a)) ev_bl (fun _ _ _ _ h => h)
       case a40 =>
       refine' st_ret (K := K) (α := Bool) (g := (fun a => a)) ?a49 (fun _ _ _ _ h => h)
       case a49 =>
       refine' ev_opT (ot_eqD (α := (List (List Int)))) ?a50 ?a51
       case a50 =>
        refine' ev_fz (α := (List Int)) ?a52
        case a52 =>
        refine' ec_lcN (α := Exv) (γ := (List Int)) (vs := [3]) (is := [3]) ?a53 tg_name (by simp) ?a54
        case a53 => exact wa_list (α := Exv) (ev_var (i := 0) (d := (x.1 : (List Exv))) rfl)
        case a54 =>
        intro law_error_8
        exact ev_fz (α := Int) (ec_call (ea_cons (α := Exv) (X := Unit) (ev_var (i := 3) (d := (law_error_8 : Exv)) rfl) ea_nil))
       case a51 =>
       refine' ev_fz (α := (List Int)) ?a55
       case a55 =>
       refine' ec_lcN (α := Int) (γ := (List Int)) (vs := [4]) (is := [4]) ?a56 tg_name (by simp) ?a57
       case a56 =>
        refine' wa_range1 ?a58
        case a58 =>
        refine' ea_cons (α := Int) (X := Unit) ?a59 ea_nil
        case a59 => exact ev_cbT (ct_lenL (α := Exv)) (ea_cons (α := (List Exv)) (X := Unit) (ev_var (i := 0) (d := (x.1 : (List Exv))) rfl) ea_nil)
       case a57 =>
       intro law_at_10
       exact ev_fz (α := Int) (ec_lst (α := Int) (X := Int × Unit) (ea_cons (α := Int) (X := Unit) (ev_var (i := 4) (d := (law_at_10 : Int)) rfl) ea_nil) (argn (by decide)))
      case d0 => rfl
abbrev s_law : Stmt := top 14
abbrev N_law : List Str := ["_law_script", "_law_purse_here", "_law_number", "_law_given", "_law_placed", "_law_named", "_law_bare"]
theorem sc_law : FnScope N_law ["_law_script"] (defScope s_law) := ⟨rfl, rfl, rfl, by decide +kernel, rfl, by decide +kernel, by decide +kernel⟩
theorem ok_law (T : Tx P K mg) {fd : FuncData} (F : FunD K "law" "law" (defArgs s_law) (defBody s_law) (defScope s_law) [] [] (He.fAd K ("law", none)) fd) : FnOkG P w K mg base (L2.CX P w) 3 (He.fAd K ("law", none)) fd ["_law_script"] (spP K (fun x : Script × Unit => m_law x.1)) := by
  obtain ⟨fd_law_purse, G_law_purse, b_law_purse, k_law_purse, q_law_purse⟩ := ok_law_purse (P := P) (w := w) (base := base) T
  obtain ⟨fd_law_draw, G_law_draw, b_law_draw, k_law_draw, q_law_draw⟩ := ok_law_draw (P := P) (w := w) (base := base) T
  obtain ⟨fd_law_pick_0, G_law_pick_0, b_law_pick_0, k_law_pick_0, q_law_pick_0⟩ := ok_law_pick_0 (P := P) (w := w) (base := base) T
  obtain ⟨fd_law_right, G_law_right, b_law_right, k_law_right, q_law_right⟩ := ok_law_right (P := P) (w := w) (base := base) T
  refine okG F sc_law (fun vs H Q E h => spP_len vs H Q E h) (fun cdv A outer s H vs Q E hr hg h => ?_)
  refine ⟨?t, PSs.nox ?p, ?s⟩
  case p =>
   refine' pss_cons ?a1 ?a2
   case a1 =>
    refine' ps_set (i := 1) sc_law.nd rfl (Or.inl rfl) ?a3
    case a3 =>
    refine' pe_call G_law_purse (hr.mono (by decide)) rfl q_law_purse k_law_purse b_law_purse .nil passL ?a4
    case a4 => exact pa_cons (pv 0) (pa_cons pe_int pa_nil)
   case a2 =>
   refine' pss_cons ?a5 ?a6
   case a5 =>
    refine' ps_set (i := 2) sc_law.nd rfl (Or.inl rfl) ?a7
    case a7 =>
    refine' pe_op op_add ?a8 ?a9
    case a8 =>
     refine' pe_op op_mulW ?a10 ?a11
     case a10 =>
      refine' pe_call G_law_draw (hr.mono (by decide)) rfl q_law_draw k_law_draw b_law_draw .nil passL ?a12
      case a12 =>
      refine' pa_cons (pv 1) ?a13
      case a13 => exact pa_cons (pe_op op_powW pe_int pe_int) pa_nil
     case a11 => exact pe_op op_powW pe_int pe_int
    case a9 =>
    refine' pe_call G_law_draw (hr.mono (by decide)) rfl q_law_draw k_law_draw b_law_draw .nil passL ?a14
    case a14 =>
    refine' pa_cons (pv 1) ?a15
    case a15 => exact pa_cons (pe_op op_powW pe_int pe_int) pa_nil
   case a6 =>
   refine' pss_cons ?a16 ?a17
   case a16 =>
    refine' ps_set (i := 3) sc_law.nd rfl (Or.inl rfl) ?a18
    case a18 =>
    refine' pe_call G_law_pick_0 (hr.mono (by decide)) rfl q_law_pick_0 k_law_pick_0 b_law_pick_0 .nil passL ?a19
    case a19 =>
    refine' pa_cons (pv 1) ?a20
    case a20 =>
    refine' pa_cons ?a21 pa_nil
    case a21 =>
    refine' pe_lst ?a22
    case a22 =>
    refine' pa_cons pe_non ?a23
    case a23 =>
    refine' pa_cons pe_bl ?a24
    case a24 =>
    refine' pa_cons (pv 2) ?a25
    case a25 =>
    refine' pa_cons ?a26 ?a27
    case a26 => exact pe_op op_sub pe_int (pv 2)
    case a27 =>
    refine' pa_cons ?a28 ?a29
    case a28 =>
     refine' pe_op op_smul pe_str ?a30
     case a30 =>
     refine' pe_call G_law_draw (hr.mono (by decide)) rfl q_law_draw k_law_draw b_law_draw .nil passL ?a31
     case a31 => exact pa_cons (pv 1) (pa_cons pe_int pa_nil)
    case a29 =>
    refine' pa_cons ?a32 ?a33
    case a32 => exact pe_tup pa_nil
    case a33 =>
    refine' pa_cons ?a34 ?a35
    case a34 => exact pe_lst (pa_cons (pv 2) pa_nil)
    case a35 =>
    refine' pa_cons ?a36 ?a37
    case a36 =>
     refine' pe_lst ?a38
     case a38 =>
     refine' pa_cons ?a39 ?a40
     case a39 => exact pe_lst pa_nil
     case a40 =>
     refine' pa_cons ?a41 pa_nil
     case a41 => exact pe_lst (pa_cons pe_str pa_nil)
    case a37 => exact pa_cons pe_dnewK pa_nil
   case a17 =>
   refine' pss_cons ?a42 ?a43
   case a42 =>
    refine' ps_set (i := 4) sc_law.nd rfl (Or.inl rfl) ?a44
    case a44 =>
    refine' pe_lst ?a45
    case a45 =>
    refine' pa_cons ?a46 ?a47
    case a46 => exact pe_excP T.xu_InvalidArea T.gc_InvalidArea hr (pa_cons (pv 3) pa_nil)
    case a47 =>
    refine' pa_cons ?a48 ?a49
    case a48 => exact pe_excP T.xu_InvalidPlate T.gc_InvalidPlate hr (pa_cons (pv 3) pa_nil)
    case a49 =>
    refine' pa_cons ?a50 ?a51
    case a50 => exact pe_excP T.xu_InvalidPoint T.gc_InvalidPoint hr (pa_cons (pv 3) pa_nil)
    case a51 =>
    refine' pa_cons ?a52 ?a53
    case a52 => exact pe_excP T.xu_InvalidLength T.gc_InvalidLength hr (pa_cons (pv 3) pa_nil)
    case a53 =>
    refine' pa_cons ?a54 pa_nil
    case a54 => exact pe_excP T.xu_InvalidFactor T.gc_InvalidFactor hr (pa_cons (pv 3) pa_nil)
   case a43 =>
   refine' pss_cons ?a55 ?a56
   case a55 =>
    refine' ps_expr ?a57
    case a57 =>
    refine' pe_bm PySem.F.plainAttrs_list PySem.F.slot_list_append PySem.F.type_list_append mt_append (pv 4) ?a58
    case a58 =>
    refine' pa_cons ?a59 pa_nil
    case a59 => exact pe_excP T.xu_InvalidFlag T.gc_InvalidFlag hr (pa_cons (pv 3) pa_nil)
   case a56 =>
   refine' pss_cons ?a60 ?a61
   case a60 =>
    refine' ps_set (i := 5) sc_law.nd rfl (Or.inl rfl) ?a62
    case a62 =>
    refine' pe_lst ?a63
    case a63 =>
    refine' pa_cons ?a64 ?a65
    case a64 => exact pe_excK T.xu_InvalidArea T.gc_InvalidArea hr (pk_cons (pv 3) pk_nil)
    case a65 =>
    refine' pa_cons ?a66 ?a67
    case a66 => exact pe_excK T.xu_InvalidPlate T.gc_InvalidPlate hr (pk_cons (pv 3) pk_nil)
    case a67 =>
    refine' pa_cons ?a68 ?a69
    case a68 => exact pe_excK T.xu_InvalidPoint T.gc_InvalidPoint hr (pk_cons (pv 3) pk_nil)
    case a69 =>
    refine' pa_cons ?a70 pa_nil
    case a70 => exact pe_excK T.xu_InvalidLength T.gc_InvalidLength hr (pk_cons (pv 3) pk_nil)
   case a61 =>
   refine' pss_cons ?a71 ?a72
   case a71 =>
    refine' ps_set (i := 5) sc_law.nd rfl (Or.inl rfl) ?a73
    case a73 =>
    refine' pe_op op_cat (pv 5) ?a74
    case a74 =>
    refine' pe_lst ?a75
    case a75 =>
    refine' pa_cons ?a76 ?a77
    case a76 => exact pe_excK T.xu_InvalidFactor T.gc_InvalidFactor hr (pk_cons (pv 3) pk_nil)
    case a77 =>
    refine' pa_cons ?a78 pa_nil
    case a78 => exact pe_excK T.xu_InvalidFlag T.gc_InvalidFlag hr (pk_cons (pv 3) pk_nil)
   case a72 =>
   refine' pss_cons ?a79 ?a80
   case a79 =>
    refine' ps_set (i := 6) sc_law.nd rfl (Or.inl rfl) ?a81
    case a81 =>
    refine' pe_lst ?a82
    case a82 =>
    refine' pa_cons (pe_exc0 T.xu_InvalidArea T.gc_InvalidArea hr) ?a83
    case a83 =>
    refine' pa_cons (pe_exc0 T.xu_InvalidPlate T.gc_InvalidPlate hr) ?a84
    case a84 =>
    refine' pa_cons (pe_exc0 T.xu_InvalidPoint T.gc_InvalidPoint hr) ?a85
    case a85 =>
    refine' pa_cons (pe_exc0 T.xu_InvalidLength T.gc_InvalidLength hr) ?a86
    case a86 => exact pa_cons (pe_exc0 T.xu_InvalidFactor T.gc_InvalidFactor hr) (pa_cons (pe_exc0 T.xu_InvalidFlag T.gc_InvalidFlag hr) pa_nil)
   case a80 =>
   refine' pss_cons ?a87 ?a88
   case a87 =>
    refine' ps_if ?a89 ?a90 pss_nil
    case a89 =>
     refine' PW.pt ?a91
     case a91 =>
     refine' pw_or ?a92 ?a93
     case a92 =>
      refine' pt_not ?a94
      case a94 =>
      refine' pt_val ?a95
      case a95 =>
      refine' pe_callG G_law_right (hr.mono (by decide)) hg rfl q_law_right k_law_right b_law_right passL ?a96
      case a96 => exact pa_cons (pv 4) (pa_cons (pv 3) pa_nil)
     case a93 =>
     refine' pw_or ?a97 ?a98
     case a97 =>
      refine' pt_not ?a99
      case a99 =>
      refine' pt_val ?a100
      case a100 =>
      refine' pe_callG G_law_right (hr.mono (by decide)) hg rfl q_law_right k_law_right b_law_right passL ?a101
      case a101 => exact pa_cons (pv 5) (pa_cons (pv 3) pa_nil)
     case a98 =>
     refine' pw_or1 ?a102
     case a102 =>
     refine' pt_not ?a103
     case a103 =>
     refine' pt_val ?a104
     case a104 =>
     refine' pe_callG G_law_right (hr.mono (by decide)) hg rfl q_law_right k_law_right b_law_right passL ?a105
     case a105 => exact pa_cons (pv 6) (pa_cons pe_non pa_nil)
    case a90 =>
    refine' pss_one ?a106
    case a106 => exact ps_ret pe_bl
   case a88 =>
   refine' pss_cons ?a107 ?a108
   case a107 =>
    refine' ps_if ?a109 ?a110 pss_nil
    case a109 =>
     refine' pt_val ?a111
     case a111 =>
     refine' pe_callB (call_isiK (K := K) rfl) rfl T.b_isinstance boot_isinstance ?a112
     case a112 => exact pa_cons (pv 3) (pa_cons (pe_bltn (v := V.ty "list") rfl T.b_list boot_list rfl) pa_nil)
    case a110 =>
    refine' pss_cons ?a113 ?a114
    case a113 =>
     refine' ps_expr ?a115
     case a115 =>
     refine' pe_bm PySem.F.plainAttrs_list PySem.F.slot_list_append PySem.F.type_list_append mt_append (pv 3) ?a116
     case a116 => exact pa_cons pe_str pa_nil
    case a114 =>
    refine' pss_one ?a117
    case a117 =>
    refine' ps_ret ?a118
    case a118 =>
    refine' pe_and ?a119 ?a120
    case a119 =>
     refine' pe_callG G_law_right (hr.mono (by decide)) hg rfl q_law_right k_law_right b_law_right passL ?a121
     case a121 => exact pa_cons (pv 4) (pa_cons (pv 3) pa_nil)
    case a120 =>
    refine' pe_one ?a122
    case a122 =>
    refine' pe_callG G_law_right (hr.mono (by decide)) hg rfl q_law_right k_law_right b_law_right passL ?a123
    case a123 => exact pa_cons (pv 5) (pa_cons (pv 3) pa_nil)
   case a108 =>
   refine' pss_one ?a124
   case a124 => exact ps_ret pe_bl
  case s =>
    refine' body_P 6 (fun vs F x ha => by rw [ArgN.ok ha] <;> rfl) ?b0 vs H Q E h
    case b0 =>
      intro B x hP
      refine' st_conv ?c0 ?d0
      case c0 =>
       refine' st_purse (K := K) (i := 1) hP ?a125 rfl ?a126 (by intro r Γ h; cases r <;> first | (cases h; rfl) | cases h)
       case a125 =>
        refine' ec_call ?a127
        case a127 => exact ea_cons (α := Script) (X := Int × Unit) (ev_var (i := 0) (d := (x.1 : Script)) rfl) (ea_cons (α := Int) (X := Unit) (ev_int (i := 0)) ea_nil)
       case a126 =>
       intro B p hB
       refine' st_cons ?a128 ?a129
       case a128 =>
        refine' sk_set (K := K) (α := Int) (i := 2) ?a130
        case a130 =>
        refine' ev_opT (ot_I (g := fun i j => i + j)) ?a131 ?a132
        case a131 =>
         refine' ev_op op_mulP ?a133 ?a134
         case a133 =>
          refine' ev_callS (i0 := 1) hB ?a135
          case a135 => exact ea_cons (α := Int) (X := Unit) (ev_op op_powP (ev_int (i := 10)) (ev_int (i := 6))) ea_nil
         case a134 => exact ev_op op_powP (ev_int (i := 10)) (ev_int (i := 33))
        case a132 =>
        refine' ev_callS (i0 := 1) hB ?a136
        case a136 => exact ea_cons (α := Int) (X := Unit) (ev_op op_powP (ev_int (i := 10)) (ev_int (i := 6))) ea_nil
       case a129 =>
       intro law_number_2
       refine' st_cons ?a137 ?a138
       case a137 =>
        refine' sk_pick (K := K) (i := 3) (i0 := 1) (f := m_law_pick_0) m_law_draw (fun _ => rfl) hB ?a139
        case a139 =>
        refine' ega_cons ?a140 ?a141
        case a140 => exact eg_non ev_non
        case a141 =>
        refine' ega_cons ?a142 ?a143
        case a142 => exact eg_bl ev_bl
        case a143 =>
        refine' ega_cons ?a144 ?a145
        case a144 => exact eg_int (ev_var (i := 2) (d := (law_number_2 : Int)) rfl)
        case a145 =>
        refine' ega_cons ?a146 ?a147
        case a146 => exact eg_int (ev_opT (ot_I (g := fun i j => i - j)) (ev_int (i := 0)) (ev_var (i := 2) (d := (law_number_2 : Int)) rfl))
        case a147 =>
        refine' ega_cons ?a148 ?a149
        case a148 =>
         refine' eg_str ?a150
         case a150 =>
         refine' ev_op op_smulP ?a151 ?a152
         case a151 => exact ev_str (b := "x")
         case a152 => exact ev_callS (i0 := 1) hB (ea_cons (α := Int) (X := Unit) (ev_int (i := 9)) ea_nil)
        case a149 =>
        refine' ega_cons ?a153 ?a154
        case a153 => exact eg_tup0
        case a154 =>
        refine' ega_cons ?a155 ?a156
        case a155 => exact eg_ints (ec_lst (α := Int) (X := Int × Unit) (ea_cons (α := Int) (X := Unit) (ev_var (i := 2) (d := (law_number_2 : Int)) rfl) ea_nil) (argn (by decide)))
        case a156 =>
        refine' ega_cons ?a157 ?a158
        case a157 =>
         refine' eg_strss ?a159
         case a159 =>
         refine' ec_lst (α := (List Str)) (X := (List Str) × (List Str) × Unit) ?a160 (argn (by decide))
         case a160 =>
         refine' ea_cons (α := (List Str)) (X := (List Str) × Unit) ?a161 ?a162
         case a161 => exact ev_fz (α := Str) (ec_lst (α := Str) (X := Unit) ea_nil arg0)
         case a162 =>
         refine' ea_cons (α := (List Str)) (X := Unit) ?a163 ea_nil
         case a163 => exact ev_fz (α := Str) (ec_lst (α := Str) (X := Str × Unit) (ea_cons (α := Str) (X := Unit) (ev_str (b := "a")) ea_nil) (argn (by decide)))
        case a158 => exact ega_cons eg_dic ega_nil
       case a138 =>
       intro law_given_3
       refine' st_cons ?a164 ?a165
       case a164 =>
        refine' sk_setC (K := K) (α := Exv) (i := 4) ?a166
        case a166 =>
        refine' ec_lst (α := Exv) (X := Exv × Exv × Exv × Exv × Exv × Unit) ?a167 (argn (by decide))
        case a167 =>
        refine' ea_cons (α := Exv) (X := Exv × Exv × Exv × Exv × Unit) ?a168 ?a169
        case a168 => exact ev_exc (c := "InvalidArea") (ev_gbv (j := 3) (N := NB B) (g := law_given_3) rfl)
        case a169 =>
        refine' ea_cons (α := Exv) (X := Exv × Exv × Exv × Unit) ?a170 ?a171
        case a170 => exact ev_exc (c := "InvalidPlate") (ev_gbv (j := 3) (N := NB B) (g := law_given_3) rfl)
        case a171 =>
        refine' ea_cons (α := Exv) (X := Exv × Exv × Unit) ?a172 ?a173
        case a172 => exact ev_exc (c := "InvalidPoint") (ev_gbv (j := 3) (N := NB B) (g := law_given_3) rfl)
        case a173 =>
        refine' ea_cons (α := Exv) (X := Exv × Unit) ?a174 ?a175
        case a174 => exact ev_exc (c := "InvalidLength") (ev_gbv (j := 3) (N := NB B) (g := law_given_3) rfl)
        case a175 => exact ea_cons (α := Exv) (X := Unit) (ev_exc (c := "InvalidFactor") (ev_gbv (j := 3) (N := NB B) (g := law_given_3) rfl)) ea_nil
       case a165 =>
       intro law_placed_7
       refine' st_cons ?a176 ?a177
       case a176 =>
        refine' sk_app (K := K) (i := 4) (ds := (law_placed_7 : (List Exv))) rfl ?a178
        case a178 => exact ev_exc (c := "InvalidFlag") (ev_gbv (j := 3) (N := NB B) (g := law_given_3) rfl)
       case a177 =>
       intro law_placed_8
       refine' st_frz (K := K) 4 (ds := (law_placed_8 : (List Exv))) rfl ?a179
       case a179 =>
       refine' st_cons ?a180 ?a181
       case a180 =>
        refine' sk_set (K := K) (α := (List Exv)) (i := 5) ?a182
        case a182 =>
        refine' ev_fz (α := Exv) ?a183
        case a183 =>
        refine' ec_lst (α := Exv) (X := Exv × Exv × Exv × Exv × Unit) ?a184 (argn (by decide))
        case a184 =>
        refine' ea_cons (α := Exv) (X := Exv × Exv × Exv × Unit) ?a185 ?a186
        case a185 => exact ev_exc (c := "InvalidArea") (ev_gbv (j := 3) (N := NB B) (g := law_given_3) rfl)
        case a186 =>
        refine' ea_cons (α := Exv) (X := Exv × Exv × Unit) ?a187 ?a188
        case a187 => exact ev_exc (c := "InvalidPlate") (ev_gbv (j := 3) (N := NB B) (g := law_given_3) rfl)
        case a188 =>
        refine' ea_cons (α := Exv) (X := Exv × Unit) ?a189 ?a190
        case a189 => exact ev_exc (c := "InvalidPoint") (ev_gbv (j := 3) (N := NB B) (g := law_given_3) rfl)
        case a190 => exact ea_cons (α := Exv) (X := Unit) (ev_exc (c := "InvalidLength") (ev_gbv (j := 3) (N := NB B) (g := law_given_3) rfl)) ea_nil
       case a181 =>
       intro law_named_9
       refine' st_cons ?a191 ?a192
       case a191 =>
        refine' sk_set (K := K) (α := (List Exv)) (i := 5) ?a193
        case a193 =>
        refine' ev_fz (α := Exv) ?a194
        case a194 =>
        refine' ec_op (oc_cat (α := Exv)) ?a195 ?a196
        case a195 => exact ev_var (i := 5) (d := (law_named_9 : (List Exv))) rfl
        case a196 =>
        refine' ev_fz (α := Exv) ?a197
        case a197 =>
        refine' ec_lst (α := Exv) (X := Exv × Exv × Unit) ?a198 (argn (by decide))
        case a198 =>
        refine' ea_cons (α := Exv) (X := Exv × Unit) ?a199 ?a200
        case a199 => exact ev_exc (c := "InvalidFactor") (ev_gbv (j := 3) (N := NB B) (g := law_given_3) rfl)
        case a200 => exact ea_cons (α := Exv) (X := Unit) (ev_exc (c := "InvalidFlag") (ev_gbv (j := 3) (N := NB B) (g := law_given_3) rfl)) ea_nil
       case a192 =>
       intro law_named_10
       refine' st_cons ?a201 ?a202
       case a201 =>
        refine' sk_set (K := K) (α := (List Exv)) (i := 6) ?a203
        case a203 =>
        refine' ev_fz (α := Exv) ?a204
        case a204 =>
        refine' ec_lst (α := Exv) (X := Exv × Exv × Exv × Exv × Exv × Exv × Unit) ?a205 (argn (by decide))
        case a205 =>
        refine' ea_cons (α := Exv) (X := Exv × Exv × Exv × Exv × Exv × Unit) ?a206 ?a207
        case a206 => exact ev_exc0 (c := "InvalidArea")
        case a207 =>
        refine' ea_cons (α := Exv) (X := Exv × Exv × Exv × Exv × Unit) ?a208 ?a209
        case a208 => exact ev_exc0 (c := "InvalidPlate")
        case a209 =>
        refine' ea_cons (α := Exv) (X := Exv × Exv × Exv × Unit) ?a210 ?a211
        case a210 => exact ev_exc0 (c := "InvalidPoint")
        case a211 =>
        refine' ea_cons (α := Exv) (X := Exv × Exv × Unit) ?a212 ?a213
        case a212 => exact ev_exc0 (c := "InvalidLength")
        case a213 => exact ea_cons (α := Exv) (X := Exv × Unit) (ev_exc0 (c := "InvalidFactor")) (ea_cons (α := Exv) (X := Unit) (ev_exc0 (c := "InvalidFlag")) ea_nil)
       case a202 =>
       intro law_bare_11
       refine' st_when ?a214 ?a215 ?a216
       case a214 =>
        refine' et_orJ ?a217 ?a218
        case a217 =>
         refine' et_not ?a219
         case a219 =>
         refine' et_B (K := K) ?a220
         case a220 =>
         refine' ev_call ?a221
         case a221 => exact ea_cons (α := (List Exv)) (X := Giv × Unit) (ev_var (i := 4) (d := (law_placed_8 : (List Exv))) rfl) (ea_cons (α := Giv) (X := Unit) (ev_gbv (j := 3) (N := NB B) (g := law_given_3) rfl) ea_nil)
        case a218 =>
        refine' et_orJ ?a222 ?a223
        case a222 =>
         refine' et_not ?a224
         case a224 =>
         refine' et_B (K := K) ?a225
         case a225 =>
         refine' ev_call ?a226
         case a226 => exact ea_cons (α := (List Exv)) (X := Giv × Unit) (ev_var (i := 5) (d := (law_named_10 : (List Exv))) rfl) (ea_cons (α := Giv) (X := Unit) (ev_gbv (j := 3) (N := NB B) (g := law_given_3) rfl) ea_nil)
        case a223 =>
        refine' et_not ?a227
        case a227 =>
        refine' et_B (K := K) ?a228
        case a228 =>
        refine' ev_call ?a229
        case a229 => exact ea_cons (α := (List Exv)) (X := Giv × Unit) (ev_var (i := 6) (d := (law_bare_11 : (List Exv))) rfl) (ea_cons (α := Giv) (X := Unit) ev_gnon ea_nil)
       case a215 => exact st_ret (K := K) (α := Bool) (g := (fun a => a)) ev_bl (fun _ _ _ _ h => h)
       case a216 =>
       refine' st_when ?a230 ?a231 ?a232
       case a230 =>
        refine' et_B (K := K) ?a233
        case a233 => exact ev_isG (ev_gbv (j := 3) (N := NB B) (g := law_given_3) rfl)
       case a231 =>
        refine' st_more (K := K) 4 5 3 hB rfl rfl rfl ?a234
        case a234 =>
        intro law_given_12
        refine' st_ret (K := K) (α := Bool) (g := (fun a => a)) ?a235 (fun _ _ _ _ h => h)
        case a235 =>
        refine' ev_andJ ?a236 ?a237
        case a236 =>
         refine' ev_call ?a238
         case a238 => exact ea_cons (α := (List Exv)) (X := Giv × Unit) (ev_var (i := 4) (d := (law_placed_8 : (List Exv))) rfl) (ea_cons (α := Giv) (X := Unit) (ev_gbv (j := 3) (N := NB B) (g := law_given_12) rfl) ea_nil)
        case a237 =>
        refine' ev_call ?a239
        case a239 => exact ea_cons (α := (List Exv)) (X := Giv × Unit) (ev_var (i := 5) (d := (law_named_10 : (List Exv))) rfl) (ea_cons (α := Giv) (X := Unit) (ev_gbv (j := 3) (N := NB B) (g := law_given_12) rfl) ea_nil)
       case a232 => exact st_ret (K := K) (α := Bool) (g := (fun a => a)) ev_bl (fun _ _ _ _ h => h)
      case d0 => rfl
end
end SP
namespace SP
open PySem PySem.Spec PyProof.Rows L2
def Bd (k : Nat) (x : Int) : Prop := x.natAbs < 2 ^ k
theorem Bd.mono {k l : Nat} {x : Int} (h : Bd k x) (e : k ≤ l := by omega) : Bd l x := Nat.lt_of_lt_of_le h (Nat.pow_le_pow_right (by decide) e)
theorem Bd.log {k : Nat} {x : Int} (h : Bd k x) : x.natAbs.log2 ≤ k := by
  by_cases h0 : x.natAbs = 0
  · rw [h0]; simp
  · exact Nat.le_of_lt ((Nat.log2_lt h0).mpr h)
theorem Bd.mul {k l : Nat} {x y : Int} (h : Bd k x) (g : Bd l y) : Bd (k + l) (x * y) := by
  unfold Bd at *
  rw [Int.natAbs_mul, Nat.pow_add]
  exact Nat.mul_lt_mul'' h g
theorem Bd.add {k l : Nat} {x y : Int} (h : Bd k x) (g : Bd l y) : Bd (k + l + 1) (x + y) := by
  unfold Bd at *
  have h1 : 2 ^ k ≤ 2 ^ (k + l) := Nat.pow_le_pow_right (by decide) (by omega)
  have h2 : 2 ^ l ≤ 2 ^ (k + l) := Nat.pow_le_pow_right (by decide) (by omega)
  rw [Nat.pow_succ]
  omega
theorem Bd.addM {k l : Nat} {x y : Int} (h : Bd k x) (g : Bd l y) : Bd (max k l + 1) (x + y) := by
  unfold Bd at *
  have h1 : 2 ^ k ≤ 2 ^ (max k l) := Nat.pow_le_pow_right (by decide) (by omega)
  have h2 : 2 ^ l ≤ 2 ^ (max k l) := Nat.pow_le_pow_right (by decide) (by omega)
  rw [Nat.pow_succ]
  omega
theorem Bd.neg {k : Nat} {x : Int} (h : Bd k x) : Bd k (-x) := by unfold Bd at *; omega
theorem Bd.sub {k l : Nat} {x y : Int} (h : Bd k x) (g : Bd l y) : Bd (max k l + 1) (x - y) := by
  rw [Int.sub_eq_add_neg]; exact h.addM g.neg
theorem mulM_eq {k l : Nat} {x y : Int} (h : Bd k x) (g : Bd l y) (e : k + l < 1000000 := by omega) : mulM x y = some (x * y) := by
  have a := h.log
  have b := g.log
  unfold mulM
  rw [if_pos (by omega)]
theorem divM_eq {k : Nat} {x y : Int} (hy : 0 < y) (g : Bd k y) (e : k < 9000 := by omega) : divM x y = some (x / y) := by
  have b := g.log
  unfold divM
  rw [if_pos ⟨hy, by omega⟩]
theorem modM_eq {x y : Int} (hy : 0 < y) : modM x y = some (x % y) := by unfold modM; rw [if_pos hy]
theorem opt_bind {α β : Type} {m : Option α} {a : α} {k : α → Option β} {r : Option β} (h : m = some a) (hk : k a = r) : (PyM.up (M := Option) m >>= k) = r := by
  subst h; exact hk
theorem pos_of_mul {a b : Int} (h : 0 < a * b) (ha : 0 < a) : 0 < b := by
  rcases Int.lt_or_le 0 b with hb | hb
  · exact hb
  · have := Int.mul_le_mul_of_nonneg_left hb (Int.le_of_lt ha)
    rw [Int.mul_zero] at this
    omega
theorem szM_eq {n : Nat} (h : n ≤ 16777216) : szM n = some () := by unfold szM; rw [if_pos h]
end SP
namespace SP
open PySem PySem.Spec PyProof.Rows L2
end SP
namespace SP
open PySem PySem.Spec PyProof.Rows L2
structure AxOk (qs : List Int) (S : Int) : Prop where
  pos : 0 < S
  asc : qs.Pairwise (· < ·)
  lo : ∀ q ∈ qs, 0 ≤ q
  hi : ∀ q ∈ qs, q < S
def cellGo : List Int → Int → Nat → Nat → Nat
  | [], _, _, found => found
  | q :: qs, r, at_, found => if r = q then 2 * at_ else if q < r then cellGo qs r (at_ + 1) (2 * at_ + 1) else cellGo qs r (at_ + 1) found
def cell (qs : List Int) (S u : Int) : Nat := if qs = [] then 0 else cellGo qs (u % S) 0 (2 * qs.length - 1)
inductive Where (qs : List Int) (r : Int) : Prop where
  | on (j : Nat) (h : qs[j]? = some r)
  | gap (j : Nat) (q : Int) (h : qs[j]? = some q) (h1 : q < r) (h2 : ∀ q', qs[j + 1]? = some q' → r < q')
  | head (h : ∀ q ∈ qs, r < q)
theorem whereIs (qs : List Int) (r : Int) (h : qs.Pairwise (· < ·)) : Where qs r := by
  induction qs with
  | nil => exact .head (by simp)
  | cons q qs ih =>
    rw [List.pairwise_cons] at h
    rcases Int.lt_trichotomy r q with e | e | e
    · refine .head fun x hx => ?_
      rcases List.mem_cons.mp hx with rfl | hx
      · exact e
      · have := h.1 x hx; omega
    · exact .on 0 (by rw [e]; rfl)
    · rcases ih h.2 with ⟨j, hj⟩ | ⟨j, q1, hj, h1, h2⟩ | hh
      · exact .on (j + 1) (by simpa using hj)
      · exact .gap (j + 1) q1 (by simpa using hj) h1 (by simpa using h2)
      · refine .gap 0 q rfl e fun q' hq => ?_
        exact hh q' (List.mem_of_getElem? (by simpa using hq))
theorem asc_get {qs : List Int} (h : qs.Pairwise (· < ·)) {i j : Nat} {p q : Int} (hi : qs[i]? = some p) (hj : qs[j]? = some q) (e : i < j) : p < q := by
  obtain ⟨h1, h2⟩ := List.getElem?_eq_some_iff.mp hi
  obtain ⟨h3, h4⟩ := List.getElem?_eq_some_iff.mp hj
  have := List.pairwise_iff_getElem.mp h i j h1 h3 e
  omega
section
variable {qs : List Int} {S : Int}
theorem AxOk.mul {k : Int} (hk : 0 < k) (A : AxOk qs S) : AxOk (qs.map (· * k)) (S * k) where
  pos := Int.mul_pos A.pos hk
  asc := by
    rw [List.pairwise_map]
    exact A.asc.imp fun h => Int.mul_lt_mul_of_pos_right h hk
  lo q h := by
    obtain ⟨p, hp, rfl⟩ := List.mem_map.mp h
    exact Int.mul_nonneg (A.lo p hp) (by omega)
  hi q h := by
    obtain ⟨p, hp, rfl⟩ := List.mem_map.mp h
    exact Int.mul_lt_mul_of_pos_right (A.hi p hp) hk
structure Tame (qs : List Int) (S : Int) {β : Type} (f : Int → β) : Prop where
  per : ∀ u, f (u + S) = f u
  gap : ∀ u v, u ≤ v → (∀ w, u ≤ w → w ≤ v → w % S ∉ qs) → f u = f v
structure Repr (qs : List Int) (S : Int) (rs : List Int) : Prop where
  len : rs.length = 2 * qs.length
  on : ∀ (j : Nat) q, qs[j]? = some q → rs[2 * j]? = some q
  gap : ∀ (j : Nat) q, qs[j]? = some q → ∃ r, rs[2 * j + 1]? = some r ∧ q < r ∧ (∀ q', qs[j + 1]? = some q' → r < q') ∧ (j + 1 = qs.length → ∀ q', qs[0]? = some q' → r < q' + S)
end
end SP
namespace SP
open PySem PySem.Spec PyProof.Rows L2
section
variable {α : Type}
abbrev Mk3 (α : Type) := T3 Int α α
def look : List (Mk3 α) → Int → α → α
  | [], _, b => b
  | m :: ms, r, b => if r < m.a then b else if r = m.a then m.b else look ms r m.c
def lastC : List (Mk3 α) → α → α
  | [], b => b
  | m :: ms, _ => lastC ms m.c
abbrev Asc (M : List (Mk3 α)) : Prop := (M.map (·.a)).Pairwise (· < ·)
theorem look_head {r : Int} {b : α} : ∀ {M : List (Mk3 α)}, (∀ m ∈ M, r < m.a) → look M r b = b
  | [], _ => rfl
  | m :: ms, h => by rw [look, if_pos (h m (by simp))]
theorem asc_mem {m : Mk3 α} {M : List (Mk3 α)} (h : Asc (m :: M)) : ∀ x ∈ M, m.a < x.a := fun x hx => (List.pairwise_cons.mp (show (m.a :: M.map (·.a)).Pairwise (· < ·) from h)).1 _ (List.mem_map_of_mem hx)
theorem asc_tail {m : Mk3 α} {M : List (Mk3 α)} (h : Asc (m :: M)) : Asc M := (List.pairwise_cons.mp (show (m.a :: M.map (·.a)).Pairwise (· < ·) from h)).2
theorem look_on {r : Int} {m : Mk3 α} : ∀ {M : List (Mk3 α)} {b : α} {j : Nat}, Asc M → M[j]? = some m → m.a = r → look M r b = m.b
  | [], _, _, _, h, _ => by simp at h
  | m0 :: ms, b, 0, _, h, e => by
    have : m0 = m := by simpa using h
    subst this
    rw [look, if_neg (by omega), if_pos e.symm]
  | m0 :: ms, b, j + 1, ha, h, e => by
    have h' : ms[j]? = some m := by simpa using h
    have := asc_mem ha m (List.mem_of_getElem? h')
    rw [look, if_neg (by omega), if_neg (by omega), look_on (asc_tail ha) h' e]
theorem look_gap {r : Int} {m : Mk3 α} : ∀ {M : List (Mk3 α)} {b : α} {j : Nat}, Asc M → M[j]? = some m → m.a < r → (∀ m', M[j + 1]? = some m' → r < m'.a) → look M r b = m.c
  | [], _, _, _, h, _, _ => by simp at h
  | m0 :: ms, b, 0, ha, h, e, h2 => by
    have : m0 = m := by simpa using h
    subst this
    rw [look, if_neg (by omega), if_neg (by omega)]
    refine look_head fun x hx => ?_
    cases ms with
    | nil => simp at hx
    | cons m1 ms =>
      have e1 := h2 m1 (by simp)
      rcases List.mem_cons.mp hx with rfl | hx
      · exact e1
      · have := asc_mem (asc_tail ha) x hx
        omega
  | m0 :: ms, b, j + 1, ha, h, e, h2 => by
    have h' : ms[j]? = some m := by simpa using h
    have := asc_mem ha m (List.mem_of_getElem? h')
    rw [look, if_neg (by omega), if_neg (by omega), look_gap (asc_tail ha) h' e (by simpa using h2)]
theorem lastC_get : ∀ {M : List (Mk3 α)} {b : α} {m : Mk3 α}, M[M.length - 1]? = some m → lastC M b = m.c
  | [], _, _, h => by simp at h
  | [m0], b, m, h => by
    have : m0 = m := by simpa using h
    rw [this]; rfl
  | m0 :: m1 :: ms, b, m, h => by
    show lastC (m1 :: ms) m0.c = m.c
    exact lastC_get (by simpa using h)
structure Marks (ps : List Int) (cs : List α) (M : List (Mk3 α)) : Prop where
  len : M.length = ps.length
  cl : cs.length = 2 * ps.length
  get : ∀ (j : Nat) m, M[j]? = some m → ps[j]? = some m.a ∧ cs[2 * j]? = some m.b ∧ cs[2 * j + 1]? = some m.c
theorem Marks.pl {ps : List Int} {cs : List α} {M : List (Mk3 α)} (h : Marks ps cs M) : M.map (·.a) = ps := by
  apply List.ext_getElem?
  intro j
  rw [List.getElem?_map]
  by_cases hj : j < M.length
  · rw [List.getElem?_eq_getElem hj]
    exact (h.get j _ (List.getElem?_eq_getElem hj)).1.symm
  · have := h.len
    rw [List.getElem?_eq_none (by omega), List.getElem?_eq_none (by omega)]; rfl
def mulA (n : Int) (M : List (Mk3 α)) : List (Mk3 α) := M.map fun m => ⟨m.a * n, m.b, m.c⟩
theorem Marks.mul {ps : List Int} {cs : List α} {M : List (Mk3 α)} (h : Marks ps cs M) (n : Int) : Marks (ps.map (· * n)) cs (mulA n M) where
  len := by unfold mulA; rw [List.length_map, List.length_map, h.len]
  cl := by rw [List.length_map]; exact h.cl
  get j m hj := by
    unfold mulA at hj
    rw [List.getElem?_map] at hj
    cases e : M[j]? with
    | none => rw [e] at hj; cases hj
    | some m0 =>
      rw [e] at hj
      cases Option.some.inj hj
      obtain ⟨h1, h2, h3⟩ := h.get j m0 e
      exact ⟨by rw [List.getElem?_map, h1]; rfl, h2, h3⟩
variable [DecidableEq α]
structure Again (M : List (Mk3 α)) (T : Int) (many : Nat) (shift : Int) (c : Nat) : Prop where
  mp : 0 < many
  len : M.length = c * many
  turn : T = c * shift
  get : ∀ (j : Nat) m, M[j]? = some m → j + many < M.length → M[j + many]? = some ⟨m.a + shift, m.b, m.c⟩
theorem Again.at {M : List (Mk3 α)} {T : Int} {many : Nat} {shift : Int} {c : Nat} (h : Again M T many shift c) {j : Nat} {m : Mk3 α} (hj : j < many) (hm : M[j]? = some m) : ∀ i : Nat, i < c → M[j + many * i]? = some ⟨m.a + shift * i, m.b, m.c⟩ := by
  intro i
  induction i with
  | zero =>
    intro _
    simp [hm]
  | succ i ih =>
    intro hi
    have h1 := ih (by omega)
    have hlt : j + many * i + many < M.length := by
      rw [h.len]
      have : many * (i + 2) ≤ many * c := Nat.mul_le_mul_left _ (by omega)
      have e2 : many * (i + 2) = many * i + many + many := by rw [Nat.mul_add]; omega
      rw [Nat.mul_comm c]; omega
    have h2 := h.get _ _ h1 hlt
    have e : j + many * (i + 1) = j + many * i + many := by rw [Nat.mul_add]; omega
    rw [e, h2]
    congr 2
    show m.a + shift * (i : Int) + shift = m.a + shift * ((i + 1 : Nat) : Int)
    rw [Int.natCast_add, Int.mul_add]
    omega
theorem Again.look {M : List (Mk3 α)} {T : Int} {many : Nat} {shift : Int} {c : Nat} (h : Again M T many shift c) (hc : 0 < c) (ha : Asc M) (lo : ∀ m ∈ M, 0 ≤ m.a) (hi : ∀ m ∈ M, m.a < T) (u : Int) (b b' : α) :
    look M (u % T) (lastC M b) = SP.look (M.take many) (u % shift) (lastC (M.take many) b') := by
  have hml : many ≤ M.length := by rw [h.len]; exact Nat.le_mul_of_pos_left _ hc
  have hmp := h.mp
  have hsp : 0 < shift := by
    have e := List.getElem?_eq_getElem (l := M) (i := 0) (by omega)
    have hm := List.mem_of_getElem? e
    have h1 := lo _ hm
    have h2 := hi _ hm
    have : 0 < (c : Int) * shift := by rw [← h.turn]; omega
    exact pos_of_mul this (by omega)
  have tk : ∀ (j : Nat), j < many → (M.take many)[j]? = M[j]? := fun j hj => by rw [List.getElem?_take, if_pos hj]
  have tl : (M.take many).length = many := by rw [List.length_take]; omega
  have ha' : Asc (M.take many) := List.Pairwise.sublist (List.Sublist.map _ (List.take_sublist _ _)) ha
  -- the last one of the first row lies below the shift
  have hlast : ∀ m, M[many - 1]? = some m → m.a < shift := fun m hm => by
    have h1 := h.at (j := many - 1) (by omega) hm (c - 1) (by omega)
    have h2 := hi _ (List.mem_of_getElem? h1)
    have h2 : m.a + shift * ((c - 1 : Nat) : Int) < T := h2
    rw [h.turn] at h2
    have e : (c : Int) * shift = shift * ((c - 1 : Nat) : Int) + shift := by
      have : (c : Int) = ((c - 1 : Nat) : Int) + 1 := by omega
      rw [this, Int.add_mul, Int.mul_comm]; omega
    omega
  have r0 := Int.emod_nonneg u (Int.ne_of_gt hsp)
  have r1 := Int.emod_lt_of_pos u hsp
  have T0 : 0 < T := by rw [h.turn]; exact Int.mul_pos (by omega) hsp
  have t0 := Int.emod_nonneg u (Int.ne_of_gt T0)
  have t1 := Int.emod_lt_of_pos u T0
  -- u % T = u % shift + shift * i
  obtain ⟨i, hic, hu⟩ : ∃ i : Nat, i < c ∧ u % T = u % shift + shift * i := by
    have e1 : u % T % shift = u % shift := Int.emod_emod_of_dvd u ⟨c, by rw [h.turn, Int.mul_comm]⟩
    have e2 := Int.emod_add_mul_ediv (u % T) shift
    have q0 : 0 ≤ u % T / shift := Int.ediv_nonneg t0 (by omega)
    have q1 : u % T / shift < c := Int.ediv_lt_of_lt_mul hsp (by rw [← h.turn]; exact t1)
    refine ⟨(u % T / shift).toNat, by omega, ?_⟩
    rw [Int.toNat_of_nonneg q0, ← e1]
    exact e2.symm
  rw [hu]
  generalize u % shift = r at *
  have inM : ∀ {j : Nat} {m : Mk3 α}, (M.take many)[j]? = some m → j < many ∧ M[j]? = some m := fun {j m} hj => by
    have := (List.getElem?_eq_some_iff.mp hj).1
    rw [tl] at this
    exact ⟨this, by rw [← tk j this]; exact hj⟩
  have pl : ∀ {j : Nat} {q : Int}, ((M.take many).map (·.a))[j]? = some q → ∃ m, (M.take many)[j]? = some m ∧ m.a = q := fun {j q} hj => by
    rw [List.getElem?_map] at hj
    cases e : (M.take many)[j]? with
    | none => rw [e] at hj; cases hj
    | some m => rw [e] at hj; exact ⟨m, rfl, Option.some.inj hj⟩
  rcases whereIs _ r ha' with ⟨j, hj⟩ | ⟨j, q, hj, h1, h2⟩ | hh
  · obtain ⟨m, hm, e⟩ := pl hj
    obtain ⟨hjm, hmM⟩ := inM hm
    rw [look_on ha' hm e, look_on ha (h.at hjm hmM i hic) (by show m.a + shift * (i : Int) = _; omega)]
  · obtain ⟨m, hm, e⟩ := pl hj
    obtain ⟨hjm, hmM⟩ := inM hm
    have h2' : ∀ m', (M.take many)[j + 1]? = some m' → r < m'.a := fun m' hm' => h2 _ (by rw [List.getElem?_map, hm']; rfl)
    rw [look_gap ha' hm (by omega) h2', look_gap ha (h.at hjm hmM i hic) (by show m.a + shift * (i : Int) < _; omega) fun m' hm' => ?_]
    by_cases hj1 : j + 1 < many
    · have e1 := List.getElem?_eq_getElem (l := M) (i := j + 1) (by omega)
      have h3 := h.at hj1 e1 i hic
      have e3 : j + 1 + many * i = j + many * i + 1 := by omega
      rw [e3, hm'] at h3
      have h3 := Option.some.inj h3
      have h4 := h2' _ (by rw [tk _ hj1]; exact e1)
      rw [h3]
      show r + shift * (i : Int) < _ + shift * (i : Int)
      omega
    · have hm'l := (List.getElem?_eq_some_iff.mp hm').1
      have e3 : j + many * i + 1 = 0 + many * (i + 1) := by rw [Nat.mul_add]; omega
      have hi1 : i + 1 < c := by
        rw [e3, h.len] at hm'l
        rw [Nat.zero_add, Nat.mul_comm] at hm'l
        exact Nat.lt_of_mul_lt_mul_right hm'l
      have e1 := List.getElem?_eq_getElem (l := M) (i := 0) (by omega)
      have h3 := h.at (j := 0) hmp e1 (i + 1) hi1
      rw [← e3, hm'] at h3
      have h3 := Option.some.inj h3
      have h4 := lo _ (List.mem_of_getElem? e1)
      rw [h3]
      show r + shift * (i : Int) < M[0].a + shift * ((i + 1 : Nat) : Int)
      rw [Int.natCast_add, Int.mul_add]
      omega
  · have hhead : ∀ m ∈ M.take many, r < m.a := fun m hm => hh _ (List.mem_map_of_mem hm)
    have e1 := List.getElem?_eq_getElem (l := M) (i := many - 1) (by omega)
    have lastT : lastC (M.take many) b' = (M[many - 1]'(by omega)).c := lastC_get (by rw [tl, tk _ (by omega)]; exact e1)
    rw [look_head hhead, lastT]
    have e0 := List.getElem?_eq_getElem (l := M) (i := 0) (by omega)
    have hr0 := hhead _ (List.mem_of_getElem? (by rw [tk 0 hmp]; exact e0))
    by_cases hi0 : i = 0
    · subst hi0
      rw [look_head fun m hm => ?_]
      · have h3 := h.at (j := many - 1) (by omega) e1 (c - 1) (by omega)
        have e3 : many - 1 + many * (c - 1) = M.length - 1 := by
          rw [h.len, Nat.mul_sub, Nat.mul_one, Nat.mul_comm c]
          have : many * 1 ≤ many * c := Nat.mul_le_mul_left _ hc
          omega
        rw [e3] at h3
        have h6 := lastC_get (b := b) h3
        exact h6
      · obtain ⟨k, hk⟩ := List.mem_iff_getElem?.mp hm
        by_cases hk0 : k = 0
        · subst hk0
          rw [e0] at hk
          cases hk
          simpa using hr0
        · have h5 : (M.map (·.a))[0]? = some M[0].a := by rw [List.getElem?_map, e0]; rfl
          have h6 : (M.map (·.a))[k]? = some m.a := by rw [List.getElem?_map, hk]; rfl
          have := asc_get ha h5 h6 (by omega)
          simp only [Int.natCast_zero, Int.mul_zero]
          omega
    · have h3 := h.at (j := many - 1) (by omega) e1 (i - 1) (by omega)
      have hl := hlast _ e1
      have ei : shift * (i : Int) = shift * ((i - 1 : Nat) : Int) + shift := by
        have : (i : Int) = ((i - 1 : Nat) : Int) + 1 := by omega
        rw [this, Int.mul_add]
        omega
      rw [look_gap ha h3 (by show M[many - 1].a + shift * ((i - 1 : Nat) : Int) < _; omega) fun m' hm' => ?_]
      have e3 : many - 1 + many * (i - 1) + 1 = 0 + many * i := by
        have : many * i = many * (i - 1) + many := by
          conv => lhs; rw [show i = i - 1 + 1 by omega]
          rw [Nat.mul_add, Nat.mul_one]
        omega
      have h4 := h.at (j := 0) hmp e0 i hic
      rw [← e3, hm'] at h4
      have h4 := Option.some.inj h4
      rw [h4]
      show r + shift * (i : Int) < M[0].a + shift * (i : Int)
      omega
end
end SP
namespace SP
open PySem PySem.Spec PyProof.Rows L2
theorem bd_lit {k : Nat} {x : Int} (h : x.natAbs < 2 ^ k := by decide) : Bd k x := h
theorem catM_eq {α : Type} {xs ys : List α} (h : xs.length + ys.length ≤ 16777216) : catM xs ys = some (xs ++ ys) := by unfold catM; rw [if_pos h]
theorem apM_eq {α : Type} {xs : List α} {x : α} (h : xs.length < 16777216) : apM xs x = some (xs ++ [x]) := by unfold apM; rw [if_pos h]
theorem atM_nat {α : Type} (xs : List α) (i : Nat) : atM xs (i : Int) = xs[i]? := by
  unfold atM atM.HT_at
  rw [if_pos (by omega), Int.toNat_natCast]
end SP
namespace SP
open PySem PySem.Spec PyProof.Rows L2
theorem opt_bindE {α β : Type} {m : Option α} {a : α} {k : α → Option β} {P : β → Prop} (h : m = some a) (hk : ∃ b, k a = some b ∧ P b) : ∃ b, (PyM.up (M := Option) m >>= k) = some b ∧ P b := by
  subst h; exact hk
def PuOk (n : Nat) (s : Pu) : Prop := ∃ a b c : Int, s = [a, b, c] ∧ 0 ≤ b ∧ b < 2147483629 ∧ 0 ≤ c ∧ c ≤ n
theorem PuOk.mono {n m : Nat} {s : Pu} (h : PuOk n s) (e : n ≤ m) : PuOk m s := by
  obtain ⟨a, b, c, h1, h2, h3, h4, h5⟩ := h
  exact ⟨a, b, c, h1, h2, h3, h4, by omega⟩
def W {α : Type} (m : Stm Pu α) (k : Nat) (Q : α → Prop) : Prop := ∀ n s, n + k ≤ 100000 → PuOk n s → ∃ a s', m s = some (a, s') ∧ PuOk (n + k) s' ∧ Q a
theorem W.pure {α : Type} {a : α} {k : Nat} {Q : α → Prop} (h : Q a) : W (Pure.pure a : Stm Pu α) k Q := fun n s _ hs => ⟨a, s, rfl, hs.mono (by omega), h⟩
theorem W.imp {α : Type} {m : Stm Pu α} {k l : Nat} {Q R : α → Prop} (h : W m k Q) (hk : k ≤ l) (hq : ∀ a, Q a → R a) : W m l R := fun n s hn hs => by
  obtain ⟨a, s', e, h1, h2⟩ := h n s (by omega) hs
  exact ⟨a, s', e, h1.mono (by omega), hq a h2⟩
theorem W.bind {α β : Type} {m : Stm Pu α} {f : α → Stm Pu β} {k l j : Nat} {Q : α → Prop} {R : β → Prop} (h : W m k Q) (hf : ∀ a, Q a → W (f a) l R) (hj : k + l ≤ j) : W (m >>= f) j R := fun n s hn hs => by
  obtain ⟨a, s', e, h1, h2⟩ := h n s (by omega) hs
  obtain ⟨b, s'', e2, h3, h4⟩ := hf a h2 (n + k) s' (by omega) h1
  refine ⟨b, s'', ?_, h3.mono (by omega), h4⟩
  show (m s >>= fun p => f p.1 p.2) = _
  rw [e]
  exact e2
theorem W.up {α β : Type} {o : Option α} {a : α} {f : α → Stm Pu β} {k : Nat} {R : β → Prop} (h : o = some a) (hf : W (f a) k R) : W ((PyM.up o : Stm Pu α) >>= f) k R := fun n s hn hs => by
  obtain ⟨b, s', e, h1, h2⟩ := hf n s hn hs
  refine ⟨b, s', ?_, h1, h2⟩
  show ((o.map fun a => (a, s)) >>= fun p => f p.1 p.2) = _
  rw [h]
  exact e
theorem W.upE {α β : Type} {o : Option α} {Q : α → Prop} {f : α → Stm Pu β} {k : Nat} {R : β → Prop} (h : ∃ a, o = some a ∧ Q a) (hf : ∀ a, Q a → W (f a) k R) : W ((PyM.up o : Stm Pu α) >>= f) k R := by
  obtain ⟨a, h1, h2⟩ := h
  exact W.up h1 (hf a h2)
def F2 {α β : Type} (Q : α → β → Prop) : List α → List β → Prop
  | [], [] => True
  | x :: xs, y :: ys => Q x y ∧ F2 Q xs ys
  | _, _ => False
theorem F2.len {α β : Type} {Q : α → β → Prop} : ∀ {xs : List α} {ys : List β}, F2 Q xs ys → ys.length = xs.length
  | [], [], _ => rfl
  | _ :: _, _ :: _, h => by rw [List.length_cons, List.length_cons, F2.len h.2]
theorem W.mapL {α β : Type} {f : α → Stm Pu β} {Q : α → β → Prop} {c : Nat} : ∀ {xs : List α}, (∀ x ∈ xs, W (f x) c (Q x)) → W (SP.mapL f xs) (c * xs.length) (F2 Q xs)
  | [], _ => W.pure (show F2 Q [] [] from trivial)
  | x :: xs, h => by
    have ih := W.mapL (xs := xs) fun y hy => h y (by simp [hy])
    refine W.bind (h x (by simp)) (fun y hy => W.bind ih (fun ys hys => W.pure (k := 0) (show F2 Q (x :: xs) (y :: ys) from ⟨hy, hys⟩)) (Nat.le_refl _)) ?_
    rw [List.length_cons, Nat.mul_succ]; omega
theorem draw_W {many : Int} (hm : 0 < many) (hb : Bd 40 many) : W (m_law_draw many) 1 (fun d => 0 ≤ d ∧ d < many) := by
  rintro n s hn ⟨a, b, c, rfl, b0, b1, c0, c1⟩
  have r0 : ∀ x : Int, 0 ≤ x % many ∧ x % many < many := fun x => ⟨Int.emod_nonneg x (Int.ne_of_gt hm), Int.emod_lt_of_pos x hm⟩
  by_cases ha : (0 : Int) < a
  · refine ⟨a % many, [a / many, b, c], ?_, ⟨a / many, b, c, rfl, b0, b1, c0, by omega⟩, r0 a⟩
    have e1 := modM_eq (x := a) hm
    have e2 := divM_eq (x := a) hm hb
    unfold m_law_draw
    show (if decide ((0 : Int) < a) = true then _ else _ : Stm Pu Int) [a, b, c] = _
    rw [if_pos (decide_eq_true ha)]
    show ((modM a many).map (fun m => (m, [a, b, c])) >>= fun p => _) = _
    rw [e1]
    show ((divM a many).map (fun m => (m, [a, b, c])) >>= fun p => _) = _
    rw [e2]
    rfl
  · have tb : Bd 17 (c + 1) := by
      have e : (2 : Nat) ^ 17 = 131072 := by decide
      unfold Bd; rw [e]; omega
    have m1 : mulM 104729 (c + 1) = some (104729 * (c + 1)) := mulM_eq (k := 17) (l := 17) bd_lit tb
    have m2 : mulM (c + 1) (c + 1) = some ((c + 1) * (c + 1)) := mulM_eq tb tb
    have bb : Bd 32 b := by
      have e : (2 : Nat) ^ 32 = 4294967296 := by decide
      unfold Bd; rw [e]; omega
    have b34 : Bd 36 (b + 104729 * (c + 1)) := (bb.addM ((bd_lit : Bd 17 (104729 : Int)).mul tb)).mono (by omega)
    have b35 : Bd 36 ((c + 1) * (c + 1) + 7919) := ((tb.mul tb).addM (bd_lit : Bd 13 (7919 : Int))).mono (by omega)
    have m3 : mulM (b + 104729 * (c + 1)) ((c + 1) * (c + 1) + 7919) = some ((b + 104729 * (c + 1)) * ((c + 1) * (c + 1) + 7919)) := mulM_eq b34 b35
    generalize hx : (b + 104729 * (c + 1)) * ((c + 1) * (c + 1) + 7919) = X at *
    have m4 : modM X 2147483629 = some (X % 2147483629) := modM_eq (by decide)
    have y0 : 0 ≤ X % 2147483629 := Int.emod_nonneg _ (by decide)
    have y1 : X % 2147483629 < 2147483629 := Int.emod_lt_of_pos _ (by decide)
    generalize X % 2147483629 = Y at *
    have yb : Bd 32 Y := by
      have e : (2 : Nat) ^ 32 = 4294967296 := by decide
      unfold Bd; rw [e]; omega
    have m5 : mulM Y Y = some (Y * Y) := mulM_eq yb yb
    have m6 : modM (Y * Y + (c + 1)) 2147483587 = some ((Y * Y + (c + 1)) % 2147483587) := modM_eq (by decide)
    have z0 : 0 ≤ (Y * Y + (c + 1)) % 2147483587 := Int.emod_nonneg _ (by decide)
    have z1 : (Y * Y + (c + 1)) % 2147483587 < 2147483587 := Int.emod_lt_of_pos _ (by decide)
    generalize (Y * Y + (c + 1)) % 2147483587 = Z at *
    have zb : Bd 32 Z := by
      have e : (2 : Nat) ^ 32 = 4294967296 := by decide
      unfold Bd; rw [e]; omega
    have m7 : mulM Z 48271 = some (Z * 48271) := mulM_eq (l := 16) zb bd_lit
    have m8 : modM (Z * 48271) 2147483647 = some (Z * 48271 % 2147483647) := modM_eq (by decide)
    generalize Z * 48271 % 2147483647 = V at *
    have m9 : divM V 64 = some (V / 64) := divM_eq (k := 7) (by decide) bd_lit
    have m10 := modM_eq (x := V / 64) hm
    refine ⟨V / 64 % many, [a, b, c + 1], ?_, ⟨a, b, c + 1, rfl, b0, b1, by omega, by omega⟩, r0 _⟩
    unfold m_law_draw
    show (if decide ((0 : Int) < a) = true then _ else _ : Stm Pu Int) [a, b, c] = _
    rw [if_neg (by rw [decide_eq_true_iff]; exact ha)]
    show ((mulM 104729 (c + 1)).map (fun m => (m, [a, b, c + 1])) >>= fun p => _) = _
    rw [m1]
    show ((mulM (c + 1) (c + 1)).map (fun m => (m, [a, b, c + 1])) >>= fun p => _) = _
    rw [m2]
    show ((mulM (b + 104729 * (c + 1)) ((c + 1) * (c + 1) + 7919)).map (fun m => (m, [a, b, c + 1])) >>= fun p => _) = _
    rw [m3]
    show ((modM X 2147483629).map (fun m => (m, [a, b, c + 1])) >>= fun p => _) = _
    rw [m4]
    show ((mulM Y Y).map (fun m => (m, [a, b, c + 1])) >>= fun p => _) = _
    rw [m5]
    show ((modM (Y * Y + (c + 1)) 2147483587).map (fun m => (m, [a, b, c + 1])) >>= fun p => _) = _
    rw [m6]
    show ((mulM Z 48271).map (fun m => (m, [a, b, c + 1])) >>= fun p => _) = _
    rw [m7]
    show ((modM (Z * 48271) 2147483647).map (fun m => (m, [a, b, c + 1])) >>= fun p => _) = _
    rw [m8]
    show ((divM V 64).map (fun m => (m, [a, b, c + 1])) >>= fun p => _) = _
    rw [m9]
    show ((modM (V / 64) many).map (fun m => (m, [a, b, c + 1])) >>= fun p => _) = _
    rw [m10]
    rfl
theorem purse_ex {ns : List Int} {i : Nat} (hi : i < 10) : ∃ s, m_law_purse ⟨ns⟩ (i : Int) = some s ∧ PuOk 0 s := by
  have p1 : powM (10 : Int) (18 : Int) = some (10 ^ 18) := by decide +kernel
  have p2 : powM (10 : Int) (40 : Int) = some (10 ^ 40) := by decide +kernel
  have p3 : powM ((10 : Int) ^ 40) (10 : Int) = some ((10 ^ 40) ^ 10) := by decide +kernel
  unfold m_law_purse
  obtain ⟨j, hj⟩ : ∃ j, (if decide ((i : Int) < (ns.length : Int)) = true then (PyM.up (M := Option) (atM ns (i : Int)) >>= fun g_5 => let law_cell_4 : Int := g_5; pure law_cell_4) else (pure (0 : Int))) = some j := by
    by_cases h : (i : Int) < (ns.length : Int)
    · rw [if_pos (decide_eq_true h)]
      exact ⟨_, opt_bind (a := ns[i]) (by rw [atM_nat]; exact List.getElem?_eq_getElem (by omega)) rfl⟩
    · rw [if_neg (by rw [decide_eq_true_iff]; exact h)]
      exact ⟨0, rfl⟩
  refine opt_bindE hj (opt_bindE p1 (opt_bindE p2 (opt_bindE p3 ?_)))
  refine opt_bindE (modM_eq (by decide +kernel)) ?_
  refine opt_bindE (mulM_eq (k := 13) (l := 4) bd_lit (by have e : (2 : Nat) ^ 4 = 16 := by decide
                                                          unfold Bd; rw [e]; omega)) ?_
  refine opt_bindE (modM_eq (by decide)) ?_
  exact ⟨_, rfl, _, _, 0, rfl, Int.emod_nonneg _ (by decide), Int.emod_lt_of_pos _ (by decide), by decide, by decide⟩
theorem bd_of {k : Nat} {x : Int} (c : Nat) (h : x.natAbs ≤ c) (hc : c < 2 ^ k) : Bd k x := Nat.lt_of_le_of_lt h hc
theorem atM_in {α : Type} {xs : List α} {i : Int} (h0 : 0 ≤ i) (h1 : i < xs.length) : ∃ x, atM xs i = some x ∧ x ∈ xs := by
  obtain ⟨n, rfl⟩ := Int.eq_ofNat_of_zero_le h0
  have hn : n < xs.length := by omega
  exact ⟨xs[n], by rw [show ((n : Nat) : Int) = (n : Int) from rfl, atM_nat]; exact List.getElem?_eq_getElem hn, List.getElem_mem hn⟩
theorem ok_app {a b : Str} (ha : PyData.strOk a = true) (hb : PyData.strOk b = true) : PyData.strOk (a ++ b) = true := by
  show ((a.cps ++ b.cps).all (· < 0x110000)) = true
  rw [Array.all_append]
  unfold PyData.strOk at ha hb
  rw [ha, hb]; rfl
theorem ok_of (s : String) : PyData.strOk (Str.ofString s) = true := by
  unfold PyData.strOk
  rw [Str.ofString_eq_toList]
  show ((s.toList.map Char.toNat).toArray.all (· < 0x110000)) = true
  rw [List.all_toArray, List.all_map, List.all_eq_true]
  intro c _
  have := c.valid
  rw [Function.comp_apply, decide_eq_true_iff]
  show c.toNat < 0x110000
  rcases this with h | h
  · exact Nat.lt_trans h (by decide)
  · exact h.2
theorem ok_from : ∀ (ts : List Str) (k : Nat) (acc : Str), PyData.strOk acc = true → (∀ t ∈ ts, PyData.strOk t = true) → PyData.strOk (textFrom k acc ts) = true
  | [], _, _, h, _ => h
  | t :: ts, k, acc, h, ht => by
    refine ok_from ts (k + 1) _ (ok_app (ok_app h ?_) (ht t (by simp))) fun u hu => ht u (by simp [hu])
    split <;> exact ok_of _
theorem ok_list {ts : List Str} (ht : ∀ t ∈ ts, PyData.strOk t = true) : PyData.strOk (listText ts) = true := ok_app (ok_from ts 0 _ (ok_of _) ht) (ok_of _)
structure Sh (L n : Nat) (d : PyData) : Prop where
  s : PyData.showable d = true
  l : d.shown.length ≤ L
  o : PyData.strOk d.shown = true
  d : d.depth ≤ n
theorem Sh.mono {L L' n n' : Nat} {d : PyData} (h : Sh L n d) (hl : L ≤ L' := by omega) (hn : n ≤ n' := by omega) : Sh L' n' d := ⟨h.s, Nat.le_trans h.l hl, h.o, Nat.le_trans h.d hn⟩
theorem sh_all {L n : Nat} : ∀ {ds : List PyData}, (∀ d ∈ ds, Sh L n d) → PyData.showableAll ds = true ∧ ((PyData.shownAll ds).map (·.length)).sum ≤ L * ds.length ∧ (∀ t ∈ PyData.shownAll ds, PyData.strOk t = true) ∧ PyData.depthAll ds ≤ n ∧ (PyData.shownAll ds).length = ds.length
  | [], _ => ⟨rfl, Nat.zero_le _, fun t ht => by simp [PyData.shownAll] at ht, Nat.zero_le _, rfl⟩
  | d :: ds, h => by
    obtain ⟨a1, a2, a3, a4, a5⟩ := sh_all (ds := ds) fun x hx => h x (by simp [hx])
    have hd := h d (by simp)
    refine ⟨?_, ?_, ?_, ?_, ?_⟩
    · simp only [PyData.showableAll]; rw [hd.s, a1]; rfl
    · simp only [PyData.shownAll, List.map_cons, List.sum_cons, List.length_cons]
      have := hd.l
      rw [Nat.mul_succ]
      omega
    · intro t ht
      simp only [PyData.shownAll, List.mem_cons] at ht
      rcases ht with rfl | ht
      · exact hd.o
      · exact a3 t ht
    · rw [PyData.depthAll]
      exact Nat.max_le.mpr ⟨hd.d, a4⟩
    · simp only [PyData.shownAll, List.length_cons, a5]
theorem sh_list {L n N : Nat} {ds : List PyData} (h : ∀ d ∈ ds, Sh L n d) (hN : ds.length ≤ N) : Sh ((L + 2) * N + 3) (n + 1) (.list ds) := by
  obtain ⟨a1, a2, a3, a4, a5⟩ := sh_all h
  refine ⟨by simp only [PyData.showable]; exact a1, ?_, ?_, ?_⟩
  · simp only [PyData.shown]
    have := listText_len_le (PyData.shownAll ds)
    have : (L + 2) * ds.length ≤ (L + 2) * N := Nat.mul_le_mul_left _ hN
    rw [Nat.add_mul] at this
    omega
  · simp only [PyData.shown]; exact ok_list a3
  · rw [PyData.depth]; exact Nat.succ_le_succ a4
theorem sh_int {i : Int} (h : Bd 600 i) : Sh 602 0 (.int i) := by
  have l := h.log
  refine ⟨?_, ?_, ?_, Nat.le_refl _⟩
  · show decide (i.natAbs.log2 < 1920) = true
    rw [decide_eq_true_iff]; omega
  · show (Str.ofString (toString i)).length ≤ 602
    rw [PySem.ofString_length]; exact int_text_length_le (k := 601) (by decide) (by omega)
  · exact ok_of _
theorem sh_bool (b : Bool) : Sh 602 0 (.bool b) := by cases b <;> exact ⟨by decide +kernel, by decide +kernel, by decide +kernel, by decide +kernel⟩
end SP
namespace SP
open PySem PySem.Spec PyProof.Rows L2
theorem W.runE {α : Type} {m : Stm Pu α} {k : Nat} {a : α} {s : Pu} (h : W m k (fun r => r = a)) (hs : PuOk 0 s) (hk : k ≤ 100000 := by decide) : (m s).map (·.1) = some a := by
  obtain ⟨b, s', e, _, h2⟩ := h 0 s (by omega) hs
  rw [e, ← h2]; rfl
theorem W.allV {α : Type} {f : V → Stm Pu α} {a : α} (h : ∀ v s, f v s = some (a, s)) : W (SP.allV f) 0 (fun r => r = a) := fun n s hn hs => ⟨a, s, allV_eq fun v => h v s, hs, rfl⟩
def Told (d : PyData) : Prop := ∃ L n, Sh L n d ∧ L ≤ 2000000 ∧ n ≤ 30
theorem told_of {L n : Nat} {d : PyData} (h : Sh L n d) (hL : L ≤ 2000000 := by omega) (hn : n ≤ 30 := by omega) : Told d := ⟨L, n, h, hL, hn⟩
def six (v : V) : List Exv := [⟨"InvalidArea", v⟩, ⟨"InvalidPlate", v⟩, ⟨"InvalidPoint", v⟩, ⟨"InvalidLength", v⟩, ⟨"InvalidFactor", v⟩, ⟨"InvalidFlag", v⟩]
theorem vals_six (v : V) : mapL (M := Option) (fun (law_error_3 : Exv) => PyM.up (M := Option) (valM xns law_error_3) >>= fun v_4 => pure v_4) (six v) = some [v, v, v, v, v, v] := by kernel_rfl
theorem classes_six (v : V) : mapL (M := Option) (fun (law_error_8 : Exv) => PyM.up (M := Option) (m_law_classes law_error_8) >>= fun r_9 => pure r_9) (six v) = some [[0], [1], [2], [3], [4], [5]] := by kernel_rfl
theorem rep_six (v : V) : repM [v] (6 : Int) = some [v, v, v, v, v, v] := by kernel_rfl
theorem right_six {v : V} {d : PyData} (h : Told d) : m_law_right (six v) ⟨v, d⟩ = some true := by
  obtain ⟨L, n, hs, hL, hn⟩ := h
  have sl := sh_list (N := 6) (ds := List.replicate 6 d) (fun x hx => by rw [List.eq_of_mem_replicate hx]; exact hs) (by simp)
  have hr : reprV [v, v, v, v, v, v] ⟨v, d⟩ = some (PyData.shown (.list (List.replicate 6 d))) := by
    unfold reprV
    refine if_pos ⟨fun x hx => ?_, hs.s, ?_, ?_⟩
    · simp only [List.mem_cons, List.not_mem_nil, or_false, or_self] at hx
      exact hx
    · exact Nat.le_trans sl.l (by omega)
    · exact Nat.le_trans hs.d (by show n ≤ 31; omega)
  unfold m_law_right
  refine opt_bind (szM_eq (by simp [six])) ?_
  refine opt_bind (m := mapL _ (six v)) (vals_six v) ?_
  refine opt_bind hr ?_
  refine opt_bind (rep_six v) ?_
  refine opt_bind hr ?_
  refine (if_neg (by simp)).trans ?_
  refine opt_bind (szM_eq (by simp [six])) ?_
  refine opt_bind (m := mapL _ (six v)) (classes_six v) ?_
  kernel_rfl
theorem more_six {v : V} {ds : List PyData} (h : ds.length ≤ 10) : moreM (six v) (six v) ⟨v, .list ds⟩ = some ⟨v, .list (ds ++ [.str "more"])⟩ := by
  unfold moreM
  exact if_pos ⟨by simp [six], by simp [six], by omega⟩
theorem sh_str0 : Sh 100 0 (.str "more") := ⟨by decide +kernel, by decide +kernel, by decide +kernel, by decide +kernel⟩
theorem sh_a : Sh 100 0 (.str "a") := ⟨by decide +kernel, by decide +kernel, by decide +kernel, by decide +kernel⟩
theorem sh_xs {k : Int} (h0 : 0 ≤ k) (h1 : k < 9) : ∃ s, smulM "x" k = some s ∧ Sh 100 0 (.str s) := by
  have : k = 0 ∨ k = 1 ∨ k = 2 ∨ k = 3 ∨ k = 4 ∨ k = 5 ∨ k = 6 ∨ k = 7 ∨ k = 8 := by omega
  rcases this with rfl | rfl | rfl | rfl | rfl | rfl | rfl | rfl | rfl <;> exact ⟨_, if_pos ⟨rfl, by decide, by decide⟩, by decide +kernel, by decide +kernel, by decide +kernel, by decide +kernel⟩
def vs9 (n : Int) (x : Str) : List PyData := [PyData.none, PyData.bool true, PyData.int n, PyData.int ((0 : Int) - n), PyData.str x, PyData.tuple [], PyData.list (List.map PyData.int ([n])), PyData.list (List.map (fun x => PyData.list (List.map PyData.str x)) ([([] : (List Str)), ["a"]])), PyData.dict []]
theorem sh_none : Sh 100 0 PyData.none := ⟨by decide +kernel, by decide +kernel, by decide +kernel, by decide +kernel⟩
theorem sh_dict : Sh 100 30 (PyData.dict []) := ⟨by decide +kernel, by decide +kernel, by decide +kernel, by decide +kernel⟩
theorem sh_tup0 : Sh 100 30 (PyData.tuple []) := ⟨by decide +kernel, by decide +kernel, by decide +kernel, by decide +kernel⟩
theorem sh_nil : Sh 100 1 (PyData.list []) := ⟨by decide +kernel, by decide +kernel, by decide +kernel, by decide +kernel⟩
theorem sh_as : Sh 300 1 (PyData.list [.str "a"]) := (sh_list (N := 1) (fun d hd => by rw [List.mem_singleton.mp hd]; exact sh_a) (by simp)).mono
theorem told9 {n : Int} {x : Str} (hn : Bd 600 n) (hx : Sh 100 0 (.str x)) : ∀ d ∈ vs9 n x, Told d ∧ ∀ ds, d = .list ds → ds.length ≤ 10 ∧ Told (.list (ds ++ [.str "more"])) := fun d hd => by
  have hm : Bd 600 ((0 : Int) - n) := by unfold Bd at *; omega
  have nl : ∀ {d : PyData} (h : ∀ ds, d ≠ .list ds) (ds : List PyData), d = .list ds → ds.length ≤ 10 ∧ Told (.list (ds ++ [.str "more"])) := fun h ds e => absurd e (h ds)
  simp only [vs9, List.mem_cons, List.not_mem_nil, or_false] at hd
  rcases hd with rfl | rfl | rfl | rfl | rfl | rfl | rfl | rfl | rfl
  · exact ⟨told_of sh_none, nl fun _ e => by cases e⟩
  · exact ⟨told_of (sh_bool true), nl fun _ e => by cases e⟩
  · exact ⟨told_of (sh_int hn), nl fun _ e => by cases e⟩
  · exact ⟨told_of (sh_int hm), nl fun _ e => by cases e⟩
  · exact ⟨told_of hx, nl fun _ e => by cases e⟩
  · exact ⟨told_of sh_tup0, nl fun _ e => by cases e⟩
  · refine ⟨told_of (sh_list (N := 1) (L := 602) (n := 0) (fun d hd => ?_) (by simp)), fun ds e => ?_⟩
    · have : d = .int n := by simpa using hd
      rw [this]; exact sh_int hn
    · have e : ds = [.int n] := by injection e with e; exact e.symm
      subst e
      refine ⟨by simp, told_of (sh_list (N := 2) (L := 602) (n := 0) (fun d hd => ?_) (by simp))⟩
      have : d = .int n ∨ d = .str "more" := by simpa using hd
      rcases this with rfl | rfl
      · exact sh_int hn
      · exact sh_str0.mono
  · refine ⟨told_of (sh_list (N := 2) (L := 300) (n := 1) (fun d hd => ?_) (by simp)), fun ds e => ?_⟩
    · have : d = .list [] ∨ d = .list [.str "a"] := by simpa using hd
      rcases this with rfl | rfl
      · exact sh_nil.mono
      · exact sh_as
    · have e : ds = [.list [], .list [.str "a"]] := by injection e with e; exact e.symm
      subst e
      refine ⟨by simp, told_of (sh_list (N := 3) (L := 300) (n := 1) (fun d hd => ?_) (by simp))⟩
      have : d = .list [] ∨ d = .list [.str "a"] ∨ d = .str "more" := by simpa using hd
      rcases this with rfl | rfl | rfl
      · exact sh_nil.mono
      · exact sh_as
      · exact sh_str0.mono
  · exact ⟨told_of sh_dict, nl fun _ e => by cases e⟩
theorem bindS {α β : Type} {m : Stm Pu α} {a : α} {f : α → Stm Pu β} {s : Pu} {r : Option (β × Pu)} (h : m s = some (a, s)) (hf : f a s = r) : (m >>= f) s = r := by
  show (m s).bind (fun p => f p.1 p.2) = r
  rw [h]; exact hf
theorem upS {α β : Type} {o : Option α} {a : α} {f : α → Stm Pu β} {s : Pu} {r : Option (β × Pu)} (h : o = some a) (hf : f a s = r) : ((PyM.up o : Stm Pu α) >>= f) s = r := by
  subst h; exact hf
theorem law_true (ns : List Int) (hl : ns.length ≤ 63) (hz : ∀ z ∈ ns, Builtin.Int.intBits z ≤ 1048576) : m_law ⟨ns⟩ = some true := by
  unfold m_law
  obtain ⟨s, s1, s2⟩ := purse_ex (ns := ns) (i := 0) (by omega)
  refine opt_bind s1 ?_
  refine W.runE (k := 10) ?_ s2
  have p6 : powM (10 : Int) (6 : Int) = some 1000000 := by kernel_rfl
  have p33 : powM (10 : Int) (33 : Int) = some (10 ^ 33) := by kernel_rfl
  refine W.up p6 (W.bind (draw_W (many := 1000000) (by decide) bd_lit) (fun r1 h1 => ?_) (Nat.le_refl (1 + 9)))
  refine W.up p33 (W.up (mulM_eq (k := 20) (l := 120) (bd_of 1000000 (by omega) (by decide)) bd_lit) (W.up p6 (W.bind (draw_W (many := 1000000) (by decide) bd_lit) (fun r2 h2 => ?_) (Nat.le_refl (1 + 8)))))
  refine W.bind (draw_W (many := 9) (by decide) bd_lit) (fun r3 h3 => ?_) (Nat.le_refl (1 + 7))
  obtain ⟨x, x1, x2⟩ := sh_xs h3.1 h3.2
  refine W.up x1 (W.up (szM_eq (by simp)) (W.bind (l := 6) (draw_W (many := 9) (by decide) bd_lit) (fun i hi => ?_) (by decide)))
  have bn : Bd 600 (r1 * 10 ^ 33 + r2) := by
    have b1 : Bd 140 (r1 * 10 ^ 33) := ((bd_of 1000000 (by omega) (by decide) : Bd 20 r1).mul (bd_lit : Bd 120 ((10 : Int) ^ 33))).mono
    exact (b1.add (bd_of 1000000 (by omega) (by decide) : Bd 140 r2)).mono
  refine (W.allV fun v s => ?_).imp (by decide) fun _ h => h
  obtain ⟨d, d1, d2⟩ := atM_in (xs := vs9 (r1 * 10 ^ 33 + r2) x) hi.1 (by simp [vs9]; omega)
  obtain ⟨td, tm⟩ := told9 bn x2 d d2
  refine upS d1 ?_
  have rs := right_six (v := v) td
  have rn := right_six (v := .non) (d := .none) (told_of sh_none)
  refine upS (a := six v) (apM_eq (by simp)) ?_
  refine upS (a := six v) (catM_eq (by simp)) ?_
  refine upS rs ?_
  refine bindS (a := false) ?_ ?_
  · rw [if_neg (by decide)]
    refine upS rs (bindS (a := false) ?_ rfl)
    rw [if_neg (by decide)]
    exact upS rn rfl
  rw [if_neg (by decide)]
  show (if (isL d) = true then _ else (pure true : Stm Pu Bool)) s = _
  cases hd : isL d with
  | false => rw [if_neg (by decide)]; rfl
  | true =>
    rw [if_pos rfl]
    obtain ⟨ds, rfl⟩ : ∃ ds, d = .list ds := by
      cases d <;> first | exact ⟨_, rfl⟩ | cases hd
    obtain ⟨hl', ht⟩ := tm ds rfl
    have rm := right_six (v := v) ht
    refine upS (more_six hl') (upS rm (bindS (a := true) ?_ rfl))
    rw [if_pos rfl]
    exact upS rm rfl
end SP
namespace SP
open PySem PySem.Spec PyProof.Rows L2
theorem hTx {P : Program} (hP : P = PySem.Challenge.pw_slideplates_k01_errors_made) {K : Frag} {h : Heap} {mg : Str → Option Value} (X : K.In h) (G : h.Ns mainGlobals mg) (c : SaysU hfa hfn hfx hgt hxs K) : Tx P K mg where
  b_ValueError := He.free_ok X G (c.t.d.fact 0 rfl)
  b_int := He.free_ok X G (c.t.d.fact 1 rfl)
  b_isinstance := He.free_ok X G (c.t.d.fact 2 rfl)
  b_len := He.free_ok X G (c.t.d.fact 3 rfl)
  b_list := He.free_ok X G (c.t.d.fact 4 rfl)
  b_max := He.free_ok X G (c.t.d.fact 5 rfl)
  b_range := He.free_ok X G (c.t.d.fact 6 rfl)
  b_repr := He.free_ok X G (c.t.d.fact 7 rfl)
  gc_InvalidArea := He.glo_ok X G (c.t.d.fact 9 rfl)
  gc_InvalidFactor := He.glo_ok X G (c.t.d.fact 10 rfl)
  gc_InvalidFlag := He.glo_ok X G (c.t.d.fact 11 rfl)
  gc_InvalidLength := He.glo_ok X G (c.t.d.fact 12 rfl)
  gc_InvalidPlate := He.glo_ok X G (c.t.d.fact 13 rfl)
  gc_InvalidPoint := He.glo_ok X G (c.t.d.fact 14 rfl)
  gc_SlidePlatesError := He.glo_ok X G (c.t.d.fact 15 rfl)
  g_law_purse := He.glo_ok X G (c.t.d.fact 16 rfl)
  f_law_purse := c.t.d.def_ 0 rfl
  g_law_draw := He.glo_ok X G (c.t.d.fact 17 rfl)
  f_law_draw := c.t.d.def_ 1 rfl
  g_law_pick := He.glo_ok X G (c.t.d.fact 18 rfl)
  f_law_pick := c.t.d.def_ 2 rfl
  g_law_classes := He.glo_ok X G (c.t.d.fact 19 rfl)
  f_law_classes := c.t.d.def_ 3 rfl
  g_law_right := He.glo_ok X G (c.t.d.fact 20 rfl)
  f_law_right := c.t.d.def_ 4 rfl
  g_law := He.glo_ok X G (c.t.d.fact 21 rfl)
  f_law := c.t.d.def_ 5 rfl
  xu_InvalidArea := by subst hP; exact xu_ok (mg := mg) (c.exc 0 rfl).1 (c.exc 0 rfl).2 exa_0 exb_0 (He.free_ok X G (c.t.d.fact 8 rfl)) htop (beq_self_eq_true _)
  xu_InvalidPlate := by subst hP; exact xu_ok (mg := mg) (c.exc 1 rfl).1 (c.exc 1 rfl).2 exa_1 exb_1 (He.free_ok X G (c.t.d.fact 8 rfl)) htop (beq_self_eq_true _)
  xu_InvalidPoint := by subst hP; exact xu_ok (mg := mg) (c.exc 2 rfl).1 (c.exc 2 rfl).2 exa_2 exb_2 (He.free_ok X G (c.t.d.fact 8 rfl)) htop (beq_self_eq_true _)
  xu_InvalidLength := by subst hP; exact xu_ok (mg := mg) (c.exc 3 rfl).1 (c.exc 3 rfl).2 exa_3 exb_3 (He.free_ok X G (c.t.d.fact 8 rfl)) htop (beq_self_eq_true _)
  xu_InvalidFactor := by subst hP; exact xu_ok (mg := mg) (c.exc 4 rfl).1 (c.exc 4 rfl).2 exa_4 exb_4 (He.free_ok X G (c.t.d.fact 8 rfl)) htop (beq_self_eq_true _)
  xu_InvalidFlag := by subst hP; exact xu_ok (mg := mg) (c.exc 5 rfl).1 (c.exc 5 rfl).2 exa_5 exb_5 (He.free_ok X G (c.t.d.fact 8 rfl)) htop (beq_self_eq_true _)
  xa := c.all
theorem hlaw {P : Program} (hP : P = PySem.Challenge.pw_slideplates_k01_errors_made) {w : World} {K : Frag} {h : Heap} {mg : Str → Option Value} {fa : Addr} (X : K.In h) (G : h.Ns mainGlobals mg) (hmg : mg ("law" : Str) = some (.ref fa)) (c : SaysU hfa hfn hfx hgt hxs K) :
    ∃ fd : FuncData, (∀ (s : Shared) (v : Value), BindsTo s fd ⟨[v], []⟩ [("_law_script", v)]) ∧ ∀ base : Heap, K.In base → base.Ns mainGlobals mg → FnOkG P w K mg base (L2.CX P w) 3 fa fd ["_law_script"] (spP K (fun x : Script × Unit => m_law x.1)) := by
  have T := hTx hP X G c
  have e := hmg.symm.trans T.g_law
  cases e
  obtain ⟨fd, F⟩ := T.f_law
  have b := FunD.bindsA (ps := ["_law_script"]) F fun _ _ _ _ _ _ us hl => match us, hl with | [_], _ => rfl
  exact ⟨fd, fun s v => b s [v] rfl, fun base _ _ => ok_law (P := P) (w := w) (base := base) T F⟩
end SP
namespace SP
open PySem PySem.Spec PyProof.Rows L2
end SP
open PySem PySem.W PySem.Calls PyProof.Rows
theorem PySem.Challenge.cw_slideplates_k01_errors_made_holds : PySem.Challenge.rw_slideplates_k01_errors_made.Holds := by
  w_on; o_law
  refine HandSHeadRun.head_any (r := OpenLaw.row PySem.Challenge.rw_slideplates_k01_errors_made) (q := view (OpenLaw.row PySem.Challenge.rw_slideplates_k01_errors_made).prog [14]) (H := SP.hhk) (ob := SP.hob) (M := 2270) (loose := SP.hnames) (d := HandSHeadRun.topDef (OpenLaw.row PySem.Challenge.rw_slideplates_k01_errors_made).prog 14) (kwd := []) SP.hob_eq
    (by kernel_rfl) (fun s => by kernel_rfl) SP.hrun (by kernel_rfl) (by kernel_rfl) (by kernel_rfl) (by rfl) (by first | assumption | decide +kernel) (by decide +kernel) ⟨rfl, rfl, rfl, rfl, rfl, by decide +kernel⟩ ?hw ?hc
  case hw => w_witness2
  case hc =>
    refine SP.walkG (l := PySem.Challenge.rw_slideplates_k01_errors_made) (n := 63) (k := 3) (x := "_law_script") (CX := fun w => L2.CX (PySem.Challenge.rw_slideplates_k01_errors_made).prog w) (sp := fun w K => (SP.spP K (fun x : SP.Script × Unit => SP.m_law x.1))) rfl (by decide) (by kernel_rfl) ⟨rfl, by decide, by decide⟩ ?F ?S ?X
    case F =>
      intro w mg fa h Y G hmg0
      obtain ⟨K, KX, c⟩ := Y
      have hmg : mg ("law" : PySem.Str) = some (.ref fa) := by
        have e : (HandSHeadRun.topDef (OpenLaw.row PySem.Challenge.rw_slideplates_k01_errors_made).prog 14).name = ("law" : PySem.Str) := by kernel_rfl
        rw [← e]
        exact hmg0
      obtain ⟨fd, hb, hF⟩ := SP.hlaw (P := (PySem.Challenge.rw_slideplates_k01_errors_made).prog) rfl (w := w) KX G hmg c
      exact ⟨K, fd, KX, hb, hF⟩
    case S =>
      intro w K H a ns hl hz hO hS
      exact SP.spLaw_of hS (SP.law_true ns hl hz)
    case X =>
      intro w H s e s' z
      obtain ⟨_, _, _, _, _, _, _, _, _, _, _, _, z⟩ := z
      exact z.elim

