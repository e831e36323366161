import PyProof.Rows.All
import Wide.All
import OpenK.AllK
import Wide.FinOn
import HandS.ForMost
import HandS.ForExc
import HandS.TryMany
import HandS.CallSlots
import HandS.Defaults
import HandS.Style
import HandS.TupAny
import HandS.TupMul
import HandS.Wide
import HandS.IsInst
import PyProof.StrOps2
import PyProof.Rows.RuleB_pow
import KE.GoesMore
import HandS.Zip
import HandS.Star
import KE.KStateDown
import HandS.Base
import HandS.Call
import HandS.Ends
import HandS.More
import HandS.Words
import HandS.WordsExc
import HandS.Head0
import HandS.Head1
import HandS.Head2
import HandS.HeadEnd
import HandS.HeadHook1
import HandS.HeadHook2
import HandS.HeadHook3
import HandS.HeadHook4
import PySem.Challenge.RW_signedcounts_k07_whole_leading_patterns
set_option linter.all false
set_option Elab.async false
set_option maxRecDepth 100000
set_option maxHeartbeats 2000000
/-! MM: deep data, an environment of slots, and mirrors of expressions and statements as plain functions, over the hand layer's judgements -/
namespace MM
open PySem PySem.Spec PyProof.Rows L2

/-! ### deep data -/
inductive D where
  | non | bl (b : Bool) | int (i : Int) | str (l : List Nat)
  | lst (l : List D) | tup (l : List D)
  | dic (l : List (Key × D))
  | ins (c : Str) (l : List (Str × D))
  /-- a list that is only read (the script) -/
  | ro (l : List D)
  deriving Inhabited
/-- the written part, where the classes stand -/
structure GG where
  K : PySem.W.Frag
  cls : Str → Option Addr
/-- what is kept of a raised exception: its class, its fields -/
structure Exn where
  c : Str
  fs : List (Str × D)
/-- a slot: unknown; data that never changes; an object of the def's own; a caller's object that the def may change -/
inductive S where
  | un | d (x : D) | o (x : D) | p (x : D)
  deriving Inhabited
def S.own : S → Option D
  | .o x => some x
  | .p x => some x
  | _ => none
/-- a value: data, a slot's object, a new object that nobody holds -/
inductive RV where
  | d (x : D) | r (i : Nat) | f (x : D)
inductive R (α : Type) where
  | ok (a : α) (ρ : List S) | ex (e : Exn) (ρ : List S) | bad
abbrev Ex := List S → R RV
inductive Out where
  | nx (ρ : List S) | rt (r : RV) (ρ : List S) | bk (ρ : List S) | ct (ρ : List S) | ex (e : Exn) (ρ : List S) | bad
abbrev Sm := List S → Out
inductive FO where
  | rt (r : RV) (ρ : List S) | ex (e : Exn) (ρ : List S) | bad
abbrev Fn := List S → FO

/-! ### how data lies in the frozen heap F -/
mutual
inductive Rep (G : GG) (F : Hp) : V → D → Prop
  | non : Rep G F .non .non
  | bl (b : Bool) : Rep G F (.bl b) (.bl b)
  | int (i : Int) : Rep G F (.int i) (.int i)
  | str {x : Str} {l : List Nat} : x.cps.toList = l → Rep G F (.str x) (.str l)
  | lst {a : Addr} {xs : List V} {ds : List D} : F a = some (.lst xs) → RepA G F xs ds → Rep G F (.ref a) (.lst ds)
  | ro {a : Addr} {xs : List V} {ds : List D} : SqL G.K F a xs → RepA G F xs ds → Rep G F (.ref a) (.ro ds)
  | tup {a : Addr} {xs : List V} {ds : List D} : SqT G.K F a xs → RepA G F xs ds → Rep G F (.ref a) (.tup ds)
  | dic {a : Addr} {kvs : List (Key × V)} {es : List (Key × D)} : F a = some (.dK kvs) → RepK G F kvs es → Rep G F (.ref a) (.dic es)
  | ins {a C dx : Addr} {c : Str} {fs : List (Str × V)} {es : List (Str × D)} : G.cls c = some C → F a = some (.ins C dx fs) → RepF G F fs es → Rep G F (.ref a) (.ins c es)
inductive RepA (G : GG) (F : Hp) : List V → List D → Prop
  | nil : RepA G F [] []
  | cons {v : V} {vs : List V} {d : D} {ds : List D} : Rep G F v d → RepA G F vs ds → RepA G F (v :: vs) (d :: ds)
inductive RepK (G : GG) (F : Hp) : List (Key × V) → List (Key × D) → Prop
  | nil : RepK G F [] []
  | cons {k : Key} {v : V} {vs : List (Key × V)} {d : D} {ds : List (Key × D)} : Rep G F v d → RepK G F vs ds → RepK G F ((k, v) :: vs) ((k, d) :: ds)
inductive RepF (G : GG) (F : Hp) : List (Str × V) → List (Str × D) → Prop
  | nil : RepF G F [] []
  | cons {k : Str} {v : V} {vs : List (Str × V)} {d : D} {ds : List (Str × D)} : Rep G F v d → RepF G F vs ds → RepF G F ((k, v) :: vs) ((k, d) :: ds)
end
section
variable {G : GG} {F F' H : Hp}
theorem sqT_same {K : PySem.W.Frag} {H H' : Hp} {a : Addr} {xs : List V} (e : Same H H') (h : SqT K H a xs) : SqT K H' a xs := by
  rcases h with (h | ⟨o, h⟩) | h
  · exact .inl (.inl (e _ _ h))
  · exact .inl (.inr ⟨o, e _ _ h⟩)
  · exact .inr h
mutual
theorem Rep.mono (s : Same F F') : ∀ {v : V} {x : D}, Rep G F v x → Rep G F' v x
  | _, _, .non => .non
  | _, _, .bl b => .bl b
  | _, _, .int i => .int i
  | _, _, .str e => .str e
  | _, _, .lst h r => .lst (s _ _ h) (RepA.mono s r)
  | _, _, .ro h r => .ro (s.seq h) (RepA.mono s r)
  | _, _, .tup h r => .tup (sqT_same s h) (RepA.mono s r)
  | _, _, .dic h r => .dic (s _ _ h) (RepK.mono s r)
  | _, _, .ins c h r => .ins c (s _ _ h) (RepF.mono s r)
theorem RepA.mono (s : Same F F') : ∀ {v : List V} {x : List D}, RepA G F v x → RepA G F' v x
  | _, _, .nil => .nil
  | _, _, .cons h r => .cons (h.mono s) (RepA.mono s r)
theorem RepK.mono (s : Same F F') : ∀ {v : List (Key × V)} {x : List (Key × D)}, RepK G F v x → RepK G F' v x
  | _, _, .nil => .nil
  | _, _, .cons h r => .cons (h.mono s) (RepK.mono s r)
theorem RepF.mono (s : Same F F') : ∀ {v : List (Str × V)} {x : List (Str × D)}, RepF G F v x → RepF G F' v x
  | _, _, .nil => .nil
  | _, _, .cons h r => .cons (h.mono s) (RepF.mono s r)
end
theorem RepA.length : ∀ {vs : List V} {ds : List D}, RepA G F vs ds → vs.length = ds.length
  | _, _, .nil => rfl
  | _, _, .cons _ r => congrArg Nat.succ r.length
theorem RepA.get : ∀ {vs : List V} {ds : List D} {i : Nat} {x : D}, RepA G F vs ds → ds[i]? = some x → ∃ v, vs[i]? = some v ∧ Rep G F v x
  | _, _, _, _, .nil, h => by simp at h
  | _, _, 0, _, .cons (v := v) h _, e => by
    simp at e; subst e
    exact ⟨v, rfl, h⟩
  | _, _, i + 1, _, .cons _ r, e => by
    obtain ⟨v, h1, h2⟩ := r.get (i := i) (by simpa using e)
    exact ⟨v, by simpa using h1, h2⟩
theorem RepA.getV : ∀ {vs : List V} {ds : List D} {i : Nat} {v : V}, RepA G F vs ds → vs[i]? = some v → ∃ x, ds[i]? = some x ∧ Rep G F v x
  | _, _, _, _, .nil, h => by simp at h
  | _, _, 0, _, .cons (d := d) h _, e => by
    simp at e; subst e
    exact ⟨d, rfl, h⟩
  | _, _, i + 1, _, .cons _ r, e => by
    obtain ⟨v, h1, h2⟩ := r.getV (i := i) (by simpa using e)
    exact ⟨v, by simpa using h1, h2⟩
theorem RepA.append : ∀ {vs us : List V} {ds es : List D}, RepA G F vs ds → RepA G F us es → RepA G F (vs ++ us) (ds ++ es)
  | _, _, _, _, .nil, s => s
  | _, _, _, _, .cons h r, s => .cons h (r.append s)
theorem RepA.set : ∀ {vs : List V} {ds : List D} {v : V} {x : D} (i : Nat), RepA G F vs ds → Rep G F v x → RepA G F (vs.set i v) (ds.set i x)
  | _, _, _, _, _, .nil, _ => .nil
  | _, _, _, _, 0, .cons _ r, s => .cons s r
  | _, _, _, _, i + 1, .cons h r, s => .cons h (RepA.set i r s)
theorem RepA.take : ∀ {vs : List V} {ds : List D} (n : Nat), RepA G F vs ds → RepA G F (vs.take n) (ds.take n)
  | _, _, 0, _ => .nil
  | _, _, _ + 1, .nil => .nil
  | _, _, n + 1, .cons h r => .cons h (RepA.take n r)
theorem RepA.drop : ∀ {vs : List V} {ds : List D} (n : Nat), RepA G F vs ds → RepA G F (vs.drop n) (ds.drop n)
  | _, _, 0, r => r
  | _, _, _ + 1, .nil => .nil
  | _, _, n + 1, .cons _ r => RepA.drop n r
theorem RepA.ones {v : V} {x : D} (h : Rep G F v x) : RepA G F [v] [x] := .cons h .nil
theorem RepA.reverse : ∀ {vs : List V} {ds : List D}, RepA G F vs ds → RepA G F vs.reverse ds.reverse
  | _, _, .nil => .nil
  | _, _, .cons h r => by
    rw [List.reverse_cons, List.reverse_cons]
    exact r.reverse.append (.ones h)
theorem RepA.eraseIdx : ∀ {vs : List V} {ds : List D} (i : Nat), RepA G F vs ds → RepA G F (vs.eraseIdx i) (ds.eraseIdx i)
  | _, _, _, .nil => .nil
  | _, _, 0, .cons _ r => r
  | _, _, i + 1, .cons h r => .cons h (RepA.eraseIdx i r)
theorem RepA.dropLast {vs : List V} {ds : List D} (h : RepA G F vs ds) : RepA G F vs.dropLast ds.dropLast := by
  rw [List.dropLast_eq_take, List.dropLast_eq_take, h.length]
  exact h.take _
end

/-! ### an object that may change -/
def OwnAt (G : GG) (F H : Hp) (a : Addr) : D → Prop
  | .lst ds => ∃ xs, H a = some (.lst xs) ∧ RepA G F xs ds
  | .dic es => ∃ kvs, H a = some (.dK kvs) ∧ RepK G F kvs es
  | _ => False
theorem OwnAt.mono {G : GG} {F F' H H' : Hp} {a : Addr} {x : D} (h : OwnAt G F H a x) (s : Same F F') (e : H' a = H a) : OwnAt G F' H' a x := by
  cases x with
  | lst ds =>
    obtain ⟨xs, h1, h2⟩ := h
    exact ⟨xs, e.trans h1, h2.mono s⟩
  | dic es =>
    obtain ⟨xs, h1, h2⟩ := h
    exact ⟨xs, e.trans h1, h2.mono s⟩
  | _ => exact h.elim
theorem OwnAt.there {G : GG} {F H : Hp} {a : Addr} {x : D} (h : OwnAt G F H a x) : ∃ o, H a = some o := by
  cases x with
  | lst ds => exact ⟨_, h.choose_spec.1⟩
  | dic es => exact ⟨_, h.choose_spec.1⟩
  | _ => exact h.elim
/-- it is data from now on -/
theorem OwnAt.rep {G : GG} {F H : Hp} {a : Addr} {x : D} (h : OwnAt G F H a x) (n : F a = none) : ∃ o, H a = some o ∧ Rep G (upd F a o) (.ref a) x := by
  cases x with
  | lst ds =>
    obtain ⟨xs, h1, h2⟩ := h
    exact ⟨_, h1, .lst upd_same (h2.mono fun b o e => by rw [upd_ne (ne_of_none e n)]; exact e)⟩
  | dic es =>
    obtain ⟨xs, h1, h2⟩ := h
    exact ⟨_, h1, .dic upd_same (h2.mono fun b o e => by rw [upd_ne (ne_of_none e n)]; exact e)⟩
  | _ => exact h.elim
/-- data, or an object as it stands now -/
def RepT (G : GG) (F H : Hp) (v : V) (x : D) : Prop := Rep G F v x ∨ ∃ a, v = .ref a ∧ OwnAt G F H a x

theorem same_upd {H : Hp} {p : Addr} {o : HO} (h : H p = none) : Same H (upd H p o) := fun b x e => by
  rw [upd_ne (ne_of_none e h)]
  exact e

/-! ### the state -/
/-- the entry: the heap, what is frozen, where the callers' objects of the parameters lie, and what waits in the midst of a row of values -/
structure Gh where
  H : Hp
  F : Hp
  P : Nat → Option Addr
  T : List (Addr × D)
structure Good (G : GG) (g : Gh) (F : Hp) (ρ : List S) (σ : L2.St) (H : Hp) : Prop where
  len : σ.length = ρ.length
  fh : Same F H
  f0 : Same g.F F
  keep : ∀ a o, g.H a = some o → (∀ i, g.P i ≠ some a) → H a = some o
  fresh : ∀ a, F a ≠ none → g.F a ≠ none ∨ g.H a = none
  dat : ∀ (i : Nat) (x : D), ρ[i]? = some (S.d x) → ∃ v, σ[i]? = some (some v) ∧ Rep G F v x
  obj : ∀ (i : Nat) (x : D), ρ[i]? = some (S.o x) → ∃ a : Addr, σ[i]? = some (some (V.ref a)) ∧ F a = none ∧ OwnAt G F H a x ∧ g.H a = none
  prm : ∀ (i : Nat) (x : D), ρ[i]? = some (S.p x) → ∃ a : Addr, σ[i]? = some (some (V.ref a)) ∧ F a = none ∧ OwnAt G F H a x ∧ g.P i = some a
  par : ∀ (i : Nat) (a : Addr), g.P i = some a → (∃ x : D, ρ[i]? = some (S.p x)) ∧ ∃ o, g.H a = some o
  apart : ∀ (i j : Nat) (s t : S) (a : Addr), i ≠ j → ρ[i]? = some s → ρ[j]? = some t → s.own ≠ none → t.own ≠ none → σ[i]? = some (some (V.ref a)) → σ[j]? ≠ some (some (V.ref a))
  tmp : ∀ q : Addr × D, q ∈ g.T → F q.1 = none ∧ OwnAt G F H q.1 q.2 ∧ g.H q.1 = none ∧ ∀ (i : Nat) (s : S), ρ[i]? = some s → s.own ≠ none → σ[i]? ≠ some (some (V.ref q.1))

/-- what stands is kept, some new things come, some of them frozen -/
structure Step (F H F' H' : Hp) : Prop where
  ff : Same F F'
  hh : Same H H'
  fh : Same F' H'
  fr : ∀ a, F' a ≠ none → F a ≠ none ∨ H a = none
theorem Step.refl {F H : Hp} (s : Same F H) : Step F H F H := ⟨.refl _, .refl _, s, fun _ h => .inl h⟩
theorem Step.trans {F H F1 H1 F2 H2 : Hp} (a : Step F H F1 H1) (b : Step F1 H1 F2 H2) : Step F H F2 H2 :=
  ⟨a.ff.trans b.ff, a.hh.trans b.hh, b.fh, fun c h => by
    rcases b.fr c h with h | h
    · exact a.fr c h
    · exact .inr (a.hh.free h)⟩
/-- a new object, frozen at once -/
theorem Step.frozen {F H : Hp} {p : Addr} {o : HO} (s : Same F H) (n : H p = none) : Step F H (upd F p o) (upd H p o) := by
  have nF : F p = none := s.free n
  refine ⟨same_upd nF, same_upd n, fun b u e => ?_, fun a h => ?_⟩
  · by_cases z : b = p
    · subst z
      rw [upd_same] at e ⊢
      exact e
    · rw [upd_ne z] at e ⊢
      exact s _ _ e
  · by_cases z : a = p
    · subst z
      exact .inr n
    · rw [upd_ne z] at h
      exact .inl h
/-- a new object, that may change -/
theorem Step.new {F H : Hp} {p : Addr} {o : HO} (s : Same F H) (n : H p = none) : Step F H F (upd H p o) :=
  ⟨.refl _, same_upd n, s.trans (same_upd n), fun _ h => .inl h⟩

section
variable {G : GG} {g : Gh} {F F' H H' : Hp} {ρ : List S} {σ : L2.St}
theorem Good.step (I : Good G g F ρ σ H) (s : Step F H F' H') : Good G g F' ρ σ H' where
  len := I.len
  fh := s.fh
  f0 := I.f0.trans s.ff
  keep := fun a o h n => s.hh _ _ (I.keep a o h n)
  fresh := fun a h => by
    rcases s.fr a h with h | h
    · exact I.fresh a h
    · cases q : g.H a with
      | none => exact .inr rfl
      | some o =>
        by_cases n : ∀ i, g.P i ≠ some a
        · have z := I.keep a o q n
          rw [h] at z; cases z
        · obtain ⟨i, hi⟩ := Classical.not_forall.mp n
          have hi : g.P i = some a := Classical.not_not.mp hi
          obtain ⟨⟨x, hx⟩, _⟩ := I.par i a hi
          obtain ⟨b, _, _, ow, hb⟩ := I.prm i x hx
          rw [hi] at hb; cases hb
          obtain ⟨o', ho⟩ := ow.there
          rw [h] at ho; cases ho
  dat := fun i x h => by
    obtain ⟨v, h1, h2⟩ := I.dat i x h
    exact ⟨v, h1, h2.mono s.ff⟩
  obj := fun i x h => by
    obtain ⟨a, h1, h2, h3, h4⟩ := I.obj i x h
    obtain ⟨o, ho⟩ := h3.there
    refine ⟨a, h1, ?_, h3.mono s.ff ((s.hh _ _ ho).trans ho.symm), h4⟩
    cases q : F' a with
    | none => rfl
    | some u =>
      rcases s.fr a (by rw [q]; simp) with z | z
      · exact absurd h2 z
      · rw [ho] at z; cases z
  prm := fun i x h => by
    obtain ⟨a, h1, h2, h3, h4⟩ := I.prm i x h
    obtain ⟨o, ho⟩ := h3.there
    refine ⟨a, h1, ?_, h3.mono s.ff ((s.hh _ _ ho).trans ho.symm), h4⟩
    cases q : F' a with
    | none => rfl
    | some u =>
      rcases s.fr a (by rw [q]; simp) with z | z
      · exact absurd h2 z
      · rw [ho] at z; cases z
  par := I.par
  apart := I.apart
  tmp := fun q hq => by
    obtain ⟨h2, h3, h4, h5⟩ := I.tmp q hq
    obtain ⟨o, ho⟩ := h3.there
    refine ⟨?_, h3.mono s.ff ((s.hh _ _ ho).trans ho.symm), h4, h5⟩
    cases e : F' q.1 with
    | none => rfl
    | some u =>
      rcases s.fr q.1 (by rw [e]; simp) with z | z
      · exact absurd h2 z
      · rw [ho] at z; cases z
/-- the slot's object -/
theorem Good.own (I : Good G g F ρ σ H) {i : Nat} {s : S} {x : D} (h : ρ[i]? = some s) (e : s.own = some x) : ∃ a, σ[i]? = some (some (.ref a)) ∧ F a = none ∧ OwnAt G F H a x := by
  cases s with
  | o y =>
    cases e
    obtain ⟨a, h1, h2, h3, _⟩ := I.obj i _ h
    exact ⟨a, h1, h2, h3⟩
  | p y =>
    cases e
    obtain ⟨a, h1, h2, h3, _⟩ := I.prm i _ h
    exact ⟨a, h1, h2, h3⟩
  | un => cases e
  | d y => cases e
end

/-! ### values -/
def RepV (G : GG) (g : Gh) (F H : Hp) (ρ : List S) (σ : L2.St) (v : V) : RV → Prop
  | .d x => Rep G F v x
  | .r i => σ[i]? = some (some v)
  | .f x => ∃ a, v = .ref a ∧ F a = none ∧ g.H a = none ∧ OwnAt G F H a x ∧ (∀ (i : Nat) (s : S), ρ[i]? = some s → s.own ≠ none → σ[i]? ≠ some (some (V.ref a))) ∧ ∀ q ∈ g.T, q.1 ≠ a
def RepX (G : GG) (F : Hp) (cls : Value) (d : Option Addr) (e : Exn) : Prop :=
  ∃ C, G.cls e.c = some C ∧ cls = .ref C ∧ ((d = none ∧ e.fs = []) ∨ ∃ dd fs, d = some dd ∧ F dd = some (.xd fs) ∧ RepF G F fs e.fs)
/-! ### readings made of mirrors -/
def R.bind {α β : Type} (m : R α) (k : α → List S → R β) : R β := match m with
  | .ok a ρ => k a ρ
  | .ex e ρ => .ex e ρ
  | .bad => .bad
/-- what is wanted behind a mirror's run -/
def Post (G : GG) (g : Gh) (W : WX) (F : Hp) (σ : L2.St) {α : Type} (r : R α) (K : Hp → Hp → List S → α → Prop) : Prop := match r with
  | .ok a ρ' => ∀ F' H', Same F F' → Good G g F' ρ' σ H' → K F' H' ρ' a
  | .ex e ρ' => ∀ F' H' cls d, Same F F' → Good G g F' ρ' σ H' → RepX G F' cls d e → W cls d σ H'
  | .bad => False
section
variable {G : GG} {g : Gh} {W : WX} {F F' H H' : Hp} {σ : L2.St} {α β : Type} {r : R α} {K K' : Hp → Hp → List S → α → Prop}
theorem Post.mono (h : Post G g W F σ r K) (s : Same F F') : Post G g W F' σ r K := by
  cases r with
  | ok a ρ => exact fun F2 H2 s2 => h F2 H2 (s.trans s2)
  | ex e ρ => exact fun F2 H2 c d s2 => h F2 H2 c d (s.trans s2)
  | bad => exact h
theorem Post.imp (h : Post G g W F σ r K) (i : ∀ F' H' ρ' a, Same F F' → Good G g F' ρ' σ H' → K F' H' ρ' a → K' F' H' ρ' a) : Post G g W F σ r K' := by
  cases r with
  | ok a ρ => exact fun F2 H2 s2 I2 => i _ _ _ _ s2 I2 (h F2 H2 s2 I2)
  | ex e ρ => exact h
  | bad => exact h
theorem Post.bind {k : α → List S → R β} {K : Hp → Hp → List S → β → Prop} (h : Post G g W F σ (r.bind k) K) : Post G g W F σ r fun F' _ ρ' a => Post G g W F' σ (k a ρ') K := by
  cases r with
  | ok a ρ => exact fun F2 H2 s2 _ => h.mono s2
  | ex e ρ => exact h
  | bad => exact h
end
def tM (G : GG) (g : Gh) (W : WX) (f : Ex) : TE := fun σ H Q => ∃ F ρ, Good G g F ρ σ H ∧ Post G g W F σ (f ρ) fun F' H' ρ' rv => ∀ v, RepV G g F' H' ρ' σ v rv → Q v H'
def tMT (G : GG) (g : Gh) (W : WX) (f : List S → R Bool) : TT := fun σ H Q => ∃ F ρ, Good G g F ρ σ H ∧ Post G g W F σ (f ρ) fun _ H' _ b => Q b H'
/-- a value that waits: data, or a slot's object -/
inductive HV where
  | d (x : D) | r (i : Nat)
def RepH (G : GG) (F : Hp) (σ : L2.St) (v : V) : HV → Prop
  | .d x => Rep G F v x
  | .r i => σ[i]? = some (some v)
theorem RepH.mono {G : GG} {F F' : Hp} {σ : L2.St} {v : V} {h : HV} (r : RepH G F σ v h) (s : Same F F') : RepH G F' σ v h := by
  cases h with
  | d x => exact Rep.mono s r
  | r i => exact r
inductive RepHs (G : GG) (F : Hp) (σ : L2.St) : List V → List HV → Prop
  | nil : RepHs G F σ [] []
  | cons {v : V} {h : HV} {vs : List V} {hs : List HV} : RepH G F σ v h → RepHs G F σ vs hs → RepHs G F σ (v :: vs) (h :: hs)
theorem RepHs.mono {G : GG} {F F' : Hp} {σ : L2.St} (s : Same F F') : ∀ {vs : List V} {hs : List HV}, RepHs G F σ vs hs → RepHs G F' σ vs hs
  | _, _, .nil => .nil
  | _, _, .cons a b => .cons (a.mono s) (b.mono s)
def tMH (G : GG) (g : Gh) (W : WX) (f : List S → R HV) : TE := fun σ H Q => ∃ F ρ, Good G g F ρ σ H ∧ Post G g W F σ (f ρ) fun F' H' _ h => ∀ v, RepH G F' σ v h → Q v H'
def tMA (G : GG) (g : Gh) (W : WX) (f : List S → R (List HV)) : TA := fun σ H Q => ∃ F ρ, Good G g F ρ σ H ∧ Post G g W F σ (f ρ) fun F' H' _ hs => ∀ vs, RepHs G F' σ vs hs → Q vs H'
/-- what is wanted behind a statement's mirror -/
def PostS (G : GG) (g : Gh) (W : WX) (F : Hp) (o : Out) (Dd : Ends) : Prop := match o with
  | .nx ρ' => ∀ F' H' σ', Same F F' → Good G g F' ρ' σ' H' → Dd.nx σ' H'
  | .bk ρ' => ∀ F' H' σ', Same F F' → Good G g F' ρ' σ' H' → Dd.bk σ' H'
  | .ct ρ' => ∀ F' H' σ', Same F F' → Good G g F' ρ' σ' H' → Dd.ct σ' H'
  | .rt rv ρ' => ∀ F' H' σ' v, Same F F' → Good G g F' ρ' σ' H' → RepV G g F' H' ρ' σ' v rv → Dd.rt v H'
  | .ex e ρ' => ∀ F' H' σ' cls d, Same F F' → Good G g F' ρ' σ' H' → RepX G F' cls d e → W cls d σ' H'
  | .bad => False
theorem PostS.mono {G : GG} {g : Gh} {W : WX} {F F' : Hp} {o : Out} {Dd : Ends} (h : PostS G g W F o Dd) (s : Same F F') : PostS G g W F' o Dd := by
  cases o with
  | nx ρ => exact fun F2 H2 σ2 s2 => h F2 H2 σ2 (s.trans s2)
  | bk ρ => exact fun F2 H2 σ2 s2 => h F2 H2 σ2 (s.trans s2)
  | ct ρ => exact fun F2 H2 σ2 s2 => h F2 H2 σ2 (s.trans s2)
  | rt r ρ => exact fun F2 H2 σ2 v s2 => h F2 H2 σ2 v (s.trans s2)
  | ex e ρ => exact fun F2 H2 σ2 c d s2 => h F2 H2 σ2 c d (s.trans s2)
  | bad => exact h
def tMS (G : GG) (g : Gh) (W : WX) (m : Sm) : TS := fun Dd σ H => ∃ F ρ, Good G g F ρ σ H ∧ PostS G g W F (m ρ) Dd
abbrev ME (X : Cx) (G : GG) (g : Gh) (W : WX) (e : Expr) (f : Ex) : Prop := PE X e (tM G g W f)
abbrev MH (X : Cx) (G : GG) (g : Gh) (W : WX) (e : Expr) (f : List S → R HV) : Prop := PE X e (tMH G g W f)
abbrev MT (X : Cx) (G : GG) (g : Gh) (W : WX) (e : Expr) (f : List S → R Bool) : Prop := PT X e (tMT G g W f)
abbrev MW (X : Cx) (G : GG) (g : Gh) (W : WX) (e : Expr) (f : List S → R Bool) : Prop := PW X e (tMT G g W f)
abbrev MA (X : Cx) (G : GG) (g : Gh) (W : WX) (es : List Expr) (f : List S → R (List HV)) : Prop := PA X es (tMA G g W f)
abbrev MS (X : Cx) (G : GG) (g : Gh) (W : WX) (st : Stmt) (m : Sm) : Prop := PS X st (tMS G g W m)
abbrev MSs (X : Cx) (G : GG) (g : Gh) (W : WX) (st : List Stmt) (m : Sm) : Prop := PSs X st (tMS G g W m)

theorem pe_imp {X : Cx} {e : Expr} {t t' : TE} (h : PE X e t) (i : ∀ σ H Q, t' σ H Q → t σ H Q) : PE X e t' := ⟨fun pins s σ H Q I w => h.run pins s σ H Q I (i σ H Q w)⟩
theorem pt_imp {X : Cx} {e : Expr} {t t' : TT} (h : PT X e t) (i : ∀ σ H Q, t' σ H Q → t σ H Q) : PT X e t' := ⟨fun pins s σ H Q I w => h.run pins s σ H Q I (i σ H Q w)⟩
theorem pw_imp {X : Cx} {e : Expr} {t t' : TT} (h : PW X e t) (i : ∀ σ H Q, t' σ H Q → t σ H Q) : PW X e t' := ⟨fun wh pins s σ H Q I w => h.run wh pins s σ H Q I (i σ H Q w)⟩
theorem pa_imp {X : Cx} {es : List Expr} {t t' : TA} (h : PA X es t) (i : ∀ σ H Q, t' σ H Q → t σ H Q) : PA X es t' := ⟨fun pos pins s σ H Q I w => h.run pos pins s σ H Q I (i σ H Q w)⟩
theorem ps_imp {X : Cx} {st : Stmt} {t t' : TS} (h : PS X st t) (i : ∀ D σ H, t' D σ H → t D σ H) : PS X st t' := ⟨fun pins s σ H D I w => h.run pins s σ H D I (i D σ H w)⟩
theorem pss_imp {X : Cx} {st : List Stmt} {t t' : TS} (h : PSs X st t) (i : ∀ D σ H, t' D σ H → t D σ H) : PSs X st t' := ⟨fun pins s σ H D I w => h.run pins s σ H D I (i D σ H w)⟩

/-! ### freezing -/
section
variable {G : GG} {g : Gh} {F F' H H' : Hp} {ρ : List S} {σ : L2.St}
/-- a new object that nobody holds is data from now on -/
theorem Good.freezeF (I : Good G g F ρ σ H) {a : Addr} {x : D} (n : F a = none) (h0 : g.H a = none) (ow : OwnAt G F H a x) (ap : ∀ (i : Nat) (s : S), ρ[i]? = some s → s.own ≠ none → σ[i]? ≠ some (some (V.ref a))) (nT : ∀ q ∈ g.T, q.1 ≠ a) :
    ∃ F', Same F F' ∧ Good G g F' ρ σ H ∧ Rep G F' (.ref a) x := by
  obtain ⟨o, ho, r⟩ := ow.rep n
  have sF : Same F (upd F a o) := same_upd n
  refine ⟨upd F a o, sF, ?_, r⟩
  have ne : ∀ (i : Nat) (s : S) (b : Addr), ρ[i]? = some s → s.own ≠ none → σ[i]? = some (some (V.ref b)) → b ≠ a := fun i s b h1 h2 h3 z => by
    subst z
    exact ap i s h1 h2 h3
  exact { len := I.len
          fh := fun b u e => by
            by_cases z : b = a
            · subst z
              rw [upd_same] at e; cases e
              exact ho
            · rw [upd_ne z] at e
              exact I.fh _ _ e
          f0 := I.f0.trans sF
          keep := I.keep
          fresh := fun b h => by
            by_cases z : b = a
            · subst z; exact .inr h0
            · rw [upd_ne z] at h
              exact I.fresh b h
          dat := fun i y h => by
            obtain ⟨v, h1, h2⟩ := I.dat i y h
            exact ⟨v, h1, h2.mono sF⟩
          obj := fun i y h => by
            obtain ⟨b, h1, h2, h3, h4⟩ := I.obj i y h
            refine ⟨b, h1, ?_, h3.mono sF rfl, h4⟩
            rw [upd_ne (ne i _ b h (by simp [S.own]) h1)]
            exact h2
          prm := fun i y h => by
            obtain ⟨b, h1, h2, h3, h4⟩ := I.prm i y h
            refine ⟨b, h1, ?_, h3.mono sF rfl, h4⟩
            rw [upd_ne (ne i _ b h (by simp [S.own]) h1)]
            exact h2
          par := I.par
          apart := I.apart
          tmp := fun q hq => by
            obtain ⟨h2, h3, h4, h5⟩ := I.tmp q hq
            refine ⟨?_, h3.mono sF rfl, h4, h5⟩
            rw [upd_ne (nT q hq)]
            exact h2 }
/-- a slot's own object is data from now on -/
theorem Good.freezeR (I : Good G g F ρ σ H) {i : Nat} {x : D} (h : ρ[i]? = some (.o x)) :
    ∃ F' a, Same F F' ∧ Good G g F' (ρ.set i (.d x)) σ H ∧ σ[i]? = some (some (.ref a)) ∧ Rep G F' (.ref a) x := by
  obtain ⟨a, e, n, ow, h0⟩ := I.obj i x h
  obtain ⟨o, ho, r⟩ := ow.rep n
  have sF : Same F (upd F a o) := same_upd n
  have hi : i < ρ.length := (List.getElem?_eq_some_iff.mp h).1
  have other : ∀ (j : Nat) (s : S), (ρ.set i (.d x))[j]? = some s → s.own ≠ none → j ≠ i ∧ ρ[j]? = some s := fun j s hj ho => by
    by_cases z : j = i
    · subst z
      rw [List.getElem?_set_self hi] at hj
      cases hj
      exact absurd rfl ho
    · rw [List.getElem?_set_ne (Ne.symm z)] at hj
      exact ⟨z, hj⟩
  have ne : ∀ (j : Nat) (s : S) (b : Addr), (ρ.set i (.d x))[j]? = some s → s.own ≠ none → σ[j]? = some (some (V.ref b)) → b ≠ a := fun j s b h1 h2 h3 z => by
    subst z
    obtain ⟨h4, h5⟩ := other j s h1 h2
    exact I.apart i j _ _ b (Ne.symm h4) h h5 (by simp [S.own]) h2 e h3
  refine ⟨upd F a o, a, sF, ?_, e, r⟩
  exact { len := by rw [List.length_set]; exact I.len
          fh := fun b u e => by
            by_cases z : b = a
            · subst z
              rw [upd_same] at e; cases e
              exact ho
            · rw [upd_ne z] at e
              exact I.fh _ _ e
          f0 := I.f0.trans sF
          keep := I.keep
          fresh := fun b hb => by
            by_cases z : b = a
            · subst z; exact .inr h0
            · rw [upd_ne z] at hb
              exact I.fresh b hb
          dat := fun j y hj => by
            by_cases z : j = i
            · subst z
              rw [List.getElem?_set_self hi] at hj
              cases hj
              exact ⟨_, e, r⟩
            · rw [List.getElem?_set_ne (Ne.symm z)] at hj
              obtain ⟨v, h1, h2⟩ := I.dat j y hj
              exact ⟨v, h1, h2.mono sF⟩
          obj := fun j y hj => by
            obtain ⟨z, hj'⟩ := other j _ hj (by simp [S.own])
            obtain ⟨b, h1, h2, h3, h4⟩ := I.obj j y hj'
            refine ⟨b, h1, ?_, h3.mono sF rfl, h4⟩
            rw [upd_ne (ne j _ b hj (by simp [S.own]) h1)]
            exact h2
          prm := fun j y hj => by
            obtain ⟨z, hj'⟩ := other j _ hj (by simp [S.own])
            obtain ⟨b, h1, h2, h3, h4⟩ := I.prm j y hj'
            refine ⟨b, h1, ?_, h3.mono sF rfl, h4⟩
            rw [upd_ne (ne j _ b hj (by simp [S.own]) h1)]
            exact h2
          par := fun j b hj => by
            obtain ⟨⟨y, hy⟩, ho⟩ := I.par j b hj
            refine ⟨⟨y, ?_⟩, ho⟩
            rw [List.getElem?_set_ne]
            · exact hy
            · intro z
              subst z
              rw [h] at hy; cases hy
          apart := fun j k s t b hjk h1 h2 h3 h4 => by
            obtain ⟨_, h1'⟩ := other j s h1 h3
            obtain ⟨_, h2'⟩ := other k t h2 h4
            exact I.apart j k s t b hjk h1' h2' h3 h4
          tmp := fun q hq => by
            obtain ⟨h2, h3, h4, h5⟩ := I.tmp q hq
            refine ⟨?_, h3.mono sF rfl, h4, fun j s hj hs => h5 j s (other j s hj hs).2 hs⟩
            rw [upd_ne fun z => h5 i _ h (by simp [S.own]) (by rw [e, z])]
            exact h2 }
end
/-- a new object is frozen; a slot stays a slot -/
def mHold (f : Ex) : List S → R HV := fun ρ => (f ρ).bind fun rv ρ' => .ok (match rv with
  | .d x => .d x
  | .f x => .d x
  | .r i => .r i) ρ'
/-- the value as data: a slot's own object is frozen -/
def forceRV (rv : RV) (ρ : List S) : R D := match rv with
  | .d x => .ok x ρ
  | .f x => .ok x ρ
  | .r i => match ρ[i]? with
    | some (.d x) => .ok x ρ
    | some (.o x) => .ok x (ρ.set i (.d x))
    | _ => .bad
def mForce (f : Ex) : List S → R D := fun ρ => (f ρ).bind forceRV
def peekH (ρ : List S) : HV → Option D
  | .d x => some x
  | .r i => match ρ[i]? with
    | some (.d x) => some x
    | some (.o x) => some x
    | some (.p x) => some x
    | _ => none
def peekHs (ρ : List S) : List HV → Option (List D)
  | [] => some []
  | h :: hs => (peekH ρ h).bind fun x => (peekHs ρ hs).bind fun xs => some (x :: xs)
theorem peekH_rep {G : GG} {g : Gh} {F H : Hp} {ρ : List S} {σ : L2.St} (I : Good G g F ρ σ H) {v : V} {h : HV} {x : D} (r : RepH G F σ v h) (e : peekH ρ h = some x) : RepT G F H v x := by
  cases h with
  | d y => cases e; exact .inl r
  | r i =>
    have r : σ[i]? = some (some v) := r
    unfold peekH at e
    dsimp only at e
    cases q : ρ[i]? with
    | none => rw [q] at e; cases e
    | some s =>
      rw [q] at e
      cases s with
      | un => cases e
      | d y =>
        cases e
        obtain ⟨u, h1, h2⟩ := I.dat i _ q
        rw [r] at h1; cases h1
        exact .inl h2
      | o y =>
        cases e
        obtain ⟨a, h1, _, h2⟩ := I.own q rfl
        rw [r] at h1; cases h1
        exact .inr ⟨a, rfl, h2⟩
      | p y =>
        cases e
        obtain ⟨a, h1, _, h2⟩ := I.own q rfl
        rw [r] at h1; cases h1
        exact .inr ⟨a, rfl, h2⟩
inductive RepTs (G : GG) (F H : Hp) : List V → List D → Prop
  | nil : RepTs G F H [] []
  | cons {v : V} {x : D} {vs : List V} {xs : List D} : RepT G F H v x → RepTs G F H vs xs → RepTs G F H (v :: vs) (x :: xs)
theorem peekHs_rep {G : GG} {g : Gh} {F H : Hp} {ρ : List S} {σ : L2.St} (I : Good G g F ρ σ H) : ∀ {vs : List V} {hs : List HV} {xs : List D}, RepHs G F σ vs hs → peekHs ρ hs = some xs → RepTs G F H vs xs
  | _, _, _, .nil, e => by
    cases e
    exact .nil
  | _, _, _, .cons (h := h) (hs := hs) a b, e => by
    unfold peekHs at e
    cases q : peekH ρ h with
    | none => rw [q] at e; cases e
    | some x =>
      rw [q] at e
      cases q2 : peekHs ρ hs with
      | none => rw [q2] at e; cases e
      | some xs =>
        rw [q2] at e
        cases e
        exact .cons (peekH_rep I a q) (peekHs_rep I b q2)
theorem forceRV_ok {G : GG} {g : Gh} {F H : Hp} {ρ ρ' : List S} {σ : L2.St} {v : V} {rv : RV} {x : D} (I : Good G g F ρ σ H) (h : RepV G g F H ρ σ v rv) (e : forceRV rv ρ = .ok x ρ') :
    ∃ F', Same F F' ∧ Good G g F' ρ' σ H ∧ Rep G F' v x := by
  cases rv with
  | d y =>
    have e : R.ok y ρ = R.ok x ρ' := e
    cases e
    exact ⟨F, .refl _, I, h⟩
  | f y =>
    have e : R.ok y ρ = R.ok x ρ' := e
    cases e
    obtain ⟨a, rfl, n, h0, ow, ap, nT⟩ := h
    exact I.freezeF n h0 ow ap nT
  | r i =>
    have h : σ[i]? = some (some v) := h
    unfold forceRV at e
    dsimp only at e
    cases q : ρ[i]? with
    | none => rw [q] at e; cases e
    | some s =>
      rw [q] at e
      cases s with
      | un => cases e
      | p y => cases e
      | d y =>
        cases e
        obtain ⟨u, h1, h2⟩ := I.dat i _ q
        rw [h] at h1; cases h1
        exact ⟨F, .refl _, I, h2⟩
      | o y =>
        cases e
        obtain ⟨F', a, s1, I', e1, r⟩ := I.freezeR q
        rw [h] at e1; cases e1
        exact ⟨F', s1, I', r⟩
theorem forceRV_ex {rv : RV} {ρ ρ' : List S} {e : Exn} (h : forceRV rv ρ = .ex e ρ') : False := by
  cases rv with
  | d x => cases h
  | f x => cases h
  | r i =>
    unfold forceRV at h
    dsimp only at h
    split at h <;> cases h
theorem me_hold {X : Cx} {G : GG} {g : Gh} {W : WX} {e : Expr} {f : Ex} (h : ME X G g W e f) : MH X G g W e (mHold f) := pe_imp h fun σ H Q ⟨F, ρ, I, p⟩ => by
  refine ⟨F, ρ, I, p.bind.imp fun F1 H1 ρ1 rv s1 I1 k v r => ?_⟩
  cases rv with
  | d x => exact k F1 H1 (.refl _) I1 v r
  | r i => exact k F1 H1 (.refl _) I1 v r
  | f x =>
    obtain ⟨a, rfl, n, h0, ow, ap, nT⟩ := r
    obtain ⟨F2, s2, I2, r2⟩ := I1.freezeF n h0 ow ap nT
    exact k F2 H1 s2 I2 _ r2
def tMD (G : GG) (g : Gh) (W : WX) (f : List S → R D) : TE := fun σ H Q => ∃ F ρ, Good G g F ρ σ H ∧ Post G g W F σ (f ρ) fun F' H' _ x => ∀ v, Rep G F' v x → Q v H'
theorem me_force {X : Cx} {G : GG} {g : Gh} {W : WX} {e : Expr} {f : Ex} (h : ME X G g W e f) : PE X e (tMD G g W (mForce f)) := pe_imp h fun σ H Q ⟨F, ρ, I, p⟩ => by
  refine ⟨F, ρ, I, p.bind.imp fun F1 H1 ρ1 rv s1 I1 k v r => ?_⟩
  cases q : forceRV rv ρ1 with
  | bad => rw [q] at k; exact k.elim
  | ex e ρ2 => exact (forceRV_ex q).elim
  | ok x ρ2 =>
    rw [q] at k
    obtain ⟨F2, s2, I2, r2⟩ := forceRV_ok I1 r q
    exact k F2 H1 s2 I2 v r2
end MM
set_option Elab.async false
set_option maxRecDepth 100000
set_option maxHeartbeats 2000000
namespace MM
open PySem PySem.Spec PyProof.Rows L2
section
variable {X : Cx} {G : GG} {g : Gh} {W : WX} {pos p apos : Pos}

/-! ### names and constants -/
def mVar (i : Nat) : Ex := fun ρ => match ρ[i]? with
  | some (.d x) => .ok (.d x) ρ
  | some (.o _) => .ok (.r i) ρ
  | some (.p _) => .ok (.r i) ρ
  | _ => .bad
def mC (x : D) : Ex := fun ρ => .ok (.d x) ρ
theorem me_var {i : Nat} {x : Str} (h : PE X (.Name x pos) (tVar i)) : ME X G g W (.Name x pos) (mVar i) := pe_imp h fun σ H Q ⟨F, ρ, I, h⟩ => by
  unfold mVar at h
  cases q : ρ[i]? with
  | none => rw [q] at h; exact h.elim
  | some s =>
    rw [q] at h
    cases s with
    | un => exact h.elim
    | d y =>
      obtain ⟨v, e, r⟩ := I.dat i y q
      exact ⟨v, e, h F H (.refl _) I v r⟩
    | o y =>
      obtain ⟨a, e, _⟩ := I.own q rfl
      exact ⟨_, e, h F H (.refl _) I _ e⟩
    | p y =>
      obtain ⟨a, e, _⟩ := I.own q rfl
      exact ⟨_, e, h F H (.refl _) I _ e⟩
theorem me_c {e : Expr} {v : V} {x : D} (h : PE X e (tC v)) (r : ∀ F, Rep G F v x) : ME X G g W e (mC x) := pe_imp h fun σ H Q ⟨F, ρ, I, h⟩ => h F H (.refl _) I v (r F)
theorem me_int {i : Int} {j} : ME X G g W (.Constant (.int i) j pos) (mC (.int i)) := me_c pe_int fun _ => .int _
theorem me_bl {b : Bool} {j} : ME X G g W (.Constant (.bool b) j pos) (mC (.bl b)) := me_c pe_bl fun _ => .bl _
theorem me_non {j} : ME X G g W (.Constant .none j pos) (mC .non) := me_c pe_non fun _ => .non
theorem me_str {x : Str} {j} : ME X G g W (.Constant (.str x) j pos) (mC (.str x.cps.toList)) := me_c pe_str fun _ => .str rfl

/-! ### operators by data -/
/-- what an operation leaves: data, or a new object -/
def RepO (G : GG) (H F' H' : Hp) (v : V) : RV → Prop
  | .d x => Rep G F' v x
  | .f x => ∃ a, v = .ref a ∧ H a = none ∧ F' a = none ∧ OwnAt G F' H' a x
  | .r _ => False
theorem RepO.toV {F F' H H' : Hp} {ρ : List S} {σ : L2.St} {v : V} {rv : RV} (I : Good G g F ρ σ H) (s : Step F H F' H') (r : RepO G H F' H' v rv) : RepV G g F' H' ρ σ v rv := by
  cases rv with
  | d x => exact r
  | r i => exact r.elim
  | f x =>
    obtain ⟨a, rfl, n, n', ow⟩ := r
    refine ⟨a, rfl, n', ?_, ow, fun i s hi hs e => ?_, fun q hq e => ?_⟩
    · cases q : g.H a with
      | none => rfl
      | some o =>
        by_cases z : ∀ i, g.P i ≠ some a
        · have := I.keep a o q z
          rw [n] at this; cases this
        · obtain ⟨i, hi⟩ := Classical.not_forall.mp z
          have hi : g.P i = some a := Classical.not_not.mp hi
          obtain ⟨⟨x, hx⟩, _⟩ := I.par i a hi
          obtain ⟨b, _, _, ow, hb⟩ := I.prm i x hx
          rw [hi] at hb; cases hb
          obtain ⟨o', ho⟩ := ow.there
          rw [n] at ho; cases ho
    · cases q : s.own with
      | none => exact hs q
      | some x =>
        obtain ⟨b, e2, _, ow2⟩ := I.own hi q
        rw [e] at e2; cases e2
        obtain ⟨o', ho⟩ := ow2.there
        rw [n] at ho; cases ho
    · obtain ⟨_, h3, _⟩ := I.tmp q hq
      obtain ⟨o', ho⟩ := h3.there
      rw [e, n] at ho; cases ho
def ret (o : Option RV) (ρ : List S) : R RV := match o with
  | some rv => .ok rv ρ
  | none => .bad
def rD (G : GG) (op : D → D → Option RV) : R2 := fun v u H Q => ∃ F x y rv, Same F H ∧ RepT G F H v x ∧ RepT G F H u y ∧ op x y = some rv ∧ ∀ F' H' w, Step F H F' H' → RepO G H F' H' w rv → Q w H'
def mBin (op : D → D → Option RV) (a b : Ex) : Ex := fun ρ => (mHold a ρ).bind fun ha ρ1 => (mHold b ρ1).bind fun hb ρ2 => match peekH ρ2 ha, peekH ρ2 hb with
  | some x, some y => ret (op x y) ρ2
  | _, _ => .bad
theorem tM_bin {op : D → D → Option RV} {a b : Ex} {σ : L2.St} {H : Hp} {Q : VK} (h : tM G g W (mBin op a b) σ H Q) : tOp (rD G op) (tMH G g W (mHold a)) (tMH G g W (mHold b)) σ H Q := by
  obtain ⟨F, ρ, I, h⟩ := h
  refine ⟨F, ρ, I, h.bind.imp fun F1 H1 ρ1 ra s1 I1 k v r => ⟨F1, ρ1, I1, k.bind.imp fun F2 H2 ρ2 rb s2 I2 k2 u ru => ?_⟩⟩
  cases q1 : peekH ρ2 ra with
  | none => rw [q1] at k2; exact k2.elim
  | some x =>
    rw [q1] at k2
    cases q2 : peekH ρ2 rb with
    | none => rw [q2] at k2; exact k2.elim
    | some y =>
      rw [q2] at k2
      dsimp only at k2
      unfold ret at k2
      cases q3 : op x y with
      | none => rw [q3] at k2; exact k2.elim
      | some rv =>
        rw [q3] at k2
        refine ⟨F2, x, y, rv, I2.fh, peekH_rep I2 (r.mono s2) q1, peekH_rep I2 ru q2, q3, fun F3 H3 w st ro => ?_⟩
        exact k2 F3 H3 st.ff (I2.step st) w (ro.toV I2 st)
theorem me_bin {op : Operator} {od : D → D → Option RV} {a b : Expr} {f h : Ex} (ho : OpR X (binaryOp op) (rD G od)) (ha : ME X G g W a f) (hb : ME X G g W b h) : ME X G g W (.BinOp a op b pos) (mBin od f h) :=
  pe_imp (pe_op ho (me_hold ha) (me_hold hb)) fun _ _ _ => tM_bin
theorem me_cmp {op : CmpOp} {od : D → D → Option RV} {a b : Expr} {f h : Ex} (ho : OpR X (compareOp op) (rD G od)) (ha : ME X G g W a f) (hb : ME X G g W b h) (hm : behindInMarks op b = false) : ME X G g W (.Compare a [op] [b] pos) (mBin od f h) :=
  pe_imp (pe_cmpR ho (me_hold ha) (me_hold hb) hm) fun _ _ _ => tM_bin
/-- a comparison's answer -/
def mTestB (f : Ex) : List S → R Bool := fun ρ => (f ρ).bind fun rv ρ' => match rv with
  | .d (.bl b) => .ok b ρ'
  | _ => .bad
theorem tM_testB {f : Ex} {σ : L2.St} {H : Hp} {Q : Bool → Hp → Prop} (h : tMT G g W (mTestB f) σ H Q) : tTest (tM G g W f) σ H Q := by
  obtain ⟨F, ρ, I, h⟩ := h
  refine ⟨F, ρ, I, h.bind.imp fun F1 H1 ρ1 rv s1 I1 k v r => ?_⟩
  cases rv with
  | r i => exact k.elim
  | f x => exact k.elim
  | d x =>
    cases x with
    | bl b =>
      cases r
      exact ⟨b, rfl, k F1 H1 (.refl _) I1⟩
    | _ => exact k.elim
theorem mt_cmp {op : CmpOp} {od : D → D → Option RV} {a b : Expr} {f h : Ex} (ho : OpR X (compareOp op) (rD G od)) (ha : ME X G g W a f) (hb : ME X G g W b h) (hm : behindInMarks op b = false) : MT X G g W (.Compare a [op] [b] pos) (mTestB (mBin od f h)) :=
  pt_imp (pt_cmpR ho (me_hold ha) (me_hold hb) hm) fun σ H Q q => by
    obtain ⟨F, ρ, I, k⟩ := tM_testB q
    exact tM_bin (Q := fun x H' => ∃ k, x = .bl k ∧ Q k H') ⟨F, ρ, I, k⟩
/-! a op b op' c -/
def mChain (od od' : D → D → Option RV) (a b c : Ex) : Ex := fun ρ => (mHold a ρ).bind fun ha ρ1 => (mHold b ρ1).bind fun hb ρ2 => match peekH ρ2 ha, peekH ρ2 hb with
  | some x, some y => (match od x y with
    | some (.d (.bl true)) => (mHold c ρ2).bind fun hc ρ3 => (match peekH ρ3 hb, peekH ρ3 hc with
      | some y', some z => ret (od' y' z) ρ3
      | _, _ => .bad)
    | some (.d (.bl false)) => .ok (.d (.bl false)) ρ2
    | _ => .bad)
  | _, _ => .bad
theorem tM_chain {od od' : D → D → Option RV} {a b c : Ex} {σ : L2.St} {H : Hp} {Q : VK} (h : tM G g W (mChain od od' a b c) σ H Q) : tChain (rD G od) (rD G od') (tMH G g W (mHold a)) (tMH G g W (mHold b)) (tMH G g W (mHold c)) σ H Q := by
  obtain ⟨F, ρ, I, h⟩ := h
  refine ⟨F, ρ, I, h.bind.imp fun F1 H1 ρ1 ra s1 I1 k v r => ⟨F1, ρ1, I1, k.bind.imp fun F2 H2 ρ2 rb s2 I2 k2 u ru => ?_⟩⟩
  cases q1 : peekH ρ2 ra with
  | none => rw [q1] at k2; exact k2.elim
  | some x =>
    rw [q1] at k2
    cases q2 : peekH ρ2 rb with
    | none => rw [q2] at k2; exact k2.elim
    | some y =>
      rw [q2] at k2
      dsimp only at k2
      cases q3 : od x y with
      | none => rw [q3] at k2; exact k2.elim
      | some rv =>
        rw [q3] at k2
        cases rv with
        | r i => exact k2.elim
        | f z => exact k2.elim
        | d z =>
          cases z with
          | bl t =>
            refine ⟨F2, x, y, _, I2.fh, peekH_rep I2 (r.mono s2) q1, peekH_rep I2 ru q2, q3, fun F3 H3 w st ro => ?_⟩
            have I3 := I2.step st
            cases t with
            | false =>
              cases ro
              refine ⟨false, rfl, ?_⟩
              rw [if_neg Bool.false_ne_true]
              exact k2 F3 H3 st.ff I3 _ (.bl false)
            | true =>
              cases ro
              refine ⟨true, rfl, ?_⟩
              rw [if_pos rfl]
              refine ⟨F3, ρ2, I3, (k2.mono st.ff).bind.imp fun F4 H4 ρ4 rc s4 I4 k4 w' rw' => ?_⟩
              cases p1 : peekH ρ4 rb with
              | none => rw [p1] at k4; exact k4.elim
              | some y' =>
                rw [p1] at k4
                cases p2 : peekH ρ4 rc with
                | none => rw [p2] at k4; exact k4.elim
                | some z =>
                  rw [p2] at k4
                  dsimp only at k4
                  unfold ret at k4
                  cases p3 : od' y' z with
                  | none => rw [p3] at k4; exact k4.elim
                  | some rv =>
                    rw [p3] at k4
                    refine ⟨F4, y', z, rv, I4.fh, peekH_rep I4 ((ru.mono st.ff).mono s4) p1, peekH_rep I4 rw' p2, p3, fun F5 H5 w5 st5 ro5 => ?_⟩
                    exact k4 F5 H5 st5.ff (I4.step st5) _ (ro5.toV I4 st5)
          | _ => exact k2.elim
theorem me_chain {op op' : CmpOp} {od od' : D → D → Option RV} {a b c : Expr} {f h k : Ex} (ho : OpR X (compareOp op) (rD G od)) (ho' : OpR X (compareOp op') (rD G od')) (ha : ME X G g W a f) (hb : ME X G g W b h) (hc : ME X G g W c k)
    (hm : lastMarks [op, op'] [b, c] = false := by with_unfolding_all rfl) : ME X G g W (.Compare a [op, op'] [b, c] pos) (mChain od od' f h k) :=
  pe_imp (pe_chain ho ho' (me_hold ha) (me_hold hb) (me_hold hc) hm) fun _ _ _ => tM_chain
theorem mt_chain {op op' : CmpOp} {od od' : D → D → Option RV} {a b c : Expr} {f h k : Ex} (ho : OpR X (compareOp op) (rD G od)) (ho' : OpR X (compareOp op') (rD G od')) (ha : ME X G g W a f) (hb : ME X G g W b h) (hc : ME X G g W c k)
    (hm : lastMarks [op, op'] [b, c] = false := by with_unfolding_all rfl) : MT X G g W (.Compare a [op, op'] [b, c] pos) (mTestB (mChain od od' f h k)) :=
  pt_imp (pt_chain ho ho' (me_hold ha) (me_hold hb) (me_hold hc) hm) fun σ H Q q => by
    obtain ⟨F, ρ, I, k⟩ := tM_testB q
    exact tM_chain (Q := fun x H' => ∃ k, x = .bl k ∧ Q k H') ⟨F, ρ, I, k⟩
/-! unary -/
def rD1 (G : GG) (op : D → Option RV) : V → Hp → VK → Prop := fun v H Q => ∃ F x rv, Same F H ∧ RepT G F H v x ∧ op x = some rv ∧ ∀ F' H' w, Step F H F' H' → RepO G H F' H' w rv → Q w H'
def mUn (op : D → Option RV) (a : Ex) : Ex := fun ρ => (mHold a ρ).bind fun ha ρ1 => match peekH ρ1 ha with
  | some x => ret (op x) ρ1
  | _ => .bad
theorem tM_un {op : D → Option RV} {a : Ex} {σ : L2.St} {H : Hp} {Q : VK} (h : tM G g W (mUn op a) σ H Q) : tMH G g W (mHold a) σ H fun v H1 => rD1 G op v H1 Q := by
  obtain ⟨F, ρ, I, h⟩ := h
  refine ⟨F, ρ, I, h.bind.imp fun F1 H1 ρ1 ra s1 I1 k v r => ?_⟩
  cases q1 : peekH ρ1 ra with
  | none => rw [q1] at k; exact k.elim
  | some x =>
    rw [q1] at k
    dsimp only at k
    unfold ret at k
    cases q3 : op x with
    | none => rw [q3] at k; exact k.elim
    | some rv =>
      rw [q3] at k
      exact ⟨F1, x, rv, I1.fh, peekH_rep I1 r q1, q3, fun F3 H3 w st ro => k F3 H3 st.ff (I1.step st) w (ro.toV I1 st)⟩
theorem me_un {op : UnaryOp} {od : D → Option RV} {a : Expr} {f : Ex} (ho : UnR X (unaryOp op) (rD1 G od)) (ha : ME X G g W a f) : ME X G g W (.UnaryOp op a pos) (mUn od f) :=
  pe_imp (pe_un ho (me_hold ha)) fun _ _ _ => tM_un

/-! ### tests -/
/-- a value's truth -/
def truthD : D → Option Bool
  | .non => some false
  | .bl b => some b
  | .int i => some (i != 0)
  | .str l => if l.length ≤ sizeLine then some (!l.isEmpty) else none
  | .lst l => some (!l.isEmpty)
  | .ro l => some (!l.isEmpty)
  | .tup l => some (!l.isEmpty)
  | .dic l => some (!l.isEmpty)
  | _ => none
theorem RepA.isEmpty {F : Hp} {vs : List V} {ds : List D} (h : RepA G F vs ds) : vs.isEmpty = ds.isEmpty := by cases h <;> rfl
theorem RepK.isEmpty {F : Hp} {vs : List (Key × V)} {ds : List (Key × D)} (h : RepK G F vs ds) : vs.isEmpty = ds.isEmpty := by cases h <;> rfl
theorem truthD_ok {F H : Hp} {v : V} {x : D} {b : Bool} (s : Same F H) (r : RepT G F H v x) (e : truthD x = some b) : TruV G.K v H b := by
  rcases r with r | ⟨a, rfl, ow⟩
  · cases r with
    | non => cases e; rfl
    | bl c => cases e; rfl
    | int i => cases e; rfl
    | @str y l h =>
      unfold truthD at e
      dsimp only at e
      have hl : y.length = l.length := by rw [← h]; rfl
      split at e
      · rename_i hz
        cases e
        refine ⟨by rw [hl]; exact hz, ?_⟩
        rw [hl]
        cases l with
        | nil => rfl
        | cons c t =>
          rw [List.length_cons]
          exact (bne_iff_ne.mpr (by omega)).symm
      · cases e
    | lst h ra =>
      cases e
      exact .inl ⟨_, .of (s _ _ h), by rw [ra.isEmpty]⟩
    | ro h ra =>
      cases e
      exact .inl ⟨_, s.seq h, by rw [ra.isEmpty]⟩
    | tup h ra =>
      cases e
      exact .inr (.inl ⟨_, sqT_same s h, by rw [ra.isEmpty]⟩)
    | dic h rk =>
      cases e
      exact .inr (.inr ⟨_, s _ _ h, by rw [rk.isEmpty]⟩)
    | ins _ _ _ => cases e
  · cases x with
    | lst ds =>
      obtain ⟨xs, h, ra⟩ := ow
      cases e
      exact .inl ⟨_, .of h, by rw [ra.isEmpty]⟩
    | dic es =>
      obtain ⟨xs, h, ra⟩ := ow
      cases e
      exact .inr (.inr ⟨_, h, by rw [ra.isEmpty]⟩)
    | _ => exact ow.elim
def mTruth (f : Ex) : List S → R Bool := fun ρ => (mHold f ρ).bind fun h ρ1 => match peekH ρ1 h with
  | some x => (match truthD x with
    | some b => .ok b ρ1
    | none => .bad)
  | none => .bad
theorem mt_truth {a : Expr} {f : Ex} (hK : X.K = G.K) (ha : ME X G g W a f) (he : ∀ whole, isTrue a X.env whole = (do let v ← whole; standAt a.pos; holding [v] (truthy v)) := by intro _; rfl) : MT X G g W a (mTruth f) :=
  pt_imp (pt_truth (me_hold ha) he) fun σ H Q ⟨F, ρ, I, h⟩ => by
    refine ⟨F, ρ, I, h.bind.imp fun F1 H1 ρ1 rv s1 I1 k v r => ?_⟩
    cases q : peekH ρ1 rv with
    | none => rw [q] at k; exact k.elim
    | some x =>
      rw [q] at k
      dsimp only at k
      cases q2 : truthD x with
      | none => rw [q2] at k; exact k.elim
      | some b =>
        rw [q2] at k
        exact ⟨b, by rw [hK]; exact truthD_ok I1.fh (peekH_rep I1 r q) q2, k F1 H1 (.refl _) I1⟩
def mAndT (a b : List S → R Bool) : List S → R Bool := fun ρ => (a ρ).bind fun c ρ1 => if c = true then b ρ1 else .ok false ρ1
def mOrT (a b : List S → R Bool) : List S → R Bool := fun ρ => (a ρ).bind fun c ρ1 => if c = true then .ok true ρ1 else b ρ1
def mNotT (a : List S → R Bool) : List S → R Bool := fun ρ => (a ρ).bind fun c ρ1 => .ok (!c) ρ1
theorem mw_and1 {a : Expr} {f : List S → R Bool} (ha : MT X G g W a f) : MW X G g W (.BoolOp .And [a] pos) f := pw_and1 ha
theorem mw_or1 {a : Expr} {f : List S → R Bool} (ha : MT X G g W a f) : MW X G g W (.BoolOp .Or [a] pos) f := pw_or1 ha
theorem mw_and {a b : Expr} {rest : List Expr} {f h : List S → R Bool} (ha : MT X G g W a f) (hb : MW X G g W (.BoolOp .And (b :: rest) pos) h) : MW X G g W (.BoolOp .And (a :: b :: rest) pos) (mAndT f h) :=
  pw_imp (pw_and ha hb) fun σ H Q ⟨F, ρ, I, k⟩ => ⟨F, ρ, I, k.bind.imp fun F1 H1 ρ1 c s1 I1 k1 => by
    cases c with
    | true => rw [if_pos rfl] at k1 ⊢; exact ⟨F1, ρ1, I1, k1⟩
    | false => rw [if_neg Bool.false_ne_true] at k1 ⊢; exact k1 F1 H1 (.refl _) I1⟩
theorem mw_or {a b : Expr} {rest : List Expr} {f h : List S → R Bool} (ha : MT X G g W a f) (hb : MW X G g W (.BoolOp .Or (b :: rest) pos) h) : MW X G g W (.BoolOp .Or (a :: b :: rest) pos) (mOrT f h) :=
  pw_imp (pw_or ha hb) fun σ H Q ⟨F, ρ, I, k⟩ => ⟨F, ρ, I, k.bind.imp fun F1 H1 ρ1 c s1 I1 k1 => by
    cases c with
    | true => rw [if_pos rfl] at k1 ⊢; exact k1 F1 H1 (.refl _) I1
    | false => rw [if_neg Bool.false_ne_true] at k1 ⊢; exact ⟨F1, ρ1, I1, k1⟩⟩
theorem mt_w {a : Expr} {f : List S → R Bool} (h : MW X G g W a f) : MT X G g W a f := PW.pt h
theorem mt_not {a : Expr} {f : List S → R Bool} (ha : MT X G g W a f) : MT X G g W (.UnaryOp .Not a pos) (mNotT f) :=
  pt_imp (pt_not ha) fun σ H Q ⟨F, ρ, I, k⟩ => ⟨F, ρ, I, k.bind.imp fun F1 H1 ρ1 c s1 I1 k1 => k1 F1 H1 (.refl _) I1⟩
/-! .. as values -/
def mAndV (a b : Ex) : Ex := fun ρ => (mTestB a ρ).bind fun c ρ1 => if c = true then b ρ1 else .ok (.d (.bl false)) ρ1
def mOrV (a b : Ex) : Ex := fun ρ => (mTestB a ρ).bind fun c ρ1 => if c = true then .ok (.d (.bl true)) ρ1 else b ρ1
def mNotV (a : Ex) : Ex := fun ρ => (mTestB a ρ).bind fun c ρ1 => .ok (.d (.bl (!c))) ρ1
theorem me_one {op} {a : Expr} {f : Ex} (h : ME X G g W a f) : ME X G g W (.BoolOp op [a] pos) f := pe_one h
theorem tM_testB' {f : Ex} {σ : L2.St} {F : Hp} {ρ : List S} {K : Hp → Hp → List S → Bool → Prop} (h : Post G g W F σ (mTestB f ρ) K) : Post G g W F σ (f ρ) fun F' H' ρ' rv => ∀ v, RepV G g F' H' ρ' σ v rv → ∃ b, v = .bl b ∧ K F' H' ρ' b :=
  h.bind.imp fun F1 H1 ρ1 rv s1 I1 k v r => by
    cases rv with
    | r i => exact k.elim
    | f x => exact k.elim
    | d x =>
      cases x with
      | bl b =>
        cases r
        exact ⟨b, rfl, k F1 H1 (.refl _) I1⟩
      | _ => exact k.elim
theorem me_and {a b : Expr} {rest : List Expr} {f h : Ex} (ha : ME X G g W a f) (hb : ME X G g W (.BoolOp .And (b :: rest) pos) h) : ME X G g W (.BoolOp .And (a :: b :: rest) pos) (mAndV f h) :=
  pe_imp (pe_and ha hb) fun σ H Q ⟨F, ρ, I, k⟩ => ⟨F, ρ, I, (tM_testB' k.bind).imp fun F1 H1 ρ1 rv s1 I1 k1 v r => by
    obtain ⟨c, rfl, k2⟩ := k1 v r
    refine ⟨c, rfl, ?_⟩
    cases c with
    | true => rw [if_pos rfl] at k2 ⊢; exact ⟨F1, ρ1, I1, k2⟩
    | false => rw [if_neg Bool.false_ne_true] at k2 ⊢; exact k2 F1 H1 (.refl _) I1 _ (.bl _)⟩
theorem me_or {a b : Expr} {rest : List Expr} {f h : Ex} (ha : ME X G g W a f) (hb : ME X G g W (.BoolOp .Or (b :: rest) pos) h) : ME X G g W (.BoolOp .Or (a :: b :: rest) pos) (mOrV f h) :=
  pe_imp (pe_or ha hb) fun σ H Q ⟨F, ρ, I, k⟩ => ⟨F, ρ, I, (tM_testB' k.bind).imp fun F1 H1 ρ1 rv s1 I1 k1 v r => by
    obtain ⟨c, rfl, k2⟩ := k1 v r
    refine ⟨c, rfl, ?_⟩
    cases c with
    | true => rw [if_pos rfl] at k2 ⊢; exact k2 F1 H1 (.refl _) I1 _ (.bl _)
    | false => rw [if_neg Bool.false_ne_true] at k2 ⊢; exact ⟨F1, ρ1, I1, k2⟩⟩
theorem me_not {a : Expr} {f : Ex} (ha : ME X G g W a f) : ME X G g W (.UnaryOp .Not a pos) (mNotV f) :=
  pe_imp (pe_not ha) fun σ H Q ⟨F, ρ, I, k⟩ => ⟨F, ρ, I, (tM_testB' k.bind).imp fun F1 H1 ρ1 rv s1 I1 k1 v r => by
    obtain ⟨c, rfl, k2⟩ := k1 v r
    exact ⟨c, rfl, k2 F1 H1 (.refl _) I1 _ (.bl _)⟩⟩
def mIf (t : List S → R Bool) (a b : Ex) : Ex := fun ρ => (t ρ).bind fun c ρ1 => if c = true then a ρ1 else b ρ1
theorem me_ifExp {c a b : Expr} {t : List S → R Bool} {f h : Ex} (hc : MT X G g W c t) (ha : ME X G g W a f) (hb : ME X G g W b h) : ME X G g W (.IfExp c a b pos) (mIf t f h) :=
  pe_imp (pe_ifExp hc ha hb) fun σ H Q ⟨F, ρ, I, k⟩ => ⟨F, ρ, I, k.bind.imp fun F1 H1 ρ1 c s1 I1 k1 => by
    cases c with
    | true => rw [if_pos rfl] at k1 ⊢; exact ⟨F1, ρ1, I1, k1⟩
    | false => rw [if_neg Bool.false_ne_true] at k1 ⊢; exact ⟨F1, ρ1, I1, k1⟩⟩

/-! ### rows of values -/
def mNil : List S → R (List HV) := fun ρ => .ok [] ρ
def mCons (a : Ex) (r : List S → R (List HV)) : List S → R (List HV) := fun ρ => (mHold a ρ).bind fun h ρ1 => (r ρ1).bind fun hs ρ2 => .ok (h :: hs) ρ2
theorem ma_nil : MA X G g W [] mNil := pa_imp pa_nil fun σ H Q ⟨F, ρ, I, k⟩ => k F H (.refl _) I [] .nil
theorem ma_cons {e : Expr} {es : List Expr} {f : Ex} {r : List S → R (List HV)} (ha : ME X G g W e f) (hr : MA X G g W es r) (hs : starEach (e :: es) X.env = (false, eval e X.env) :: starEach es X.env := by rfl) : MA X G g W (e :: es) (mCons f r) :=
  pa_imp (pa_cons (me_hold ha) hr hs) fun σ H Q ⟨F, ρ, I, k⟩ => ⟨F, ρ, I, k.bind.imp fun F1 H1 ρ1 h s1 I1 k1 v rv => ⟨F1, ρ1, I1, k1.bind.imp fun F2 H2 ρ2 hs s2 I2 k2 vs rvs => k2 F2 H2 (.refl _) I2 _ (.cons (rv.mono s2) rvs)⟩⟩
/-- all of them as data -/
def forceH (h : HV) (ρ : List S) : R D := match h with
  | .d x => .ok x ρ
  | .r i => match ρ[i]? with
    | some (.d x) => .ok x ρ
    | some (.o x) => .ok x (ρ.set i (.d x))
    | _ => .bad
def forceHs : List HV → List S → R (List D)
  | [], ρ => .ok [] ρ
  | h :: hs, ρ => (forceH h ρ).bind fun x ρ1 => (forceHs hs ρ1).bind fun xs ρ2 => .ok (x :: xs) ρ2
theorem forceH_ok {F H : Hp} {ρ ρ' : List S} {σ : L2.St} {v : V} {h : HV} {x : D} (I : Good G g F ρ σ H) (r : RepH G F σ v h) (e : forceH h ρ = .ok x ρ') : ∃ F', Same F F' ∧ Good G g F' ρ' σ H ∧ Rep G F' v x := by
  cases h with
  | d y => exact forceRV_ok (rv := .d y) I r e
  | r i => exact forceRV_ok (rv := .r i) I r e
theorem forceH_ex {h : HV} {ρ ρ' : List S} {e : Exn} (q : forceH h ρ = .ex e ρ') : False := by
  cases h with
  | d y => exact forceRV_ex (rv := .d y) q
  | r i => exact forceRV_ex (rv := .r i) q
theorem forceHs_ok {H : Hp} {σ : L2.St} : ∀ {hs : List HV} {vs : List V} {F : Hp} {ρ ρ' : List S} {xs : List D}, Good G g F ρ σ H → RepHs G F σ vs hs → forceHs hs ρ = .ok xs ρ' → ∃ F', Same F F' ∧ Good G g F' ρ' σ H ∧ RepA G F' vs xs
  | [], _, F, _, _, _, I, r, e => by
    cases e
    cases r
    exact ⟨F, .refl _, I, .nil⟩
  | h :: hs, _, F, ρ, _, _, I, .cons a b, e => by
    unfold forceHs at e
    cases q : forceH h ρ with
    | bad => rw [q] at e; cases e
    | ex _ _ => rw [q] at e; cases e
    | ok x ρ1 =>
      rw [q] at e
      obtain ⟨F1, s1, I1, r1⟩ := forceH_ok I a q
      have e : ((forceHs hs ρ1).bind fun xs ρ2 => R.ok (x :: xs) ρ2) = _ := e
      cases q2 : forceHs hs ρ1 with
      | bad => rw [q2] at e; cases e
      | ex _ _ => rw [q2] at e; cases e
      | ok xs ρ2 =>
        rw [q2] at e
        cases e
        obtain ⟨F2, s2, I2, r2⟩ := forceHs_ok I1 (b.mono s1) q2
        exact ⟨F2, s1.trans s2, I2, .cons (r1.mono s2) r2⟩
theorem forceHs_ex : ∀ {hs : List HV} {ρ ρ' : List S} {e : Exn}, forceHs hs ρ = .ex e ρ' → False
  | [], _, _, _, q => by cases q
  | h :: hs, ρ, _, _, q => by
    unfold forceHs at q
    cases q1 : forceH h ρ with
    | bad => rw [q1] at q; cases q
    | ex _ _ => exact forceH_ex q1
    | ok x ρ1 =>
      rw [q1] at q
      have q : ((forceHs hs ρ1).bind fun xs ρ2 => R.ok (x :: xs) ρ2) = _ := q
      cases q2 : forceHs hs ρ1 with
      | bad => rw [q2] at q; cases q
      | ex _ _ => exact forceHs_ex q2
      | ok xs ρ2 => rw [q2] at q; cases q
theorem Post.forced {F H : Hp} {ρ : List S} {σ : L2.St} {hs : List HV} {vs : List V} {K : Hp → Hp → List S → List D → Prop} (I : Good G g F ρ σ H) (r : RepHs G F σ vs hs) (k : Post G g W F σ (forceHs hs ρ) K) : ∃ F' ρ' xs, Same F F' ∧ Good G g F' ρ' σ H ∧ RepA G F' vs xs ∧ K F' H ρ' xs := by
  cases q : forceHs hs ρ with
  | bad => rw [q] at k; exact k.elim
  | ex _ _ => exact (forceHs_ex q).elim
  | ok xs ρ' =>
    rw [q] at k
    obtain ⟨F', s, I', r'⟩ := forceHs_ok I r q
    exact ⟨F', ρ', xs, s, I', r', k F' H s I'⟩
def mTup (r : List S → R (List HV)) : Ex := fun ρ => (r ρ).bind fun hs ρ1 => (forceHs hs ρ1).bind fun xs ρ2 => if xs.length ≤ sizeLine then .ok (.d (.tup xs)) ρ2 else .bad
def mLst (r : List S → R (List HV)) : Ex := fun ρ => (r ρ).bind fun hs ρ1 => (forceHs hs ρ1).bind fun xs ρ2 => if xs.length ≤ sizeLine then .ok (.f (.lst xs)) ρ2 else .bad
theorem me_tup {es : List Expr} {x1} {r : List S → R (List HV)} (h : MA X G g W es r) : ME X G g W (.Tuple es x1 pos) (mTup r) :=
  pe_imp (pe_tup h) fun σ H Q ⟨F, ρ, I, k⟩ => ⟨F, ρ, I, k.bind.imp fun F1 H1 ρ1 hs s1 I1 k1 vs rv => by
    obtain ⟨F2, ρ2, xs, s2, I2, ra, k2⟩ := Post.forced I1 rv k1.bind
    split at k2
    · rename_i hz
      refine ⟨by rw [ra.length]; exact hz, fun q nq => ?_⟩
      have st := Step.frozen (o := .tup vs) I2.fh nq
      exact k2 _ _ st.ff (I2.step st) _ (.tup (.of upd_same) (ra.mono st.ff))
    · exact k2.elim⟩
theorem me_lst {es : List Expr} {r : List S → R (List HV)} (h : MA X G g W es r) : ME X G g W (.List es pos) (mLst r) :=
  pe_imp (pe_lst h) fun σ H Q ⟨F, ρ, I, k⟩ => ⟨F, ρ, I, k.bind.imp fun F1 H1 ρ1 hs s1 I1 k1 vs rv => by
    obtain ⟨F2, ρ2, xs, s2, I2, ra, k2⟩ := Post.forced I1 rv k1.bind
    split at k2
    · rename_i hz
      refine ⟨by rw [ra.length]; exact hz, fun q nq => ?_⟩
      have st := Step.new (o := .lst vs) I2.fh nq
      have ro : RepO G H1 F2 (upd H1 q (.lst vs)) (.ref q) (.f (.lst xs)) := ⟨q, rfl, nq, I2.fh.free nq, vs, upd_same, ra⟩
      exact k2 _ _ st.ff (I2.step st) _ (ro.toV I2 st)
    · exact k2.elim⟩

/-! ### built-in functions by data -/
def rCD (G : GG) (f : List D → Option RV) : List V → Hp → VK → Prop := fun vs H Q => ∃ F xs rv, Same F H ∧ RepTs G F H vs xs ∧ f xs = some rv ∧ ∀ F' H' w, Step F H F' H' → RepO G H F' H' w rv → Q w H'
def mCB (f : List D → Option RV) (r : List S → R (List HV)) : Ex := fun ρ => (r ρ).bind fun hs ρ1 => match peekHs ρ1 hs with
  | some xs => ret (f xs) ρ1
  | none => .bad
theorem tM_cb {f : List D → Option RV} {r : List S → R (List HV)} {σ : L2.St} {H : Hp} {Q : VK} (h : tM G g W (mCB f r) σ H Q) : tCB (rCD G f) (tMA G g W r) σ H Q := by
  obtain ⟨F, ρ, I, h⟩ := h
  refine ⟨F, ρ, I, h.bind.imp fun F1 H1 ρ1 hs s1 I1 k vs rv => ?_⟩
  cases q1 : peekHs ρ1 hs with
  | none => rw [q1] at k; exact k.elim
  | some xs =>
    rw [q1] at k
    dsimp only at k
    unfold ret at k
    cases q3 : f xs with
    | none => rw [q3] at k; exact k.elim
    | some o =>
      rw [q3] at k
      exact ⟨F1, xs, o, I1.fh, peekHs_rep I1 rv q1, q3, fun F3 H3 w st ro => k F3 H3 st.ff (I1.step st) w (ro.toV I1 st)⟩
theorem me_callB {x : Str} {id : String} {f : List D → Option RV} {e : Expr} {es : List Expr} {r : List S → R (List HV)} (hc : CallR X (.builtin id) (rCD G f)) (hg : Gl X x) (hm : X.mg x = none) (hv : bootBuiltins x = some (.builtin id)) (ha : MA X G g W (e :: es) r)
    (hn : x ≠ "__name__" := by decide) (hdb : (x == ("__debug__" : Str)) = false := by decide) (he : starEach (e :: es) X.env = (false, eval e X.env) :: starEach es X.env := by rfl) (hpl : (backTo pos (starEach es X.env)).any (·.1) = false := by rfl) :
    ME X G g W (.Call (.Name x p) (e :: es) [] pos) (mCB f r) := pe_imp (pe_callB hc hg hm hv ha hn hdb he hpl) fun _ _ _ => tM_cb
theorem me_callTy {x : Str} {T : String} {f : List D → Option RV} {e : Expr} {es : List Expr} {r : List S → R (List HV)} (hc : CallR X (.type T) (rCD G f)) (hg : Gl X x) (hm : X.mg x = none) (hv : bootBuiltins x = some (.type T)) (ha : MA X G g W (e :: es) r)
    (hn : x ≠ "__name__" := by decide) (hdb : (x == ("__debug__" : Str)) = false := by decide) (he : starEach (e :: es) X.env = (false, eval e X.env) :: starEach es X.env := by rfl) (hpl : (backTo pos (starEach es X.env)).any (·.1) = false := by rfl) :
    ME X G g W (.Call (.Name x p) (e :: es) [] pos) (mCB f r) := pe_imp (pe_callTy hc hg hm hv ha hn hdb he hpl) fun _ _ _ => tM_cb

/-! ### subscripts, slices -/
theorem me_ix {a b : Expr} {od : D → D → Option RV} {f h : Ex} (hr : IxR X (rD G od)) (ha : ME X G g W a f) (hb : ME X G g W b h) (hs : PlainIx b := by exact fun _ _ => rfl) : ME X G g W (.Subscript a b pos) (mBin od f h) :=
  pe_imp (pe_ix hr (me_hold ha) (me_hold hb) hs) fun _ _ _ => tM_bin
/-! a part of a slice -/
def mNoPart : List S → R (Option Int) := fun ρ => .ok none ρ
def mPart (f : Ex) : List S → R (Option Int) := fun ρ => (f ρ).bind fun rv ρ1 => match rv with
  | .d (.int i) => .ok (some i) ρ1
  | _ => .bad
def tMO (G : GG) (g : Gh) (W : WX) (f : List S → R (Option Int)) : TO := fun σ H Q => ∃ F ρ, Good G g F ρ σ H ∧ Post G g W F σ (f ρ) fun _ H' _ b => Q b H'
abbrev MO (X : Cx) (G : GG) (g : Gh) (W : WX) (e : Option Expr) (f : List S → R (Option Int)) : Prop := PO X e (tMO G g W f)
theorem po_imp {e : Option Expr} {t t' : TO} (h : PO X e t) (i : ∀ σ H Q, t' σ H Q → t σ H Q) : PO X e t' := ⟨fun pins s σ H Q I w => h.run pins s σ H Q I (i σ H Q w)⟩
theorem mo_none : MO X G g W none mNoPart := po_imp po_none fun σ H Q ⟨F, ρ, I, k⟩ => k F H (.refl _) I
theorem mo_some {e : Expr} {f : Ex} (h : ME X G g W e f) : MO X G g W (some e) (mPart f) := po_imp (po_some h) fun σ H Q ⟨F, ρ, I, k⟩ => ⟨F, ρ, I, k.bind.imp fun F1 H1 ρ1 rv s1 I1 k1 v r => by
  cases rv with
  | r i => exact k1.elim
  | f x => exact k1.elim
  | d x =>
    cases x with
    | int i =>
      cases r
      exact ⟨i, rfl, k1 F1 H1 (.refl _) I1⟩
    | _ => exact k1.elim⟩
def rSD (G : GG) (od : D → Option Int → Option Int → Option RV) : V → Option Int → Option Int → Hp → VK → Prop := fun v lo hi H Q => ∃ F x rv, Same F H ∧ RepT G F H v x ∧ od x lo hi = some rv ∧ ∀ F' H' w, Step F H F' H' → RepO G H F' H' w rv → Q w H'
def mSlice (od : D → Option Int → Option Int → Option RV) (a : Ex) (l u : List S → R (Option Int)) : Ex := fun ρ => (mHold a ρ).bind fun ha ρ1 => (l ρ1).bind fun lo ρ2 => (u ρ2).bind fun hi ρ3 => match peekH ρ3 ha with
  | some x => ret (od x lo hi) ρ3
  | none => .bad
theorem me_slice {a : Expr} {lo hi : Option Expr} {p2 : Pos} {od : D → Option Int → Option Int → Option RV} {f : Ex} {l u : List S → R (Option Int)} (hr : SlR X (rSD G od)) (ha : ME X G g W a f) (hl : MO X G g W lo l) (hu : MO X G g W hi u) : ME X G g W (.Subscript a (.Slice lo hi none p2) pos) (mSlice od f l u) :=
  pe_imp (pe_slice hr (me_hold ha) hl hu) fun σ H Q ⟨F, ρ, I, k⟩ => ⟨F, ρ, I, k.bind.imp fun F1 H1 ρ1 ra s1 I1 k1 v r => ⟨F1, ρ1, I1, k1.bind.imp fun F2 H2 ρ2 lo s2 I2 k2 => ⟨F2, ρ2, I2, k2.bind.imp fun F3 H3 ρ3 hi s3 I3 k3 => by
    cases q1 : peekH ρ3 ra with
    | none => rw [q1] at k3; exact k3.elim
    | some x =>
      rw [q1] at k3
      dsimp only at k3
      unfold ret at k3
      cases q3 : od x lo hi with
      | none => rw [q3] at k3; exact k3.elim
      | some o =>
        rw [q3] at k3
        exact ⟨F3, x, o, I3.fh, peekH_rep I3 ((r.mono s2).mono s3) q1, q3, fun F4 H4 w st ro => k3 F4 H4 st.ff (I3.step st) w (ro.toV I3 st)⟩⟩⟩⟩

/-! ### methods of built-in types that change nothing -/
def rMD (G : GG) (f : D → List D → Option RV) : V → List V → Hp → VK → Prop := fun v vs H Q => ∃ F x xs rv, Same F H ∧ RepT G F H v x ∧ RepTs G F H vs xs ∧ f x xs = some rv ∧ ∀ F' H' w, Step F H F' H' → RepO G H F' H' w rv → Q w H'
/-- which type's methods -/
def isTy (T : String) : D → Bool
  | .str _ => T == "str"
  | .lst _ => T == "list"
  | .dic _ => T == "dict"
  | .tup _ => T == "tuple"
  | _ => false
def mBM (T : String) (f : D → List D → Option RV) (a : Ex) (r : List S → R (List HV)) : Ex := fun ρ => (mHold a ρ).bind fun ha ρ1 => match peekH ρ1 ha with
  | some x0 => if isTy T x0 = true then (r ρ1).bind fun hs ρ2 => (match peekH ρ2 ha, peekHs ρ2 hs with
    | some x, some xs => ret (f x xs) ρ2
    | _, _ => .bad) else .bad
  | none => .bad
theorem isTy_ok {F H : Hp} {T : String} {v : V} {x : D} (s : Same F H) (r : RepT G F H v x) (e : isTy T x = true) (ht : T ≠ "tuple") : tyV G.K T v H := by
  rcases r with r | ⟨a, rfl, ow⟩
  · cases r with
    | str h => exact beq_iff_eq.mp e
    | lst h ra => exact .inl ⟨beq_iff_eq.mp e, _, .of (s _ _ h)⟩
    | ro _ _ => cases e
    | dic h rk => exact .inr (.inr (.inl ⟨beq_iff_eq.mp e, .inl ⟨_, s _ _ h⟩⟩))
    | tup h ra => exact absurd (beq_iff_eq.mp e) ht
    | non => cases e
    | bl _ => cases e
    | int _ => cases e
    | ins _ _ _ => cases e
  · cases x with
    | lst ds =>
      obtain ⟨xs, h, ra⟩ := ow
      exact .inl ⟨beq_iff_eq.mp e, _, .of h⟩
    | dic es =>
      obtain ⟨xs, h, ra⟩ := ow
      exact .inr (.inr (.inl ⟨beq_iff_eq.mp e, .inl ⟨_, h⟩⟩))
    | _ => exact ow.elim
theorem tM_bm {T : String} {f : D → List D → Option RV} {a : Ex} {r : List S → R (List HV)} (ht : T ≠ "tuple") {σ : L2.St} {H : Hp} {Q : VK} (h : tM G g W (mBM T f a r) σ H Q) :
    tMH G g W (mHold a) σ H fun v H1 => tyV G.K T v H1 ∧ tMA G g W r σ H1 fun vs H2 => rMD G f v vs H2 Q := by
  obtain ⟨F, ρ, I, h⟩ := h
  refine ⟨F, ρ, I, h.bind.imp fun F1 H1 ρ1 ha s1 I1 k v rv => ?_⟩
  cases q0 : peekH ρ1 ha with
  | none => rw [q0] at k; exact k.elim
  | some x0 =>
    rw [q0] at k
    dsimp only at k
    split at k
    · rename_i hT
      refine ⟨isTy_ok I1.fh (peekH_rep I1 rv q0) hT ht, F1, ρ1, I1, k.bind.imp fun F2 H2 ρ2 hs s2 I2 k2 vs rvs => ?_⟩
      cases q1 : peekH ρ2 ha with
      | none => rw [q1] at k2; exact k2.elim
      | some x =>
        rw [q1] at k2
        cases q2 : peekHs ρ2 hs with
        | none => rw [q2] at k2; exact k2.elim
        | some xs =>
          rw [q2] at k2
          dsimp only at k2
          unfold ret at k2
          cases q3 : f x xs with
          | none => rw [q3] at k2; exact k2.elim
          | some o =>
            rw [q3] at k2
            exact ⟨F2, x, xs, o, I2.fh, peekH_rep I2 (rv.mono s2) q1, peekHs_rep I2 rvs q2, q3, fun F3 H3 w st ro => k2 F3 H3 st.ff (I2.step st) w (ro.toV I2 st)⟩
    · exact k.elim
theorem me_bm0 {T id : String} {name : Str} {o : Expr} {f : D → List D → Option RV} {a : Ex} (hK : X.K = G.K) (pa : PlainAttrs T) (slot : Slot T name id) (hty : typeOf (.builtin id) = pure (.type "method_descriptor")) (hm : MtR X id (rMD G f)) (ho : ME X G g W o a)
    (ht : T ≠ "tuple" := by decide) (hbase : attributeBase o name X.env (eval o X.env) = eval o X.env := by rfl) (hline : (apos.endLine == pos.line) = true := by rfl) :
    ME X G g W (.Call (.Attribute o name apos) [] [] pos) (mBM T f a mNil) :=
  pe_imp (pe_bm0 pa slot hty hm (me_hold ho) hbase hline) fun σ H Q k => by
    obtain ⟨F, ρ, I, k⟩ := tM_bm ht k
    refine ⟨F, ρ, I, k.imp fun F1 H1 ρ1 ha s1 I1 k1 v rv => ?_⟩
    obtain ⟨e1, F2, ρ2, I2, e2⟩ := k1 v rv
    exact ⟨by rw [hK]; exact e1, e2 F2 H1 (.refl _) I2 [] .nil⟩
theorem me_bm {T id : String} {name : Str} {o e : Expr} {es : List Expr} {f : D → List D → Option RV} {a : Ex} {r : List S → R (List HV)} (hK : X.K = G.K) (pa : PlainAttrs T) (slot : Slot T name id) (hty : typeOf (.builtin id) = pure (.type "method_descriptor")) (hm : MtR X id (rMD G f)) (ho : ME X G g W o a) (hr : MA X G g W (e :: es) r)
    (ht : T ≠ "tuple" := by decide) (hbase : attributeBase o name X.env (eval o X.env) = eval o X.env := by rfl)
    (hfew : ((backTo pos (starEach (e :: es) X.env)).all (fun x => !x.1) && (backToKw pos (keywordEach [] X.env)).all (fun x => x.1.isSome)
      && decide ((e :: es).length + ([] : List Keyword).length + (if ([] : List Keyword).isEmpty then 0 else 1) < 30)) = true := by rfl)
    (hline : (apos.endLine == pos.line) = true := by rfl) (hs : starEach (e :: es) X.env = (false, eval e X.env) :: starEach es X.env := by rfl) (hplain : (backTo pos (starEach es X.env)).any (·.1) = false := by rfl) :
    ME X G g W (.Call (.Attribute o name apos) (e :: es) [] pos) (mBM T f a r) :=
  pe_imp (pe_bm pa slot hty hm (me_hold ho) hr hbase hfew hline hs hplain) fun σ H Q k => by
    obtain ⟨F, ρ, I, k⟩ := tM_bm ht k
    exact ⟨F, ρ, I, k.imp fun F1 H1 ρ1 ha s1 I1 k1 v rv => ⟨by rw [hK]; exact (k1 v rv).1, (k1 v rv).2⟩⟩
end
end MM
set_option Elab.async false
set_option maxRecDepth 100000
set_option maxHeartbeats 2000000
namespace MM
open PySem PySem.Spec PyProof.Rows L2
section
variable {X : Cx} {G : GG} {g : Gh} {W : WX} {pos p apos : Pos}

/-! ### storing -/
def S.isP : S → Bool
  | .p _ => true
  | _ => false
/-- data to a slot; a parameter's object is never lost -/
def putD (i : Nat) (x : D) (ρ : List S) : Option (List S) := match ρ[i]? with
  | some (.p _) => none
  | some _ => some (ρ.set i (.d x))
  | none => none
def putRV (i : Nat) (rv : RV) (ρ : List S) : Option (List S) := match rv with
  | .d x => putD i x ρ
  | .f x => (match ρ[i]? with
    | some (.p _) => none
    | some _ => some (ρ.set i (.o x))
    | none => none)
  | .r j => (match ρ[j]? with
    | some (.d x) => putD i x ρ
    | some (.o x) => putD i x (ρ.set j (.d x))
    | _ => none)
section
variable {F F' H H' : Hp} {ρ ρ' : List S} {σ : L2.St}
theorem Good.putD (I : Good G g F ρ σ H) {i : Nat} {x : D} {v : V} (r : Rep G F v x) (e : putD i x ρ = some ρ') : Good G g F ρ' (σ.set i (some v)) H := by
  unfold MM.putD at e
  cases q : ρ[i]? with
  | none => rw [q] at e; cases e
  | some s0 =>
    have hi : i < ρ.length := (List.getElem?_eq_some_iff.mp q).1
    have hiσ : i < σ.length := by rw [I.len]; exact hi
    have e' : s0.isP = false ∧ ρ' = ρ.set i (.d x) := by
      rw [q] at e
      cases s0 <;> first | (cases e; exact ⟨rfl, rfl⟩) | cases e
    obtain ⟨hp, rfl⟩ := e'
    have other : ∀ (j : Nat) (s : S), (ρ.set i (.d x))[j]? = some s → s.own ≠ none → j ≠ i ∧ ρ[j]? = some s ∧ (σ.set i (some v))[j]? = σ[j]? := fun j s hj ho => by
      by_cases z : j = i
      · subst z
        rw [List.getElem?_set_self hi] at hj
        cases hj
        exact absurd rfl ho
      · rw [List.getElem?_set_ne (Ne.symm z)] at hj
        exact ⟨z, hj, List.getElem?_set_ne (Ne.symm z)⟩
    exact { len := by rw [List.length_set, List.length_set]; exact I.len
            fh := I.fh
            f0 := I.f0
            keep := I.keep
            fresh := I.fresh
            dat := fun j y hj => by
              by_cases z : j = i
              · subst z
                rw [List.getElem?_set_self hi] at hj
                cases hj
                exact ⟨v, List.getElem?_set_self hiσ, r⟩
              · rw [List.getElem?_set_ne (Ne.symm z)] at hj ⊢
                exact I.dat j y hj
            obj := fun j y hj => by
              obtain ⟨z, hj', es⟩ := other j _ hj (by simp [S.own])
              rw [es]
              exact I.obj j y hj'
            prm := fun j y hj => by
              obtain ⟨z, hj', es⟩ := other j _ hj (by simp [S.own])
              rw [es]
              exact I.prm j y hj'
            par := fun j b hj => by
              obtain ⟨⟨y, hy⟩, ho⟩ := I.par j b hj
              refine ⟨⟨y, ?_⟩, ho⟩
              rw [List.getElem?_set_ne]
              · exact hy
              · intro z
                subst z
                rw [q] at hy; cases hy
                cases hp
            apart := fun j k s t b hjk h1 h2 h3 h4 h5 => by
              obtain ⟨_, h1', e1⟩ := other j s h1 h3
              obtain ⟨_, h2', e2⟩ := other k t h2 h4
              rw [e2]
              rw [e1] at h5
              exact I.apart j k s t b hjk h1' h2' h3 h4 h5
            tmp := fun t ht => by
              obtain ⟨h2, h3, h4, h5⟩ := I.tmp t ht
              refine ⟨h2, h3, h4, fun j s hj hs => ?_⟩
              obtain ⟨_, hj', es⟩ := other j s hj hs
              rw [es]
              exact h5 j s hj' hs }
theorem Good.putF (I : Good G g F ρ σ H) {i : Nat} {x : D} {v : V} (r : RepV G g F H ρ σ v (.f x)) (e : putRV i (.f x) ρ = some ρ') : Good G g F ρ' (σ.set i (some v)) H := by
  unfold putRV at e
  dsimp only at e
  cases q : ρ[i]? with
  | none => rw [q] at e; cases e
  | some s0 =>
    have hi : i < ρ.length := (List.getElem?_eq_some_iff.mp q).1
    have hiσ : i < σ.length := by rw [I.len]; exact hi
    have e' : s0.isP = false ∧ ρ' = ρ.set i (.o x) := by
      rw [q] at e
      cases s0 <;> first | (cases e; exact ⟨rfl, rfl⟩) | cases e
    obtain ⟨hp, rfl⟩ := e'
    obtain ⟨a, rfl, n, h0, ow, ap, nT⟩ := r
    have other : ∀ (j : Nat) (s : S), (ρ.set i (.o x))[j]? = some s → (j = i ∧ s = .o x) ∨ (j ≠ i ∧ ρ[j]? = some s ∧ (σ.set i (some (V.ref a)))[j]? = σ[j]?) := fun j s hj => by
      by_cases z : j = i
      · subst z
        rw [List.getElem?_set_self hi] at hj
        cases hj
        exact .inl ⟨rfl, rfl⟩
      · rw [List.getElem?_set_ne (Ne.symm z)] at hj
        exact .inr ⟨z, hj, List.getElem?_set_ne (Ne.symm z)⟩
    exact { len := by rw [List.length_set, List.length_set]; exact I.len
            fh := I.fh
            f0 := I.f0
            keep := I.keep
            fresh := I.fresh
            dat := fun j y hj => by
              rcases other j _ hj with ⟨_, z⟩ | ⟨_, hj', es⟩
              · cases z
              · rw [es]
                exact I.dat j y hj'
            obj := fun j y hj => by
              rcases other j _ hj with ⟨z1, z⟩ | ⟨_, hj', es⟩
              · cases z
                subst z1
                exact ⟨a, List.getElem?_set_self hiσ, n, ow, h0⟩
              · rw [es]
                exact I.obj j y hj'
            prm := fun j y hj => by
              rcases other j _ hj with ⟨z1, z⟩ | ⟨_, hj', es⟩
              · cases z
              · rw [es]
                exact I.prm j y hj'
            par := fun j b hj => by
              obtain ⟨⟨y, hy⟩, ho⟩ := I.par j b hj
              refine ⟨⟨y, ?_⟩, ho⟩
              rw [List.getElem?_set_ne]
              · exact hy
              · intro z
                subst z
                rw [q] at hy; cases hy
                cases hp
            apart := fun j k s t b hjk h1 h2 h3 h4 h5 => by
              rcases other j s h1 with ⟨z1, z⟩ | ⟨_, h1', e1⟩
              · subst z1
                rw [List.getElem?_set_self hiσ] at h5
                cases h5
                rcases other k t h2 with ⟨z2, _⟩ | ⟨_, h2', e2⟩
                · exact absurd z2.symm hjk
                · rw [e2]
                  exact ap k t h2' h4
              · rw [e1] at h5
                rcases other k t h2 with ⟨z2, _⟩ | ⟨_, h2', e2⟩
                · subst z2
                  rw [List.getElem?_set_self hiσ]
                  intro z
                  cases z
                  exact ap j s h1' h3 h5
                · rw [e2]
                  exact I.apart j k s t b hjk h1' h2' h3 h4 h5
            tmp := fun t ht => by
              obtain ⟨h2, h3, h4, h5⟩ := I.tmp t ht
              refine ⟨h2, h3, h4, fun j s hj hs => ?_⟩
              rcases other j s hj with ⟨z1, _⟩ | ⟨_, hj', es⟩
              · subst z1
                rw [List.getElem?_set_self hiσ]
                intro z
                cases z
                exact nT t ht rfl
              · rw [es]
                exact h5 j s hj' hs }
theorem Good.putRV (I : Good G g F ρ σ H) {i : Nat} {rv : RV} {v : V} (r : RepV G g F H ρ σ v rv) (e : putRV i rv ρ = some ρ') : ∃ F', Same F F' ∧ Good G g F' ρ' (σ.set i (some v)) H := by
  cases rv with
  | d x => exact ⟨F, .refl _, I.putD r e⟩
  | f x => exact ⟨F, .refl _, I.putF r e⟩
  | r j =>
    have r : σ[j]? = some (some v) := r
    unfold MM.putRV at e
    dsimp only at e
    cases q : ρ[j]? with
    | none => rw [q] at e; cases e
    | some s =>
      rw [q] at e
      cases s with
      | un => cases e
      | p y => cases e
      | d y =>
        obtain ⟨u, h1, h2⟩ := I.dat j _ q
        rw [r] at h1; cases h1
        exact ⟨F, .refl _, I.putD h2 e⟩
      | o y =>
        obtain ⟨F', a, s1, I', e1, r1⟩ := I.freezeR q
        rw [r] at e1; cases e1
        exact ⟨F', s1, I'.putD r1 e⟩
end

/-! ### statements -/
def Out.of {α : Type} (r : R α) (k : α → List S → Out) : Out := match r with
  | .ok a ρ => k a ρ
  | .ex e ρ => .ex e ρ
  | .bad => .bad
theorem PostS.of {F : Hp} {σ : L2.St} {α : Type} {r : R α} {k : α → List S → Out} {Dd : Ends} (h : PostS G g W F (Out.of r k) Dd) : Post G g W F σ r fun F' _ ρ' a => PostS G g W F' (k a ρ') Dd := by
  cases r with
  | ok a ρ => exact fun F2 H2 s2 _ => h.mono s2
  | ex e ρ => exact fun F2 H2 c d s2 => h F2 H2 σ c d s2
  | bad => exact h
def sNext : Sm := fun ρ => .nx ρ
def sSeq (a b : Sm) : Sm := fun ρ => match a ρ with
  | .nx ρ1 => b ρ1
  | o => o
theorem mss_nil : MSs X G g W [] sNext := pss_imp pss_nil fun D σ H ⟨F, ρ, I, k⟩ => k F H σ (.refl _) I
theorem mss_one {st : Stmt} {m : Sm} (h : MS X G g W st m) : MSs X G g W [st] m := pss_one h
theorem mss_cons {st : Stmt} {rest : List Stmt} {a b : Sm} (h1 : MS X G g W st a) (h2 : MSs X G g W rest b) : MSs X G g W (st :: rest) (sSeq a b) :=
  pss_imp (pss_cons h1 h2) fun D σ H ⟨F, ρ, I, k⟩ => by
    refine ⟨F, ρ, I, ?_⟩
    unfold sSeq at k
    cases q : a ρ with
    | nx ρ1 =>
      rw [q] at k
      exact fun F1 H1 σ1 s1 I1 => ⟨F1, ρ1, I1, PostS.mono k s1⟩
    | rt r ρ1 => rw [q] at k; exact k
    | bk ρ1 => rw [q] at k; exact k
    | ct ρ1 => rw [q] at k; exact k
    | ex e ρ1 => rw [q] at k; exact k
    | bad => rw [q] at k; exact k
theorem ms_pass : MS X G g W (.Pass pos) sNext := ps_imp ps_pass fun D σ H ⟨F, ρ, I, k⟩ => k F H σ (.refl _) I
def sBreak : Sm := fun ρ => .bk ρ
def sCont : Sm := fun ρ => .ct ρ
theorem ms_break : MS X G g W (.Break pos) sBreak := ps_imp ps_break fun D σ H ⟨F, ρ, I, k⟩ => k F H σ (.refl _) I
theorem ms_cont : MS X G g W (.Continue pos) sCont := ps_imp ps_continue fun D σ H ⟨F, ρ, I, k⟩ => k F H σ (.refl _) I
def sRet (f : Ex) : Sm := fun ρ => Out.of (f ρ) fun rv ρ1 => .rt rv ρ1
theorem ms_ret {e : Expr} {f : Ex} (h : ME X G g W e f) : MS X G g W (.Return (some e) pos) (sRet f) := ps_imp (ps_ret h) fun D σ H ⟨F, ρ, I, k⟩ =>
  ⟨F, ρ, I, (PostS.of k).imp fun F1 H1 ρ1 rv s1 I1 k1 v r => k1 F1 H1 σ v (.refl _) I1 r⟩
def sRetN : Sm := fun ρ => .rt (.d .non) ρ
theorem ms_retN : MS X G g W (.Return none pos) sRetN := ps_imp ps_retN fun D σ H ⟨F, ρ, I, k⟩ => k F H σ _ (.refl _) I .non
def sExpr (f : Ex) : Sm := fun ρ => Out.of (f ρ) fun _ ρ1 => .nx ρ1
theorem ms_expr {e : Expr} {f : Ex} (h : ME X G g W e f) (hs : swapsWith e none pos.line X.env = pure false := by rfl) : MS X G g W (.Expr e pos) (sExpr f) := ps_imp (ps_expr h hs) fun D σ H ⟨F, ρ, I, k⟩ =>
  ⟨F, ρ, I, (PostS.of k).imp fun F1 H1 ρ1 rv s1 I1 k1 v r => k1 F1 H1 σ (.refl _) I1⟩
def sIf (t : List S → R Bool) (a b : Sm) : Sm := fun ρ => Out.of (t ρ) fun c ρ1 => if c = true then a ρ1 else b ρ1
theorem ms_if {c : Expr} {a b : List Stmt} {t : List S → R Bool} {ma mb : Sm} (hc : MT X G g W c t) (ha : MSs X G g W a ma) (hb : MSs X G g W b mb) : MS X G g W (.If c a b pos) (sIf t ma mb) := ps_imp (ps_if hc ha hb) fun D σ H ⟨F, ρ, I, k⟩ =>
  ⟨F, ρ, I, (PostS.of k).imp fun F1 H1 ρ1 c s1 I1 k1 => by
    cases c with
    | true => rw [if_pos rfl] at k1 ⊢; exact ⟨F1, ρ1, I1, k1⟩
    | false => rw [if_neg Bool.false_ne_true] at k1 ⊢; exact ⟨F1, ρ1, I1, k1⟩⟩
def nxO : Option (List S) → Out
  | some ρ => .nx ρ
  | none => .bad
/-- name = value -/
def sSet (i : Nat) (f : Ex) : Sm := fun ρ => Out.of (f ρ) fun rv ρ1 => nxO (putRV i rv ρ1)
theorem set_go {i : Nat} {f : Ex} {D : Ends} {σ : L2.St} {H : Hp} (h : tMS G g W (sSet i f) D σ H) : tM G g W f σ H fun x H1 => gName i x σ H1 D.nx := by
  obtain ⟨F, ρ, I, k⟩ := h
  refine ⟨F, ρ, I, (PostS.of k).imp fun F1 H1 ρ1 rv s1 I1 k1 v r => ?_⟩
  cases q : putRV i rv ρ1 with
  | none => rw [q] at k1; exact k1.elim
  | some ρ2 =>
    rw [q] at k1
    obtain ⟨F2, s2, I2⟩ := I1.putRV r q
    exact k1 F2 H1 _ s2 I2
theorem ms_set {i : Nat} {x : Str} {e : Expr} {f : Ex} {pos' : Pos} (hN : X.N.Nodup) (hi : X.N[i]? = some x) (hx : Loc X.env.scope x) (h : ME X G g W e f) (hs : swapsWith e (some (.Name x pos')) pos.line X.env = pure false := by rfl)
    (hf : X.fn x = true ∨ X.env.scope.names.lookup x = some .local := by first | exact .inl rfl | exact .inr rfl | assumption) : MS X G g W (.Assign [.Name x pos'] e pos) (sSet i f) := ps_imp (ps_set hN hi hx h hs hf) fun D σ H => set_go
/-! targets -/
inductive Tg where
  | nm (i : Nat) | tp (l : List Tg)
mutual
def Tg.put : Tg → D → List S → Option (List S)
  | .nm i, x, ρ => putD i x ρ
  | .tp l, .tup xs, ρ => if xs.length = l.length then Tg.puts l xs ρ else none
  | .tp l, .lst xs, ρ => if xs.length = l.length then Tg.puts l xs ρ else none
  | .tp _, _, _ => none
def Tg.puts : List Tg → List D → List S → Option (List S)
  | [], [], ρ => some ρ
  | t :: ts, x :: xs, ρ => (t.put x ρ).bind fun ρ1 => Tg.puts ts xs ρ1
  | _, _, _ => none
end
mutual
def Tg.ixs : Tg → List Nat
  | .nm i => [i]
  | .tp l => Tg.ixss l
def Tg.ixss : List Tg → List Nat
  | [] => []
  | t :: ts => t.ixs ++ Tg.ixss ts
end
def tMG (G : GG) (g : Gh) (t : Tg) : TG := fun v σ H Q => ∃ F ρ x ρ', Good G g F ρ σ H ∧ Rep G F v x ∧ t.put x ρ = some ρ' ∧ ∀ σ', Good G g F ρ' σ' H → (∀ vs, (∀ i ∈ t.ixs, i ∈ vs) → wipe σ' vs = wipe σ vs) → Q σ' H
def tMGs (G : GG) (g : Gh) (ts : List Tg) : TGs := fun vs σ H Q => ∃ F ρ xs ρ', Good G g F ρ σ H ∧ RepA G F vs xs ∧ Tg.puts ts xs ρ = some ρ' ∧ ∀ σ', Good G g F ρ' σ' H → (∀ vs, (∀ i ∈ Tg.ixss ts, i ∈ vs) → wipe σ' vs = wipe σ vs) → Q σ' H
abbrev MG (X : Cx) (G : GG) (g : Gh) (e : Expr) (t : Tg) : Prop := PG X e (tMG G g t)
abbrev MGs (X : Cx) (G : GG) (g : Gh) (es : List Expr) (ts : List Tg) : Prop := PGs X es (tMGs G g ts)
theorem pg_imp {e : Expr} {t t' : TG} (h : PG X e t) (i : ∀ v σ H Q, t' v σ H Q → t v σ H Q) : PG X e t' := ⟨fun pins s σ H v u Q I r w => h.run pins s σ H v u Q I r (i v σ H Q w)⟩
theorem pgs_imp {es : List Expr} {t t' : TGs} (h : PGs X es t) (i : ∀ v σ H Q, t' v σ H Q → t v σ H Q) : PGs X es t' := ⟨fun pins s σ H v u Q I r w => h.run pins s σ H v u Q I r (i v σ H Q w)⟩
theorem wipe_set {σ : L2.St} {i : Nat} {o : Option V} : ∀ {vs : List Nat}, i ∈ vs → wipe (σ.set i o) vs = wipe σ vs
  | v :: vs, h => by
    show (wipe (σ.set i o) vs).set v none = (wipe σ vs).set v none
    by_cases z : i ∈ vs
    · rw [wipe_set z]
    · have e : v = i := by
        rcases List.mem_cons.mp h with e | e
        · exact e.symm
        · exact absurd e z
      subst e
      have c : ∀ (ws : List Nat), v ∉ ws → wipe (σ.set v o) ws = (wipe σ ws).set v o := by
        intro ws
        induction ws with
        | nil => intro _; rfl
        | cons u us ih =>
          intro hu
          show (wipe (σ.set v o) us).set u none = ((wipe σ us).set u none).set v o
          rw [ih fun m => hu (List.mem_cons_of_mem _ m), List.set_comm _ _ (fun e => hu (by rw [e]; exact List.mem_cons_self))]
      rw [c vs z, List.set_set]
theorem mg_name {i : Nat} {x : Str} (hN : X.N.Nodup) (hi : X.N[i]? = some x) (hx : Loc X.env.scope x) (hf : X.fn x = true ∨ X.env.scope.names.lookup x = some .local := by first | exact .inl rfl | exact .inr rfl | assumption) : MG X G g (.Name x pos) (.nm i) :=
  pg_imp (pg_name hN hi hx hf) fun v σ H Q ⟨F, ρ, x, ρ', I, r, e, k⟩ => k _ (I.putD r e) fun vs h => wipe_set (h i (by simp [Tg.ixs]))
theorem mgs_nil : MGs X G g [] [] := pgs_imp pgs_nil fun v σ H Q ⟨F, ρ, xs, ρ', I, r, e, k⟩ => by
  cases r with
  | nil =>
    unfold Tg.puts at e
    cases e
    exact ⟨rfl, k σ I fun _ _ => rfl⟩
  | cons _ _ => unfold Tg.puts at e; cases e
theorem mgs_cons {e : Expr} {es : List Expr} {t : Tg} {ts : List Tg} (h1 : MG X G g e t) (h2 : MGs X G g es ts) (hs : (assignEach (e :: es) X.env).map (·.2) = assign e X.env :: (assignEach es X.env).map (·.2) := by rfl) : MGs X G g (e :: es) (t :: ts) :=
  pgs_imp (pgs_cons h1 h2 hs) fun v σ H Q ⟨F, ρ, xs, ρ', I, r, e, k⟩ => by
    cases r with
    | nil => unfold Tg.puts at e; cases e
    | @cons v vs x xs rx rxs =>
      unfold Tg.puts at e
      cases q : t.put x ρ with
      | none => rw [q] at e; cases e
      | some ρ1 =>
        rw [q] at e
        have e : Tg.puts ts xs ρ1 = some ρ' := e
        exact ⟨_, _, rfl, F, ρ, x, ρ1, I, rx, q, fun σ1 I1 w1 => ⟨F, ρ1, xs, ρ', I1, rxs, e, fun σ2 I2 w2 => k σ2 I2 fun vs h =>
          (w2 vs fun i hi => h i (by unfold Tg.ixss; exact List.mem_append_right _ hi)).trans (w1 vs fun i hi => h i (by unfold Tg.ixss; exact List.mem_append_left _ hi))⟩⟩
theorem mg_tup {es : List Expr} {k : Nat} {ts : List Tg} (hK : X.K = G.K) (hc : X.calm = true) (h : MGs X G g es ts) (hn : (assignEach es X.env).length = ts.length := by rfl) (hst : (assignEach es X.env).findIdx? (·.1) = none := by rfl) : MG X G g (.Tuple es k pos) (.tp ts) := by
  refine ⟨fun pins s σ H v u Q I r hw => ?_⟩
  obtain ⟨F, ρ, x, ρ', J, rx, e, q⟩ := hw
  cases x with
  | tup xs =>
    cases rx with
    | tup hq ra =>
      unfold Tg.put at e
      split at e
      · rename_i hl
        exact (pg_tup hc h hn hst).run pins s σ H _ u Q I r ⟨_, _, rfl, by rw [hK]; exact sqT_same J.fh hq, ra.length.trans hl, F, ρ, xs, ρ', J, ra, e, q⟩
      · cases e
  | lst xs =>
    cases rx with
    | lst hq ra =>
      unfold Tg.put at e
      split at e
      · rename_i hl
        exact (pg_lst hc h hn hst).run pins s σ H _ u Q I r ⟨_, _, rfl, by rw [hK]; exact .of (J.fh _ _ hq), ra.length.trans hl, F, ρ, xs, ρ', J, ra, e, q⟩
      · cases e
  | _ => unfold Tg.put at e; cases e
/-- target = value, the value as data -/
def sAsg (t : Tg) (f : Ex) : Sm := fun ρ => Out.of (mForce f ρ) fun x ρ1 => nxO (t.put x ρ1)
theorem ms_asg {tg e : Expr} {f : Ex} {t : Tg} (h : ME X G g W e f) (hg : MG X G g tg t) (hs : swapsWithSole [tg] e pos.line X.env = pure false := by rfl) (hw : swappedStores [tg] e X.env = pure none := by rfl)
    (h1 : (assignEach [tg] X.env).map (·.2) = [assign tg X.env] := by rfl) : MS X G g W (.Assign [tg] e pos) (sAsg t f) := ps_imp (ps_asg (me_force h) hg hs hw h1) fun D σ H ⟨F, ρ, I, k⟩ => by
  refine ⟨F, ρ, I, (PostS.of k).imp fun F1 H1 ρ1 x s1 I1 k1 v r => ?_⟩
  cases q : t.put x ρ1 with
  | none => rw [q] at k1; exact k1.elim
  | some ρ2 =>
    rw [q] at k1
    exact ⟨F1, ρ1, x, ρ2, I1, r, q, fun σ' I' _ => k1 F1 H1 σ' (.refl _) I'⟩

/-! ### loops -/
def loopM (body : D → List S → Out) : List D → List S → Out
  | [], ρ => .nx ρ
  | x :: r, ρ => match body x ρ with
    | .nx ρ1 => loopM body r ρ1
    | .ct ρ1 => loopM body r ρ1
    | .bk ρ1 => .nx ρ1
    | o => o
def sFor (it : List S → R (List D)) (t : Tg) (body : Sm) : Sm := fun ρ => Out.of (it ρ) fun items ρ1 => loopM (fun x ρ => match t.put x ρ with
  | some ρ2 => body ρ2
  | none => .bad) items ρ1
/-- the iterator J walks these data -/
structure ItD (G : GG) (J : It) (items : List D) (F H : Hp) : Prop where
  go : ∀ F1 H1 i, Same F F1 → Same F1 H1 → i < items.length → J.go i H1
  yld : ∀ F1 H1 i v H2, Same F F1 → Same F1 H1 → J.yld i H1 v H2 → i < items.length → ∃ F2 x, Step F1 H1 F2 H2 ∧ items[i]? = some x ∧ Rep G F2 v x
  stop : ∀ F1 H1 i, Same F F1 → Same F1 H1 → items.length ≤ i → J.stop i H1
def tMI (G : GG) (g : Gh) (W : WX) (f : List S → R (List D)) : TI := fun σ H Rr => ∃ F ρ, Good G g F ρ σ H ∧ Post G g W F σ (f ρ) fun F' H' _ items => ∀ J, ItD G J items F' H' → Rr J H'
abbrev MI (X : Cx) (G : GG) (g : Gh) (W : WX) (tg iter : Expr) (f : List S → R (List D)) : Prop := PI X tg iter (tMI G g W f)
theorem ms_for {tg iter : Expr} {body : List Stmt} {f : List S → R (List D)} {t : Tg} {m : Sm} (hp : PassesOwn (model X.prog X.w) X.A X.env X.xe) (hc : X.calm = true) (hi : MI X G g W tg iter f) (hg : MG X G g tg t) (hb : MSs X G g W body m)
    (hs : ∀ x, foldedSetIterable iter X.env x = pure x := by intro _; rfl) : MS X G g W (.For tg iter body [] pos) (sFor f t m) := ps_imp (ps_for hp hc hi hg hb hs) fun D σ H ⟨F, ρ, I, k⟩ => by
  refine ⟨F, ρ, I, (PostS.of k).imp fun F0 H0 ρ0 items s0 I0 k0 J hJ => ?_⟩
  refine ⟨fun i m' σ1 H1 => m' = items.length - i ∧ i ≤ items.length ∧ ∃ F1 ρ1, Same F0 F1 ∧ Good G g F1 ρ1 σ1 H1 ∧ PostS G g W F1 (loopM (fun x ρ => match t.put x ρ with
    | some ρ2 => m ρ2
    | none => .bad) (items.drop i) ρ1) D, ⟨items.length, by simp, Nat.zero_le _, F0, ρ0, .refl _, I0, k0⟩, ?_⟩
  rintro i m' σ1 H1 ⟨rfl, hi, F1, ρ1, s1, I1, k1⟩
  by_cases hlt : i < items.length
  · refine .inr ⟨hJ.go F1 H1 i s1 I1.fh hlt, fun σ' H' => ∃ F2 ρ2, Same F0 F2 ∧ Good G g F2 ρ2 σ' H' ∧ PostS G g W F2 (loopM (fun x ρ => match t.put x ρ with
      | some ρ2 => m ρ2
      | none => .bad) (items.drop (i + 1)) ρ2) D, fun σ' H' ⟨F2, ρ2, s2, I2, k2⟩ => ⟨items.length - (i + 1), by omega, rfl, hlt, F2, ρ2, s2, I2, k2⟩, fun v H2 y => ?_⟩
    obtain ⟨F2, x, st, hx, r⟩ := hJ.yld F1 H1 i v H2 s1 I1.fh y hlt
    have I2 := I1.step st
    have k2 := k1.mono st.ff
    rw [List.drop_eq_getElem_cons hlt] at k2
    have ex : items[i] = x := by
      rw [List.getElem?_eq_getElem hlt] at hx
      exact Option.some.inj hx
    rw [ex] at k2
    unfold loopM at k2
    cases q : t.put x ρ1 with
    | none => rw [q] at k2; exact k2.elim
    | some ρ2 =>
      rw [q] at k2
      dsimp only at k2
      refine ⟨F2, ρ1, x, ρ2, I2, r, q, fun σ' I3 _ => ⟨F2, ρ2, I3, ?_⟩⟩
      cases q2 : m ρ2 with
      | bad => rw [q2] at k2; exact k2
      | ex e ρ3 => rw [q2] at k2; exact k2
      | rt rv ρ3 => rw [q2] at k2; exact k2
      | bk ρ3 =>
        rw [q2] at k2
        exact fun F4 H4 σ4 s4 I4 => k2 F4 H4 σ4 s4 I4
      | nx ρ3 =>
        rw [q2] at k2
        exact fun F4 H4 σ4 s4 I4 => ⟨F4, ρ3, (s1.trans st.ff).trans s4, I4, PostS.mono k2 s4⟩
      | ct ρ3 =>
        rw [q2] at k2
        exact fun F4 H4 σ4 s4 I4 => ⟨F4, ρ3, (s1.trans st.ff).trans s4, I4, PostS.mono k2 s4⟩
  · have e : items.drop i = [] := List.drop_eq_nil_of_le (by omega)
    rw [e] at k1
    exact .inl ⟨hJ.stop F1 H1 i s1 I1.fh (by omega), k1 F1 H1 σ1 (.refl _) I1⟩
def whileM (t : List S → R Bool) (body : Sm) : Nat → Sm
  | 0, _ => .bad
  | n + 1, ρ => Out.of (t ρ) fun c ρ1 => if c = true then (match body ρ1 with
    | .nx ρ2 => whileM t body n ρ2
    | .ct ρ2 => whileM t body n ρ2
    | .bk ρ2 => .nx ρ2
    | o => o) else .nx ρ1
theorem ms_while {c : Expr} {body : List Stmt} {t : List S → R Bool} {m : Sm} (n : Nat) (hp : PassesOwn (model X.prog X.w) X.A X.env X.xe) (hc : MT X G g W c t) (hb : MSs X G g W body m) : MS X G g W (.While c body [] pos) (whileM t m n) := ps_imp (ps_while hp hc hb) fun D σ H ⟨F, ρ, I, k⟩ => by
  refine ⟨fun i σ1 H1 => ∃ F1 ρ1, Same F F1 ∧ Good G g F1 ρ1 σ1 H1 ∧ PostS G g W F1 (whileM t m i ρ1) D, ⟨n, F, ρ, .refl _, I, k⟩, ?_⟩
  rintro i σ1 H1 ⟨F1, ρ1, s1, I1, k1⟩
  cases i with
  | zero => exact k1.elim
  | succ i =>
    unfold whileM at k1
    refine ⟨F1, ρ1, I1, (PostS.of k1).imp fun F2 H2 ρ2 b s2 I2 k2 => ?_⟩
    cases b with
    | false =>
      rw [if_neg Bool.false_ne_true] at k2 ⊢
      exact k2 F2 H2 σ1 (.refl _) I2
    | true =>
      rw [if_pos rfl] at k2 ⊢
      refine ⟨fun σ' H' => ∃ F3 ρ3, Same F F3 ∧ Good G g F3 ρ3 σ' H' ∧ PostS G g W F3 (whileM t m i ρ3) D, fun σ' H' h => ⟨i, Nat.lt_succ_self _, h⟩, F2, ρ2, I2, ?_⟩
      cases q2 : m ρ2 with
      | bad => rw [q2] at k2; exact k2
      | ex e ρ3 => rw [q2] at k2; exact k2
      | rt rv ρ3 => rw [q2] at k2; exact k2
      | bk ρ3 =>
        rw [q2] at k2
        exact fun F4 H4 σ4 s4 I4 => k2 F4 H4 σ4 s4 I4
      | nx ρ3 =>
        rw [q2] at k2
        exact fun F4 H4 σ4 s4 I4 => ⟨F4, ρ3, (s1.trans s2).trans s4, I4, PostS.mono k2 s4⟩
      | ct ρ3 =>
        rw [q2] at k2
        exact fun F4 H4 σ4 s4 I4 => ⟨F4, ρ3, (s1.trans s2).trans s4, I4, PostS.mono k2 s4⟩
/-- x op= e -/
def sAug (i : Nat) (od : D → D → Option RV) (f : Ex) : Sm := fun ρ => match ρ[i]? with
  | some (.d x) => Out.of (mHold f ρ) fun h ρ1 => (match peekH ρ1 h with
    | some y => (match od x y with
      | some rv => nxO (putRV i rv ρ1)
      | none => .bad)
    | none => .bad)
  | _ => .bad
theorem ms_aug {i : Nat} {x : Str} {e : Expr} {op : Operator} {od : D → D → Option RV} {f : Ex} {pos' : Pos} (hN : X.N.Nodup) (hi : X.N[i]? = some x) (hx : Loc X.env.scope x) (h : ME X G g W e f) (ho : OpR X (inplaceOp op) (rD G od))
    (hf : X.fn x = true ∨ X.env.scope.names.lookup x = some .local := by first | exact .inl rfl | exact .inr rfl | assumption) : MS X G g W (.AugAssign (.Name x pos') op e pos) (sAug i od f) :=
  ps_imp (ps_aug (ti := rD G od) hN hi hx (me_hold h) ho hf) fun D σ H ⟨F, ρ, I, k⟩ => by
    unfold sAug at k
    cases q : ρ[i]? with
    | none => rw [q] at k; exact k.elim
    | some s =>
      rw [q] at k
      cases s with
      | d x0 =>
        obtain ⟨v, hv, r⟩ := I.dat i x0 q
        refine ⟨v, hv, F, ρ, I, (PostS.of k).imp fun F1 H1 ρ1 hh s1 I1 k1 u ru => ?_⟩
        cases q1 : peekH ρ1 hh with
        | none => rw [q1] at k1; exact k1.elim
        | some y =>
          rw [q1] at k1
          dsimp only at k1
          cases q2 : od x0 y with
          | none => rw [q2] at k1; exact k1.elim
          | some rv =>
            rw [q2] at k1
            dsimp only at k1
            refine ⟨F1, x0, y, rv, I1.fh, .inl (r.mono s1), peekH_rep I1 ru q1, q2, fun F2 H2 w st ro => ?_⟩
            have I2 := I1.step st
            cases q3 : putRV i rv ρ1 with
            | none => rw [q3] at k1; exact k1.elim
            | some ρ2 =>
              rw [q3] at k1
              obtain ⟨F3, s3, I3⟩ := I2.putRV (ro.toV I1 st) q3
              exact k1 F3 H2 _ (st.ff.trans s3) I3
      | un => exact k.elim
      | o _ => exact k.elim
      | p _ => exact k.elim
end
end MM
set_option Elab.async false
set_option maxRecDepth 100000
set_option maxHeartbeats 2000000
namespace MM
open PySem PySem.Spec PyProof.Rows L2

/-! ### a def's promise by its mirror -/
/-- where the objects lie that a caller hands over -/
def PM (ss : List S) (vs : List V) (i : Nat) : Option Addr := match ss[i]?, vs[i]? with
  | some (.p _), some (.ref a) => some a
  | _, _ => none
structure ArgsOk (G : GG) (F H : Hp) (vs : List V) (ss : List S) : Prop where
  len : vs.length = ss.length
  dat : ∀ (i : Nat) (x : D), ss[i]? = some (S.d x) → ∃ v, vs[i]? = some v ∧ Rep G F v x
  prm : ∀ (i : Nat) (x : D), ss[i]? = some (S.p x) → ∃ a : Addr, vs[i]? = some (V.ref a) ∧ F a = none ∧ OwnAt G F H a x
  obj : ∀ (i : Nat) (x : D), ss[i]? ≠ some (S.o x)
  apart : ∀ (i j : Nat) (x y : D) (a : Addr), i ≠ j → ss[i]? = some (S.p x) → ss[j]? = some (S.p y) → vs[i]? = some (V.ref a) → vs[j]? ≠ some (V.ref a)
structure CallPost (G : GG) (F H : Hp) (ss : List S) (vs : List V) (ρ : List S) (F' H' : Hp) : Prop where
  ff : Same F F'
  fh : Same F' H'
  keep : ∀ a o, H a = some o → (∀ i, PM ss vs i ≠ some a) → H' a = some o
  fresh : ∀ a, F' a ≠ none → F a ≠ none ∨ H a = none
  prm : ∀ (i : Nat) (x : D), ss[i]? = some (S.p x) → ∃ (a : Addr) (y : D), vs[i]? = some (V.ref a) ∧ ρ[i]? = some (S.p y) ∧ F' a = none ∧ OwnAt G F' H' a y
def spM (G : GG) (m : Fn) (n : Nat) : Sp := fun vs H Q E => vs.length = n ∧ ∃ F ss, Same F H ∧ ArgsOk G F H vs ss ∧ match m ss with
  | .rt rv ρ => ∀ F' H' v, CallPost G F H ss vs ρ F' H' → RepO G H F' H' v rv → Q v H'
  | .ex e ρ => ∀ F' H' cls d, CallPost G F H ss vs ρ F' H' → RepX G F' cls d e → E cls d H'
  | .bad => False
/-- the result of a body: an own object goes to the caller -/
def retv (rv : RV) (ρ : List S) : Option RV := match rv with
  | .d x => some (.d x)
  | .f x => some (.f x)
  | .r i => match ρ[i]? with
    | some (.d x) => some (.d x)
    | some (.o x) => some (.f x)
    | _ => none
def fnM (N : Nat) (body : Sm) : Fn := fun ss => match body (ss ++ List.replicate (N - ss.length) .un) with
  | .nx ρ => .rt (.d .non) ρ
  | .rt rv ρ => (match retv rv ρ with
    | some rv' => .rt rv' ρ
    | none => .bad)
  | .ex e ρ => .ex e ρ
  | _ => .bad
section
variable {G : GG} {F H : Hp} {vs : List V} {ss : List S}
theorem start_get {N : List Str} {i : Nat} {v : V} (h : vs[i]? = some v) : (L2.start N vs)[i]? = some (some v) := by
  have hi : i < vs.length := (List.getElem?_eq_some_iff.mp h).1
  unfold L2.start
  rw [List.getElem?_append_left (by simpa using hi), List.getElem?_map, h]
  rfl
theorem ss_get {n : Nat} {i : Nat} {s : S} (h : (ss ++ List.replicate n S.un)[i]? = some s) : ss[i]? = some s ∨ s = .un := by
  by_cases hi : i < ss.length
  · rw [List.getElem?_append_left hi] at h
    exact .inl h
  · rw [List.getElem?_append_right (by omega), List.getElem?_replicate] at h
    split at h
    · exact .inr (Option.some.inj h).symm
    · cases h
theorem good_start {N : List Str} (hN : vs.length ≤ N.length) (s : Same F H) (A : ArgsOk G F H vs ss) : Good G ⟨H, F, PM ss vs, []⟩ F (ss ++ List.replicate (N.length - ss.length) .un) (L2.start N vs) H where
  len := by
    unfold L2.start
    simp only [List.length_append, List.length_map, List.length_replicate]
    have := A.len
    omega
  fh := s
  f0 := .refl _
  keep := fun a o h _ => h
  fresh := fun a h => .inl h
  dat := fun i x h => by
    rcases ss_get h with h | h
    · obtain ⟨v, h1, h2⟩ := A.dat i x h
      exact ⟨v, start_get h1, h2⟩
    · cases h
  obj := fun i x h => by
    rcases ss_get h with h | h
    · exact absurd h (A.obj i x)
    · cases h
  prm := fun i x h => by
    rcases ss_get h with h | h
    · obtain ⟨a, h1, h2, h3⟩ := A.prm i x h
      refine ⟨a, start_get h1, h2, h3, ?_⟩
      show PM ss vs i = some a
      unfold PM
      rw [h, h1]
    · cases h
  par := fun i a h => by
    have h : PM ss vs i = some a := h
    unfold PM at h
    cases q : ss[i]? with
    | none => rw [q] at h; cases h
    | some t =>
      rw [q] at h
      cases t with
      | p x =>
        obtain ⟨b, h1, h2, h3⟩ := A.prm i x q
        rw [h1] at h
        cases h
        refine ⟨⟨x, ?_⟩, h3.there⟩
        rw [List.getElem?_append_left (List.getElem?_eq_some_iff.mp q).1]
        exact q
      | _ => cases h
  apart := fun i j s t a hij h1 h2 h3 h4 h5 h6 => by
    rcases ss_get h1 with h1 | h1
    · rcases ss_get h2 with h2 | h2
      · cases s with
        | p x =>
          cases t with
          | p y =>
            obtain ⟨b, e1, _⟩ := A.prm i x h1
            obtain ⟨c, e2, _⟩ := A.prm j y h2
            rw [start_get e1] at h5
            rw [start_get e2] at h6
            cases h5
            cases h6
            exact A.apart i j x y _ hij h1 h2 e1 e2
          | o y => exact A.obj j y h2
          | d y => exact h4 rfl
          | un => exact h4 rfl
        | o x => exact A.obj i x h1
        | d x => exact h3 rfl
        | un => exact h3 rfl
      · rw [h2] at h4
        exact h4 rfl
    · rw [h1] at h3
      exact h3 rfl
  tmp := fun q hq => absurd hq (by simp)
theorem good_end {F' H' : Hp} {ρ : List S} {σ : L2.St} (A : ArgsOk G F H vs ss) (I : Good G ⟨H, F, PM ss vs, []⟩ F' ρ σ H') : CallPost G F H ss vs ρ F' H' where
  ff := I.f0
  fh := I.fh
  keep := I.keep
  fresh := I.fresh
  prm := fun i x h => by
    obtain ⟨a, h1, h2, h3⟩ := A.prm i x h
    have hP : PM ss vs i = some a := by unfold PM; rw [h, h1]
    obtain ⟨⟨y, hy⟩, _⟩ := I.par i a hP
    obtain ⟨b, e1, e2, e3, e4⟩ := I.prm i y hy
    have e4 : PM ss vs i = some b := e4
    rw [hP] at e4
    cases e4
    exact ⟨a, y, h1, hy, e2, e3⟩
end
/-- THE RULE: a def keeps the promise of its mirror -/
abbrev CD (P : Program) (w : World) (K : PySem.W.Frag) (mg : Str → Option Value) (base : Heap) (N : List Str) (qual : Str) (scope : Scope) (f : Addr) (cdv : Value) (A : Around) (outer : List Env) (s : Shared) (H : Hp) (E : XK) : Cx := cxOf (L2.CX P w) P w K mg base N qual scope f cdv A outer s H E
theorem fnM_ok {P : Program} {w : World} {K : PySem.W.Frag} {mg : Str → Option Value} {base : Heap} {G : GG} {x qual : Str} {params : Arguments} {body : List Stmt} {scope : Scope} {dvs : List V} {kws : List (Str × V)} {f : Addr} {fd : FuncData} {N ps : List Str} {k : Nat} (b : Sm)
    (F : FunD K x qual params body scope dvs kws f fd) (Sc : FnScope N ps scope)
    (hbody : ∀ (cdv : Value) (A : Around) (outer : List Env) (s : Shared) (H : Hp) (E : XK), Room k (CD P w K mg base N qual scope f cdv A outer s H E).A → (CD P w K mg base N qual scope f cdv A outer s H E).A.units + 64 < cLine → PassesOwn (model P w) (CD P w K mg base N qual scope f cdv A outer s H E).A (CD P w K mg base N qual scope f cdv A outer s H E).env (CD P w K mg base N qual scope f cdv A outer s H E).xe →
      ∀ (g : Gh) (W : WX), Takes (CD P w K mg base N qual scope f cdv A outer s H E) W → MSs (CD P w K mg base N qual scope f cdv A outer s H E) G g W body b) :
    FnOk P w K mg base (L2.CX P w) (k + 1) f fd ps (spM G (fnM N.length b) ps.length) := by
  refine F.ok Sc (fun vs H Q E h => h.1) (fun cdv A outer s H vs Q E hr h => ?_)
  obtain ⟨hl, Fz, ss, sF, AO, h⟩ := h
  have hb := hbody cdv A outer s H E hr (by have := hr.un; show (A.deeper _).units + 64 < cLine; omega) (passes_of rfl) ⟨H, Fz, PM ss vs, []⟩ (fun cls d _ H => E cls d H) (takes_of rfl rfl rfl rfl)
  refine ⟨_, hb, Fz, ss ++ List.replicate (N.length - ss.length) .un, good_start ?_ sF AO, ?_⟩
  · rw [hl]
    have e := congrArg List.length Sc.pre
    rw [List.length_take] at e
    omega
  · unfold fnM at h
    cases q : b (ss ++ List.replicate (N.length - ss.length) .un) with
    | bad => rw [q] at h; exact h
    | bk ρ => rw [q] at h; exact h.elim
    | ct ρ => rw [q] at h; exact h.elim
    | nx ρ =>
      rw [q] at h
      exact fun F1 H1 σ1 s1 I1 => h F1 H1 .non (good_end AO I1) .non
    | ex e ρ =>
      rw [q] at h
      exact fun F1 H1 σ1 cls d s1 I1 rx => h F1 H1 cls d (good_end AO I1) rx
    | rt rv ρ =>
      rw [q] at h
      dsimp only at h
      intro F1 H1 σ1 v s1 I1 r
      cases rv with
      | d x => exact h F1 H1 v (good_end AO I1) r
      | f x =>
        obtain ⟨a, rfl, n, h0, ow, _⟩ := r
        exact h F1 H1 _ (good_end AO I1) ⟨a, rfl, h0, n, ow⟩
      | r i =>
        have r : σ1[i]? = some (some v) := r
        unfold retv at h
        dsimp only at h
        cases q2 : ρ[i]? with
        | none => rw [q2] at h; exact h.elim
        | some t =>
          rw [q2] at h
          cases t with
          | un => exact h.elim
          | p y => exact h.elim
          | d y =>
            obtain ⟨u, h1, h2⟩ := I1.dat i y q2
            rw [r] at h1
            cases h1
            exact h F1 H1 _ (good_end AO I1) h2
          | o y =>
            obtain ⟨a, h1, h2, h3, h4⟩ := I1.obj i y q2
            rw [r] at h1
            cases h1
            exact h F1 H1 _ (good_end AO I1) ⟨a, rfl, h4, h2, h3⟩

/-! ### a call -/
/-- a def that may be called by its name -/
structure Cal (P : Program) (w : World) (K : PySem.W.Frag) (mg : Str → Option Value) (base : Heap) (G : GG) (k : Nat) (x : Str) (n : Nat) (m : Fn) : Prop where
  ex : ∃ (f : Addr) (fd : FuncData) (ps : List Str), FnOk P w K mg base (L2.CX P w) k f fd ps (spM G m ps.length) ∧ mg x = some (.ref f) ∧ PySem.W.keepIn K (.ref f) = true ∧ Binds K fd ps [] ∧ n = ps.length
/-- what a waiting value is to a callee -/
def argS (ρ : List S) : HV → S
  | .d x => .d x
  | .r i => match ρ[i]? with
    | some (.d x) => .d x
    | some (.o x) => .p x
    | some (.p x) => .p x
    | _ => .un
def ownIx (ρ : List S) : HV → Option Nat
  | .d _ => none
  | .r i => match ρ[i]? with
    | some (.o _) => some i
    | some (.p _) => some i
    | _ => none
def argOk (ρ : List S) : HV → Bool
  | .d _ => true
  | .r i => match ρ[i]? with
    | some (.d _) => true
    | some (.o _) => true
    | some (.p _) => true
    | _ => false
def argsOk (ρ : List S) (hs : List HV) : Bool := hs.all (argOk ρ) && decide (hs.filterMap (ownIx ρ)).Nodup
/-- what the callee left of the slot's object -/
def newOf : List HV → List S → Nat → Option D
  | h :: hs, s :: ss, j => match h, s with
    | .r i, .p y => if i = j then some y else newOf hs ss j
    | _, _ => newOf hs ss j
  | _, _, _ => none
def backS (nw : Nat → Option D) : Nat → List S → List S
  | _, [] => []
  | j, s :: ss => (match s with
    | .o x => .o ((nw j).getD x)
    | .p x => .p ((nw j).getD x)
    | s => s) :: backS nw (j + 1) ss
def mCall (n : Nat) (m : Fn) (r : List S → R (List HV)) : Ex := fun ρ => (r ρ).bind fun hs ρ1 => if (decide (hs.length = n) && argsOk ρ1 hs) = true then (match m (hs.map (argS ρ1)) with
  | .rt rv ρf => .ok rv (backS (newOf hs ρf) 0 ρ1)
  | .ex e ρf => .ex e (backS (newOf hs ρf) 0 ρ1)
  | .bad => .bad) else .bad
theorem backS_get {nw : Nat → Option D} : ∀ {ρ : List S} {k j : Nat}, (backS nw k ρ)[j]? = (ρ[j]?).map fun s => match s with
    | .o x => .o ((nw (k + j)).getD x)
    | .p x => .p ((nw (k + j)).getD x)
    | s => s
  | [], _, _ => by simp [backS]
  | s :: ss, k, 0 => by simp [backS]
  | s :: ss, k, j + 1 => by
    unfold backS
    rw [List.getElem?_cons_succ, List.getElem?_cons_succ, backS_get (ρ := ss)]
    have e : k + 1 + j = k + (j + 1) := by omega
    rw [e]
theorem backS_length {nw : Nat → Option D} : ∀ {ρ : List S} {k : Nat}, (backS nw k ρ).length = ρ.length
  | [], _ => rfl
  | s :: ss, k => by
    unfold backS
    rw [List.length_cons, List.length_cons, backS_length]
theorem newOf_some : ∀ {hs : List HV} {ρf : List S} {j : Nat} {y : D}, newOf hs ρf j = some y → ∃ k : Nat, hs[k]? = some (HV.r j) ∧ ρf[k]? = some (S.p y)
  | [], _, _, _, h => by cases h
  | h :: hs, [], _, _, e => by cases e
  | h :: hs, s :: ss, j, y, e => by
    have step : newOf hs ss j = some y → ∃ k : Nat, (h :: hs)[k]? = some (HV.r j) ∧ (s :: ss)[k]? = some (S.p y) := fun e => by
      obtain ⟨k, h1, h2⟩ := newOf_some e
      exact ⟨k + 1, h1, h2⟩
    unfold newOf at e
    cases h with
    | d x => exact step e
    | r i =>
      cases s with
      | p z =>
        dsimp only at e
        split at e
        · rename_i hij
          subst hij
          cases e
          exact ⟨0, rfl, rfl⟩
        · exact step e
      | un => exact step e
      | d z => exact step e
      | o z => exact step e
theorem newOf_at : ∀ {hs : List HV} {ρf : List S} {k j : Nat} {y : D}, hs[k]? = some (.r j) → ρf[k]? = some (.p y) → ∃ z, newOf hs ρf j = some z
  | [], _, _, _, _, h, _ => by simp at h
  | h :: hs, [], _, _, _, _, e => by simp at e
  | h :: hs, s :: ss, k, j, y, e1, e2 => by
    unfold newOf
    cases k with
    | zero =>
      simp at e1 e2
      subst e1; subst e2
      exact ⟨y, if_pos rfl⟩
    | succ k =>
      obtain ⟨z, ih⟩ := newOf_at (hs := hs) (ρf := ss) (by simpa using e1) (by simpa using e2)
      cases h with
      | d x => exact ⟨z, ih⟩
      | r i =>
        cases s with
        | p t =>
          dsimp only
          split
          · exact ⟨t, rfl⟩
          · exact ⟨z, ih⟩
        | un => exact ⟨z, ih⟩
        | d t => exact ⟨z, ih⟩
        | o t => exact ⟨z, ih⟩
section
variable {G : GG} {g : Gh} {F H : Hp} {ρ : List S} {σ : L2.St}
theorem RepHs.len : ∀ {vs : List V} {hs : List HV}, RepHs G F σ vs hs → vs.length = hs.length
  | _, _, .nil => rfl
  | _, _, .cons _ r => congrArg Nat.succ r.len
theorem RepHs.get : ∀ {vs : List V} {hs : List HV} {i : Nat} {h : HV}, RepHs G F σ vs hs → hs[i]? = some h → ∃ v, vs[i]? = some v ∧ RepH G F σ v h
  | _, _, _, _, .nil, e => by simp at e
  | _, _, 0, _, .cons (v := v) a _, e => by
    simp at e; subst e
    exact ⟨v, rfl, a⟩
  | _, _, i + 1, _, .cons _ r, e => by
    obtain ⟨v, h1, h2⟩ := r.get (i := i) (by simpa using e)
    exact ⟨v, by simpa using h1, h2⟩
theorem nodup_fm {α β : Type} {f : α → Option β} : ∀ {l : List α} {i j : Nat} {x y : α} {b : β}, (l.filterMap f).Nodup → l[i]? = some x → l[j]? = some y → f x = some b → f y = some b → i = j
  | [], _, _, _, _, _, _, h, _, _, _ => by simp at h
  | a :: l, i, j, x, y, b, nd, h1, h2, h3, h4 => by
    rw [List.filterMap_cons] at nd
    cases i with
    | zero =>
      simp at h1; subst h1
      cases j with
      | zero => rfl
      | succ j =>
        rw [h3] at nd
        have := (List.nodup_cons.mp nd).1
        exact absurd (List.mem_filterMap.mpr ⟨y, List.mem_of_getElem? (by simpa using h2), h4⟩) this
    | succ i =>
      cases j with
      | zero =>
        simp at h2; subst h2
        rw [h4] at nd
        have := (List.nodup_cons.mp nd).1
        exact absurd (List.mem_filterMap.mpr ⟨x, List.mem_of_getElem? (by simpa using h1), h3⟩) this
      | succ j =>
        have nd' : (l.filterMap f).Nodup := by
          cases q : f a with
          | none => rw [q] at nd; exact nd
          | some c => rw [q] at nd; exact (List.nodup_cons.mp nd).2
        have h1' : l[i]? = some x := by simpa using h1
        have h2' : l[j]? = some y := by simpa using h2
        exact congrArg Nat.succ (nodup_fm nd' h1' h2' h3 h4)
theorem argS_p {h : HV} {x : D} (e : argS ρ h = .p x) : ∃ i s, h = .r i ∧ ρ[i]? = some s ∧ s.own = some x ∧ ownIx ρ h = some i := by
  cases h with
  | d y => cases e
  | r i =>
    unfold argS at e
    dsimp only at e
    cases q : ρ[i]? with
    | none => rw [q] at e; cases e
    | some s =>
      rw [q] at e
      cases s with
      | un => cases e
      | d y => cases e
      | o y =>
        cases e
        exact ⟨i, _, rfl, q, rfl, by unfold ownIx; dsimp only; rw [q]⟩
      | p y =>
        cases e
        exact ⟨i, _, rfl, q, rfl, by unfold ownIx; dsimp only; rw [q]⟩
theorem args_ok (I : Good G g F ρ σ H) {vs : List V} {hs : List HV} (r : RepHs G F σ vs hs) (ok : argsOk ρ hs = true) : ArgsOk G F H vs (hs.map (argS ρ)) := by
  obtain ⟨ok1, ok2⟩ := Bool.and_eq_true_iff.mp ok
  have nd : (hs.filterMap (ownIx ρ)).Nodup := of_decide_eq_true ok2
  have at_ : ∀ (i : Nat) (s : S), (hs.map (argS ρ))[i]? = some s → ∃ h v, hs[i]? = some h ∧ argS ρ h = s ∧ vs[i]? = some v ∧ RepH G F σ v h := fun i s e => by
    rw [List.getElem?_map] at e
    cases q : hs[i]? with
    | none => rw [q] at e; cases e
    | some h =>
      rw [q] at e
      obtain ⟨v, h1, h2⟩ := r.get q
      exact ⟨h, v, rfl, Option.some.inj e, h1, h2⟩
  refine ⟨by rw [List.length_map]; exact r.len, fun i x e => ?_, fun i x e => ?_, fun i x e => ?_, fun i j x y a hij e1 e2 e3 e4 => ?_⟩
  · obtain ⟨h, v, q1, q2, q3, q4⟩ := at_ i _ e
    refine ⟨v, q3, ?_⟩
    cases h with
    | d y =>
      cases q2
      exact q4
    | r k =>
      have q4 : σ[k]? = some (some v) := q4
      unfold argS at q2
      dsimp only at q2
      cases z : ρ[k]? with
      | none => rw [z] at q2; cases q2
      | some s =>
        rw [z] at q2
        cases s with
        | un => cases q2
        | o y => cases q2
        | p y => cases q2
        | d y =>
          cases q2
          obtain ⟨u, z1, z2⟩ := I.dat k _ z
          rw [q4] at z1
          cases z1
          exact z2
  · obtain ⟨h, v, q1, q2, q3, q4⟩ := at_ i _ e
    obtain ⟨k, s, rfl, z1, z2, _⟩ := argS_p q2
    obtain ⟨a, w1, w2, w3⟩ := I.own z1 z2
    have q4 : σ[k]? = some (some v) := q4
    rw [w1] at q4
    cases q4
    exact ⟨a, q3, w2, w3⟩
  · obtain ⟨h, v, q1, q2, q3, q4⟩ := at_ i _ e
    cases h with
    | d y => cases q2
    | r k =>
      unfold argS at q2
      dsimp only at q2
      split at q2 <;> cases q2
  · obtain ⟨h, v, q1, q2, q3, q4⟩ := at_ i _ e1
    obtain ⟨h', v', q1', q2', q3', q4'⟩ := at_ j _ e2
    obtain ⟨k, s, rfl, z1, z2, z3⟩ := argS_p q2
    obtain ⟨k', s', rfl, z1', z2', z3'⟩ := argS_p q2'
    have kne : k ≠ k' := fun z => by
      subst z
      exact hij (nodup_fm nd q1 q1' z3 z3')
    rw [e3] at q3
    cases q3
    rw [e4] at q3'
    cases q3'
    exact I.apart k k' s s' a kne z1 z1' (by rw [z2]; simp) (by rw [z2']; simp) q4 q4'
/-- behind a call -/
theorem Good.call (I : Good G g F ρ σ H) {vs : List V} {hs : List HV} (r : RepHs G F σ vs hs) (ok : argsOk ρ hs = true) {ρf : List S} {F' H' : Hp} (cp : CallPost G F H (hs.map (argS ρ)) vs ρf F' H') :
    Good G g F' (backS (newOf hs ρf) 0 ρ) σ H' := by
  have AO := args_ok I r ok
  obtain ⟨ok1, ok2⟩ := Bool.and_eq_true_iff.mp ok
  have nd : (hs.filterMap (ownIx ρ)).Nodup := of_decide_eq_true ok2
  -- the objects that went
  have gone : ∀ a i, PM (hs.map (argS ρ)) vs i = some a → ∃ (k : Nat) (s : S), hs[i]? = some (.r k) ∧ ρ[k]? = some s ∧ s.own ≠ none ∧ σ[k]? = some (some (V.ref a)) := fun a i e => by
    unfold PM at e
    rw [List.getElem?_map] at e
    cases q : hs[i]? with
    | none => rw [q] at e; cases e
    | some h =>
      rw [q] at e
      dsimp only [Option.map] at e
      cases q2 : argS ρ h with
      | p x =>
        rw [q2] at e
        obtain ⟨v, h1, h2⟩ := r.get q
        rw [h1] at e
        obtain ⟨k, s, rfl, z1, z2, _⟩ := argS_p q2
        have h2 : σ[k]? = some (some v) := h2
        obtain ⟨b, w1, _⟩ := I.own z1 z2
        rw [w1] at h2
        cases h2
        cases e
        exact ⟨k, s, rfl, z1, by rw [z2]; simp, w1⟩
      | un => rw [q2] at e; cases e
      | d x => rw [q2] at e; cases e
      | o x => rw [q2] at e; cases e
  -- a slot's object behind the call
  have ownAt : ∀ (i : Nat) (s : S) (x : D), ρ[i]? = some s → s.own = some x → ∃ a, σ[i]? = some (some (V.ref a)) ∧ F' a = none ∧ OwnAt G F' H' a ((newOf hs ρf i).getD x) := fun i s x hi hx => by
    obtain ⟨a, w1, w2, w3⟩ := I.own hi hx
    obtain ⟨o, ho⟩ := w3.there
    cases q : newOf hs ρf i with
    | some y =>
      obtain ⟨k, q1, q2⟩ := newOf_some q
      have hS : (hs.map (argS ρ))[k]? = some (.p x) := by
        rw [List.getElem?_map, q1]
        show some (argS ρ (.r i)) = _
        unfold argS
        dsimp only
        rw [hi]
        cases s <;> first | (cases hx; rfl) | cases hx
      obtain ⟨b, y', e1, e2, e3, e4⟩ := cp.prm k x hS
      obtain ⟨v, h1, h2⟩ := r.get q1
      have h2 : σ[i]? = some (some v) := h2
      rw [w1] at h2
      cases h2
      rw [h1] at e1
      cases e1
      rw [q2] at e2
      cases e2
      exact ⟨a, w1, e3, e4⟩
    | none =>
      refine ⟨a, w1, ?_, ?_⟩
      · cases e : F' a with
        | none => rfl
        | some u =>
          rcases cp.fresh a (by rw [e]; simp) with z | z
          · exact absurd w2 z
          · rw [ho] at z; cases z
      · have hk : H' a = some o := cp.keep a o ho fun k e => by
          obtain ⟨j, t, z1, z2, z3, z4⟩ := gone a k e
          by_cases hij : j = i
          · subst hij
            have hS : (hs.map (argS ρ))[k]? = some (.p x) := by
              rw [List.getElem?_map, z1]
              show some (argS ρ (.r j)) = _
              unfold argS
              dsimp only
              rw [hi]
              cases s <;> first | (cases hx; rfl) | cases hx
            obtain ⟨b, y', _, e2, _⟩ := cp.prm k x hS
            obtain ⟨z, hz⟩ := newOf_at z1 e2
            rw [q] at hz
            cases hz
          · exact I.apart j i t s a hij z2 hi z3 (by rw [hx]; simp) z4 w1
        exact w3.mono cp.ff (hk.trans ho.symm)
  have shape : ∀ (i : Nat) (s' : S), (backS (newOf hs ρf) 0 ρ)[i]? = some s' → ∃ s, ρ[i]? = some s ∧ s' = (match s with
    | .o x => .o ((newOf hs ρf i).getD x)
    | .p x => .p ((newOf hs ρf i).getD x)
    | s => s) := fun i s' e => by
    rw [backS_get, Nat.zero_add] at e
    cases q : ρ[i]? with
    | none => rw [q] at e; cases e
    | some s =>
      rw [q] at e
      exact ⟨s, rfl, (Option.some.inj e).symm⟩
  have ownS : ∀ (i : Nat) (s' : S), (backS (newOf hs ρf) 0 ρ)[i]? = some s' → s'.own ≠ none → ∃ s, ρ[i]? = some s ∧ s.own ≠ none := fun i s' e h => by
    obtain ⟨s, q, rfl⟩ := shape i s' e
    refine ⟨s, q, ?_⟩
    cases s with
    | o x => simp [S.own]
    | p x => simp [S.own]
    | un => exact absurd rfl h
    | d x => exact absurd rfl h
  exact { len := by rw [backS_length]; exact I.len
          fh := cp.fh
          f0 := I.f0.trans cp.ff
          keep := fun a o h n => cp.keep a o (I.keep a o h n) fun i e => by
            obtain ⟨k, s, z1, z2, z3, z4⟩ := gone a i e
            cases s with
            | o x =>
              obtain ⟨b, w1, _, _, w4⟩ := I.obj k x z2
              rw [z4] at w1
              cases w1
              rw [h] at w4
              cases w4
            | p x =>
              obtain ⟨b, w1, _, _, w4⟩ := I.prm k x z2
              rw [z4] at w1
              cases w1
              exact n k w4
            | un => exact z3 rfl
            | d x => exact z3 rfl
          fresh := fun a h => by
            rcases cp.fresh a h with z | z
            · exact I.fresh a z
            · cases q : g.H a with
              | none => exact .inr rfl
              | some o =>
                by_cases n : ∀ i, g.P i ≠ some a
                · have e := I.keep a o q n
                  rw [z] at e; cases e
                · obtain ⟨i, hi⟩ := Classical.not_forall.mp n
                  have hi : g.P i = some a := Classical.not_not.mp hi
                  obtain ⟨⟨x, hx⟩, _⟩ := I.par i a hi
                  obtain ⟨b, _, _, ow, hb⟩ := I.prm i x hx
                  rw [hi] at hb; cases hb
                  obtain ⟨o', ho⟩ := ow.there
                  rw [z] at ho; cases ho
          dat := fun i x e => by
            obtain ⟨s, q, es⟩ := shape i _ e
            cases s with
            | d y =>
              cases es
              obtain ⟨v, h1, h2⟩ := I.dat i _ q
              exact ⟨v, h1, h2.mono cp.ff⟩
            | un => cases es
            | o y => cases es
            | p y => cases es
          obj := fun i x e => by
            obtain ⟨s, q, es⟩ := shape i _ e
            cases s with
            | o y =>
              cases es
              obtain ⟨a, h1, h2, h3⟩ := ownAt i _ y q rfl
              obtain ⟨b, w1, _, _, w4⟩ := I.obj i y q
              rw [h1] at w1
              cases w1
              exact ⟨a, h1, h2, h3, w4⟩
            | un => cases es
            | d y => cases es
            | p y => cases es
          prm := fun i x e => by
            obtain ⟨s, q, es⟩ := shape i _ e
            cases s with
            | p y =>
              cases es
              obtain ⟨a, h1, h2, h3⟩ := ownAt i _ y q rfl
              obtain ⟨b, w1, _, _, w4⟩ := I.prm i y q
              rw [h1] at w1
              cases w1
              exact ⟨a, h1, h2, h3, w4⟩
            | un => cases es
            | d y => cases es
            | o y => cases es
          par := fun i a h => by
            obtain ⟨⟨x, hx⟩, ho⟩ := I.par i a h
            refine ⟨⟨(newOf hs ρf i).getD x, ?_⟩, ho⟩
            rw [backS_get, Nat.zero_add, hx]
            rfl
          apart := fun i j s t a hij h1 h2 h3 h4 => by
            obtain ⟨s0, q1, n1⟩ := ownS i s h1 h3
            obtain ⟨t0, q2, n2⟩ := ownS j t h2 h4
            exact I.apart i j s0 t0 a hij q1 q2 n1 n2
          tmp := fun q hq => by
            obtain ⟨h2, h3, h4, h5⟩ := I.tmp q hq
            obtain ⟨o, ho⟩ := h3.there
            refine ⟨?_, ?_, h4, fun i s hi hs => ?_⟩
            · cases e : F' q.1 with
              | none => rfl
              | some u =>
                rcases cp.fresh q.1 (by rw [e]; simp) with z | z
                · exact absurd h2 z
                · rw [ho] at z; cases z
            · have hk : H' q.1 = some o := cp.keep q.1 o ho fun k e => by
                obtain ⟨j, t, z1, z2, z3, z4⟩ := gone q.1 k e
                exact h5 j t z2 z3 z4
              exact h3.mono cp.ff (hk.trans ho.symm)
            · obtain ⟨s0, q1, n1⟩ := ownS i s hi hs
              exact h5 i s0 q1 n1 }
end
section
variable {X : Cx} {G : GG} {g : Gh} {W : WX} {pos p apos : Pos}
theorem newp {F H : Hp} {ρ : List S} {σ : L2.St} {a : Addr} (I : Good G g F ρ σ H) (n : H a = none) : g.H a = none ∧ (∀ (i : Nat) (s : S), ρ[i]? = some s → s.own ≠ none → σ[i]? ≠ some (some (V.ref a))) ∧ ∀ q ∈ g.T, q.1 ≠ a := by
  refine ⟨?_, fun i s hi hs e => ?_, fun q hq e => ?_⟩
  · cases q : g.H a with
    | none => rfl
    | some o =>
      by_cases z : ∀ i, g.P i ≠ some a
      · have := I.keep a o q z
        rw [n] at this; cases this
      · obtain ⟨i, hi⟩ := Classical.not_forall.mp z
        have hi : g.P i = some a := Classical.not_not.mp hi
        obtain ⟨⟨x, hx⟩, _⟩ := I.par i a hi
        obtain ⟨b, _, _, ow, hb⟩ := I.prm i x hx
        rw [hi] at hb; cases hb
        obtain ⟨o', ho⟩ := ow.there
        rw [n] at ho; cases ho
  · cases q : s.own with
    | none => exact hs q
    | some x =>
      obtain ⟨b, e2, _, ow2⟩ := I.own hi q
      rw [e] at e2; cases e2
      obtain ⟨o', ho⟩ := ow2.there
      rw [n] at ho; cases ho
  · obtain ⟨_, h3, _⟩ := I.tmp q hq
    obtain ⟨o', ho⟩ := h3.there
    rw [e, n] at ho; cases ho
theorem call_go {m : Fn} {r : List S → R (List HV)} {n : Nat} {σ : L2.St} {H : Hp} {Q : VK} (h : tM G g W (mCall n m r) σ H Q) : tMA G g W r σ H fun vs H1 => spM G m n (vs ++ []) H1 Q (WE W σ) := by
  obtain ⟨F, ρ, I, k⟩ := h
  refine ⟨F, ρ, I, k.bind.imp fun F1 H1 ρ1 hs s1 I1 k1 vs rv => ?_⟩
  show spM G m n (vs ++ []) H1 Q (WE W σ)
  rw [List.append_nil]
  split at k1
  · rename_i ok0
    obtain ⟨okn, ok⟩ := Bool.and_eq_true_iff.mp ok0
    have AO := args_ok I1 rv ok
    refine ⟨rv.len.trans (of_decide_eq_true okn), F1, hs.map (argS ρ1), I1.fh, AO, ?_⟩
    cases q : m (hs.map (argS ρ1)) with
    | bad => rw [q] at k1; exact k1.elim
    | rt rv' ρf =>
      rw [q] at k1
      intro F2 H2 v cp ro
      have I2 := I1.call rv ok cp
      refine k1 F2 H2 cp.ff I2 v ?_
      cases rv' with
      | d x => exact ro
      | r i => exact ro.elim
      | f x =>
        obtain ⟨a, rfl, n1, n2, ow⟩ := ro
        obtain ⟨h1, h2, h3⟩ := newp I1 n1
        refine ⟨a, rfl, n2, h1, ow, fun i s hi hs => ?_, h3⟩
        rw [backS_get, Nat.zero_add] at hi
        cases q3 : ρ1[i]? with
        | none => rw [q3] at hi; cases hi
        | some t =>
          refine h2 i t q3 ?_
          rw [q3] at hi
          have hi := Option.some.inj hi
          cases t with
          | o x => simp [S.own]
          | p x => simp [S.own]
          | un =>
            subst hi
            exact absurd rfl hs
          | d x =>
            subst hi
            exact absurd rfl hs
    | ex e ρf =>
      rw [q] at k1
      exact fun F2 H2 cls d cp rx => k1 F2 H2 cls d cp.ff (I1.call rv ok cp) rx
  · exact k1.elim
theorem me_call {x : Str} {e : Expr} {es : List Expr} {m : Fn} {r : List S → R (List HV)} {k j n : Nat} (c : Cal X.prog X.w X.K X.mg X.base G k x n m) (hr : Room j X.A) (hk : k ≤ j) (hg : Gl X x) (tk : Takes X W) (ha : MA X G g W (e :: es) r)
    (hdb : (x == ("__debug__" : Str)) = false := by decide) (he : starEach (e :: es) X.env = (false, eval e X.env) :: starEach es X.env := by rfl) (hpl : (backTo pos (starEach es X.env)).any (·.1) = false := by rfl) :
    ME X G g W (.Call (.Name x p) (e :: es) [] pos) (mCall n m r) := by
  obtain ⟨f, fd, ps, F, hm, hkp, hb, hn⟩ := c.ex
  subst hn
  exact pe_imp (pe_callSD (E := fun σ => WE W σ) F (hr.mono hk) hg hm hkp hb .nil (fun σ => passAt tk σ) ha hdb he hpl) fun _ _ _ => call_go
end
end MM
set_option Elab.async false
set_option maxRecDepth 100000
set_option maxHeartbeats 2000000
namespace MM
open PySem PySem.Spec PyProof.Rows L2
def S.chg : S → D → S
  | .o _, x => .o x
  | .p _, x => .p x
  | s, _ => s
theorem S.chg_own {s : S} {x y : D} (h : s.own = some x) : (s.chg y).own = some y := by
  cases s <;> first | rfl | cases h
theorem upd_get {H : Hp} {a b : Addr} {o : HO} : upd H a o b = if b = a then some o else H b := rfl
section
variable {G : GG} {g : Gh} {F F' H H' : Hp} {ρ : List S} {σ : L2.St}
theorem OwnAt.other {a b : Addr} {x : D} {o : HO} (h : OwnAt G F H b x) (ne : b ≠ a) : OwnAt G F (upd H a o) b x := h.mono (.refl _) (upd_ne ne)
/-- a slot's object changes -/
theorem Good.change (I : Good G g F ρ σ H) {i : Nat} {s : S} {x x' : D} {a : Addr} {o : HO} (h : ρ[i]? = some s) (e : s.own = some x) (ha : σ[i]? = some (some (V.ref a))) (ow : OwnAt G F (upd H a o) a x') : Good G g F (ρ.set i (s.chg x')) σ (upd H a o) := by
  obtain ⟨a', e1, nF, ow0⟩ := I.own h e
  rw [ha] at e1
  cases e1
  have hi : i < ρ.length := (List.getElem?_eq_some_iff.mp h).1
  have hs : s.own ≠ none := by rw [e]; simp
  have at_ : ∀ (j : Nat) (t : S), (ρ.set i (s.chg x'))[j]? = some t → (j = i ∧ t = s.chg x') ∨ (j ≠ i ∧ ρ[j]? = some t) := fun j t hj => by
    by_cases z : j = i
    · subst z
      rw [List.getElem?_set_self hi] at hj
      exact .inl ⟨rfl, (Option.some.inj hj).symm⟩
    · rw [List.getElem?_set_ne (Ne.symm z)] at hj
      exact .inr ⟨z, hj⟩
  have ne : ∀ (j : Nat) (t : S) (b : Addr), j ≠ i → ρ[j]? = some t → t.own ≠ none → σ[j]? = some (some (V.ref b)) → b ≠ a := fun j t b hj h1 h2 h3 z => by
    subst z
    exact I.apart i j s t b (Ne.symm hj) h h1 hs h2 ha h3
  exact { len := by rw [List.length_set]; exact I.len
          fh := fun b u hb => by
            rw [upd_ne fun z => by rw [z, nF] at hb; cases hb]
            exact I.fh _ _ hb
          f0 := I.f0
          keep := fun b u hb n => by
            rw [upd_ne fun z => ?_]
            · exact I.keep b u hb n
            · subst z
              cases s with
              | o y =>
                obtain ⟨c, w1, _, _, w4⟩ := I.obj i y h
                rw [ha] at w1
                cases w1
                rw [hb] at w4
                cases w4
              | p y =>
                obtain ⟨c, w1, _, _, w4⟩ := I.prm i y h
                rw [ha] at w1
                cases w1
                exact n i w4
              | un => cases e
              | d y => cases e
          fresh := I.fresh
          dat := fun j y hj => by
            rcases at_ j _ hj with ⟨_, z⟩ | ⟨_, hj'⟩
            · cases s <;> cases z <;> cases e
            · exact I.dat j y hj'
          obj := fun j y hj => by
            rcases at_ j _ hj with ⟨z1, z⟩ | ⟨nj, hj'⟩
            · subst z1
              cases s with
              | o y0 =>
                cases z
                obtain ⟨c, w1, _, _, w4⟩ := I.obj j y0 h
                rw [ha] at w1
                cases w1
                exact ⟨a, ha, nF, ow, w4⟩
              | p y0 => cases z
              | un => cases e
              | d y0 => cases e
            · obtain ⟨b, w1, w2, w3, w4⟩ := I.obj j y hj'
              exact ⟨b, w1, w2, w3.other (ne j _ b nj hj' (by simp [S.own]) w1), w4⟩
          prm := fun j y hj => by
            rcases at_ j _ hj with ⟨z1, z⟩ | ⟨nj, hj'⟩
            · subst z1
              cases s with
              | p y0 =>
                cases z
                obtain ⟨c, w1, _, _, w4⟩ := I.prm j y0 h
                rw [ha] at w1
                cases w1
                exact ⟨a, ha, nF, ow, w4⟩
              | o y0 => cases z
              | un => cases e
              | d y0 => cases e
            · obtain ⟨b, w1, w2, w3, w4⟩ := I.prm j y hj'
              exact ⟨b, w1, w2, w3.other (ne j _ b nj hj' (by simp [S.own]) w1), w4⟩
          par := fun j b hj => by
            obtain ⟨⟨y, hy⟩, ho⟩ := I.par j b hj
            by_cases z : j = i
            · subst z
              rw [h] at hy
              cases hy
              exact ⟨⟨x', List.getElem?_set_self hi⟩, ho⟩
            · exact ⟨⟨y, by rw [List.getElem?_set_ne (Ne.symm z)]; exact hy⟩, ho⟩
          apart := fun j k t u b hjk h1 h2 h3 h4 => by
            have old : ∀ (j : Nat) (t : S), (ρ.set i (s.chg x'))[j]? = some t → t.own ≠ none → ∃ t0, ρ[j]? = some t0 ∧ t0.own ≠ none := fun j t hj ht => by
              rcases at_ j t hj with ⟨z1, _⟩ | ⟨_, hj'⟩
              · subst z1
                exact ⟨s, h, hs⟩
              · exact ⟨t, hj', ht⟩
            obtain ⟨t0, q1, n1⟩ := old j t h1 h3
            obtain ⟨u0, q2, n2⟩ := old k u h2 h4
            exact I.apart j k t0 u0 b hjk q1 q2 n1 n2
          tmp := fun q hq => by
            obtain ⟨h2, h3, h4, h5⟩ := I.tmp q hq
            refine ⟨h2, h3.other fun z => h5 i s h hs (by rw [z]; exact ha), h4, fun j t hj ht => ?_⟩
            rcases at_ j t hj with ⟨z1, _⟩ | ⟨_, hj'⟩
            · subst z1
              exact h5 j s h hs
            · exact h5 j t hj' ht }
/-! what waits -/
def Gh.addT (g : Gh) (q : Addr × D) : Gh := { g with T := q :: g.T }
theorem Good.addT (I : Good G g F ρ σ H) {a : Addr} {x : D} (n : F a = none) (h0 : g.H a = none) (ow : OwnAt G F H a x) (ap : ∀ (i : Nat) (s : S), ρ[i]? = some s → s.own ≠ none → σ[i]? ≠ some (some (V.ref a))) : Good G (g.addT (a, x)) F ρ σ H :=
  ⟨I.len, I.fh, I.f0, I.keep, I.fresh, I.dat, I.obj, I.prm, I.par, I.apart, fun q hq => by
    rcases List.mem_cons.mp hq with e | hq
    · subst e
      exact ⟨n, ow, h0, ap⟩
    · exact I.tmp q hq⟩
theorem Good.dropT {q : Addr × D} (I : Good G (g.addT q) F ρ σ H) : Good G g F ρ σ H :=
  ⟨I.len, I.fh, I.f0, I.keep, I.fresh, I.dat, I.obj, I.prm, I.par, I.apart, fun t ht => I.tmp t (List.mem_cons_of_mem _ ht)⟩
theorem Good.headT {a : Addr} {x : D} (I : Good G (g.addT (a, x)) F ρ σ H) : F a = none ∧ OwnAt G F H a x ∧ g.H a = none ∧ ∀ (i : Nat) (s : S), ρ[i]? = some s → s.own ≠ none → σ[i]? ≠ some (some (V.ref a)) := I.tmp (a, x) List.mem_cons_self
theorem Good.changeT {a : Addr} {x x' : D} {o : HO} (I : Good G (g.addT (a, x)) F ρ σ H) (nT : ∀ q ∈ g.T, q.1 ≠ a) (ow : OwnAt G F (upd H a o) a x') : Good G (g.addT (a, x')) F ρ σ (upd H a o) := by
  obtain ⟨nF, _, h0, ap⟩ := I.headT
  refine ⟨I.len, fun b u hb => ?_, I.f0, fun b u hb n => ?_, I.fresh, I.dat, fun j y hj => ?_, fun j y hj => ?_, I.par, I.apart, fun t ht => ?_⟩
  · rw [upd_ne fun z => by rw [z, nF] at hb; cases hb]
    exact I.fh _ _ hb
  · rw [upd_ne fun z => ?_]
    · exact I.keep b u hb n
    · have hb : g.H b = some u := hb
      rw [z, h0] at hb
      cases hb
  · obtain ⟨b, w1, w2, w3, w4⟩ := I.obj j y hj
    exact ⟨b, w1, w2, w3.other fun z => ap j _ hj (by simp [S.own]) (by rw [← z]; exact w1), w4⟩
  · obtain ⟨b, w1, w2, w3, w4⟩ := I.prm j y hj
    exact ⟨b, w1, w2, w3.other fun z => ap j _ hj (by simp [S.own]) (by rw [← z]; exact w1), w4⟩
  · rcases List.mem_cons.mp ht with e | ht
    · subst e
      exact ⟨nF, ow, h0, ap⟩
    · obtain ⟨h2, h3, h4, h5⟩ := I.tmp t (List.mem_cons_of_mem _ ht)
      exact ⟨h2, h3.other (nT t ht), h4, h5⟩
end
section
variable {X : Cx} {G : GG} {g : Gh} {W : WX} {pos p apos : Pos}
/-! ### methods that change a slot's object -/
def rOM (G : GG) (f : D → List D → Option (D × RV)) : V → List V → Hp → VK → Prop := fun v vs H Q => ∃ F a x xs x' rv, v = V.ref a ∧ Same F H ∧ F a = none ∧ OwnAt G F H a x ∧ RepA G F vs xs ∧ f x xs = some (x', rv) ∧
  ∀ o F' H' w, OwnAt G F (upd H a o) a x' → Step F (upd H a o) F' H' → RepO G (upd H a o) F' H' w rv → Q w H'
def mOM (T : String) (i : Nat) (f : D → List D → Option (D × RV)) (r : List S → R (List HV)) : Ex := fun ρ => match ρ[i]? with
  | some s0 => (match s0.own with
    | some x0 => if isTy T x0 = true then (r ρ).bind fun hs ρ1 => (forceHs hs ρ1).bind fun xs ρ2 => (match ρ2[i]? with
      | some s => (match s.own with
        | some x => (match f x xs with
          | some (x', rv) => .ok rv (ρ2.set i (s.chg x'))
          | none => .bad)
        | none => .bad)
      | none => .bad) else .bad
    | none => .bad)
  | none => .bad
theorem tM_om {T : String} {i : Nat} {f : D → List D → Option (D × RV)} {r : List S → R (List HV)} (ht : T ≠ "tuple") {σ : L2.St} {H : Hp} {Q : VK} (h : tM G g W (mOM T i f r) σ H Q) :
    ∃ v, σ[i]? = some (some v) ∧ tyV G.K T v H ∧ tMA G g W r σ H fun vs H2 => rOM G f v vs H2 Q := by
  obtain ⟨F, ρ, I, k⟩ := h
  unfold mOM at k
  cases q0 : ρ[i]? with
  | none => rw [q0] at k; exact k.elim
  | some s0 =>
    rw [q0] at k
    dsimp only at k
    cases q1 : s0.own with
    | none => rw [q1] at k; exact k.elim
    | some x0 =>
      rw [q1] at k
      dsimp only at k
      split at k
      · rename_i hT
        obtain ⟨a, e1, e2, e3⟩ := I.own q0 q1
        refine ⟨_, e1, isTy_ok I.fh (.inr ⟨a, rfl, e3⟩) hT ht, F, ρ, I, k.bind.imp fun F1 H1 ρ1 hs s1 I1 k1 vs rv => ?_⟩
        obtain ⟨F2, ρ2, xs, s2, I2, ra, k2⟩ := Post.forced I1 rv k1.bind
        cases q2 : ρ2[i]? with
        | none => rw [q2] at k2; exact k2.elim
        | some s =>
          rw [q2] at k2
          dsimp only at k2
          cases q3 : s.own with
          | none => rw [q3] at k2; exact k2.elim
          | some x =>
            rw [q3] at k2
            dsimp only at k2
            cases q4 : f x xs with
            | none => rw [q4] at k2; exact k2.elim
            | some pr =>
              obtain ⟨x', rv'⟩ := pr
              rw [q4] at k2
              obtain ⟨a', w1, w2, w3⟩ := I2.own q2 q3
              rw [e1] at w1
              cases w1
              refine ⟨F2, a, x, xs, x', rv', rfl, I2.fh, w2, w3, ra, q4, fun o F' H' w ow st ro => ?_⟩
              have I3 := I2.change q2 q3 e1 ow
              exact k2 F' H' st.ff (I3.step st) w (ro.toV I3 st)
      · exact k.elim
theorem me_om {T id : String} {name : Str} {i : Nat} {x : Str} {np : Pos} {e : Expr} {es : List Expr} {f : D → List D → Option (D × RV)} {r : List S → R (List HV)} (hK : X.K = G.K) (pa : PlainAttrs T) (slot : Slot T name id) (hty : typeOf (.builtin id) = pure (.type "method_descriptor")) (hm : MtR X id (rOM G f))
    (ho : PE X (.Name x np) (tVar i)) (hr : MA X G g W (e :: es) r) (ht : T ≠ "tuple" := by decide) (hbase : attributeBase (.Name x np) name X.env (eval (.Name x np) X.env) = eval (.Name x np) X.env := by rfl)
    (hfew : ((backTo pos (starEach (e :: es) X.env)).all (fun x => !x.1) && (backToKw pos (keywordEach [] X.env)).all (fun x => x.1.isSome)
      && decide ((e :: es).length + ([] : List Keyword).length + (if ([] : List Keyword).isEmpty then 0 else 1) < 30)) = true := by rfl)
    (hline : (apos.endLine == pos.line) = true := by rfl) (hs : starEach (e :: es) X.env = (false, eval e X.env) :: starEach es X.env := by rfl) (hplain : (backTo pos (starEach es X.env)).any (·.1) = false := by rfl) :
    ME X G g W (.Call (.Attribute (.Name x np) name apos) (e :: es) [] pos) (mOM T i f r) :=
  pe_imp (pe_bm pa slot hty hm ho hr hbase hfew hline hs hplain) fun σ H Q k => by
    obtain ⟨v, e1, e2, e3⟩ := tM_om ht k
    exact ⟨v, e1, by rw [hK]; exact e2, e3⟩
theorem me_om0 {T id : String} {name : Str} {i : Nat} {x : Str} {np : Pos} {f : D → List D → Option (D × RV)} (hK : X.K = G.K) (pa : PlainAttrs T) (slot : Slot T name id) (hty : typeOf (.builtin id) = pure (.type "method_descriptor")) (hm : MtR X id (rOM G f))
    (ho : PE X (.Name x np) (tVar i)) (ht : T ≠ "tuple" := by decide) (hbase : attributeBase (.Name x np) name X.env (eval (.Name x np) X.env) = eval (.Name x np) X.env := by rfl) (hline : (apos.endLine == pos.line) = true := by rfl) :
    ME X G g W (.Call (.Attribute (.Name x np) name apos) [] [] pos) (mOM T i f mNil) :=
  pe_imp (pe_bm0 pa slot hty hm ho hbase hline) fun σ H Q k => by
    obtain ⟨v, e1, e2, F, ρ, I, k2⟩ := tM_om ht k
    exact ⟨v, e1, by rw [hK]; exact e2, k2 F H (.refl _) I [] .nil⟩
def fAppend : D → List D → Option (D × RV)
  | .lst l, [y] => if l.length < sizeLine then some (.lst (l ++ [y]), .d .non) else none
  | _, _ => none
theorem RepA.one_inv {G : GG} {F : Hp} {vs : List V} {x : D} (r : RepA G F vs [x]) : ∃ v, vs = [v] ∧ Rep G F v x := by
  cases r with
  | cons h t =>
    cases t
    exact ⟨_, rfl, h⟩
theorem RepA.nil_inv {G : GG} {F : Hp} {vs : List V} (r : RepA G F vs []) : vs = [] := by
  cases r
  rfl
theorem mtr_of {id : String} {r r' : V → List V → Hp → VK → Prop} (h : MtR X id r) (i : ∀ v vs H Q, r' v vs H Q → r v vs H Q) : MtR X id r' := fun pins s σ H x xs v us Q I rx rv q => h pins s σ H x xs v us Q I rx rv (i _ _ _ _ q)
theorem om_append : MtR X "list.append" (rOM G fAppend) := mtr_of mt_append fun v vs H Q ⟨F, a, x, xs, x', rv, e, sF, nF, ow, ra, ef, k⟩ => by
  subst e
  cases x with
  | lst l =>
    cases xs with
    | nil => cases ef
    | cons y t =>
      cases t with
      | cons _ _ => cases ef
      | nil =>
        unfold fAppend at ef
        dsimp only at ef
        split at ef
        · rename_i hz
          cases ef
          obtain ⟨u, rfl, ru⟩ := ra.one_inv
          obtain ⟨ys, h1, h2⟩ := ow
          have sF2 : Same F (upd H a (.lst (ys ++ [u]))) := fun b o hb => by
            rw [upd_ne fun z => by rw [z, nF] at hb; cases hb]
            exact sF _ _ hb
          exact ⟨a, ys, u, rfl, rfl, h1, by rw [h2.length]; exact hz, k (.lst (ys ++ [u])) F _ .non ⟨_, upd_same, h2.append (.ones ru)⟩ (.refl sF2) .non⟩
        · cases ef
  | dic _ => cases ef
  | _ => exact ow.elim
def fPop : D → List D → Option (D × RV)
  | .lst l, [] => match l.getLast? with
    | some y => some (.lst l.dropLast, .d y)
    | none => none
  | .lst l, [.int i] => if -(2 ^ 63) ≤ i ∧ i < 2 ^ 63 then (match ixN l.length i with
    | some k => (match l[k]? with
      | some y => some (.lst (l.eraseIdx k), .d y)
      | none => none)
    | none => none) else none
  | _, _ => none
theorem om_pop : MtR X "list.pop" (rOM G fPop) := mtr_of (MtR.or (r := rPop) (r' := rPopAt) mt_pop mt_popAt) fun v vs H Q ⟨F, a, x, xs, x', rv, e, sF, nF, ow, ra, ef, k⟩ => by
  subst e
  have sF2 : ∀ o, Same F (upd H a o) := fun o b u hb => by
    rw [upd_ne fun z => by rw [z, nF] at hb; cases hb]
    exact sF _ _ hb
  cases x with
  | lst l =>
    obtain ⟨ys, h1, h2⟩ := ow
    cases xs with
    | nil =>
      cases ra
      unfold fPop at ef
      dsimp only at ef
      cases q : l.getLast? with
      | none => rw [q] at ef; cases ef
      | some y =>
        rw [q] at ef
        cases ef
        rw [List.getLast?_eq_getElem?] at q
        obtain ⟨u, hu, ru⟩ := h2.get q
        rw [← h2.length] at hu
        exact .inl ⟨a, ys, u, rfl, rfl, h1, hu, k (.lst ys.dropLast) F _ u ⟨_, upd_same, h2.dropLast⟩ (.refl (sF2 _)) ru⟩
    | cons y t =>
      cases t with
      | cons _ _ => cases y <;> cases ef
      | nil =>
        cases y with
        | int i =>
          obtain ⟨u, rfl, ru⟩ := ra.one_inv
          cases ru
          unfold fPop at ef
          dsimp only at ef
          split at ef
          · rename_i hb
            cases q : ixN l.length i with
            | none => rw [q] at ef; cases ef
            | some j =>
              rw [q] at ef
              dsimp only at ef
              cases q2 : l[j]? with
              | none => rw [q2] at ef; cases ef
              | some z =>
                rw [q2] at ef
                cases ef
                obtain ⟨u, hu, ru⟩ := h2.get q2
                have q3 := (ixN_seq q).1
                rw [← h2.length] at q3
                exact .inr ⟨a, ys, i, j, u, rfl, rfl, h1, hb.1, hb.2, q3, hu, k (.lst (ys.eraseIdx j)) F _ u ⟨_, upd_same, h2.eraseIdx j⟩ (.refl (sF2 _)) ru⟩
          · cases ef
        | _ => cases ef
  | dic _ => cases ef
  | _ => exact ow.elim
/-! ### x[i] = e, x a slot's list -/
def sSetIx (i : Nat) (ix f : Ex) : Sm := fun ρ => Out.of (mForce f ρ) fun y ρ1 => match ρ1[i]? with
  | some s0 => if s0.own.isSome = true then Out.of (ix ρ1) fun rk ρ2 => (match rk with
    | .d (.int k) => (match ρ2[i]? with
      | some s => (match s.own with
        | some (.lst l) => (match ixN l.length k with
          | some j => .nx (ρ2.set i (s.chg (.lst (l.set j y))))
          | none => .bad)
        | _ => .bad)
      | none => .bad)
    | _ => .bad) else .bad
  | none => .bad
theorem ms_setIx {i : Nat} {x : Str} {np tp : Pos} {ie e : Expr} {ix f : Ex} (ho : PE X (.Name x np) (tVar i)) (hi : ME X G g W ie ix) (h : ME X G g W e f)
    (hs : swapsWithSole [.Subscript (.Name x np) ie tp] e pos.line X.env = pure false := by rfl) (hw : swappedStores [.Subscript (.Name x np) ie tp] e X.env = pure none := by rfl)
    (h1 : (assignEach [.Subscript (.Name x np) ie tp] X.env).map (·.2) = [assign (.Subscript (.Name x np) ie tp) X.env] := by rfl)
    (ha : ∀ v, assign (.Subscript (.Name x np) ie tp) X.env v = (do
      let ov ← holding [v] (eval (.Name x np) X.env)
      let iv ← holding [v, ov] (eval ie X.env)
      standAt tp
      holding [v, ov, iv] (setItem ov iv v)
      release [v, ov, iv] []) := by intro _; rfl) : MS X G g W (.Assign [.Subscript (.Name x np) ie tp] e pos) (sSetIx i ix f) :=
  ps_imp (ps_asg (me_force h) (pg_sub ho hi set_list ha) hs hw h1) fun Dd σ H ⟨F, ρ, I, k⟩ => by
    refine ⟨F, ρ, I, (PostS.of k).imp fun F1 H1 ρ1 y s1 I1 k1 v rv => ?_⟩
    cases q0 : ρ1[i]? with
    | none => rw [q0] at k1; exact k1.elim
    | some s0 =>
      rw [q0] at k1
      dsimp only at k1
      split at k1
      · rename_i ho0
        obtain ⟨x0, hx0⟩ := Option.isSome_iff_exists.mp ho0
        obtain ⟨a, e1, e2, e3⟩ := I1.own q0 hx0
        refine ⟨_, e1, F1, ρ1, I1, (PostS.of k1).imp fun F2 H2 ρ2 rk s2 I2 k2 u ru => ?_⟩
        cases rk with
        | r _ => exact k2.elim
        | f _ => exact k2.elim
        | d z =>
          cases z with
          | int n =>
            cases ru
            dsimp only at k2
            cases q2 : ρ2[i]? with
            | none => rw [q2] at k2; exact k2.elim
            | some s =>
              rw [q2] at k2
              dsimp only at k2
              cases q3 : s.own with
              | none => rw [q3] at k2; exact k2.elim
              | some x =>
                rw [q3] at k2
                cases x with
                | lst l =>
                  dsimp only at k2
                  cases q4 : ixN l.length n with
                  | none => rw [q4] at k2; exact k2.elim
                  | some j =>
                    rw [q4] at k2
                    obtain ⟨a', w1, w2, w3⟩ := I2.own q2 q3
                    rw [e1] at w1
                    cases w1
                    obtain ⟨xs, h1, h2⟩ := w3
                    have ow : OwnAt G F2 (upd H2 a (.lst (xs.set j v))) a (.lst (l.set j y)) := ⟨_, upd_same, h2.set j (rv.mono s2)⟩
                    exact ⟨a, xs, n, j, rfl, rfl, h1, by rw [h2.length]; exact q4, k2 F2 _ σ (.refl _) (I2.change q2 q3 e1 ow)⟩
                | _ => exact k2.elim
          | _ => exact k2.elim
      · exact k1.elim
end
end MM
set_option Elab.async false
set_option maxRecDepth 100000
set_option maxHeartbeats 2000000
namespace MM
open PySem PySem.Spec PyProof.Rows L2
/-! ### several values, then several names -/
/-- values that wait, the last one ahead: g is g0 with the new objects among them -/
inductive RowOk (G : GG) (F : Hp) (σ : L2.St) (g0 : Gh) : Gh → List V → List RV → Prop
  | nil : RowOk G F σ g0 g0 [] []
  | d {g : Gh} {v : V} {x : D} {vs : List V} {rs : List RV} : Rep G F v x → RowOk G F σ g0 g vs rs → RowOk G F σ g0 g (v :: vs) (.d x :: rs)
  | r {g : Gh} {v : V} {i : Nat} {vs : List V} {rs : List RV} : σ[i]? = some (some v) → RowOk G F σ g0 g vs rs → RowOk G F σ g0 g (v :: vs) (.r i :: rs)
  | f {g : Gh} {a : Addr} {x : D} {vs : List V} {rs : List RV} : (∀ q ∈ g.T, q.1 ≠ a) → RowOk G F σ g0 g vs rs → RowOk G F σ g0 (g.addT (a, x)) (.ref a :: vs) (.f x :: rs)
theorem RowOk.mono {G : GG} {F F' : Hp} {σ : L2.St} {g0 g : Gh} {vs : List V} {rs : List RV} (h : RowOk G F σ g0 g vs rs) (s : Same F F') : RowOk G F' σ g0 g vs rs := by
  induction h with
  | nil => exact .nil
  | d r _ ih => exact .d (r.mono s) ih
  | r e _ ih => exact .r e ih
  | f n _ ih => exact .f n ih
theorem Post.reg {G : GG} {g : Gh} {W : WX} {F : Hp} {σ : L2.St} {α : Type} {r : R α} {K : Hp → Hp → List S → α → Prop} {q : Addr × D} (h : Post G g W F σ r K) : Post G (g.addT q) W F σ r K := by
  cases r with
  | ok a ρ => exact fun F' H' s I => h F' H' s I.dropT
  | ex e ρ => exact fun F' H' c d s I => h F' H' c d s I.dropT
  | bad => exact h
theorem RowOk.reg {G : GG} {F0 : Hp} {g0 g : Gh} {W : WX} {F : Hp} {σ : L2.St} {vs : List V} {rs : List RV} (h : RowOk G F0 σ g0 g vs rs) {α : Type} {r : R α} {K : Hp → Hp → List S → α → Prop} (k : Post G g0 W F σ r K) : Post G g W F σ r K := by
  induction h with
  | nil => exact k
  | d _ _ ih => exact ih
  | r _ _ ih => exact ih
  | f _ _ ih => exact ih.reg
/-- one more value has come -/
theorem RowOk.push {G : GG} {F F' H' : Hp} {ρ : List S} {σ : L2.St} {g0 g : Gh} {vs : List V} {rs : List RV} (h : RowOk G F σ g0 g vs rs) (s : Same F F') (I : Good G g F' ρ σ H') {v : V} {rv : RV} (r : RepV G g F' H' ρ σ v rv) :
    ∃ g', Good G g' F' ρ σ H' ∧ RowOk G F' σ g0 g' (v :: vs) (rv :: rs) := by
  cases rv with
  | d x => exact ⟨g, I, .d r (h.mono s)⟩
  | r i => exact ⟨g, I, .r r (h.mono s)⟩
  | f x =>
    obtain ⟨a, rfl, n, h0, ow, ap, nT⟩ := r
    exact ⟨_, I.addT n h0 ow ap, .f nT (h.mono s)⟩
def settle (rv : RV) (ρ : List S) : R RV := match rv with
  | .r i => (forceRV (.r i) ρ).bind fun x ρ1 => .ok (.d x) ρ1
  | r => .ok r ρ
def settles : List RV → List S → R (List RV)
  | [], ρ => .ok [] ρ
  | r :: rs, ρ => (settles rs ρ).bind fun rs' ρ1 => (settle r ρ1).bind fun r' ρ2 => .ok (r' :: rs') ρ2
theorem settle_ex {rv : RV} {ρ ρ' : List S} {e : Exn} (h : settle rv ρ = .ex e ρ') : False := by
  cases rv with
  | d x => cases h
  | f x => cases h
  | r i =>
    unfold settle at h
    dsimp only at h
    cases q : forceRV (.r i) ρ with
    | bad => rw [q] at h; cases h
    | ex _ _ => exact forceRV_ex q
    | ok x ρ1 => rw [q] at h; cases h
theorem RowOk.base {G : GG} {F0 F H : Hp} {σ0 σ : L2.St} {ρ : List S} {g0 g : Gh} {vs : List V} {rs : List RV} (h : RowOk G F0 σ0 g0 g vs rs) (I : Good G g F ρ σ H) : Good G g0 F ρ σ H := by
  induction h with
  | nil => exact I
  | d _ _ ih => exact ih I
  | r _ _ ih => exact ih I
  | f _ _ ih => exact ih I.dropT
inductive Refs (σ : L2.St) : List V → List RV → Prop
  | nil : Refs σ [] []
  | d {v : V} {x : D} {vs : List V} {rs : List RV} : Refs σ vs rs → Refs σ (v :: vs) (.d x :: rs)
  | f {v : V} {x : D} {vs : List V} {rs : List RV} : Refs σ vs rs → Refs σ (v :: vs) (.f x :: rs)
  | r {v : V} {i : Nat} {vs : List V} {rs : List RV} : σ[i]? = some (some v) → Refs σ vs rs → Refs σ (v :: vs) (.r i :: rs)
theorem RowOk.refs {G : GG} {F : Hp} {σ : L2.St} {g0 g : Gh} {vs : List V} {rs : List RV} (h : RowOk G F σ g0 g vs rs) : Refs σ vs rs := by
  induction h with
  | nil => exact .nil
  | d r _ ih => exact .d ih
  | r e _ ih => exact .r e ih
  | f n _ ih => exact .f ih
inductive SetTo (G : GG) (F : Hp) : List V → List RV → List RV → Prop
  | nil : SetTo G F [] [] []
  | d {v : V} {x : D} {vs : List V} {rs rs' : List RV} : SetTo G F vs rs rs' → SetTo G F (v :: vs) (.d x :: rs) (.d x :: rs')
  | f {v : V} {x : D} {vs : List V} {rs rs' : List RV} : SetTo G F vs rs rs' → SetTo G F (v :: vs) (.f x :: rs) (.f x :: rs')
  | r {v : V} {x : D} {i : Nat} {vs : List V} {rs rs' : List RV} : Rep G F v x → SetTo G F vs rs rs' → SetTo G F (v :: vs) (.r i :: rs) (.d x :: rs')
theorem SetTo.mono {G : GG} {F F' : Hp} {vs : List V} {rs rs' : List RV} (h : SetTo G F vs rs rs') (s : Same F F') : SetTo G F' vs rs rs' := by
  induction h with
  | nil => exact .nil
  | d _ ih => exact .d ih
  | f _ ih => exact .f ih
  | r r _ ih => exact .r (r.mono s) ih
theorem settles_ok {G : GG} {H : Hp} {σ : L2.St} {g : Gh} : ∀ {vs : List V} {rs rs' : List RV} {F : Hp} {ρ ρ' : List S}, Refs σ vs rs → Good G g F ρ σ H → settles rs ρ = .ok rs' ρ' →
    ∃ F', Same F F' ∧ Good G g F' ρ' σ H ∧ SetTo G F' vs rs rs'
  | _, _, _, F, _, _, .nil, I, e => by
    cases e
    exact ⟨F, .refl _, I, .nil⟩
  | _, _, _, F, ρ, _, .d (x := x) (rs := rs) h, I, e => by
    unfold settles at e
    cases q : settles rs ρ with
    | bad => rw [q] at e; cases e
    | ex _ _ => rw [q] at e; cases e
    | ok ys ρ1 =>
      rw [q] at e
      cases e
      obtain ⟨F1, s1, I1, R1⟩ := settles_ok h I q
      exact ⟨F1, s1, I1, .d R1⟩
  | _, _, _, F, ρ, _, .f (x := x) (rs := rs) h, I, e => by
    unfold settles at e
    cases q : settles rs ρ with
    | bad => rw [q] at e; cases e
    | ex _ _ => rw [q] at e; cases e
    | ok ys ρ1 =>
      rw [q] at e
      cases e
      obtain ⟨F1, s1, I1, R1⟩ := settles_ok h I q
      exact ⟨F1, s1, I1, .f R1⟩
  | _, _, rs', F, ρ, ρ', .r (v := v) (i := j) (rs := rs) r h, I, e => by
    unfold settles at e
    cases q : settles rs ρ with
    | bad => rw [q] at e; cases e
    | ex _ _ => rw [q] at e; cases e
    | ok ys ρ1 =>
      rw [q] at e
      obtain ⟨F1, s1, I1, R1⟩ := settles_ok h I q
      have e : ((settle (.r j) ρ1).bind fun r' ρ2 => R.ok (r' :: ys) ρ2) = R.ok rs' ρ' := e
      unfold settle at e
      dsimp only at e
      cases q2 : forceRV (.r j) ρ1 with
      | bad => rw [q2] at e; cases e
      | ex _ _ => rw [q2] at e; cases e
      | ok x ρ2 =>
        rw [q2] at e
        cases e
        obtain ⟨F2, s2, I2, r2⟩ := forceRV_ok (rv := .r j) (v := v) I1 r q2
        exact ⟨F2, s1.trans s2, I2, .r r2 (R1.mono s2)⟩
theorem settles_ex : ∀ {rs : List RV} {ρ ρ' : List S} {e : Exn}, settles rs ρ = .ex e ρ' → False
  | [], _, _, _, h => by cases h
  | r :: rs, ρ, _, _, h => by
    unfold settles at h
    cases q : settles rs ρ with
    | bad => rw [q] at h; cases h
    | ex _ _ => exact settles_ex q
    | ok ys ρ1 =>
      rw [q] at h
      have h : ((settle r ρ1).bind fun r' ρ2 => R.ok (r' :: ys) ρ2) = _ := h
      cases q2 : settle r ρ1 with
      | bad => rw [q2] at h; cases h
      | ex _ _ => exact settle_ex q2
      | ok x ρ2 => rw [q2] at h; cases h
theorem RowOk.settled {G : GG} {F F' : Hp} {σ : L2.St} {g0 g : Gh} {vs : List V} {rs : List RV} (h : RowOk G F σ g0 g vs rs) : ∀ {rs' : List RV}, SetTo G F' vs rs rs' → Same F F' → RowOk G F' σ g0 g vs rs' ∧ ∀ i, RV.r i ∉ rs' := by
  induction h with
  | nil =>
    intro rs' t s
    cases t
    exact ⟨.nil, fun i => by simp⟩
  | d r _ ih =>
    intro rs' t s
    cases t with
    | d t =>
      obtain ⟨R, n⟩ := ih t s
      exact ⟨.d (r.mono s) R, fun i hi => by
        rcases List.mem_cons.mp hi with z | z
        · cases z
        · exact n i z⟩
  | r e _ ih =>
    intro rs' t s
    cases t with
    | r r t =>
      obtain ⟨R, n⟩ := ih t s
      exact ⟨.d r R, fun i hi => by
        rcases List.mem_cons.mp hi with z | z
        · cases z
        · exact n i z⟩
  | f nT _ ih =>
    intro rs' t s
    cases t with
    | f t =>
      obtain ⟨R, n⟩ := ih t s
      exact ⟨.f nT R, fun i hi => by
        rcases List.mem_cons.mp hi with z | z
        · cases z
        · exact n i z⟩
def setV : List Nat → List V → L2.St → L2.St
  | i :: is, v :: vs, σ => setV is vs (σ.set i (some v))
  | _, _, σ => σ
def putRVs : List Nat → List RV → List S → Option (List S)
  | [], [], ρ => some ρ
  | i :: is, r :: rs, ρ => (putRV i r ρ).bind fun ρ1 => putRVs is rs ρ1
  | _, _, _ => none
theorem putRVs_ok {G : GG} {H : Hp} {g0 : Gh} : ∀ {is : List Nat} {vs : List V} {rs : List RV} {F : Hp} {σ σ0 : L2.St} {g : Gh} {ρ ρ' : List S}, RowOk G F σ0 g0 g vs rs → (∀ i, RV.r i ∉ rs) → Good G g F ρ σ H → putRVs is rs ρ = some ρ' → Good G g0 F ρ' (setV is vs σ) H := by
  intro is vs rs F σ σ0 g ρ ρ' h
  induction h generalizing is σ ρ ρ' with
  | nil =>
    intro n I e
    cases is with
    | nil => cases e; exact I
    | cons i is => cases e
  | @d g v x vs rs r hr ih =>
    intro n I e
    cases is with
    | nil => cases e
    | cons i is =>
      unfold putRVs at e
      cases q : putRV i (.d x) ρ with
      | none => rw [q] at e; cases e
      | some ρ1 =>
        rw [q] at e
        exact ih (fun j hj => n j (List.mem_cons_of_mem _ hj)) (I.putD r q) e
  | @r g v j vs rs r hr ih =>
    intro n
    exact absurd List.mem_cons_self (n j)
  | @f g a x vs rs nT hr ih =>
    intro n I e
    cases is with
    | nil => cases e
    | cons i is =>
      unfold putRVs at e
      cases q : putRV i (.f x) ρ with
      | none => rw [q] at e; cases e
      | some ρ1 =>
        rw [q] at e
        obtain ⟨nF, ow, h0, ap⟩ := I.headT
        exact ih (fun j hj => n j (List.mem_cons_of_mem _ hj)) (I.dropT.putF ⟨a, rfl, nF, h0, ow, ap, nT⟩ q) e
section
variable {X : Cx} {G : GG} {g : Gh} {W : WX} {pos p apos : Pos}
/-- the values, the last one ahead -/
def mRow : List Ex → List RV → List S → R (List RV)
  | [], acc, ρ => .ok acc ρ
  | f :: fs, acc, ρ => (f ρ).bind fun rv ρ1 => mRow fs (rv :: acc) ρ1
def sPar (is : List Nat) (fs : List Ex) : Sm := fun ρ => Out.of (mRow fs [] ρ) fun rs ρ1 => Out.of (settles rs ρ1) fun rs' ρ2 => nxO (putRVs is.reverse rs' ρ2)
def tMX (G : GG) (W : WX) (f : Ex) : TE := fun σ H Q => ∃ g, tM G g W f σ H Q
theorem pe_ex {e : Expr} {f : Ex} (h : ∀ g, ME X G g W e f) : PE X e (tMX G W f) := ⟨fun pins s σ H Q I ⟨g, w⟩ => (h g).run pins s σ H Q I w⟩
inductive PEs (X : Cx) (G : GG) (W : WX) : List Expr → List Ex → TA → Prop
  | nil : PEs X G W [] [] tNil
  | cons {e : Expr} {es : List Expr} {f : Ex} {fs : List Ex} {t : TA} : (∀ g, ME X G g W e f) → PEs X G W es fs t → PEs X G W (e :: es) (f :: fs) (tCons (tMX G W f) t)
theorem row_go {fs : List Ex} {es : List Expr} {t : TA} (h : PEs X G W es fs t) : ∀ {σ : L2.St} {H F0 F : Hp} {ρ : List S} {g1 : Gh} {vs : List V} {acc : List RV} {K : Hp → Hp → List S → List RV → Prop} {Q : List V → Hp → Prop}, RowOk G F σ g g1 vs acc → Good G g1 F ρ σ H → Post G g W F σ (mRow fs acc ρ) K →
    (∀ F2 H2 ρ2 g2 vs2 rs2, RowOk G F2 σ g g2 (vs2.reverse ++ vs) rs2 → Good G g2 F2 ρ2 σ H2 → K F2 H2 ρ2 rs2 → Q vs2 H2) → t σ H Q := by
  induction h with
  | nil =>
    intro σ H F0 F ρ g1 vs acc K Q RO I k q
    have k : Post G g W F σ (MM.R.ok acc ρ) K := k
    refine q F H ρ g1 [] acc RO I (k F H (.refl _) (RO.base I))
  | @cons e es f fs t hf _ ih =>
    intro σ H F0 F ρ g1 vs acc K Q R I k q
    have k : Post G g W F σ ((f ρ).bind fun rv ρ1 => mRow fs (rv :: acc) ρ1) K := k
    have kb := R.reg k.bind
    refine ⟨g1, F, ρ, I, kb.imp fun F1 H1 ρ1 rv s1 I1 k1 v r => ?_⟩
    obtain ⟨g2, I2, R2⟩ := R.push s1 I1 r
    exact ih (F0 := F) R2 I2 k1 fun F3 H3 ρ3 g3 vs3 rs3 R3 I3 k3 => q F3 H3 ρ3 g3 (v :: vs3) rs3 (by
      have e : (v :: vs3).reverse ++ vs = vs3.reverse ++ (v :: vs) := by simp
      rw [e]
      exact R3) I3 k3
theorem par_go {is : List Nat} {fs : List Ex} {es : List Expr} {t : TA} (h : PEs X G W es fs t) {Dd : Ends} {σ : L2.St} {H : Hp} (k : tMS G g W (sPar is fs) Dd σ H) : t σ H fun vs H1 => Dd.nx (setV is.reverse vs.reverse σ) H1 := by
  obtain ⟨F, ρ, I, k⟩ := k
  refine row_go (F0 := F) (g := g) h (.nil) I (PostS.of (σ := σ) k) fun F2 H2 ρ2 g2 vs2 rs2 R2 I2 k2 => ?_
  cases q : settles rs2 ρ2 with
  | bad => rw [q] at k2; exact k2.elim
  | ex _ _ => exact (settles_ex q).elim
  | ok rs' ρ3 =>
    rw [q] at k2
    obtain ⟨F3, s3, I3, t3⟩ := settles_ok R2.refs I2 q
    obtain ⟨R3, n3⟩ := R2.settled t3 s3
    have k2 : PostS G g W F2 (nxO (putRVs is.reverse rs' ρ3)) Dd := k2
    cases q2 : putRVs is.reverse rs' ρ3 with
    | none => rw [q2] at k2; exact k2.elim
    | some ρ4 =>
      rw [q2] at k2
      have R3 : RowOk G F3 σ g g2 vs2.reverse rs' := by simpa using R3
      exact k2 F3 H2 _ s3 (putRVs_ok R3 n3 I3 q2)
theorem ms_par2 {i j : Nat} {x y : Str} {a b : Expr} {f h : Ex} {px py pt : Pos} {kt k2 pt2} (hc : X.calm = true) (hN : X.N.Nodup) (hi : X.N[i]? = some x) (hj : X.N[j]? = some y) (hij : i ≠ j)
    (hx : X.env.scope.names.lookup x = some .local) (hy : X.env.scope.names.lookup y = some .local) (ha : ∀ g, ME X G g W a f) (hb : ∀ g, ME X G g W b h)
    (hw : swappedStores [.Tuple [.Name x px, .Name y py] kt pt] (.Tuple [a, b] k2 pt2) X.env = pure (some [x, y]))
    (hs : swapsWithSole [.Tuple [.Name x px, .Name y py] kt pt] (.Tuple [a, b] k2 pt2) pos.line X.env = pure false := by rfl)
    (h1 : starEach [a, b] X.env = (false, eval a X.env) :: starEach [b] X.env := by rfl) (h2 : starEach [b] X.env = (false, eval b X.env) :: starEach [] X.env := by rfl) :
    MS X G g W (.Assign [.Tuple [.Name x px, .Name y py] kt pt] (.Tuple [a, b] k2 pt2) pos) (sPar [i, j] [f, h]) :=
  ps_imp (ps_par hc hN hi hj hij hx hy (pa_cons (pe_ex ha) (pa_cons (pe_ex hb) pa_nil h2) h1) hw hs) fun Dd σ H k => by
    obtain ⟨g', F, ρ, I, w⟩ := par_go (.cons ha (.cons hb .nil)) k
    refine ⟨g', F, ρ, I, w.imp fun F1 H1 ρ1 rv s1 I1 k1 v r => ?_⟩
    obtain ⟨g2, F2, ρ2, I2, w2⟩ := k1 v r
    refine ⟨g2, F2, ρ2, I2, w2.imp fun F3 H3 ρ3 rv3 s3 I3 k3 u r3 => ?_⟩
    refine ⟨v, u, rfl, ?_⟩
    have e : Dd.nx ((σ.set j (some u)).set i (some v)) H3 := k3 u r3
    rw [List.set_comm _ _ hij]
    exact e
theorem ms_par3 {i j l : Nat} {x y z : Str} {a b c : Expr} {f h m : Ex} {px py pz pt : Pos} {kt k2 pt2} (hc : X.calm = true) (hN : X.N.Nodup) (hi : X.N[i]? = some x) (hj : X.N[j]? = some y) (hl : X.N[l]? = some z) (hij : i ≠ j) (hil : i ≠ l) (hjl : j ≠ l)
    (hx : X.env.scope.names.lookup x = some .local) (hy : X.env.scope.names.lookup y = some .local) (hz : X.env.scope.names.lookup z = some .local) (ha : ∀ g, ME X G g W a f) (hb : ∀ g, ME X G g W b h) (hm : ∀ g, ME X G g W c m)
    (hw : swappedStores [.Tuple [.Name x px, .Name y py, .Name z pz] kt pt] (.Tuple [a, b, c] k2 pt2) X.env = pure (some [x, y, z]))
    (hs : swapsWithSole [.Tuple [.Name x px, .Name y py, .Name z pz] kt pt] (.Tuple [a, b, c] k2 pt2) pos.line X.env = pure false := by rfl)
    (h1 : starEach [a, b, c] X.env = (false, eval a X.env) :: starEach [b, c] X.env := by rfl) (h2 : starEach [b, c] X.env = (false, eval b X.env) :: starEach [c] X.env := by rfl) (h3 : starEach [c] X.env = (false, eval c X.env) :: starEach [] X.env := by rfl) :
    MS X G g W (.Assign [.Tuple [.Name x px, .Name y py, .Name z pz] kt pt] (.Tuple [a, b, c] k2 pt2) pos) (sPar [i, j, l] [f, h, m]) :=
  ps_imp (ps_par3 hc hN hi hj hl hij hil hjl hx hy hz (pa_cons (pe_ex ha) (pa_cons (pe_ex hb) (pa_cons (pe_ex hm) pa_nil h3) h2) h1) hw hs) fun Dd σ H k => by
    obtain ⟨g', F, ρ, I, w⟩ := par_go (.cons ha (.cons hb (.cons hm .nil))) k
    refine ⟨g', F, ρ, I, w.imp fun F1 H1 ρ1 rv s1 I1 k1 v r => ?_⟩
    obtain ⟨g2, F2, ρ2, I2, w2⟩ := k1 v r
    refine ⟨g2, F2, ρ2, I2, w2.imp fun F3 H3 ρ3 rv3 s3 I3 k3 u r3 => ?_⟩
    obtain ⟨g4, F4, ρ4, I4, w4⟩ := k3 u r3
    refine ⟨g4, F4, ρ4, I4, w4.imp fun F5 H5 ρ5 rv5 s5 I5 k5 t r5 => ?_⟩
    refine ⟨v, u, t, rfl, ?_⟩
    have e : Dd.nx (((σ.set l (some t)).set j (some u)).set i (some v)) H5 := k5 t r5
    have e2 : ((σ.set l (some t)).set j (some u)).set i (some v) = ((σ.set i (some v)).set j (some u)).set l (some t) := by
      rw [List.set_comm (some t) (some u) (Ne.symm hjl), List.set_comm (some t) (some v) (Ne.symm hil), List.set_comm (some u) (some v) (Ne.symm hij)]
    rw [← e2]
    exact e
end
end MM
set_option Elab.async false
set_option maxRecDepth 100000
set_option maxHeartbeats 2000000
namespace MM
open PySem PySem.Spec PyProof.Rows L2
/-! ### the block's own slots -/
def wipeS (ρ : List S) : List Nat → List S
  | [] => ρ
  | v :: vs => (wipeS ρ vs).set v .un
def backW (ρ ρ0 : List S) : List Nat → List S
  | [] => ρ
  | v :: vs => (backW ρ ρ0 vs).set v (ρ0[v]?.getD .un)
/-- what stands there may be hidden for a while -/
def S.hid : S → Bool
  | .un => true
  | .d _ => true
  | _ => false
def hidOk (ρ : List S) (vs : List Nat) : Bool := vs.all fun v => match ρ[v]? with
  | some s => s.hid
  | none => false
theorem wipeS_get {ρ : List S} : ∀ {vs : List Nat} {j : Nat}, (wipeS ρ vs)[j]? = if j ∈ vs ∧ j < ρ.length then some .un else ρ[j]?
  | [], j => by simp [wipeS]
  | v :: vs, j => by
    unfold wipeS
    have len : (wipeS ρ vs).length = ρ.length := by
      clear j
      induction vs with
      | nil => rfl
      | cons u us ih => unfold wipeS; rw [List.length_set, ih]
    by_cases z : v = j
    · subst z
      by_cases hl : v < ρ.length
      · rw [List.getElem?_set_self (by rw [len]; exact hl), if_pos ⟨List.mem_cons_self, hl⟩]
      · rw [List.getElem?_eq_none (by rw [List.length_set, len]; omega), if_neg (fun h => hl h.2), List.getElem?_eq_none (by omega)]
    · rw [List.getElem?_set_ne z, wipeS_get]
      by_cases hm : j ∈ vs ∧ j < ρ.length
      · rw [if_pos hm, if_pos ⟨List.mem_cons_of_mem _ hm.1, hm.2⟩]
      · rw [if_neg hm, if_neg fun h => hm ⟨(List.mem_cons.mp h.1).resolve_left (Ne.symm z), h.2⟩]
theorem wipeS_length {ρ : List S} : ∀ {vs : List Nat}, (wipeS ρ vs).length = ρ.length
  | [] => rfl
  | v :: vs => by unfold wipeS; rw [List.length_set, wipeS_length]
theorem backW_length {ρ ρ0 : List S} : ∀ {vs : List Nat}, (backW ρ ρ0 vs).length = ρ.length
  | [] => rfl
  | v :: vs => by unfold backW; rw [List.length_set, backW_length]
theorem backW_get {ρ ρ0 : List S} : ∀ {vs : List Nat} {j : Nat}, (backW ρ ρ0 vs)[j]? = if j ∈ vs ∧ j < ρ.length then some (ρ0[j]?.getD .un) else ρ[j]?
  | [], j => by simp [backW]
  | v :: vs, j => by
    unfold backW
    by_cases z : v = j
    · subst z
      by_cases hl : v < ρ.length
      · rw [List.getElem?_set_self (by rw [backW_length]; exact hl), if_pos ⟨List.mem_cons_self, hl⟩]
      · rw [List.getElem?_eq_none (by rw [List.length_set, backW_length]; omega), if_neg (fun h => hl h.2), List.getElem?_eq_none (by omega)]
    · rw [List.getElem?_set_ne z, backW_get]
      by_cases hm : j ∈ vs ∧ j < ρ.length
      · rw [if_pos hm, if_pos ⟨List.mem_cons_of_mem _ hm.1, hm.2⟩]
      · rw [if_neg hm, if_neg fun h => hm ⟨(List.mem_cons.mp h.1).resolve_left (Ne.symm z), h.2⟩]
theorem wipe_get {σ : L2.St} : ∀ {vs : List Nat} {j : Nat}, (wipe σ vs)[j]? = if j ∈ vs ∧ j < σ.length then some none else σ[j]?
  | [], j => by simp [wipe]
  | v :: vs, j => by
    unfold wipe
    by_cases z : v = j
    · subst z
      by_cases hl : v < σ.length
      · rw [List.getElem?_set_self (by rw [wipe_length]; exact hl), if_pos ⟨List.mem_cons_self, hl⟩]
      · rw [List.getElem?_eq_none (by rw [List.length_set, wipe_length]; omega), if_neg (fun h => hl h.2), List.getElem?_eq_none (by omega)]
    · rw [List.getElem?_set_ne z, wipe_get]
      by_cases hm : j ∈ vs ∧ j < σ.length
      · rw [if_pos hm, if_pos ⟨List.mem_cons_of_mem _ hm.1, hm.2⟩]
      · rw [if_neg hm, if_neg fun h => hm ⟨(List.mem_cons.mp h.1).resolve_left (Ne.symm z), h.2⟩]
theorem wipe_wipe {σ : L2.St} {vs : List Nat} : wipe (wipe σ vs) vs = wipe σ vs := by
  apply List.ext_getElem?
  intro j
  rw [wipe_get, wipe_length]
  split
  · rename_i h
    rw [wipe_get, if_pos h]
  · rfl
theorem wipe_in {σ : L2.St} : ∀ {vs : List Nat} {j : Nat}, j ∈ vs → ∀ v, (wipe σ vs)[j]? ≠ some (some v)
  | [], _, h, _ => by cases h
  | u :: us, j, h, v => fun e => (wipe_some e).2 h
section
variable {G : GG} {g : Gh} {F F' H H' : Hp} {ρ ρ0 : List S} {σ : L2.St} {vs : List Nat}
theorem Good.noPar (I : Good G g F ρ σ H) (ok : hidOk ρ vs = true) : ∀ i a, g.P i = some a → i ∉ vs := fun i a h hv => by
  have := List.all_eq_true.mp ok i hv
  obtain ⟨⟨x, hx⟩, _⟩ := I.par i a h
  rw [hx] at this
  cases this
theorem Good.wiped (I : Good G g F ρ σ H) (hP : ∀ i a, g.P i = some a → i ∉ vs) : Good G g F (wipeS ρ vs) (wipe σ vs) H := by
  have at_ : ∀ (j : Nat) (s : S), (wipeS ρ vs)[j]? = some s → s ≠ .un → j ∉ vs ∧ ρ[j]? = some s ∧ (wipe σ vs)[j]? = σ[j]? := fun j s h n => by
    rw [wipeS_get] at h
    split at h
    · cases h
      exact absurd rfl n
    · rename_i hm
      have hl : j < ρ.length := (List.getElem?_eq_some_iff.mp h).1
      have hj : j ∉ vs := fun z => hm ⟨z, hl⟩
      exact ⟨hj, h, wipe_out hj⟩
  exact { len := by rw [wipe_length, wipeS_length]; exact I.len
          fh := I.fh
          f0 := I.f0
          keep := I.keep
          fresh := I.fresh
          dat := fun i x h => by
            obtain ⟨_, h1, e⟩ := at_ i _ h (fun z => by cases z)
            rw [e]
            exact I.dat i x h1
          obj := fun i x h => by
            obtain ⟨_, h1, e⟩ := at_ i _ h (fun z => by cases z)
            rw [e]
            exact I.obj i x h1
          prm := fun i x h => by
            obtain ⟨_, h1, e⟩ := at_ i _ h (fun z => by cases z)
            rw [e]
            exact I.prm i x h1
          par := fun i a h => by
            obtain ⟨⟨x, hx⟩, ho⟩ := I.par i a h
            refine ⟨⟨x, ?_⟩, ho⟩
            rw [wipeS_get, if_neg]
            · exact hx
            · exact fun z => hP i a h z.1
          apart := fun i j s t a hij h1 h2 h3 h4 => by
            have n1 : s ≠ .un := fun z => h3 (by rw [z]; rfl)
            have n2 : t ≠ .un := fun z => h4 (by rw [z]; rfl)
            obtain ⟨_, e1, e2⟩ := at_ i s h1 n1
            obtain ⟨_, e3, e4⟩ := at_ j t h2 n2
            rw [e2, e4]
            exact I.apart i j s t a hij e1 e3 h3 h4
          tmp := fun q hq => by
            obtain ⟨h2, h3, h4, h5⟩ := I.tmp q hq
            refine ⟨h2, h3, h4, fun i s hi hs => ?_⟩
            obtain ⟨_, e1, e2⟩ := at_ i s hi (fun z => hs (by rw [z]; rfl))
            rw [e2]
            exact h5 i s e1 hs }
/-- behind the block -/
theorem Good.unwiped (I0 : Good G g F ρ0 σ H) (ok : hidOk ρ0 vs = true) (s : Same F F') (I : Good G g F' ρ (wipe σ vs) H') : Good G g F' (backW ρ ρ0 vs) σ H' := by
  have hid : ∀ v ∈ vs, ∃ s, ρ0[v]? = some s ∧ s.hid = true := fun v hv => by
    have := List.all_eq_true.mp ok v hv
    cases q : ρ0[v]? with
    | none => rw [q] at this; cases this
    | some s => rw [q] at this; exact ⟨s, rfl, this⟩
  have len : ρ.length = ρ0.length := by
    have := I.len
    rw [wipe_length, I0.len] at this
    exact this.symm
  have at_ : ∀ (j : Nat) (s : S), (backW ρ ρ0 vs)[j]? = some s → (j ∈ vs ∧ ρ0[j]? = some s ∧ s.hid = true) ∨ (j ∉ vs ∧ ρ[j]? = some s ∧ (wipe σ vs)[j]? = σ[j]?) := fun j s h => by
    rw [backW_get] at h
    split at h
    · rename_i hm
      obtain ⟨t, ht, hh⟩ := hid j hm.1
      rw [ht] at h
      cases h
      exact .inl ⟨hm.1, ht, hh⟩
    · rename_i hm
      have hl : j < ρ.length := (List.getElem?_eq_some_iff.mp h).1
      have hj : j ∉ vs := fun z => hm ⟨z, hl⟩
      exact .inr ⟨hj, h, wipe_out hj⟩
  have own : ∀ (j : Nat) (s : S), (backW ρ ρ0 vs)[j]? = some s → s.own ≠ none → ρ[j]? = some s ∧ (wipe σ vs)[j]? = σ[j]? := fun j s h n => by
    rcases at_ j s h with ⟨_, _, hh⟩ | ⟨_, e1, e2⟩
    · cases s with
      | un => exact absurd rfl n
      | d _ => exact absurd rfl n
      | o _ => cases hh
      | p _ => cases hh
    · exact ⟨e1, e2⟩
  exact { len := by rw [backW_length, len]; exact I0.len
          fh := I.fh
          f0 := I.f0
          keep := I.keep
          fresh := I.fresh
          dat := fun i x h => by
            rcases at_ i _ h with ⟨_, e, _⟩ | ⟨_, e1, e2⟩
            · obtain ⟨v, h1, h2⟩ := I0.dat i x e
              exact ⟨v, h1, h2.mono s⟩
            · rw [← e2]
              exact I.dat i x e1
          obj := fun i x h => by
            obtain ⟨e1, e2⟩ := own i _ h (by simp [S.own])
            rw [← e2]
            exact I.obj i x e1
          prm := fun i x h => by
            obtain ⟨e1, e2⟩ := own i _ h (by simp [S.own])
            rw [← e2]
            exact I.prm i x e1
          par := fun i a h => by
            obtain ⟨⟨x, hx⟩, ho⟩ := I.par i a h
            refine ⟨⟨x, ?_⟩, ho⟩
            rw [backW_get, if_neg]
            · exact hx
            · intro z
              obtain ⟨b, e1, _⟩ := I.prm i x hx
              exact wipe_in z.1 _ e1
          apart := fun i j s t a hij h1 h2 h3 h4 => by
            obtain ⟨e1, e2⟩ := own i s h1 h3
            obtain ⟨e3, e4⟩ := own j t h2 h4
            rw [← e2, ← e4]
            exact I.apart i j s t a hij e1 e3 h3 h4
          tmp := fun q hq => by
            obtain ⟨h2, h3, h4, h5⟩ := I.tmp q hq
            refine ⟨h2, h3, h4, fun i s hi hs => ?_⟩
            obtain ⟨e1, e2⟩ := own i s hi hs
            rw [← e2]
            exact h5 i s e1 hs }
end
/-! ### a list comprehension of one clause -/
def R.calm {α : Type} : R α → R α
  | .ok a ρ => .ok a ρ
  | _ => .bad
def lcM (t : Tg) (vs : List Nat) (tt : List S → R Bool) (f : Ex) : List D → List S → R (List D)
  | [], ρ => .ok [] ρ
  | x :: r, ρ => match t.put x ρ with
    | none => .bad
    | some ρ1 => (tt ρ1).bind fun b ρ2 => if b = true then (mForce f ρ2).bind fun y ρ3 => (lcM t vs tt f r (wipeS ρ3 vs)).bind fun ys ρ4 => .ok (y :: ys) ρ4
      else lcM t vs tt f r (wipeS ρ2 vs)
def mLc (it : List S → R (List D)) (t : Tg) (vs : List Nat) (tt : List S → R Bool) (f : Ex) : Ex := fun ρ => (it ρ).bind fun items ρ1 => if hidOk ρ1 vs = true then (lcM t vs tt f items (wipeS ρ1 vs)).calm.bind fun ys ρ2 => if ys.length ≤ sizeLine then .ok (.f (.lst ys)) (backW ρ2 ρ1 vs) else .bad else .bad
def WF : WX := fun _ _ _ _ => False
theorem R.calm_ok {α : Type} {r : R α} {a : α} {ρ : List S} (h : r.calm = .ok a ρ) : r = .ok a ρ := by
  cases r with
  | ok b ρ' => exact h
  | ex e ρ' => cases h
  | bad => cases h
abbrev MTs (X : Cx) (G : GG) (g : Gh) (W : WX) (ifs : List Expr) (f : List S → R Bool) : Prop := PTs X ifs (tMT G g W f)
def mYes : List S → R Bool := fun ρ => .ok true ρ
def tMTX (G : GG) (W : WX) (f : List S → R Bool) : TT := fun σ H Q => ∃ g, tMT G g W f σ H Q
def tMGX (G : GG) (t : Tg) : TG := fun v σ H Q => ∃ g, tMG G g t v σ H Q
def tMDX (G : GG) (W : WX) (f : List S → R D) : TE := fun σ H Q => ∃ g, tMD G g W f σ H Q
section
variable {X : Cx} {G : GG} {g : Gh} {W : WX} {pos p apos : Pos}
theorem mts_nil : MTs X G g W [] mYes := ⟨fun pins s σ H Q I ⟨F, ρ, J, k⟩ => (pts_nil (X := X)).run pins s σ H Q I (k F H (.refl _) J)⟩
theorem mts_one {c : Expr} {f : List S → R Bool} (h : MT X G g W c f) : MTs X G g W [c] f := pts_one h
theorem lc_go {it : List S → R (List D)} {t : Tg} {vs : List Nat} {tt : List S → R Bool} {f : Ex} (ht : ∀ i ∈ t.ixs, i ∈ vs) {σ : L2.St} {H : Hp} {Q : VK} (k : tM G g W (mLc it t vs tt f) σ H Q) :
    tLc (tMI G g W it) (tMGX G t) (tMTX G WF tt) (tMDX G WF (mForce f)) vs σ H Q := by
  obtain ⟨F, ρ, I, k⟩ := k
  refine ⟨F, ρ, I, k.bind.imp fun F0 H0 ρ0 items s0 I0 k0 J hJ D nD => ?_⟩
  split at k0
  case isFalse => exact k0.elim
  rename_i ok
  -- the new list
  cases qr : lcM t vs tt f items (wipeS ρ0 vs) with
  | bad => rw [qr] at k0; exact k0.elim
  | ex _ _ => rw [qr] at k0; exact k0.elim
  | ok ys ρe =>
    rw [qr] at k0
    have k0 : Post G g W F0 σ (if ys.length ≤ sizeLine then R.ok (RV.f (.lst ys)) (backW ρe ρ0 vs) else .bad) _ := k0
    split at k0
    case isFalse => exact k0.elim
    rename_i hz
    have nF0 : F0 D = none := I0.fh.free nD
    obtain ⟨w1, w2, w3⟩ := newp I0 nD
    have st0 : Step F0 H0 F0 (upd H0 D (.lst [])) := Step.new I0.fh nD
    have hP := I0.noPar ok
    have I1 := (I0.step st0).wiped (vs := vs) hP
    have own1 : ∀ (i : Nat) (s : S), (wipeS ρ0 vs)[i]? = some s → s.own ≠ none → (wipe σ vs)[i]? ≠ some (some (V.ref D)) := fun i s hi hs e => by
      rw [wipeS_get] at hi
      split at hi
      · cases hi
        exact hs rfl
      · exact w2 i s hi hs (wipe_some e).1
    have J0 : Good G (g.addT (D, .lst [])) F0 (wipeS ρ0 vs) (wipe σ vs) (upd H0 D (.lst [])) := I1.addT nF0 w1 ⟨[], upd_same, .nil⟩ own1
    refine ⟨fun i m H => m = items.length - i ∧ i ≤ items.length ∧ ∃ F1 ρ1 acc rest, Same F0 F1 ∧ Good G (g.addT (D, .lst acc)) F1 ρ1 (wipe σ vs) H ∧ lcM t vs tt f (items.drop i) ρ1 = .ok rest ρe ∧ acc ++ rest = ys,
      ⟨items.length, by simp, Nat.zero_le _, F0, _, [], ys, .refl _, J0, qr, rfl⟩, ?_⟩
    rintro i m H1 ⟨rfl, hi, F1, ρ1, acc, rest, s1, Ja, er, ey⟩
    have hF1 : Same F1 H1 := Ja.fh
    by_cases hlt : i < items.length
    · refine .inr ⟨hJ.go F1 H1 i s1 hF1 hlt, fun H' => ∃ F2 ρ2 acc2 rest2, Same F0 F2 ∧ Good G (g.addT (D, .lst acc2)) F2 ρ2 (wipe σ vs) H' ∧ lcM t vs tt f (items.drop (i + 1)) ρ2 = .ok rest2 ρe ∧ acc2 ++ rest2 = ys,
        fun H' h => ⟨items.length - (i + 1), by omega, rfl, hlt, h⟩, fun v H2 y => ?_⟩
      obtain ⟨F2, x, st, hx, r⟩ := hJ.yld F1 H1 i v H2 s1 hF1 y hlt
      have Jb := Ja.step st
      rw [List.drop_eq_getElem_cons hlt] at er
      have ex : items[i] = x := by
        rw [List.getElem?_eq_getElem hlt] at hx
        exact Option.some.inj hx
      rw [ex] at er
      unfold lcM at er
      cases q : t.put x ρ1 with
      | none => rw [q] at er; cases er
      | some ρ2 =>
        rw [q] at er
        dsimp only at er
        refine ⟨_, F2, ρ1, x, ρ2, Jb, r, q, fun σ2 Jc wq => ⟨?_, ?_⟩⟩
        · rw [wq vs ht, wipe_wipe]
        · cases q2 : tt ρ2 with
          | bad => rw [q2] at er; cases er
          | ex _ _ => rw [q2] at er; cases er
          | ok b ρ3 =>
            rw [q2] at er
            have er : (if b = true then (mForce f ρ3).bind fun y ρ3 => (lcM t vs tt f (items.drop (i + 1)) (wipeS ρ3 vs)).bind fun ys ρ4 => R.ok (y :: ys) ρ4
              else lcM t vs tt f (items.drop (i + 1)) (wipeS ρ3 vs)) = R.ok rest ρe := er
            have wσ : wipe σ2 vs = wipe σ vs := by rw [wq vs ht, wipe_wipe]
            refine ⟨g.addT (D, .lst acc), F2, ρ2, Jc, ?_⟩
            rw [q2]
            intro F3 H3 s3 Jd
            cases b with
            | false =>
              rw [if_neg Bool.false_ne_true] at er ⊢
              have Je := Jd.wiped (vs := vs) hP
              rw [wσ] at Je
              exact ⟨F3, _, acc, rest, (s1.trans st.ff).trans s3, Je, er, ey⟩
            | true =>
              rw [if_pos rfl] at er ⊢
              cases q3 : mForce f ρ3 with
              | bad => rw [q3] at er; cases er
              | ex _ _ => rw [q3] at er; cases er
              | ok y ρ4 =>
                rw [q3] at er
                have er : ((lcM t vs tt f (items.drop (i + 1)) (wipeS ρ4 vs)).bind fun ys ρ5 => R.ok (y :: ys) ρ5) = R.ok rest ρe := er
                cases q4 : lcM t vs tt f (items.drop (i + 1)) (wipeS ρ4 vs) with
                | bad => rw [q4] at er; cases er
                | ex _ _ => rw [q4] at er; cases er
                | ok ys' ρ5 =>
                  rw [q4] at er
                  cases er
                  refine ⟨g.addT (D, .lst acc), F3, ρ3, Jd, ?_⟩
                  rw [q3]
                  intro F4 H4 s4 Je u ru
                  obtain ⟨nF, ⟨xs, hx1, hx2⟩, h0, ap⟩ := Je.headT
                  have hlen : xs.length = acc.length := hx2.length
                  have hsz : acc.length + (ys'.length + 1) = ys.length := by rw [← ey]; simp
                  refine ⟨xs, hx1, by omega, F4, wipeS ρ4 vs, acc ++ [y], ys', ((s1.trans st.ff).trans s3).trans s4, ?_, q4, by rw [← ey]; simp⟩
                  have ow : OwnAt G F4 (upd H4 D (.lst (xs ++ [u]))) D (.lst (acc ++ [y])) := ⟨_, upd_same, hx2.append (.ones ru)⟩
                  have Jf := (Je.changeT w3 ow).wiped (vs := vs) hP
                  rw [wσ] at Jf
                  exact Jf
    · have e : items.drop i = [] := List.drop_eq_nil_of_le (by omega)
      rw [e] at er
      cases er
      refine .inl ⟨hJ.stop F1 H1 i s1 hF1 (by omega), ?_⟩
      rw [List.append_nil] at ey
      subst ey
      obtain ⟨nF, ow, h0, ap⟩ := Ja.headT
      have Ie := I0.unwiped ok s1 Ja.dropT
      refine k0 F1 H1 s1 Ie _ ⟨D, rfl, nF, h0, ow, fun i s hi hs => ?_, w3⟩
      rw [backW_get] at hi
      split at hi
      · rename_i hm
        have := List.all_eq_true.mp ok i hm.1
        cases q : ρ0[i]? with
        | none => rw [q] at this; cases this
        | some s' =>
          rw [q] at this hi
          cases hi
          intro _
          cases s' with
          | un => exact hs rfl
          | d _ => exact hs rfl
          | o _ => cases this
          | p _ => cases this
      · rename_i hm
        have hl : i < ρe.length := (List.getElem?_eq_some_iff.mp hi).1
        have hj : i ∉ vs := fun z => hm ⟨z, hl⟩
        have z := ap i s hi hs
        rw [wipe_out hj] at z
        exact z
theorem pg_ex {e : Expr} {t : Tg} (h : ∀ g, MG X G g e t) : PG X e (tMGX G t) := ⟨fun pins s σ H v u Q I r ⟨g, w⟩ => (h g).run pins s σ H v u Q I r w⟩
theorem pts_ex {ifs : List Expr} {f : List S → R Bool} (h : ∀ g, MTs X G g W ifs f) : PTs X ifs (tMTX G W f) := ⟨fun pins s σ H Q I ⟨g, w⟩ => (h g).run pins s σ H Q I w⟩
theorem pd_ex {e : Expr} {f : Ex} (h : ∀ g, ME X G g W e f) : PE X e (tMDX G W (mForce f)) := ⟨fun pins s σ H Q I ⟨g, w⟩ => (me_force (h g)).run pins s σ H Q I w⟩
theorem me_lc {elt tg iter : Expr} {ifs : List Expr} {scope : Scope} {own : List (Str × Nat)} {it : List S → R (List D)} {t : Tg} {tt : List S → R Bool} {f : Ex} (hc : X.calm = true) (hN : X.N.Nodup) (hi : MI X G g W tg iter it) (ok : BlkOk X.N X.env.scope scope own)
    (hg : ∀ (s : Shared) (H : Hp) (C : Addr) (cl : List (Str × Addr)) (fp : List Addr) (g : Gh), MG (X.blk s H scope (compEnvC scope cl C X.env) fp) G g tg t) (ht : ∀ (s : Shared) (H : Hp) (C : Addr) (cl : List (Str × Addr)) (fp : List Addr) (g : Gh), MTs (X.blk s H scope (compEnvC scope cl C X.env) fp) G g WF ifs tt)
    (he : ∀ (s : Shared) (H : Hp) (C : Addr) (cl : List (Str × Addr)) (fp : List Addr) (g : Gh), ME (X.blk s H scope (compEnvC scope cl C X.env) fp) G g WF elt f) (hv : ∀ i ∈ t.ixs, i ∈ own.map (·.2)) (hs : ∀ x, foldedSetIterable iter X.env x = pure x := by intro _; rfl) :
    ME X G g W (.ListComp elt [⟨tg, iter, ifs, 0⟩] scope pos) (mLc it t (own.map (·.2)) tt f) :=
  pe_imp (pe_lc hc hN hi ok (fun s H C cl fp => pg_ex (hg s H C cl fp)) (fun s H C cl fp => pts_ex (ht s H C cl fp)) (fun s H C cl fp => pd_ex (he s H C cl fp)) hs) fun _ _ _ => lc_go hv
theorem ms_setLc {i : Nat} {y : Str} {py spos : Pos} {elt tg iter : Expr} {ifs : List Expr} {scope : Scope} {own : List (Str × Nat)} {it : List S → R (List D)} {t : Tg} {tt : List S → R Bool} {f : Ex} (hc : X.calm = true) (hN : X.N.Nodup) (hy : X.N[i]? = some y) (hyl : X.env.scope.names.lookup y = some .local)
    (hsw : swapsWith (.ListComp elt [⟨tg, iter, ifs, 0⟩] scope pos) (some (.Name y py)) spos.line X.env = pure true) (hi : MI X G g W tg iter it) (ok : BlkOk X.N X.env.scope scope own)
    (hg : ∀ (s : Shared) (H : Hp) (C : Addr) (cl : List (Str × Addr)) (fp : List Addr) (g : Gh), MG (X.blk s H scope (compEnvC scope cl C X.env) fp) G g tg t) (ht : ∀ (s : Shared) (H : Hp) (C : Addr) (cl : List (Str × Addr)) (fp : List Addr) (g : Gh), MTs (X.blk s H scope (compEnvC scope cl C X.env) fp) G g WF ifs tt)
    (he : ∀ (s : Shared) (H : Hp) (C : Addr) (cl : List (Str × Addr)) (fp : List Addr) (g : Gh), ME (X.blk s H scope (compEnvC scope cl C X.env) fp) G g WF elt f) (hv : ∀ i ∈ t.ixs, i ∈ own.map (·.2)) (hs : ∀ x, foldedSetIterable iter X.env x = pure x := by intro _; rfl) :
    MS X G g W (.Assign [.Name y py] (.ListComp elt [⟨tg, iter, ifs, 0⟩] scope pos) spos) (sSet i (mLc it t (own.map (·.2)) tt f)) :=
  ps_imp (ps_setLc hc hN hy hyl hsw hi ok (fun s H C cl fp => pg_ex (hg s H C cl fp)) (fun s H C cl fp => pts_ex (ht s H C cl fp)) (fun s H C cl fp => pd_ex (he s H C cl fp)) hs) fun D σ H k => lc_go hv (set_go k)
end
end MM
set_option Elab.async false
set_option maxRecDepth 100000
set_option maxHeartbeats 2000000
namespace MM
open PySem PySem.Spec PyProof.Rows L2
/-! ### what a value is, by its data -/
section
variable {G : GG} {F H : Hp} {v : V}
theorem T_int {i : Int} (r : RepT G F H v (.int i)) : v = .int i := by
  rcases r with r | ⟨a, rfl, ow⟩
  · cases r; rfl
  · exact ow.elim
theorem T_bl {b : Bool} (r : RepT G F H v (.bl b)) : v = .bl b := by
  rcases r with r | ⟨a, rfl, ow⟩
  · cases r; rfl
  · exact ow.elim
theorem T_non (r : RepT G F H v .non) : v = .non := by
  rcases r with r | ⟨a, rfl, ow⟩
  · cases r; rfl
  · exact ow.elim
theorem T_str {l : List Nat} (r : RepT G F H v (.str l)) : ∃ z : Str, v = .str z ∧ z.cps.toList = l := by
  rcases r with r | ⟨a, rfl, ow⟩
  · cases r with
    | str h => exact ⟨_, rfl, h⟩
  · exact ow.elim
theorem T_lst {l : List D} (s : Same F H) (r : RepT G F H v (.lst l)) : ∃ a xs, v = .ref a ∧ H a = some (.lst xs) ∧ RepA G F xs l := by
  rcases r with r | ⟨a, rfl, ow⟩
  · cases r with
    | lst h ra => exact ⟨_, _, rfl, s _ _ h, ra⟩
  · obtain ⟨xs, h, ra⟩ := ow
    exact ⟨a, xs, rfl, h, ra⟩
theorem T_ro {l : List D} (s : Same F H) (r : RepT G F H v (.ro l)) : ∃ a xs, v = .ref a ∧ SqL G.K H a xs ∧ RepA G F xs l := by
  rcases r with r | ⟨a, rfl, ow⟩
  · cases r with
    | ro h ra => exact ⟨_, _, rfl, s.seq h, ra⟩
  · exact ow.elim
theorem T_tup {l : List D} (s : Same F H) (r : RepT G F H v (.tup l)) : ∃ a xs, v = .ref a ∧ SqT G.K H a xs ∧ RepA G F xs l := by
  rcases r with r | ⟨a, rfl, ow⟩
  · cases r with
    | tup h ra => exact ⟨_, _, rfl, sqT_same s h, ra⟩
  · exact ow.elim
theorem T_dic {l : List (Key × D)} (s : Same F H) (r : RepT G F H v (.dic l)) : ∃ a kvs, v = .ref a ∧ H a = some (.dK kvs) ∧ RepK G F kvs l := by
  rcases r with r | ⟨a, rfl, ow⟩
  · cases r with
    | dic h ra => exact ⟨_, _, rfl, s _ _ h, ra⟩
  · obtain ⟨xs, h, ra⟩ := ow
    exact ⟨a, xs, rfl, h, ra⟩
theorem str_len {z : Str} {l : List Nat} (h : z.cps.toList = l) : z.length = l.length := by
  rw [← h]
  rfl
theorem str_app {y z : Str} {l m : List Nat} (h : y.cps.toList = l) (k : z.cps.toList = m) : (y ++ z).cps.toList = l ++ m := by
  rw [← h, ← k]
  show (y.cps ++ z.cps).toList = _
  simp
/-- a new list, frozen or not, as an operation leaves it -/
theorem new_f {Q : VK} {l : List D} {xs : List V} (s : Same F H) (ra : RepA G F xs l) (k : ∀ F' H' w, Step F H F' H' → RepO G H F' H' w (.f (.lst l)) → Q w H') : ∀ p, H p = none → Q (.ref p) (upd H p (.lst xs)) := fun p n =>
  k F _ _ (Step.new s n) ⟨p, rfl, n, s.free n, xs, upd_same, ra⟩
theorem new_t {Q : VK} {l : List D} {xs : List V} (s : Same F H) (ra : RepA G F xs l) (k : ∀ F' H' w, Step F H F' H' → RepO G H F' H' w (.d (.tup l)) → Q w H') : ∀ p, H p = none → Q (.ref p) (upd H p (.tup xs)) := fun p n => by
  have st := Step.frozen (o := .tup xs) s n
  exact k _ _ _ st (.tup (.of upd_same) (ra.mono st.ff))
end
theorem opr_of {X : Cx} {f : Value → Value → Sem Value} {r r' : R2} (h : OpR X f r) (i : ∀ v u H Q, r' v u H Q → r v u H Q) : OpR X f r' := fun pins s σ H x y v u Q I rx ry q => h pins s σ H x y v u Q I rx ry (i _ _ _ _ q)
theorem unr_of {X : Cx} {f : Value → Sem Value} {r r' : V → Hp → VK → Prop} (h : UnR X f r) (i : ∀ v H Q, r' v H Q → r v H Q) : UnR X f r' := fun pins s σ H x v Q I rx q => h pins s σ H x v Q I rx (i _ _ _ q)
theorem callr_of {X : Cx} {f : Value} {r r' : List V → Hp → VK → Prop} (h : CallR X f r) (i : ∀ vs H Q, r' vs H Q → r vs H Q) : CallR X f r' := fun pins s σ H xs us Q I rx q => h pins s σ H xs us Q I rx (i _ _ _ q)
section
variable {X : Cx} {G : GG}
/-! ### + - * // % ** -/
def addD : D → D → Option RV
  | .int i, .int j => some (.d (.int (i + j)))
  | .int i, .bl k => some (.d (.int (i + b2i k)))
  | .str a, .str b => if a.length + b.length ≤ sizeLine then some (.d (.str (a ++ b))) else none
  | .lst a, .lst b => if a.length + b.length ≤ sizeLine then some (.f (.lst (a ++ b))) else none
  | .tup a, .tup b => if a.length + b.length ≤ sizeLine then some (.d (.tup (a ++ b))) else none
  | _, _ => none
theorem RepA.nil_iff {F : Hp} {xs : List V} {l : List D} (r : RepA G F xs l) : xs = [] ↔ l = [] := by
  cases r <;> simp
theorem o_add (hK : X.K = G.K) : OpR X (binaryOp .Add) (rD G addD) := by
  refine opr_of (op_add.or (op_add_ib.or (op_add_str.or (op_cat.or op_catA)))) fun v u H Q ⟨F, x, y, rv, s, rx, ry, e, k⟩ => ?_
  have fin : ∀ {w : V} {z : D}, rv = .d z → Rep G F w z → Q w H := fun {w z} e r => by
    subst e
    exact k F H w (.refl s) r
  unfold addD at e
  split at e
  · cases e
    cases T_int rx
    cases T_int ry
    exact .inl ⟨_, _, rfl, rfl, fin rfl (.int _)⟩
  · cases e
    cases T_int rx
    cases T_bl ry
    exact .inr (.inl ⟨_, _, rfl, rfl, fin rfl (.int _)⟩)
  · split at e
    · rename_i hz
      cases e
      obtain ⟨y1, rfl, h1⟩ := T_str rx
      obtain ⟨y2, rfl, h2⟩ := T_str ry
      exact .inr (.inr (.inl ⟨_, _, rfl, rfl, by rw [str_len h1, str_len h2]; exact hz, fin rfl (.str (str_app h1 h2))⟩))
    · cases e
  · split at e
    · rename_i hz
      cases e
      obtain ⟨a, xs, rfl, h1, r1⟩ := T_lst s rx
      obtain ⟨b, ys, rfl, h2, r2⟩ := T_lst s ry
      exact .inr (.inr (.inr (.inl ⟨a, b, xs, ys, rfl, rfl, h1, h2, by rw [r1.length, r2.length]; exact hz, new_f s (r1.append r2) k⟩)))
    · cases e
  · split at e
    · rename_i l m hz
      cases e
      obtain ⟨a, xs, rfl, h1, r1⟩ := T_tup s rx
      obtain ⟨b, ys, rfl, h2, r2⟩ := T_tup s ry
      rw [← hK] at h1 h2
      refine .inr (.inr (.inr (.inr ⟨a, b, xs, ys, rfl, rfl, h1, h2, by rw [r1.length, r2.length]; exact hz, fun hx => ?_, fun _ hy => ?_, fun _ _ => new_t s (r1.append r2) k⟩)))
      · have e1 := r1.nil_iff.mp hx
        subst e1
        refine fin rfl ?_
        rcases ry with r | ⟨_, _, ow⟩
        · exact r
        · exact ow.elim
      · have e1 := r2.nil_iff.mp hy
        subst e1
        refine fin rfl ?_
        rw [List.append_nil]
        rcases rx with r | ⟨_, _, ow⟩
        · exact r
        · exact ow.elim
    · cases e
  · cases e
def subD : D → D → Option RV
  | .int i, .int j => some (.d (.int (i - j)))
  | _, _ => none
theorem int2 {f : Value → Value → Sem Value} {C : Int → Int → Prop} {g : Int → Int → Int} {od : D → D → Option RV} (h : OpR X f (rI C fun i j => .int (g i j))) (e : ∀ x y rv, od x y = some rv → ∃ i j, x = .int i ∧ y = .int j ∧ C i j ∧ rv = .d (.int (g i j))) : OpR X f (rD G od) :=
  opr_of h fun v u H Q ⟨F, x, y, rv, s, rx, ry, eq, k⟩ => by
    obtain ⟨i, j, rfl, rfl, hc, rfl⟩ := e _ _ _ eq
    cases T_int rx
    cases T_int ry
    exact ⟨i, j, rfl, rfl, hc, k F H _ (.refl s) (.int _)⟩
theorem int20 {f : Value → Value → Sem Value} {g : Int → Int → Int} {od : D → D → Option RV} (h : OpR X f (rI0 fun i j => .int (g i j))) (e : ∀ x y rv, od x y = some rv → ∃ i j, x = .int i ∧ y = .int j ∧ rv = .d (.int (g i j))) : OpR X f (rD G od) :=
  opr_of h fun v u H Q ⟨F, x, y, rv, s, rx, ry, eq, k⟩ => by
    obtain ⟨i, j, rfl, rfl, rfl⟩ := e _ _ _ eq
    cases T_int rx
    cases T_int ry
    exact ⟨i, j, rfl, rfl, k F H _ (.refl s) (.int _)⟩
theorem sub_inv (x y : D) (rv : RV) (h : subD x y = some rv) : ∃ i j, x = .int i ∧ y = .int j ∧ rv = .d (.int (i - j)) := by
  unfold subD at h
  split at h
  · cases h; exact ⟨_, _, rfl, rfl, rfl⟩
  · cases h
theorem o_sub : OpR X (binaryOp .Sub) (rD G subD) := int20 op_sub sub_inv
theorem io_sub : OpR X (inplaceOp .Sub) (rD G subD) := int20 iop_sub sub_inv
def addI : D → D → Option RV
  | .int i, .int j => some (.d (.int (i + j)))
  | .str a, .str b => if a.length + b.length ≤ sizeLine then some (.d (.str (a ++ b))) else none
  | _, _ => none
theorem io_add : OpR X (inplaceOp .Add) (rD G addI) := by
  refine opr_of (iop_add.or iop_add_str) fun v u H Q ⟨F, x, y, rv, s, rx, ry, e, k⟩ => ?_
  unfold addI at e
  split at e
  · cases e
    cases T_int rx
    cases T_int ry
    exact .inl ⟨_, _, rfl, rfl, k F H _ (.refl s) (.int _)⟩
  · split at e
    · rename_i hz
      cases e
      obtain ⟨y1, rfl, h1⟩ := T_str rx
      obtain ⟨y2, rfl, h2⟩ := T_str ry
      exact .inr ⟨_, _, rfl, rfl, by rw [str_len h1, str_len h2]; exact hz, k F H _ (.refl s) (.str (str_app h1 h2))⟩
    · cases e
  · cases e
/-- factors that the model multiplies -/
def mulOk (i j : Int) : Bool := decide (i.natAbs.log2 + j.natAbs.log2 < 1000000)
def repL {α : Type} (n : Nat) (l : List α) : List α := (List.replicate n l).flatten
theorem repL_length {α : Type} (l : List α) : ∀ n : Nat, (repL n l).length = n * l.length
  | 0 => by simp [repL]
  | n + 1 => by
    have ih := repL_length l n
    unfold repL at ih ⊢
    rw [List.replicate_succ, List.flatten_cons, List.length_append, ih, Nat.succ_mul, Nat.add_comm]
def mulD : D → D → Option RV
  | .int i, .int j => if mulOk i j = true then some (.d (.int (i * j))) else none
  | .str l, .int k => if l.length * k.toNat ≤ sizeLine ∧ k ≤ 16777216 ∧ -(2 ^ 63) ≤ k then some (.d (.str (repL k.toNat l))) else none
  | .lst l, .int k => if l.length * k.toNat ≤ sizeLine ∧ k < 2 ^ 63 ∧ -(2 ^ 63) ≤ k then some (.f (.lst (repL k.toNat l))) else none
  | .tup l, .int k => if l ≠ [] ∧ 2 ≤ k ∧ k ≤ 1000 ∧ l.length ≤ 1000 then some (.d (.tup (repL k.toNat l))) else none
  | _, _ => none
theorem RepA.rep {F : Hp} {xs : List V} {l : List D} (r : RepA G F xs l) : ∀ n : Nat, RepA G F (repL n xs) (repL n l)
  | 0 => .nil
  | n + 1 => by
    unfold repL
    rw [List.replicate_succ, List.replicate_succ, List.flatten_cons, List.flatten_cons]
    exact r.append (r.rep n)
theorem foldl_app {α : Type} : ∀ (ls : List (Array α)) (acc : Array α), (ls.foldl (· ++ ·) acc).toList = acc.toList ++ (ls.map Array.toList).flatten
  | [], acc => by simp
  | a :: ls, acc => by
    rw [List.foldl_cons, foldl_app ls, List.map_cons, List.flatten_cons]
    simp
theorem rep_str (z : Str) (n : Nat) : ((List.replicate n z.cps).foldl (fun x1 x2 => x1 ++ x2) #[]).toList = repL n z.cps.toList := by
  rw [foldl_app]
  simp [repL, List.map_replicate]
theorem o_mulS : OpR X (binaryOp .Mult) (fun v u H Q => ∃ (z : Str) (k : Int), v = .str z ∧ u = .int k ∧ z.length * k.toNat ≤ sizeLine ∧ k ≤ 16777216 ∧ -(2 ^ 63) ≤ k ∧ ∀ w : Str, w.cps.toList = repL k.toNat z.cps.toList → Q (.str w) H) := by
  intro pins s σ H x y v u Q I rx ry h
  obtain ⟨z, k, rfl, rfl, h1, h2, h3, q⟩ := h
  obtain ⟨t, rfl⟩ := rx
  obtain ⟨t', rfl⟩ := ry
  have hs : sizeLine = 16777216 := sizeLine_eq
  have h1' : z.length * k.toNat ≤ 16777216 := by rw [← hs]; exact h1
  refine PySem.P.mul_str ?_ (fun hk hx => ?_) (fun hk hx => ?_) ?_
  · have e1 : decide (k < -(2 ^ 63 : Int)) = false := decide_eq_false (by omega)
    have e2 : decide (k ≥ 2 ^ 63) = false := decide_eq_false (by omega)
    rw [e1, e2]; rfl
  · have hz : z.length ≤ 16777216 := by
      have k1 : 1 ≤ k.toNat := by omega
      have := Nat.le_mul_of_pos_right z.length k1
      omega
    intro hgt
    have k0 : 0 < k := by omega
    have : (16777216 : Int) ≤ (2 ^ 63 - 1) / k := by
      rw [Int.le_ediv_iff_mul_le k0]
      omega
    omega
  · exact decide_eq_false (by omega)
  · split
    · rename_i hk
      refine ⟨by decide, .str Str.empty, H, I.tok _, ⟨_, rfl⟩, q _ ?_⟩
      have : k.toNat = 0 := by omega
      rw [this]
      rfl
    · rename_i hk
      split
      · rename_i hx
        refine ⟨.str z, H, I, ⟨_, rfl⟩, q _ ?_⟩
        rcases Bool.or_eq_true_iff.mp hx with e | e
        · have : k = 1 := beq_iff_eq.mp e
          subst this
          simp [repL]
        · have e0 : z.length = 0 := beq_iff_eq.mp e
          have e1 : z.cps.toList = [] := List.eq_nil_of_length_eq_zero e0
          rw [e1]
          unfold repL
          induction k.toNat with
          | zero => rfl
          | succ n ih => rw [List.replicate_succ, List.flatten_cons, ← ih]; rfl
      · refine ⟨?_, .str _, H, I.tok _, ⟨_, rfl⟩, q _ (rep_str z _)⟩
        have e : (⟨List.foldl (fun x1 x2 => x1 ++ x2) #[] (List.replicate k.toNat z.cps)⟩ : Str).length = z.length * k.toNat := by
          show (List.foldl (fun x1 x2 => x1 ++ x2) #[] (List.replicate k.toNat z.cps)).size = _
          rw [← Array.length_toList, rep_str]
          rw [repL_length, Nat.mul_comm]
          rfl
        rw [e]
        exact h1
theorem o_mul (hK : X.K = G.K) : OpR X (binaryOp .Mult) (rD G mulD) := by
  refine opr_of (op_mulW.or (o_mulS.or (op_rep.or op_repT))) fun v u H Q ⟨F, x, y, rv, s, rx, ry, e, k⟩ => ?_
  unfold mulD at e
  split at e
  · split at e
    · rename_i i j hz
      cases e
      cases T_int rx
      cases T_int ry
      exact .inl ⟨i, j, rfl, rfl, of_decide_eq_true (p := i.natAbs.log2 + j.natAbs.log2 < 1000000) hz, k F H _ (.refl s) (.int _)⟩
    · cases e
  · split at e
    · rename_i l n hz
      cases e
      obtain ⟨z, rfl, h1⟩ := T_str rx
      cases T_int ry
      exact .inr (.inl ⟨z, n, rfl, rfl, by rw [str_len h1]; exact hz.1, hz.2.1, hz.2.2, fun w hw => k F H _ (.refl s) (.str (by rw [hw, h1]))⟩)
    · cases e
  · split at e
    · rename_i l n hz
      cases e
      obtain ⟨a, xs, rfl, h1, r1⟩ := T_lst s rx
      cases T_int ry
      exact .inr (.inr (.inl ⟨a, n, xs, rfl, rfl, h1, hz.2.2, hz.2.1, by rw [r1.length]; exact hz.1, new_f s (r1.rep n.toNat) k⟩))
    · cases e
  · split at e
    · rename_i l n hz
      cases e
      obtain ⟨a, xs, rfl, h1, r1⟩ := T_tup s rx
      cases T_int ry
      rw [← hK] at h1
      exact .inr (.inr (.inr ⟨a, n, xs, rfl, rfl, h1, fun z => hz.1 (r1.nil_iff.mp z), hz.2.1, hz.2.2.1, by rw [r1.length]; exact hz.2.2.2, new_t s (r1.rep n.toNat) k⟩))
    · cases e
  · cases e
def mulI : D → D → Option RV
  | .int i, .int j => if mulOk i j = true then some (.d (.int (i * j))) else none
  | _, _ => none
theorem iop_mulW : OpR X (inplaceOp .Mult) (rI CMulW fun i j => .int (i * j)) := opI fun _ _ _ _ _ _ _ hc q => imul_int q hc.ok
theorem io_mul : OpR X (inplaceOp .Mult) (rD G mulI) := int2 iop_mulW fun x y rv h => by
  unfold mulI at h
  split at h
  · split at h
    · rename_i i j hz
      cases h
      exact ⟨i, j, rfl, rfl, of_decide_eq_true (p := i.natAbs.log2 + j.natAbs.log2 < 1000000) hz, rfl⟩
    · cases h
  · cases h
/-- // by a positive divisor that is not huge -/
def fdivD : D → D → Option RV
  | .int i, .int j => if 0 < j ∧ j.natAbs.log2 < 9000 then some (.d (.int (i / j))) else none
  | _, _ => none
theorem fdiv_inv (x y : D) (rv : RV) (h : fdivD x y = some rv) : ∃ i j, x = .int i ∧ y = .int j ∧ CDivW i j ∧ rv = .d (.int (i / j)) := by
  unfold fdivD at h
  split at h
  · split at h
    · rename_i hz
      cases h
      exact ⟨_, _, rfl, rfl, hz, rfl⟩
    · cases h
  · cases h
theorem o_fdiv : OpR X (binaryOp .FloorDiv) (rD G fdivD) := int2 op_fdivW fdiv_inv
theorem iop_fdivW : OpR X (inplaceOp .FloorDiv) (rI CDivW fun i j => .int (i / j)) := opI fun i j _ _ _ _ _ hc q => by
  have h1 : (0 : Int) < j := hc.1
  exact ifloordiv_int (by omega) (by rw [Int.fdiv_eq_ediv_of_nonneg i (by omega)]; exact q) (.inl (PyProof.noPylong_of_log2 hc.2))
theorem io_fdiv : OpR X (inplaceOp .FloorDiv) (rD G fdivD) := int2 iop_fdivW fdiv_inv
def modD : D → D → Option RV
  | .int i, .int j => if 0 < j then some (.d (.int (i % j))) else none
  | _, _ => none
theorem mod_inv (x y : D) (rv : RV) (h : modD x y = some rv) : ∃ i j, x = .int i ∧ y = .int j ∧ 0 < j ∧ rv = .d (.int (i % j)) := by
  unfold modD at h
  split at h
  · split at h
    · rename_i hz
      cases h
      exact ⟨_, _, rfl, rfl, hz, rfl⟩
    · cases h
  · cases h
theorem o_mod : OpR X (binaryOp .Mod) (rD G modD) := int2 op_mod mod_inv
theorem io_mod : OpR X (inplaceOp .Mod) (rD G modD) := int2 iop_mod mod_inv
def powD : D → D → Option RV
  | .int i, .int j => if 0 ≤ j ∧ (Builtin.Int.intBits i : Int) * j ≤ 2 ^ 27 then some (.d (.int (i ^ j.toNat))) else none
  | _, _ => none
theorem op_powW : OpR X (binaryOp .Pow) (rI (fun i j => 0 ≤ j ∧ (Builtin.Int.intBits i : Int) * j ≤ 2 ^ 27) fun i j => .int (i ^ j.toNat)) := opI fun _ _ _ _ _ _ _ hc q => pow_int hc.1 hc.2 q
theorem o_pow : OpR X (binaryOp .Pow) (rD G powD) := int2 op_powW fun x y rv h => by
  unfold powD at h
  split at h
  · split at h
    · rename_i hz
      cases h
      exact ⟨_, _, rfl, rfl, hz, rfl⟩
    · cases h
  · cases h
def negD : D → Option RV
  | .int i => some (.d (.int (-i)))
  | _ => none
theorem u_neg : UnR X (unaryOp .USub) (rD1 G negD) := unr_of un_neg fun v H Q ⟨F, x, rv, s, rx, e, k⟩ => by
  unfold negD at e
  split at e
  · cases e
    cases T_int rx
    exact ⟨_, rfl, k F H _ (.refl s) (.int _)⟩
  · cases e
/-! ### == != -/
mutual
def D.eqv : D → D → Bool
  | .non, .non => true
  | .bl a, .bl b => a == b
  | .bl a, .int j => (if a then 1 else 0) == j
  | .int i, .bl b => i == (if b then 1 else 0)
  | .int i, .int j => i == j
  | .str a, .str b => a == b
  | .lst a, .lst b => D.eqvs a b
  | .tup a, .tup b => D.eqvs a b
  | _, _ => false
def D.eqvs : List D → List D → Bool
  | [], [] => true
  | x :: xs, y :: ys => D.eqv x y && D.eqvs xs ys
  | _, _ => false
end
mutual
def D.toPy : D → PyData
  | .non => .none
  | .bl b => .bool b
  | .int i => .int i
  | .str l => .str ⟨l.toArray⟩
  | .lst l => .list (D.toPys l)
  | .tup l => .tuple (D.toPys l)
  | .dic _ => .none
  | .ins _ _ => .none
  | .ro _ => .none
def D.toPys : List D → List PyData
  | [] => []
  | x :: xs => x.toPy :: D.toPys xs
end
mutual
/-- data that == is known of: no dict, no object; signs of Unicode -/
def D.okq : D → Bool
  | .non => true
  | .bl _ => true
  | .int _ => true
  | .str l => l.all (· < 0x110000)
  | .lst l => D.okqs l
  | .tup l => D.okqs l
  | _ => false
def D.okqs : List D → Bool
  | [] => true
  | x :: xs => x.okq && D.okqs xs
end
mutual
def D.dep : D → Nat
  | .lst l => D.deps l + 1
  | .tup l => D.deps l + 1
  | _ => 0
def D.deps : List D → Nat
  | [] => 0
  | x :: xs => max x.dep (D.deps xs)
end
def okD (x : D) : Bool := x.okq && decide (x.dep ≤ 64)
mutual
theorem toPy_ok : ∀ x : D, x.okq = true → x.toPy.canLay0 = true
  | .non, _ => rfl
  | .bl _, _ => rfl
  | .int _, _ => rfl
  | .str l, h => by
    show PyData.strOk ⟨l.toArray⟩ = true
    unfold PyData.strOk
    have h : l.all (· < 0x110000) = true := h
    simpa using h
  | .lst l, h => toPys_ok l h
  | .tup l, h => toPys_ok l h
  | .dic _, h => by cases h
  | .ins _ _, h => by cases h
  | .ro _, h => by cases h
theorem toPys_ok : ∀ l : List D, D.okqs l = true → PyData.canLayAll0 (D.toPys l) = true
  | [], _ => rfl
  | x :: xs, h => by
    have h : (x.okq && D.okqs xs) = true := h
    obtain ⟨h1, h2⟩ := Bool.and_eq_true_iff.mp h
    show (x.toPy.canLay0 && PyData.canLayAll0 (D.toPys xs)) = true
    rw [toPy_ok x h1, toPys_ok xs h2]
    rfl
end
mutual
theorem toPy_dep : ∀ x : D, x.okq = true → x.toPy.depth = x.dep
  | .non, _ => rfl
  | .bl _, _ => rfl
  | .int _, _ => rfl
  | .str l, h => rfl
  | .lst l, h => congrArg (· + 1) (toPys_dep l h)
  | .tup l, h => congrArg (· + 1) (toPys_dep l h)
  | .dic _, h => by cases h
  | .ins _ _, h => by cases h
  | .ro _, h => by cases h
theorem toPys_dep : ∀ l : List D, D.okqs l = true → PyData.depthAll (D.toPys l) = D.deps l
  | [], _ => rfl
  | x :: xs, h => by
    have h : (x.okq && D.okqs xs) = true := h
    obtain ⟨h1, h2⟩ := Bool.and_eq_true_iff.mp h
    show max x.toPy.depth (PyData.depthAll (D.toPys xs)) = max x.dep (D.deps xs)
    rw [toPy_dep x h1, toPys_dep xs h2]
end
theorem shaped_toPy {x : D} (h : okD x = true) : SeqAt.shaped x.toPy = true := by
  obtain ⟨h1, h2⟩ := Bool.and_eq_true_iff.mp h
  unfold SeqAt.shaped
  rw [toPy_ok x h1, toPy_dep x h1]
  exact h2
theorem str_beq (a b : List Nat) : ((⟨a.toArray⟩ : Str) == ⟨b.toArray⟩) = (a == b) := by
  rw [Bool.eq_iff_iff]
  simp
mutual
theorem toPy_eqv : ∀ x y : D, x.okq = true → y.okq = true → PyData.eqv x.toPy y.toPy = D.eqv x y
  | .non, .non, _, _ => rfl
  | .non, .bl _, _, _ => rfl
  | .non, .int _, _, _ => rfl
  | .non, .str _, _, _ => rfl
  | .non, .lst _, _, _ => rfl
  | .non, .tup _, _, _ => rfl
  | .bl _, .non, _, _ => rfl
  | .bl _, .bl _, _, _ => rfl
  | .bl _, .int _, _, _ => rfl
  | .bl _, .str _, _, _ => rfl
  | .bl _, .lst _, _, _ => rfl
  | .bl _, .tup _, _, _ => rfl
  | .int _, .non, _, _ => rfl
  | .int _, .bl _, _, _ => rfl
  | .int _, .int _, _, _ => rfl
  | .int _, .str _, _, _ => rfl
  | .int _, .lst _, _, _ => rfl
  | .int _, .tup _, _, _ => rfl
  | .str _, .non, _, _ => rfl
  | .str _, .bl _, _, _ => rfl
  | .str _, .int _, _, _ => rfl
  | .str a, .str b, _, _ => str_beq a b
  | .str _, .lst _, _, _ => rfl
  | .str _, .tup _, _, _ => rfl
  | .lst _, .non, _, _ => rfl
  | .lst _, .bl _, _, _ => rfl
  | .lst _, .int _, _, _ => rfl
  | .lst _, .str _, _, _ => rfl
  | .lst a, .lst b, h, k => toPys_eqv a b h k
  | .lst _, .tup _, _, _ => rfl
  | .tup _, .non, _, _ => rfl
  | .tup _, .bl _, _, _ => rfl
  | .tup _, .int _, _, _ => rfl
  | .tup _, .str _, _, _ => rfl
  | .tup _, .lst _, _, _ => rfl
  | .tup a, .tup b, h, k => toPys_eqv a b h k
  | .dic _, _, h, _ => by cases h
  | .ins _ _, _, h, _ => by cases h
  | .ro _, _, h, _ => by cases h
  | _, .dic _, _, h => by cases h
  | _, .ins _ _, _, h => by cases h
  | _, .ro _, _, h => by cases h
theorem toPys_eqv : ∀ x y : List D, D.okqs x = true → D.okqs y = true → PyData.eqvAll (D.toPys x) (D.toPys y) = D.eqvs x y
  | [], [], _, _ => rfl
  | [], _ :: _, _, _ => rfl
  | _ :: _, [], _, _ => rfl
  | x :: xs, y :: ys, h, k => by
    have h : (x.okq && D.okqs xs) = true := h
    have k : (y.okq && D.okqs ys) = true := k
    obtain ⟨h1, h2⟩ := Bool.and_eq_true_iff.mp h
    obtain ⟨k1, k2⟩ := Bool.and_eq_true_iff.mp k
    show (PyData.eqv x.toPy y.toPy && PyData.eqvAll (D.toPys xs) (D.toPys ys)) = (D.eqv x y && D.eqvs xs ys)
    rw [toPy_eqv x y h1 k1, toPys_eqv xs ys h2 k2]
end
mutual
theorem toPy_dp {F H : Hp} (s : Same F H) : ∀ {v : V} {x : D}, Rep G F v x → x.okq = true → Dp G.K H v x.toPy
  | _, _, .non, _ => .non
  | _, _, .bl b, _ => .bl b
  | _, _, .int i, _ => .int i
  | _, _, .str (x := z) (l := l) e, _ => by
    subst e
    exact .str z
  | _, _, .lst h r, k => .lst (.of (s _ _ h)) (toPys_dp s r k)
  | _, _, .tup h r, k => .tup (sqT_same s h) (toPys_dp s r k)
  | _, _, .dic _ _, k => by cases k
  | _, _, .ins _ _ _, k => by cases k
  | _, _, .ro _ _, k => by cases k
theorem toPys_dp {F H : Hp} (s : Same F H) : ∀ {v : List V} {x : List D}, RepA G F v x → D.okqs x = true → DpAll G.K H v (D.toPys x)
  | _, _, .nil, _ => .nil
  | _, _, .cons (d := d) (ds := ds) h r, k => by
    have k : (d.okq && D.okqs ds) = true := k
    obtain ⟨k1, k2⟩ := Bool.and_eq_true_iff.mp k
    exact .cons (toPy_dp s h k1) (toPys_dp s r k2)
end
theorem toPy_dpT {F H : Hp} (s : Same F H) {v : V} {x : D} (r : RepT G F H v x) (k : x.okq = true) : Dp G.K H v x.toPy := by
  rcases r with r | ⟨a, rfl, ow⟩
  · exact toPy_dp s r k
  · cases x with
    | lst l =>
      obtain ⟨xs, h, ra⟩ := ow
      exact .lst (.of h) (toPys_dp s ra k)
    | dic _ => cases k
    | _ => exact ow.elim
/-- == as a Bool, where it is known -/
def eqB (x y : D) : Option Bool := match x, y with
  | .str a, .str b => some (a == b)
  | x, y => if okD x = true ∧ okD y = true then some (D.eqv x y) else none
def eqD (x y : D) : Option RV := (eqB x y).map fun b => .d (.bl b)
def neD (x y : D) : Option RV := (eqB x y).map fun b => .d (.bl (!b))
theorem eqB_ok {F H : Hp} {v u : V} {x y : D} {b : Bool} (s : Same F H) (rx : RepT G F H v x) (ry : RepT G F H u y) (e : eqB x y = some b) :
    (∃ z w : Str, v = .str z ∧ u = .str w ∧ b = decide (V.str z = V.str w)) ∨ ∃ d d', Dp G.K H v d ∧ Dp G.K H u d' ∧ SeqAt.shaped d = true ∧ SeqAt.shaped d' = true ∧ b = PyData.eqv d d' := by
  have gen : okD x = true ∧ okD y = true → b = D.eqv x y → ∃ d d', Dp G.K H v d ∧ Dp G.K H u d' ∧ SeqAt.shaped d = true ∧ SeqAt.shaped d' = true ∧ b = PyData.eqv d d' := fun ⟨h1, h2⟩ e => by
    have k1 := (Bool.and_eq_true_iff.mp h1).1
    have k2 := (Bool.and_eq_true_iff.mp h2).1
    exact ⟨x.toPy, y.toPy, toPy_dpT s rx k1, toPy_dpT s ry k2, shaped_toPy h1, shaped_toPy h2, by rw [toPy_eqv x y k1 k2]; exact e⟩
  unfold eqB at e
  split at e
  · cases e
    obtain ⟨z, rfl, h1⟩ := T_str rx
    obtain ⟨w, rfl, h2⟩ := T_str ry
    refine .inl ⟨z, w, rfl, rfl, ?_⟩
    subst h1 h2
    rw [Bool.eq_iff_iff]
    constructor
    · intro h
      have h : z.cps.toList = w.cps.toList := beq_iff_eq.mp h
      have : z = w := by
        cases z; cases w
        simpa using h
      rw [this]
      simp
    · intro h
      have h := V.str.inj (of_decide_eq_true h)
      rw [h]
      simp
  · split at e
    · rename_i h
      cases e
      exact .inr (gen h rfl)
    · cases e
theorem o_eq (hK : X.K = G.K) (hu : X.A.units + 64 < cLine) : OpR X (compareOp .Eq) (rD G eqD) := opr_of (op_eq.or (op_eqD hu)) fun v u H Q ⟨F, x, y, rv, s, rx, ry, e, k⟩ => by
  unfold eqD at e
  cases q : eqB x y with
  | none => rw [q] at e; cases e
  | some b =>
    rw [q] at e
    cases e
    have kk := k F H (.bl b) (.refl s) (.bl b)
    rcases eqB_ok s rx ry q with ⟨z, w, rfl, rfl, rfl⟩ | ⟨d, d', h1, h2, h3, h4, rfl⟩
    · exact .inl ⟨rfl, kk⟩
    · rw [← hK] at h1 h2
      exact .inr ⟨d, d', h1, h2, h3, h4, kk⟩
theorem o_ne (hK : X.K = G.K) (hu : X.A.units + 64 < cLine) : OpR X (compareOp .NotEq) (rD G neD) := opr_of (op_ne.or (op_neD hu)) fun v u H Q ⟨F, x, y, rv, s, rx, ry, e, k⟩ => by
  unfold neD at e
  cases q : eqB x y with
  | none => rw [q] at e; cases e
  | some b =>
    rw [q] at e
    cases e
    have kk := k F H (.bl (!b)) (.refl s) (.bl (!b))
    rcases eqB_ok s rx ry q with ⟨z, w, rfl, rfl, rfl⟩ | ⟨d, d', h1, h2, h3, h4, rfl⟩
    · exact .inl ⟨rfl, kk⟩
    · rw [← hK] at h1 h2
      exact .inr ⟨d, d', h1, h2, h3, h4, kk⟩
end
end MM
set_option Elab.async false
set_option maxRecDepth 100000
set_option maxHeartbeats 2000000
namespace MM
open PySem PySem.Spec PyProof.Rows L2
section
variable {X : Cx} {G : GG} {g : Gh} {W : WX} {pos p apos : Pos}
/-! ### < <= > >= -/
def cmpD (fi : Int → Int → Bool) (fs : List Nat → List Nat → Bool) : D → D → Option RV
  | .int i, .int j => some (.d (.bl (fi i j)))
  | .str a, .str b => some (.d (.bl (fs a b)))
  | _, _ => none
def ltD : D → D → Option RV := cmpD (fun i j => decide (i < j)) fun a b => decide (a < b)
def leD : D → D → Option RV := cmpD (fun i j => decide (i ≤ j)) fun a b => !decide (b < a)
def gtD : D → D → Option RV := cmpD (fun i j => decide (j < i)) fun a b => decide (b < a)
def geD : D → D → Option RV := cmpD (fun i j => decide (j ≤ i)) fun a b => !decide (a < b)
theorem o_cmp {f : Value → Value → Sem Value} {fi : Int → Int → Bool} {fs : List Nat → List Nat → Bool} (h1 : OpR X f (rI0 fun i j => .bl (fi i j))) (h2 : OpR X f (fun x y H Q => ∃ i j, x = .str i ∧ y = .str j ∧ Q (.bl (fs i.cps.toList j.cps.toList)) H)) : OpR X f (rD G (cmpD fi fs)) :=
  opr_of (h1.or h2) fun v u H Q ⟨F, x, y, rv, s, rx, ry, e, k⟩ => by
    unfold cmpD at e
    split at e
    · cases e
      cases T_int rx
      cases T_int ry
      exact .inl ⟨_, _, rfl, rfl, k F H _ (.refl s) (.bl _)⟩
    · cases e
      obtain ⟨z, rfl, h1⟩ := T_str rx
      obtain ⟨w, rfl, h2⟩ := T_str ry
      refine .inr ⟨z, w, rfl, rfl, ?_⟩
      rw [h1, h2]
      exact k F H _ (.refl s) (.bl _)
    · cases e
theorem o_lt : OpR X (compareOp .Lt) (rD G ltD) := o_cmp op_lt op_lt_str
theorem o_le : OpR X (compareOp .LtE) (rD G leD) := o_cmp op_le op_le_str
theorem o_gt : OpR X (compareOp .Gt) (rD G gtD) := o_cmp op_gt op_gt_str
theorem o_ge : OpR X (compareOp .GtE) (rD G geD) := o_cmp op_ge op_ge_str
/-! ### in, not in -/
def flatD : D → Bool
  | .non => true
  | .bl _ => true
  | .int _ => true
  | .str _ => true
  | _ => false
def inL (x : D) (l : List D) : Bool := l.any fun y => D.eqv y x
def inB : D → D → Option Bool
  | .str [c], .str l => some (decide (c ∈ l))
  | x, .lst l => if flatD x = true ∧ l.all flatD = true then some (inL x l) else none
  | x, .tup l => if flatD x = true ∧ l.all flatD = true then some (inL x l) else none
  | x, .ro l => if flatD x = true ∧ l.all flatD = true then some (inL x l) else none
  | _, _ => none
def inD (x y : D) : Option RV := (inB x y).map fun b => .d (.bl b)
def notInD (x y : D) : Option RV := (inB x y).map fun b => .d (.bl (!b))
theorem flat_ok {F H : Hp} {v : V} {x : D} (r : RepT G F H v x) (h : flatD x = true) : flatV v = true := by
  cases x with
  | non => rw [T_non r]; rfl
  | bl b => rw [T_bl r]; rfl
  | int i => rw [T_int r]; rfl
  | str l => obtain ⟨z, rfl, _⟩ := T_str r; rfl
  | _ => cases h
theorem flats_ok {F : Hp} : ∀ {vs : List V} {l : List D}, RepA G F vs l → l.all flatD = true → vs.all flatV = true
  | _, _, .nil, _ => rfl
  | _, _, .cons h r, k => by
    rw [List.all_cons, Bool.and_eq_true] at k
    rw [List.all_cons, flat_ok (H := F) (.inl h) k.1, flats_ok r k.2]
    rfl
theorem str_eq_iff (z w : Str) : (z == w) = (z.cps.toList == w.cps.toList) := by
  rw [Bool.eq_iff_iff]
  cases z; cases w
  simp
theorem eqV_ok {F H : Hp} {v u : V} {x y : D} (r : RepT G F H v x) (q : RepT G F H u y) (h : flatD x = true) (k : flatD y = true) : eqV v u = D.eqv x y := by
  cases x with
  | non =>
    rw [T_non r]
    cases y with
    | non => rw [T_non q]; rfl
    | bl b => rw [T_bl q]; rfl
    | int i => rw [T_int q]; rfl
    | str l => obtain ⟨z, rfl, _⟩ := T_str q; rfl
    | _ => cases k
  | bl b =>
    rw [T_bl r]
    cases y with
    | non => rw [T_non q]; rfl
    | bl b => rw [T_bl q]; rfl
    | int i => rw [T_int q]; rfl
    | str l => obtain ⟨z, rfl, _⟩ := T_str q; rfl
    | _ => cases k
  | int i =>
    rw [T_int r]
    cases y with
    | non => rw [T_non q]; rfl
    | bl b => rw [T_bl q]; rfl
    | int i => rw [T_int q]; rfl
    | str l => obtain ⟨z, rfl, _⟩ := T_str q; rfl
    | _ => cases k
  | str l =>
    obtain ⟨z, rfl, h1⟩ := T_str r
    cases y with
    | non => rw [T_non q]; rfl
    | bl b => rw [T_bl q]; rfl
    | int i => rw [T_int q]; rfl
    | str m =>
      obtain ⟨w, rfl, h2⟩ := T_str q
      show (z == w) = (l == m)
      rw [str_eq_iff, h1, h2]
    | _ => cases k
  | _ => cases h
theorem inL_ok {F H : Hp} {u : V} {x : D} (s : Same F H) (q : RepT G F H u x) (h : flatD x = true) : ∀ {vs : List V} {l : List D}, RepA G F vs l → l.all flatD = true → inV u vs = inL x l
  | _, _, .nil, _ => rfl
  | _, _, .cons a r, k => by
    rw [List.all_cons, Bool.and_eq_true] at k
    have ih := inL_ok s q h r k.2
    unfold inV at ih ⊢
    unfold inL at ih ⊢
    rw [List.any_cons, List.any_cons, ih, eqV_ok (.inl a) q k.1 h]
theorem inB_ok {F H : Hp} {v u : V} {x y : D} {b : Bool} (s : Same F H) (rx : RepT G F H v x) (ry : RepT G F H u y) (e : inB x y = some b) :
    (∃ (c : Nat) (z : Str), v = .str ⟨#[c]⟩ ∧ u = .str z ∧ b = decide (c ∈ z.cps.toList)) ∨ ∃ p xs, u = .ref p ∧ (SqL G.K H p xs ∨ SqT G.K H p xs) ∧ flatV v = true ∧ xs.all flatV = true ∧ b = inV v xs := by
  unfold inB at e
  split at e
  · cases e
    obtain ⟨z, rfl, h1⟩ := T_str rx
    obtain ⟨w, rfl, h2⟩ := T_str ry
    rename_i c l
    refine .inl ⟨c, w, ?_, rfl, by rw [h2]⟩
    cases z with
    | mk a =>
      have : a = #[c] := by
        apply Array.toList_inj.mp
        exact h1
      rw [this]
  · split at e
    · rename_i h
      cases e
      obtain ⟨a, xs, rfl, h1, r1⟩ := T_lst s ry
      exact .inr ⟨a, xs, rfl, .inl (.of h1), flat_ok rx h.1, flats_ok r1 h.2, (inL_ok s rx h.1 r1 h.2).symm⟩
    · cases e
  · split at e
    · rename_i h
      cases e
      obtain ⟨a, xs, rfl, h1, r1⟩ := T_tup s ry
      exact .inr ⟨a, xs, rfl, .inr h1, flat_ok rx h.1, flats_ok r1 h.2, (inL_ok s rx h.1 r1 h.2).symm⟩
    · cases e
  · split at e
    · rename_i h
      cases e
      obtain ⟨a, xs, rfl, h1, r1⟩ := T_ro s ry
      exact .inr ⟨a, xs, rfl, .inl h1, flat_ok rx h.1, flats_ok r1 h.2, (inL_ok s rx h.1 r1 h.2).symm⟩
    · cases e
  · cases e
theorem o_in (hK : X.K = G.K) : OpR X (compareOp .In) (rD G inD) := opr_of (op_in_sign.or op_in_seq) fun v u H Q ⟨F, x, y, rv, s, rx, ry, e, k⟩ => by
  unfold inD at e
  cases q : inB x y with
  | none => rw [q] at e; cases e
  | some b =>
    rw [q] at e
    cases e
    have kk := k F H (.bl b) (.refl s) (.bl b)
    rcases inB_ok s rx ry q with ⟨c, z, rfl, rfl, rfl⟩ | ⟨a, xs, rfl, h1, h2, h3, rfl⟩
    · exact .inl ⟨c, z, rfl, rfl, kk⟩
    · rw [← hK] at h1
      exact .inr ⟨a, xs, rfl, h1, h2, h3, kk⟩
theorem o_notIn (hK : X.K = G.K) : OpR X (compareOp .NotIn) (rD G notInD) := opr_of (op_notIn_sign.or op_notIn_seq) fun v u H Q ⟨F, x, y, rv, s, rx, ry, e, k⟩ => by
  unfold notInD at e
  cases q : inB x y with
  | none => rw [q] at e; cases e
  | some b =>
    rw [q] at e
    cases e
    have kk := k F H (.bl (!b)) (.refl s) (.bl (!b))
    rcases inB_ok s rx ry q with ⟨c, z, rfl, rfl, rfl⟩ | ⟨a, xs, rfl, h1, h2, h3, rfl⟩
    · exact .inl ⟨c, z, rfl, rfl, kk⟩
    · rw [← hK] at h1
      exact .inr ⟨a, xs, rfl, h1, h2, h3, kk⟩
/-! ### is None -/
def isND : D → D → Option RV
  | .non, .non => some (.d (.bl true))
  | .int _, .non => some (.d (.bl false))
  | .bl _, .non => some (.d (.bl false))
  | .str _, .non => some (.d (.bl false))
  | .lst _, .non => some (.d (.bl false))
  | .tup _, .non => some (.d (.bl false))
  | .dic _, .non => some (.d (.bl false))
  | .ins _ _, .non => some (.d (.bl false))
  | _, _ => none
theorem rep_notNon {F H : Hp} {v : V} {x : D} (r : RepT G F H v x) (h : x ≠ .non) : v ≠ .non := by
  rcases r with r | ⟨a, rfl, ow⟩
  · cases r <;> first | exact absurd rfl h | (intro z; cases z)
  · intro z; cases z
theorem isN_ok {F H : Hp} {v u : V} {x y : D} {b : Bool} (rx : RepT G F H v x) (ry : RepT G F H u y) (e : isND x y = some (.d (.bl b))) : u = .non ∧ decide (v = .non) = b := by
  have : y = .non := by
    unfold isND at e
    split at e <;> first | rfl | cases e
  subst this
  refine ⟨T_non ry, ?_⟩
  cases x with
  | non =>
    cases e
    rw [T_non rx]
    rfl
  | ro _ => cases e
  | _ =>
    cases e
    exact decide_eq_false (rep_notNon rx (fun z => by cases z))
theorem isND_bl {x y : D} {rv : RV} (e : isND x y = some rv) : ∃ b, rv = .d (.bl b) := by
  unfold isND at e
  split at e <;> first | (cases e; exact ⟨_, rfl⟩) | cases e
theorem o_isN : OpR X (compareOp .Is) (rD G isND) := opr_of op_isN fun v u H Q ⟨F, x, y, rv, s, rx, ry, e, k⟩ => by
  obtain ⟨b, rfl⟩ := isND_bl e
  obtain ⟨h1, h2⟩ := isN_ok rx ry e
  exact ⟨h1, by rw [h2]; exact k F H _ (.refl s) (.bl _)⟩
def notND (x y : D) : Option RV := match isND x y with
  | some (.d (.bl b)) => some (.d (.bl (!b)))
  | _ => none
theorem o_notN : OpR X (compareOp .IsNot) (rD G notND) := opr_of op_notN fun v u H Q ⟨F, x, y, rv, s, rx, ry, e, k⟩ => by
  unfold notND at e
  split at e
  · rename_i b q
    cases e
    obtain ⟨h1, h2⟩ := isN_ok rx ry q
    exact ⟨h1, by rw [h2]; exact k F H _ (.refl s) (.bl _)⟩
  · cases e
/-! ### subscripts, slices -/
def ixD : D → D → Option RV
  | .lst l, .int i => (atI l i).map .d
  | .ro l, .int i => (atI l i).map .d
  | .tup l, .int i => (atI l i).map .d
  | .str l, .int i => if l.length ≤ sizeLine then (atI l i).map fun c => .d (.str [c]) else none
  | _, _ => none
theorem atI_rep {F : Hp} {vs : List V} {l : List D} {i : Int} {x : D} (r : RepA G F vs l) (e : atI l i = some x) : ∃ v, atI vs i = some v ∧ Rep G F v x := by
  unfold atI at e ⊢
  rw [r.length]
  cases q : ixN l.length i with
  | none => rw [q] at e; cases e
  | some j =>
    rw [q] at e
    exact r.get e
theorem i_ix (hK : X.K = G.K) : IxR X (rD G ixD) := fun value slice pins s σ H x y v u Q => by
  have base := ix_seq (X := X) value slice pins s σ H x y v u Q
  intro I rx ry h hs
  refine base I rx ry ?_ hs
  obtain ⟨F, dx, dy, rv, sF, r1, r2, e, k⟩ := h
  unfold ixD at e
  split at e
  · cases T_int r2
    rename_i l i
    cases q : atI l i with
    | none => rw [q] at e; cases e
    | some z =>
      rw [q] at e
      cases e
      obtain ⟨a, xs, rfl, h1, ra⟩ := T_lst sF r1
      obtain ⟨w, h2, h3⟩ := atI_rep ra q
      exact .inl ⟨a, xs, i, w, rfl, rfl, .of h1, h2, k F H _ (.refl sF) h3⟩
  · cases T_int r2
    rename_i l i
    cases q : atI l i with
    | none => rw [q] at e; cases e
    | some z =>
      rw [q] at e
      cases e
      obtain ⟨a, xs, rfl, h1, ra⟩ := T_ro sF r1
      obtain ⟨w, h2, h3⟩ := atI_rep ra q
      rw [← hK] at h1
      exact .inl ⟨a, xs, i, w, rfl, rfl, h1, h2, k F H _ (.refl sF) h3⟩
  · cases T_int r2
    rename_i l i
    cases q : atI l i with
    | none => rw [q] at e; cases e
    | some z =>
      rw [q] at e
      cases e
      obtain ⟨a, xs, rfl, h1, ra⟩ := T_tup sF r1
      obtain ⟨w, h2, h3⟩ := atI_rep ra q
      rw [← hK] at h1
      exact .inr (.inl ⟨a, xs, i, w, rfl, rfl, h1, h2, k F H _ (.refl sF) h3⟩)
  · cases T_int r2
    rename_i l i
    split at e
    · rename_i hz
      cases q : atI l i with
      | none => rw [q] at e; cases e
      | some c =>
        rw [q] at e
        cases e
        obtain ⟨z, rfl, h1⟩ := T_str r1
        exact .inr (.inr ⟨z, i, c, rfl, rfl, by rw [str_len h1]; exact hz, by rw [h1]; exact q, k F H _ (.refl sF) (.str rfl)⟩)
    · cases e
  · cases e
def cutL {α : Type} (xs : List α) (lo hi : Option Int) : List α := (xs.drop (HT.sIx xs.length 0 lo)).take (HT.sIx xs.length xs.length hi - HT.sIx xs.length 0 lo)
theorem RepA.cut {F : Hp} {vs : List V} {l : List D} (r : RepA G F vs l) (lo hi : Option Int) : RepA G F (cutV vs lo hi) (cutL l lo hi) := by
  unfold cutV cutL
  rw [r.length]
  exact (r.drop _).take _
def sliceD : D → Option Int → Option Int → Option RV
  | .lst l, lo, hi => some (.f (.lst (cutL l lo hi)))
  | .tup l, lo, hi => some (.d (.tup (cutL l lo hi)))
  | .str l, lo, hi => if l.length ≤ sizeLine then some (.d (.str (cutL l lo hi))) else none
  | _, _, _ => none
theorem cutL_all {α : Type} {l : List α} {lo hi : Option Int} (h : HT.sIx l.length 0 lo = 0 ∧ HT.sIx l.length l.length hi = l.length) : cutL l lo hi = l := by
  unfold cutL
  rw [h.1, h.2]
  simp
theorem s_slice (hK : X.K = G.K) : SlR X (rSD G sliceD) := fun pins s σ H x v vl vu lo hi sl Q => by
  have base := (sl_list (X := X)).or ((sl_tupA (X := X)).or (sl_str (X := X))) pins s σ H x v vl vu lo hi sl Q
  intro I rx hs pl pu h
  refine base I rx hs pl pu ?_
  obtain ⟨F, dx, rv, sF, r1, e, k⟩ := h
  unfold sliceD at e
  split at e
  · cases e
    obtain ⟨a, xs, rfl, h1, ra⟩ := T_lst sF r1
    exact .inl ⟨a, xs, rfl, .of h1, new_f sF (ra.cut _ _) k⟩
  · cases e
    obtain ⟨a, xs, rfl, h1, ra⟩ := T_tup sF r1
    rw [← hK] at h1
    refine .inr (.inl ⟨a, xs, rfl, h1, fun hw => ?_, fun _ => new_t sF (ra.cut _ _) k⟩)
    rw [ra.length] at hw
    refine k F H _ (.refl sF) ?_
    rw [cutL_all hw]
    rcases r1 with r | ⟨_, _, ow⟩
    · exact r
    · exact ow.elim
  · split at e
    · rename_i hz
      cases e
      obtain ⟨z, rfl, h1⟩ := T_str r1
      refine .inr (.inr ⟨z, rfl, by rw [str_len h1]; exact hz, k F H _ (.refl sF) (.str ?_)⟩)
      subst h1
      unfold cutS cutL
      rfl
    · cases e
  · cases e
/-! ### built-in functions -/
theorem Ts1 {F H : Hp} {vs : List V} {x : D} (r : RepTs G F H vs [x]) : ∃ v, vs = [v] ∧ RepT G F H v x := by
  cases r with
  | cons h t => cases t; exact ⟨_, rfl, h⟩
theorem Ts2 {F H : Hp} {vs : List V} {x y : D} (r : RepTs G F H vs [x, y]) : ∃ v u, vs = [v, u] ∧ RepT G F H v x ∧ RepT G F H u y := by
  cases r with
  | cons h t =>
    obtain ⟨u, rfl, h2⟩ := Ts1 t
    exact ⟨_, _, rfl, h, h2⟩
def lenD : List D → Option RV
  | [.lst l] => some (.d (.int l.length))
  | [.ro l] => some (.d (.int l.length))
  | [.tup l] => some (.d (.int l.length))
  | [.str l] => if l.length ≤ sizeLine then some (.d (.int l.length)) else none
  | _ => none
theorem c_len (hK : X.K = G.K) : CallR X (.builtin "len") (rCD G lenD) := callr_of (call_len_seq.or call_len_str) fun vs H Q ⟨F, xs, rv, s, rs, e, k⟩ => by
  unfold lenD at e
  split at e
  · cases e
    obtain ⟨v, rfl, r⟩ := Ts1 rs
    obtain ⟨a, ys, rfl, h1, ra⟩ := T_lst s r
    exact .inl ⟨a, ys, rfl, .inl (.of h1), k F H _ (.refl s) (by rw [ra.length]; exact .int _)⟩
  · cases e
    obtain ⟨v, rfl, r⟩ := Ts1 rs
    obtain ⟨a, ys, rfl, h1, ra⟩ := T_ro s r
    rw [← hK] at h1
    exact .inl ⟨a, ys, rfl, .inl h1, k F H _ (.refl s) (by rw [ra.length]; exact .int _)⟩
  · cases e
    obtain ⟨v, rfl, r⟩ := Ts1 rs
    obtain ⟨a, ys, rfl, h1, ra⟩ := T_tup s r
    rw [← hK] at h1
    exact .inl ⟨a, ys, rfl, .inr h1, k F H _ (.refl s) (by rw [ra.length]; exact .int _)⟩
  · split at e
    · rename_i hz
      cases e
      obtain ⟨v, rfl, r⟩ := Ts1 rs
      obtain ⟨z, rfl, h1⟩ := T_str r
      exact .inr ⟨z, rfl, by rw [str_len h1]; exact hz, k F H _ (.refl s) (by rw [str_len h1]; exact .int _)⟩
    · cases e
  · cases e
def absD : List D → Option RV
  | [.int i] => some (.d (.int (if i < 0 then -i else i)))
  | _ => none
theorem c_abs : CallR X (.builtin "abs") (rCD G absD) := callr_of call_abs fun vs H Q ⟨F, xs, rv, s, rs, e, k⟩ => by
  unfold absD at e
  split at e
  · cases e
    obtain ⟨v, rfl, r⟩ := Ts1 rs
    cases T_int r
    exact ⟨_, rfl, k F H _ (.refl s) (.int _)⟩
  · cases e
/-- max, min of two numbers, of a list of numbers -/
def maxI : List Int → Option Int
  | [] => none
  | [i] => some i
  | i :: r => (maxI r).map fun m => if m > i then m else i
def minI : List Int → Option Int
  | [] => none
  | [i] => some i
  | i :: r => (minI r).map fun m => if m < i then m else i
def intsD : List D → Option (List Int)
  | [] => some []
  | .int i :: r => (intsD r).map (i :: ·)
  | _ :: _ => none
theorem intsD_rep {F : Hp} : ∀ {l : List D} {ns : List Int} {vs : List V}, intsD l = some ns → RepA G F vs l → vs = ns.map V.int
  | [], _, _, e, r => by
    cases e
    cases r
    rfl
  | .int i :: t, ns, _, e, .cons h r => by
    unfold intsD at e
    cases q : intsD t with
    | none => rw [q] at e; cases e
    | some ms =>
      rw [q] at e
      cases e
      cases h
      rw [intsD_rep q r]
      rfl
  | .non :: _, _, _, e, _ => by cases e
  | .bl _ :: _, _, _, e, _ => by cases e
  | .str _ :: _, _, _, e, _ => by cases e
  | .lst _ :: _, _, _, e, _ => by cases e
  | .tup _ :: _, _, _, e, _ => by cases e
  | .dic _ :: _, _, _, e, _ => by cases e
  | .ins _ _ :: _, _, _, e, _ => by cases e
  | .ro _ :: _, _, _, e, _ => by cases e
theorem maxI_spec : ∀ {l : List Int} {m : Int}, maxI l = some m → m ∈ l ∧ ∀ y ∈ l, y ≤ m
  | [], _, e => by cases e
  | [i], _, e => by
    cases e
    exact ⟨by simp, by simp⟩
  | i :: j :: r, m, e => by
    unfold maxI at e
    cases q : maxI (j :: r) with
    | none => rw [q] at e; cases e
    | some k =>
      rw [q] at e
      obtain ⟨h1, h2⟩ := maxI_spec q
      have e := Option.some.inj e
      dsimp only at e
      split at e
      · subst e
        exact ⟨List.mem_cons_of_mem _ h1, fun y hy => by
          rcases List.mem_cons.mp hy with z | z
          · omega
          · exact h2 y z⟩
      · subst e
        exact ⟨List.mem_cons_self, fun y hy => by
          rcases List.mem_cons.mp hy with z | z
          · omega
          · have := h2 y z; omega⟩
theorem minI_spec : ∀ {l : List Int} {m : Int}, minI l = some m → m ∈ l ∧ ∀ y ∈ l, m ≤ y
  | [], _, e => by cases e
  | [i], _, e => by
    cases e
    exact ⟨by simp, by simp⟩
  | i :: j :: r, m, e => by
    unfold minI at e
    cases q : minI (j :: r) with
    | none => rw [q] at e; cases e
    | some k =>
      rw [q] at e
      obtain ⟨h1, h2⟩ := minI_spec q
      have e := Option.some.inj e
      dsimp only at e
      split at e
      · subst e
        exact ⟨List.mem_cons_of_mem _ h1, fun y hy => by
          rcases List.mem_cons.mp hy with z | z
          · omega
          · exact h2 y z⟩
      · subst e
        exact ⟨List.mem_cons_self, fun y hy => by
          rcases List.mem_cons.mp hy with z | z
          · omega
          · have := h2 y z; omega⟩
def maxD : List D → Option RV
  | [.int i, .int j] => some (.d (.int (if j > i then j else i)))
  | [.lst l] => ((intsD l).bind maxI).map fun m => .d (.int m)
  | _ => none
def minD : List D → Option RV
  | [.int i, .int j] => some (.d (.int (if j < i then j else i)))
  | [.lst l] => ((intsD l).bind minI).map fun m => .d (.int m)
  | _ => none
theorem c_max (hc : X.calm = true) : CallR X (.builtin "max") (rCD G maxD) := callr_of ((call_max2 hc).or (cr_max hc)) fun vs H Q ⟨F, xs, rv, s, rs, e, k⟩ => by
  unfold maxD at e
  split at e
  · cases e
    obtain ⟨v, u, rfl, r1, r2⟩ := Ts2 rs
    cases T_int r1
    cases T_int r2
    exact .inl ⟨_, _, rfl, k F H _ (.refl s) (.int _)⟩
  · rename_i l
    cases q : intsD l with
    | none => rw [q] at e; cases e
    | some ns =>
      rw [q] at e
      have e : (maxI ns).map (fun m => RV.d (.int m)) = some rv := e
      cases q2 : maxI ns with
      | none => rw [q2] at e; cases e
      | some m =>
        rw [q2] at e
        cases e
        obtain ⟨v, rfl, r⟩ := Ts1 rs
        obtain ⟨a, ys, rfl, h1, ra⟩ := T_lst s r
        rw [intsD_rep q ra] at h1
        obtain ⟨m1, m2⟩ := maxI_spec q2
        exact .inr ⟨a, ns, rfl, .of h1, by cases ns with
          | nil => cases m1
          | cons _ _ => simp, fun m' h2 h3 => by
          have : m' = m := Int.le_antisymm (m2 m' h2) (h3 m m1)
          rw [this]
          exact k F H _ (.refl s) (.int _)⟩
  · cases e
theorem c_min (hc : X.calm = true) : CallR X (.builtin "min") (rCD G minD) := callr_of ((call_min2 hc).or (cr_min hc)) fun vs H Q ⟨F, xs, rv, s, rs, e, k⟩ => by
  unfold minD at e
  split at e
  · cases e
    obtain ⟨v, u, rfl, r1, r2⟩ := Ts2 rs
    cases T_int r1
    cases T_int r2
    exact .inl ⟨_, _, rfl, k F H _ (.refl s) (.int _)⟩
  · rename_i l
    cases q : intsD l with
    | none => rw [q] at e; cases e
    | some ns =>
      rw [q] at e
      have e : (minI ns).map (fun m => RV.d (.int m)) = some rv := e
      cases q2 : minI ns with
      | none => rw [q2] at e; cases e
      | some m =>
        rw [q2] at e
        cases e
        obtain ⟨v, rfl, r⟩ := Ts1 rs
        obtain ⟨a, ys, rfl, h1, ra⟩ := T_lst s r
        rw [intsD_rep q ra] at h1
        obtain ⟨m1, m2⟩ := minI_spec q2
        exact .inr ⟨a, ns, rfl, .of h1, by cases ns with
          | nil => cases m1
          | cons _ _ => simp, fun m' h2 h3 => by
          have : m' = m := Int.le_antisymm (h3 m m1) (m2 m' h2)
          rw [this]
          exact k F H _ (.refl s) (.int _)⟩
  · cases e
def intD : List D → Option RV
  | [.int i] => some (.d (.int i))
  | [.bl k] => some (.d (.int (if k then 1 else 0)))
  | _ => none
theorem c_int : CallR X (.type "int") (rCD G intD) := callr_of call_int1 fun vs H Q ⟨F, xs, rv, s, rs, e, k⟩ => by
  unfold intD at e
  split at e
  · cases e
    obtain ⟨v, rfl, r⟩ := Ts1 rs
    cases T_int r
    exact .inl ⟨_, rfl, k F H _ (.refl s) (.int _)⟩
  · cases e
    obtain ⟨v, rfl, r⟩ := Ts1 rs
    cases T_bl r
    exact .inr ⟨_, rfl, k F H _ (.refl s) (.int _)⟩
  · cases e
def sumD : List D → Option RV
  | [.lst l] => (intsD l).map fun ns => .d (.int ns.sum)
  | _ => none
theorem c_sum (hc : X.calm = true) : CallR X (.builtin "sum") (rCD G sumD) := callr_of (cr_sum hc) fun vs H Q ⟨F, xs, rv, s, rs, e, k⟩ => by
  unfold sumD at e
  split at e
  · rename_i l
    cases q : intsD l with
    | none => rw [q] at e; cases e
    | some ns =>
      rw [q] at e
      cases e
      obtain ⟨v, rfl, r⟩ := Ts1 rs
      obtain ⟨a, ys, rfl, h1, ra⟩ := T_lst s r
      rw [intsD_rep q ra] at h1
      exact ⟨a, ns, rfl, .of h1, k F H _ (.refl s) (.int _)⟩
  · cases e
def boolsD : List D → Option (List Bool)
  | [] => some []
  | .bl i :: r => (boolsD r).map (i :: ·)
  | _ :: _ => none
theorem boolsD_rep {F : Hp} : ∀ {l : List D} {ns : List Bool} {vs : List V}, boolsD l = some ns → RepA G F vs l → vs = ns.map V.bl
  | [], _, _, e, r => by
    cases e
    cases r
    rfl
  | .bl i :: t, ns, _, e, .cons h r => by
    unfold boolsD at e
    cases q : boolsD t with
    | none => rw [q] at e; cases e
    | some ms =>
      rw [q] at e
      cases e
      cases h
      rw [boolsD_rep q r]
      rfl
  | .non :: _, _, _, e, _ => by cases e
  | .int _ :: _, _, _, e, _ => by cases e
  | .str _ :: _, _, _, e, _ => by cases e
  | .lst _ :: _, _, _, e, _ => by cases e
  | .tup _ :: _, _, _, e, _ => by cases e
  | .dic _ :: _, _, _, e, _ => by cases e
  | .ins _ _ :: _, _, _, e, _ => by cases e
  | .ro _ :: _, _, _, e, _ => by cases e
def allD : List D → Option RV
  | [.lst l] => (boolsD l).map fun ns => .d (.bl (ns.all id))
  | _ => none
def anyD : List D → Option RV
  | [.lst l] => (boolsD l).map fun ns => .d (.bl (ns.any id))
  | _ => none
theorem c_all (hc : X.calm = true) : CallR X (.builtin "all") (rCD G allD) := callr_of (cr_all hc) fun vs H Q ⟨F, xs, rv, s, rs, e, k⟩ => by
  unfold allD at e
  split at e
  · rename_i l
    cases q : boolsD l with
    | none => rw [q] at e; cases e
    | some ns =>
      rw [q] at e
      cases e
      obtain ⟨v, rfl, r⟩ := Ts1 rs
      obtain ⟨a, ys, rfl, h1, ra⟩ := T_lst s r
      rw [boolsD_rep q ra] at h1
      exact ⟨a, ns, rfl, .of h1, k F H _ (.refl s) (.bl _)⟩
  · cases e
theorem c_any (hc : X.calm = true) : CallR X (.builtin "any") (rCD G anyD) := callr_of (cr_any hc) fun vs H Q ⟨F, xs, rv, s, rs, e, k⟩ => by
  unfold anyD at e
  split at e
  · rename_i l
    cases q : boolsD l with
    | none => rw [q] at e; cases e
    | some ns =>
      rw [q] at e
      cases e
      obtain ⟨v, rfl, r⟩ := Ts1 rs
      obtain ⟨a, ys, rfl, h1, ra⟩ := T_lst s r
      rw [boolsD_rep q ra] at h1
      exact ⟨a, ns, rfl, .of h1, k F H _ (.refl s) (.bl _)⟩
  · cases e
def listD : List D → Option RV
  | [.lst l] => some (.f (.lst l))
  | [.ro l] => some (.f (.lst l))
  | [.tup l] => some (.f (.lst l))
  | _ => none
theorem c_list (hK : X.K = G.K) : CallR X (.type "list") (rCD G listD) := callr_of call_list_of fun vs H Q ⟨F, xs, rv, s, rs, e, k⟩ => by
  unfold listD at e
  split at e
  · cases e
    obtain ⟨v, rfl, r⟩ := Ts1 rs
    obtain ⟨a, ys, rfl, h1, ra⟩ := T_lst s r
    exact ⟨a, ys, rfl, .inl (.of h1), new_f s ra k⟩
  · cases e
    obtain ⟨v, rfl, r⟩ := Ts1 rs
    obtain ⟨a, ys, rfl, h1, ra⟩ := T_ro s r
    rw [← hK] at h1
    exact ⟨a, ys, rfl, .inl h1, new_f s ra k⟩
  · cases e
    obtain ⟨v, rfl, r⟩ := Ts1 rs
    obtain ⟨a, ys, rfl, h1, ra⟩ := T_tup s r
    rw [← hK] at h1
    exact ⟨a, ys, rfl, .inr h1, new_f s ra k⟩
  · cases e
def tupleD : List D → Option RV
  | [.lst l] => some (.d (.tup l))
  | [.ro l] => some (.d (.tup l))
  | [.tup l] => some (.d (.tup l))
  | _ => none
theorem c_tuple (hK : X.K = G.K) : CallR X (.type "tuple") (rCD G tupleD) := callr_of call_tuple_of fun vs H Q ⟨F, xs, rv, s, rs, e, k⟩ => by
  unfold tupleD at e
  split at e
  · cases e
    obtain ⟨v, rfl, r⟩ := Ts1 rs
    obtain ⟨a, ys, rfl, h1, ra⟩ := T_lst s r
    exact ⟨a, ys, rfl, .inl ⟨.of h1, new_t s ra k⟩⟩
  · cases e
    obtain ⟨v, rfl, r⟩ := Ts1 rs
    obtain ⟨a, ys, rfl, h1, ra⟩ := T_ro s r
    rw [← hK] at h1
    exact ⟨a, ys, rfl, .inl ⟨h1, new_t s ra k⟩⟩
  · cases e
    obtain ⟨v, rfl, r⟩ := Ts1 rs
    obtain ⟨a, ys, rfl, h1, ra⟩ := T_tup s r
    rw [← hK] at h1
    refine ⟨a, ys, rfl, .inr ⟨h1, k F H _ (.refl s) ?_⟩⟩
    rcases r with r | ⟨_, _, ow⟩
    · exact r
    · exact ow.elim
  · cases e
/-! ### methods of texts -/
def upL (l : List Nat) : List Nat := (PySem.Txt.upper ⟨l.toArray⟩).cps.toList
def lowL (l : List Nat) : List Nat := (PySem.Txt.lower ⟨l.toArray⟩).cps.toList
def upperD : D → List D → Option RV
  | .str l, [] => if l.length ≤ 5592405 then some (.d (.str (upL l))) else none
  | _, _ => none
def lowerD : D → List D → Option RV
  | .str l, [] => if l.length ≤ 5592405 then some (.d (.str (lowL l))) else none
  | _, _ => none
theorem Ts0 {F H : Hp} {vs : List V} (r : RepTs G F H vs []) : vs = [] := by
  cases r
  rfl
theorem str_back {z : Str} {l : List Nat} (h : z.cps.toList = l) : z = ⟨l.toArray⟩ := by
  subst h
  cases z
  simp
theorem m_upper : MtR X "str.upper" (rMD G upperD) := mtr_of mt_upper fun v vs H Q ⟨F, x, xs, rv, s, r, rs, e, k⟩ => by
  unfold upperD at e
  split at e
  · split at e
    · rename_i hz
      cases e
      obtain ⟨z, rfl, h1⟩ := T_str r
      rw [Ts0 rs]
      refine ⟨z, rfl, rfl, by rw [str_len h1]; exact hz, k F H _ (.refl s) (.str ?_)⟩
      rw [str_back h1]
      rfl
    · cases e
  · cases e
theorem m_lower : MtR X "str.lower" (rMD G lowerD) := mtr_of mt_lower fun v vs H Q ⟨F, x, xs, rv, s, r, rs, e, k⟩ => by
  unfold lowerD at e
  split at e
  · split at e
    · rename_i hz
      cases e
      obtain ⟨z, rfl, h1⟩ := T_str r
      rw [Ts0 rs]
      refine ⟨z, rfl, rfl, by rw [str_len h1]; exact hz, k F H _ (.refl s) (.str ?_)⟩
      rw [str_back h1]
      rfl
    · cases e
  · cases e
def strsD : List D → Option (List (List Nat))
  | [] => some []
  | .str i :: r => (strsD r).map (i :: ·)
  | _ :: _ => none
theorem strsD_rep {F : Hp} : ∀ {l : List D} {ns : List (List Nat)} {vs : List V}, strsD l = some ns → RepA G F vs l → ∃ ys : List Str, vs = ys.map V.str ∧ ys.map (·.cps.toList) = ns
  | [], _, _, e, r => by
    cases e
    cases r
    exact ⟨[], rfl, rfl⟩
  | .str i :: t, ns, _, e, .cons h r => by
    unfold strsD at e
    cases q : strsD t with
    | none => rw [q] at e; cases e
    | some ms =>
      rw [q] at e
      cases e
      obtain ⟨ys, h1, h2⟩ := strsD_rep q r
      cases h with
      | @str z _ hz => exact ⟨z :: ys, by rw [h1]; rfl, by rw [List.map_cons, h2, hz]⟩
  | .non :: _, _, _, e, _ => by cases e
  | .int _ :: _, _, _, e, _ => by cases e
  | .bl _ :: _, _, _, e, _ => by cases e
  | .lst _ :: _, _, _, e, _ => by cases e
  | .tup _ :: _, _, _, e, _ => by cases e
  | .dic _ :: _, _, _, e, _ => by cases e
  | .ins _ _ :: _, _, _, e, _ => by cases e
  | .ro _ :: _, _, _, e, _ => by cases e
def joinOf (a : List Nat) (l : List D) : Option RV := match strsD l with
  | some ys => if (ys.map (·.length)).sum + ys.length * a.length ≤ 16777216 then some (.d (.str (TL.joinL a ys))) else none
  | none => none
def joinD : D → List D → Option RV
  | .str a, [.lst l] => joinOf a l
  | .str a, [.tup l] => joinOf a l
  | _, _ => none
theorem join_ok {F H : Hp} {Q : VK} {z : Str} {a : List Nat} {l : List D} {vs : List V} {rv : RV} (s : Same F H) (hz : z.cps.toList = a) (ra : RepA G F vs l) (e : joinOf a l = some rv) (k : ∀ F' H' w, Step F H F' H' → RepO G H F' H' w rv → Q w H') :
    ∃ ys : List Str, vs = ys.map V.str ∧ (ys.map (·.length)).sum + ys.length * z.length ≤ 16777216 ∧ Q (.str (PySem.Txt.join z ys)) H := by
  unfold joinOf at e
  cases q : strsD l with
  | none => rw [q] at e; cases e
  | some ys =>
    rw [q] at e
    dsimp only at e
    split at e
    · rename_i hl
      cases e
      obtain ⟨zs, h1, h2⟩ := strsD_rep q ra
      have e1 : zs.map (·.length) = ys.map (·.length) := by
        rw [← h2, List.map_map]
        rfl
      have e2 : zs.length = ys.length := by rw [← h2, List.length_map]
      refine ⟨zs, h1, by rw [e1, e2, str_len hz]; exact hl, k F H _ (.refl s) (.str ?_)⟩
      rw [TL.join_eq]
      have e3 : (Str.join z zs).cps.toList = TL.joinL z.cps.toList (zs.map (·.cps.toList)) := TL.tl_join z zs
      rw [e3, h2, ← hz]
    · cases e
theorem m_join (hK : X.K = G.K) : MtR X "str.join" (rMD G joinD) := mtr_of mt_join fun v vs H Q ⟨F, x, xs, rv, s, r, rs, e, k⟩ => by
  unfold joinD at e
  split at e
  · obtain ⟨z, rfl, h1⟩ := T_str r
    obtain ⟨u, rfl, r2⟩ := Ts1 rs
    obtain ⟨a, us, rfl, h2, ra⟩ := T_lst s r2
    obtain ⟨ys, e1, e2, e3⟩ := join_ok s h1 ra e k
    exact ⟨z, a, ys, rfl, rfl, .inl (.of (by rw [← e1]; exact h2)), e2, e3⟩
  · obtain ⟨z, rfl, h1⟩ := T_str r
    obtain ⟨u, rfl, r2⟩ := Ts1 rs
    obtain ⟨a, us, rfl, h2, ra⟩ := T_tup s r2
    obtain ⟨ys, e1, e2, e3⟩ := join_ok s h1 ra e k
    rw [← hK] at h2
    exact ⟨z, a, ys, rfl, rfl, .inr (by rw [← e1]; exact h2), e2, e3⟩
  · cases e
/-! ### isinstance(x, T), T a built-in class -/
def tyN : D → Option String
  | .non => some "NoneType"
  | .bl _ => some "bool"
  | .int _ => some "int"
  | .str _ => some "str"
  | .lst _ => some "list"
  | .tup _ => some "tuple"
  | .dic _ => some "dict"
  | _ => none
def isT (T : String) (x : D) : Option Bool := match tyN x with
  | some t => some (t == T || (t == "bool" && T == "int"))
  | none => none
def isOkT (T : String) : Bool := ["int", "str", "bool", "list", "tuple", "dict"].contains T
theorem isT_kit {T : String} {x : D} {b : Bool} (h : isT T x = some b) (hT : isOkT T = true) : ∃ t, tyN x = some t ∧ kitB t T = some b := by
  unfold isT at h
  cases q : tyN x with
  | none => rw [q] at h; cases h
  | some t =>
    rw [q] at h
    cases h
    refine ⟨t, rfl, ?_⟩
    have tab : ∀ t ∈ ["NoneType", "bool", "int", "str", "list", "tuple", "dict"], ∀ T ∈ ["int", "str", "bool", "list", "tuple", "dict"], kitB t T = some (t == T || (t == "bool" && T == "int")) := by decide +kernel
    refine tab t ?_ T ?_
    · cases x <;> cases q <;> decide
    · unfold isOkT at hT
      exact List.contains_iff_mem.mp hT
theorem tyN_ok {F H : Hp} {v : V} {x : D} {t : String} (s : Same F H) (r : RepT G F H v x) (h : tyN x = some t) : TyX G.K H v (.type t) := by
  cases x with
  | non => cases h; rw [T_non r]; exact .base .non
  | bl b => cases h; rw [T_bl r]; exact .base (.bl b)
  | int b => cases h; rw [T_int r]; exact .base (.int b)
  | str b => cases h; obtain ⟨z, rfl, _⟩ := T_str r; exact .base (.str z)
  | lst l => cases h; obtain ⟨a, xs, rfl, h1, _⟩ := T_lst s r; exact .base (.lst h1)
  | dic l => cases h; obtain ⟨a, xs, rfl, h1, _⟩ := T_dic s r; exact .base (.dK h1)
  | tup l =>
    cases h
    obtain ⟨a, xs, rfl, h1, _⟩ := T_tup s r
    rcases h1 with (h1 | ⟨o, h1⟩) | ⟨o, its, n, h1, h2, _⟩
    · exact .base (.tup h1)
    · exact .fTuple h1
    · exact .kTuple h1 h2
  | ins _ _ => cases h
  | ro _ => cases h
def mIsT (T : String) (f : Ex) : Ex := fun ρ => (mHold f ρ).bind fun h ρ1 => match peekH ρ1 h with
  | some x => (match isT T x with
    | some b => .ok (.d (.bl b)) ρ1
    | none => .bad)
  | none => .bad
theorem me_isT {T : Str} {Tn : String} {e : Expr} {f : Ex} {np tp : Pos} (hK : X.K = G.K) (hg : Gl X "isinstance") (hm : X.mg "isinstance" = none) (hgT : Gl X T) (hmT : X.mg T = none) (hv : bootBuiltins T = some (.type Tn)) (hT : isOkT Tn = true) (ha : ME X G g W e f)
    (h1 : starEach [e, .Name T tp] X.env = (false, eval e X.env) :: starEach [.Name T tp] X.env := by rfl) (h2 : starEach [.Name T tp] X.env = (false, eval (.Name T tp) X.env) :: starEach [] X.env := by rfl) (hpl : (backTo pos (starEach [.Name T tp] X.env)).any (·.1) = false := by rfl)
    (hn : T ≠ "__name__" := by decide) (hdb : (T == ("__debug__" : Str)) = false := by decide) :
    ME X G g W (.Call (.Name "isinstance" np) [e, .Name T tp] [] pos) (mIsT Tn f) :=
  pe_imp (pe_callB (call_isi (X := X)) hg hm (by decide +kernel) (pa_cons (me_hold ha) (pa_cons (pe_bltn (v := .ty Tn) hgT hmT hv rfl hn hdb) pa_nil h2) h1) (by decide) (by decide) h1 hpl) fun σ H Q ⟨F, ρ, I, k⟩ => by
    refine ⟨F, ρ, I, k.bind.imp fun F1 H1 ρ1 h s1 I1 k1 v r => ?_⟩
    cases q : peekH ρ1 h with
    | none => rw [q] at k1; exact k1.elim
    | some x =>
      rw [q] at k1
      dsimp only at k1
      cases q2 : isT Tn x with
      | none => rw [q2] at k1; exact k1.elim
      | some b =>
        rw [q2] at k1
        obtain ⟨t, e1, e2⟩ := isT_kit q2 hT
        have ty := tyN_ok I1.fh (peekH_rep I1 r q) e1
        rw [← hK] at ty
        exact ⟨v, .ty Tn, .type t, .type Tn, b, rfl, .ty Tn, ty, kit_ty e2, k1 F1 H1 (.refl _) I1 _ (.bl b)⟩
end
end MM
set_option Elab.async false
set_option maxRecDepth 100000
set_option maxHeartbeats 2000000
namespace MM
open PySem PySem.Spec PyProof.Rows L2
section
variable {X : Cx} {G : GG} {g : Gh} {W : WX} {pos p : Pos} {tg : Expr}
theorem pi_imp {iter : Expr} {t t' : TI} (h : PI X tg iter t) (i : ∀ σ H R, t' σ H R → t σ H R) : PI X tg iter t' := ⟨fun pins s σ H R I w => h.run pins s σ H R I (i σ H R w)⟩
/-! ### any sequence -/
def iAny (K : PySem.W.Frag) (te : TE) : TI := fun σ H R => te σ H fun v H1 => (∃ a, v = .ref a ∧ (∃ xs, SqL K H1 a xs) ∧ R (Itl K a) H1) ∨ (∃ a, v = .ref a ∧ (∃ xs, SqT K H1 a xs) ∧ R (Itt K a) H1) ∨ ∃ x, v = .str x ∧ R (Its x) H1
theorem pi_any {e : Expr} {te : TE} (he : PE X e te) : PI X tg e (iAny X.K te) := by
  refine ⟨fun pins s σ H R I h => ?_⟩
  refine thn (he.run pins s σ H _ I h) fun v s1 ⟨y, H1, I1, r1, q1⟩ => ?_
  rcases q1 with ⟨a, rfl, ⟨xs, hq⟩, q⟩ | ⟨a, rfl, ⟨xs, hq⟩, q⟩ | ⟨x, rfl, q⟩
  · cases r1
    obtain ⟨its, rv, p, hz⟩ := I1.list hq
    refine wpAny_pyIter_list p.isList ?_
    refine ⟨s1.heap.objs.size, [s1.heap.objs.size], _, _, H1, rfl, I1.kept (t' := s1.toks) fun b o e => Heap.get?_push_of_some _ e, turn_list a _, ⟨_, Heap.get?_push_size _ rfl, rfl, rfl⟩, fun b hb => ?_, q⟩
    have e : b = s1.heap.objs.size := by simpa using hb
    subst e
    exact I1.fpOk (Nat.le_refl _) (I1.hok.fresh (Nat.le_refl _))
  · cases r1
    obtain ⟨its, rv, p, hz⟩ := I1.tuple hq
    refine wpAny_pyIter_tuple (show s1.heap.IsTuple a its.toArray from p) ?_
    refine ⟨s1.heap.objs.size, [s1.heap.objs.size], _, _, H1, rfl, I1.kept (t' := s1.toks) fun b o e => Heap.get?_push_of_some _ e, turn_tuple a _, ⟨_, Heap.get?_push_size _ rfl, rfl, rfl⟩, fun b hb => ?_, q⟩
    have e : b = s1.heap.objs.size := by simpa using hb
    subst e
    exact I1.fpOk (Nat.le_refl _) (I1.hok.fresh (Nat.le_refl _))
  · obtain ⟨t, rfl⟩ := r1
    cases ha : x.cps.all (· < 128)
    · exact wpAny_pyIter_wide ha (pi_one (tk := s1.toks) I1 _ (turn_str _ x t "str_iterator" (.inr rfl)) ⟨_, Heap.get?_push_size _ rfl, rfl, rfl⟩ q)
    · exact wpAny_pyIter_ascii ha (pi_one (tk := s1.toks) I1 _ (turn_str _ x t "str_ascii_iterator" (.inl rfl)) ⟨_, Heap.get?_push_size _ rfl, rfl, rfl⟩ q)
/-- the items of a sequence -/
def itemsD : D → Option (List D)
  | .lst l => some l
  | .ro l => some l
  | .tup l => some l
  | .str a => some (a.map fun c => .str [c])
  | _ => none
def mItems (f : Ex) : List S → R (List D) := fun ρ => (mForce f ρ).bind fun x ρ1 => match itemsD x with
  | some l => .ok l ρ1
  | none => .bad
theorem itd_seq {F H : Hp} {J : It} {l : List D} {xs : List V} (ra : RepA G F xs l) (hl : xs.length = l.length) (go : ∀ F1 H1 i, Same F F1 → Same F1 H1 → i < xs.length → J.go i H1)
    (yl : ∀ F1 H1 i v H2, Same F F1 → Same F1 H1 → J.yld i H1 v H2 → H2 = H1 ∧ xs[i]? = some v) (st : ∀ F1 H1 i, Same F F1 → Same F1 H1 → xs.length ≤ i → J.stop i H1) : ItD G J l F H where
  go := fun F1 H1 i a b c => go F1 H1 i a b (by omega)
  yld := fun F1 H1 i v H2 a b y c => by
    obtain ⟨rfl, hx⟩ := yl F1 H1 i v H2 a b y
    obtain ⟨x, hx2, rx⟩ := ra.getV hx
    exact ⟨F1, x, Step.refl b, hx2, rx.mono a⟩
  stop := fun F1 H1 i a b c => st F1 H1 i a b (by omega)
theorem same_lst {F F1 H1 : Hp} {a : Addr} {o : HO} (e : F a = some o) (s : Same F F1) (h : Same F1 H1) : H1 a = some o := h _ _ (s _ _ e)
theorem itd_lst {F H : Hp} {a : Addr} {xs : List V} {l : List D} (q : ∀ H1, Same F H1 → SqL G.K H1 a xs) (ra : RepA G F xs l) : ItD G (Itl G.K a) l F H :=
  itd_seq ra ra.length (fun F1 H1 i s1 s2 hlt => ⟨xs, xs[i], q H1 (s1.trans s2), List.getElem?_eq_getElem hlt⟩)
    (fun F1 H1 i v H2 s1 s2 y => ⟨y.1, y.2 xs (q H1 (s1.trans s2))⟩) (fun F1 H1 i s1 s2 hle => ⟨xs, q H1 (s1.trans s2), hle⟩)
theorem itd_tup {F H : Hp} {a : Addr} {xs : List V} {l : List D} (q : ∀ H1, Same F H1 → SqT G.K H1 a xs) (ra : RepA G F xs l) : ItD G (Itt G.K a) l F H :=
  itd_seq ra ra.length (fun F1 H1 i s1 s2 hlt => ⟨xs, xs[i], q H1 (s1.trans s2), List.getElem?_eq_getElem hlt⟩)
    (fun F1 H1 i v H2 s1 s2 y => ⟨y.1, y.2 xs (q H1 (s1.trans s2))⟩) (fun F1 H1 i s1 s2 hle => ⟨xs, q H1 (s1.trans s2), hle⟩)
theorem itd_str {F H : Hp} {z : Str} {a : List Nat} (e : z.cps.toList = a) : ItD G (Its z) (a.map fun c => .str [c]) F H := by
  subst e
  refine ⟨fun F1 H1 i s1 s2 hlt => ?_, fun F1 H1 i v H2 s1 s2 y hlt => ?_, fun F1 H1 i s1 s2 hle => ?_⟩
  · show i < z.cps.size
    simpa using hlt
  · obtain ⟨rfl, c, hc, rfl⟩ := y
    refine ⟨F1, .str [c], Step.refl s2, ?_, .str rfl⟩
    simp [List.getElem?_map, hc]
  · show z.cps.size ≤ i
    simpa using hle
theorem rep_items {F H : Hp} {v : V} {x : D} {l : List D} (s : Same F H) (r : Rep G F v x) (e : itemsD x = some l) (R : It → Hp → Prop) (k : ∀ J, ItD G J l F H → R J H) :
    (∃ a, v = .ref a ∧ (∃ xs, SqL G.K H a xs) ∧ R (Itl G.K a) H) ∨ (∃ a, v = .ref a ∧ (∃ xs, SqT G.K H a xs) ∧ R (Itt G.K a) H) ∨ ∃ x, v = .str x ∧ R (Its x) H := by
  cases r with
  | non => cases e
  | bl => cases e
  | int => cases e
  | dic => cases e
  | ins => cases e
  | str h =>
    cases e
    exact .inr (.inr ⟨_, rfl, k _ (itd_str h)⟩)
  | lst h ra =>
    cases e
    exact .inl ⟨_, rfl, ⟨_, .of (s _ _ h)⟩, k _ (itd_lst (fun H1 q => .of (q _ _ h)) ra)⟩
  | tup h ra =>
    cases e
    exact .inr (.inl ⟨_, rfl, ⟨_, sqT_same s h⟩, k _ (itd_tup (fun H1 q => sqT_same q h) ra)⟩)
  | ro h ra =>
    cases e
    exact .inl ⟨_, rfl, ⟨_, s.seq h⟩, k _ (itd_lst (fun H1 q => q.seq h) ra)⟩
theorem mi_any {e : Expr} {f : Ex} (hK : X.K = G.K) (he : ME X G g W e f) : MI X G g W tg e (mItems f) := pi_imp (pi_any (me_force he)) fun σ H Rr ⟨F, ρ, I, k⟩ => by
  refine ⟨F, ρ, I, k.bind.imp fun F1 H1 ρ1 x s1 I1 k1 v r => ?_⟩
  cases q : itemsD x with
  | none => rw [q] at k1; exact k1.elim
  | some l =>
    rw [q] at k1
    rw [hK]
    exact rep_items I1.fh r q Rr fun J hJ => k1 F1 H1 (.refl _) I1 J hJ
/-! ### range -/
def rngD (lo : Int) (n : Nat) : List D := (List.range n).map fun i => .int (lo + (i : Nat))
theorem itd_rng {F H : Hp} {lo : Int} {n : Nat} : ItD G (Itr lo n) (rngD lo n) F H := by
  refine ⟨fun F1 H1 i s1 s2 hlt => ?_, fun F1 H1 i v H2 s1 s2 y hlt => ?_, fun F1 H1 i s1 s2 hle => ?_⟩
  · show i < n
    simpa [rngD] using hlt
  · obtain ⟨rfl, rfl⟩ := y
    have hlt : i < n := by simpa [rngD] using hlt
    exact ⟨F1, .int (lo + (i : Nat)), Step.refl s2, by simp [rngD, hlt], .int _⟩
  · show n ≤ i
    simpa [rngD] using hle
def rngOk (i j : Int) : Bool := decide (i.natAbs.log2 < 61) && decide (j.natAbs.log2 < 61)
theorem log2_back {n k : Nat} (h : n.log2 < k) : n < 2 ^ k := by
  by_cases h0 : n = 0
  · subst h0
    exact Nat.pos_of_ne_zero (by simp)
  · exact (Nat.log2_lt h0).mp h
theorem rngOk_of {i j : Int} (h : rngOk i j = true) : -(2 ^ 62) ≤ i ∧ i < 2 ^ 62 ∧ -(2 ^ 62) ≤ j ∧ j < 2 ^ 62 := by
  simp only [rngOk, Bool.and_eq_true, decide_eq_true_eq] at h
  have h1 := log2_back h.1
  have h2 := log2_back h.2
  omega
def mSrc (d : List D → Option (List D)) (r : List S → R (List HV)) : List S → R (List D) := fun ρ => (r ρ).bind fun hs ρ1 => (forceHs hs ρ1).bind fun xs ρ2 => match d xs with
    | some l => .ok l ρ2
    | none => .bad
theorem tMI_src {d : List D → Option (List D)} {r : List S → R (List HV)} {σ : L2.St} {H : Hp} {Rr : It → Hp → Prop} (h : tMI G g W (mSrc d r) σ H Rr) :
    tMA G g W r σ H fun vs H1 => ∃ F xs l, Same F H1 ∧ RepA G F vs xs ∧ d xs = some l ∧ ∀ J, ItD G J l F H1 → Rr J H1 := by
  obtain ⟨F, ρ, I, k⟩ := h
  refine ⟨F, ρ, I, k.bind.imp fun F1 H1 ρ1 hs s1 I1 k1 vs rs => ?_⟩
  obtain ⟨F2, ρ2, xs, s2, I2, ra, k2⟩ := Post.forced I1 rs k1.bind
  cases q2 : d xs with
  | none => rw [q2] at k2; exact k2.elim
  | some l =>
    rw [q2] at k2
    exact ⟨F2, xs, l, I2.fh, ra, q2, fun J hJ => k2 F2 H1 (.refl _) I2 J hJ⟩
theorem Ra1 {F : Hp} {vs : List V} {x : D} (r : RepA G F vs [x]) : ∃ v, vs = [v] ∧ Rep G F v x := by
  cases r with
  | cons a b => cases b; exact ⟨_, rfl, a⟩
theorem Ra2 {F : Hp} {vs : List V} {x y : D} (r : RepA G F vs [x, y]) : ∃ v u, vs = [v, u] ∧ Rep G F v x ∧ Rep G F u y := by
  cases r with
  | cons a b => cases b with
    | cons c d => cases d; exact ⟨_, _, rfl, a, c⟩
theorem rep_int {F : Hp} {v : V} {i : Int} (r : Rep G F v (.int i)) : v = .int i := by
  cases r; rfl
def rng1 : List D → Option (List D)
  | [.int j] => if rngOk 0 j = true then some (rngD 0 j.toNat) else none
  | _ => none
def rng2 : List D → Option (List D)
  | [.int i, .int j] => if rngOk i j = true then some (rngD i (j - i).toNat) else none
  | _ => none
theorem mi_range1 {e : Expr} {r : List S → R (List HV)} (hg : Gl X "range") (hm : X.mg "range" = none) (ha : MA X G g W [e] r) (hs : starEach [e] X.env = [(false, eval e X.env)] := by rfl) : MI X G g W tg (.Call (.Name "range" p) [e] [] pos) (mSrc rng1 r) :=
  pi_imp (pi_range1 hg hm ha hs) fun σ H Rr h => by
  obtain ⟨F, ρ, I, k⟩ := tMI_src h
  refine ⟨F, ρ, I, k.imp fun F1 H1 ρ1 hs s1 I1 k1 vs rs => ?_⟩
  obtain ⟨F2, xs, l, s2, rt, e, k2⟩ := k1 vs rs
  unfold rng1 at e
  split at e
  · obtain ⟨v, rfl, rv⟩ := Ra1 rt
    cases rep_int rv
    split at e
    · rename_i hok
      cases e
      obtain ⟨h1, h2, h3, h4⟩ := rngOk_of hok
      exact ⟨_, rfl, h3, h4, k2 _ itd_rng⟩
    · cases e
  · cases e
theorem mi_range2 {e e2 : Expr} {r : List S → R (List HV)} (hg : Gl X "range") (hm : X.mg "range" = none) (ha : MA X G g W [e, e2] r) (hs : starEach [e, e2] X.env = [(false, eval e X.env), (false, eval e2 X.env)] := by rfl) (hs2 : starEach [e2] X.env = [(false, eval e2 X.env)] := by rfl) : MI X G g W tg (.Call (.Name "range" p) [e, e2] [] pos) (mSrc rng2 r) :=
  pi_imp (pi_range2 hg hm ha hs hs2) fun σ H Rr h => by
  obtain ⟨F, ρ, I, k⟩ := tMI_src h
  refine ⟨F, ρ, I, k.imp fun F1 H1 ρ1 hs s1 I1 k1 vs rs => ?_⟩
  obtain ⟨F2, xs, l, s2, rt, e, k2⟩ := k1 vs rs
  unfold rng2 at e
  split at e
  · obtain ⟨v, u, rfl, rv, ru⟩ := Ra2 rt
    cases rep_int rv
    cases rep_int ru
    split at e
    · rename_i hok
      cases e
      exact ⟨_, _, rfl, rngOk_of hok, k2 _ itd_rng⟩
    · cases e
  · cases e
/-! ### zip of two texts -/
def ItzS (x y : Str) : It :=
  ⟨fun i _ => i < x.cps.size ∧ i < y.cps.size, fun i H v H' => ∃ T c d, v = .ref T ∧ H T = none ∧ H' = upd H T (.tup [.str ⟨#[c]⟩, .str ⟨#[d]⟩]) ∧ x.cps[i]? = some c ∧ y.cps[i]? = some d,
    fun i _ => x.cps.size ≤ i ∨ y.cps.size ≤ i⟩
theorem turn_zipS {P : Program} {w : World} {K : PySem.W.Frag} {elts : List Expr} {kk : Nat} {tpos : Pos} {x y : Str} {t1 t2 : Tok} {z TI TO i1 i2 : Addr} (S : ZipSep2 z TI TO i1 i2 [i1] [i2]) :
    Turn P w K (.Tuple elts kk tpos) (ItzS x y) [z, TI, TO, i1, i2] z (fun i h => (i ≤ x.cps.size ∧ i ≤ y.cps.size) ∧ IsZip h z TI TO .none ∧ IsTupOf2 h TI (.ref i1) (.ref i2) ∧ (∃ x y, IsTupOf2 h TO x y) ∧ h.IsStrIter i1 (strIterType x) x t1 i ∧ h.IsStrIter i2 (strIterType y) y t2 i) where
  mem := by simp
  obj := fun i h st c hc => by
    obtain ⟨_, hz, hTI, ⟨x, y, hTO⟩, ⟨o1, e1, _, d1⟩, ⟨o2, e2, _, d2⟩⟩ := st
    have e' : c = z ∨ c = TI ∨ c = TO ∨ c = i1 ∨ c = i2 := by simpa using hc
    rcases e' with q | q | q | q | q
    · rw [q]; exact ⟨_, hz, fun v q => nomatch q⟩
    · rw [q]; exact ⟨_, hTI, fun v q => nomatch q⟩
    · rw [q]; exact ⟨_, hTO, fun v q => nomatch q⟩
    · rw [q]; exact ⟨o1, e1, fun v q => by rw [d1] at q; cases q⟩
    · rw [q]; exact ⟨o2, e2, fun v q => by rw [d2] at q; cases q⟩
  keep := fun i h h' st k => by
    obtain ⟨hb, hz, hTI, ⟨x, y, hTO⟩, ⟨o1, e1, r1⟩, ⟨o2, e2, r2⟩⟩ := st
    exact ⟨hb, k z (by simp) _ hz, k TI (by simp) _ hTI, ⟨x, y, k TO (by simp) _ hTO⟩, ⟨o1, k i1 (by simp) _ e1, r1⟩, ⟨o2, k i2 (by simp) _ e2, r2⟩⟩
  item := by
    intro X hP hw hK hc i pins s σ H E I hf st hg
    subst hP hw hK
    obtain ⟨hb, hz, hTI, ⟨x0, y0, hTO⟩, h1, h2⟩ := st
    obtain ⟨l1, l2⟩ := hg
    have hzl : z < s.heap.objs.size := Heap.lt_size hz
    have hh : X.A.in1.handled = none := I.ok.hd hc
    refine wpAny_pyNext_zipD2_item S (Draws.text hh i1 x t1) (Draws.text hh i2 y t2) hz hTI hTO h1 h2 l1 l2 fun x1 x2 h' tk p1 p2 z' TO' h1' h2' hT hsz hk => ?_
    obtain ⟨c, u, hc1, rfl⟩ := p1
    obtain ⟨d, u2, hd1, rfl⟩ := p2
    refine ⟨_, rfl, wpAny_letOwnedTupleGo_zip (s := { s with heap := h', toks := tk }) z' fun h'' z'' sb => ?_⟩
    have hT2 : h''.get? s.heap.objs.size = some { cls := .type "tuple", data := .seq #[.str ⟨#[c]⟩ u, .str ⟨#[d]⟩ u2] } := (sb.2 _ (Nat.ne_of_gt hzl)).trans hT
    have new : ObjOk X.prog X.w (upd H s.heap.objs.size (.tup [.str ⟨#[c]⟩, .str ⟨#[d]⟩])) h'' s.heap.objs.size (.tup [.str ⟨#[c]⟩, .str ⟨#[d]⟩]) :=
      ⟨by show 2 ≤ sizeLine; decide, [.str ⟨#[c]⟩ u, .str ⟨#[d]⟩ u2], .cons ⟨_, rfl⟩ (.cons ⟨_, rfl⟩ .nil), ⟨_, hT2, rfl, _, rfl⟩⟩
    have I1 : Inv X pins σ (upd H s.heap.objs.size (.tup [.str ⟨#[c]⟩, .str ⟨#[d]⟩])) { s with heap := h'', toks := tk } :=
      I.turnedNew (t' := tk) (ch := [z, TI, TO, i1, i2]) (fun c o hb q => (sb.2 c (fun q' => hb (by simp [q']))).trans (hk c o (fun q' => hb (by simp [q'])) (fun q' => hb (by simp [q'])) (fun q' => hb (by simp [q'])) (fun q' => hb (by simp [q'])) q)) hf (Nat.le_refl _) new
    refine ⟨.ref s.heap.objs.size, _, I1, rfl, ⟨_, c, d, rfl, I.hok.fresh (Nat.le_refl _), rfl, hc1, hd1⟩, ⟨⟨l1, l2⟩, z'', ?_, ⟨.str ⟨#[c]⟩ u, .str ⟨#[d]⟩ u2, ?_⟩, ?_, ?_⟩, fun c hcm => ?_⟩
    · exact (sb.2 _ S.TIz).trans (hk _ _ S.TIz S.TITO S.TIi1 S.TIi2 hTI)
    · exact (sb.2 _ S.TOz).trans TO'
    · obtain ⟨o1, e1, r1⟩ := h1'
      exact ⟨o1, (sb.2 _ S.zi1.symm).trans e1, r1⟩
    · obtain ⟨o2, e2, r2⟩ := h2'
      exact ⟨o2, (sb.2 _ S.zi2.symm).trans e2, r2⟩
    · have hlt : c < s.heap.objs.size := by
        have e' : c = z ∨ c = TI ∨ c = TO ∨ c = i1 ∨ c = i2 := by simpa using hcm
        rcases e' with q | q | q | q | q
        · rw [q]; exact hzl
        · rw [q]; exact Heap.lt_size hTI
        · rw [q]; exact Heap.lt_size hTO
        · rw [q]; obtain ⟨_, e1, _⟩ := h1; exact Heap.lt_size e1
        · rw [q]; obtain ⟨_, e2, _⟩ := h2; exact Heap.lt_size e2
      rw [upd_ne (Nat.ne_of_lt hlt)]
      exact (hf c hcm).1
  done := by
    intro X hP hw hK hc i pins s σ H E I hf st hg
    subst hP hw hK
    obtain ⟨⟨b1, b2⟩, hz, hTI, ⟨x0, y0, hTO⟩, h1, h2⟩ := st
    have hh : X.A.in1.handled = none := I.ok.hd hc
    exact wpAny_pyNext_zipD2_end S (Draws.text hh i1 x t1) (Draws.text hh i2 y t2) hz hTI hTO h1 h2 b1 b2 (by have hg' : x.cps.size ≤ i ∨ y.cps.size ≤ i := hg; omega) fun h' tk hk => ⟨rfl, I.turnedL (t' := tk) (ch := [z, TI, TO, i1, i2]) (fun c o hb q =>
      hk c o (fun q' => hb (by simp [q'])) (fun q' => hb (by simp [q'])) (fun q' => hb (by simp [q'])) (fun q' => hb (by simp [q'])) q) hf⟩
  self := fun A i s Q E st h => wpAny_pyIter_zip st.2.1 h
def iZipB (K : PySem.W.Frag) (ta : TA) : TI := fun σ H R => ta σ H fun vs H1 => (∃ a b xs ys, vs = [.ref a, .ref b] ∧ ((SqL K H1 a xs ∧ SqL K H1 b ys ∧ R (Itz K a b) H1) ∨ (SqT K H1 a xs ∧ SqT K H1 b ys ∧ R (RZ.ItzT K a b) H1))) ∨ ∃ x y : Str, vs = [.str x, .str y] ∧ R (ItzS x y) H1
theorem pi_zipB {e e2 : Expr} {ta : TA} {tpos : Pos} {elts : List Expr} {kk : Nat} (hg : Gl X "zip") (hm : X.mg "zip" = none) (ha : PA X [e, e2] ta)
    (hs : starEach [e, e2] X.env = (false, eval e X.env) :: starEach [e2] X.env := by rfl) (hpl : (backTo pos (starEach [e2] X.env)).any (·.1) = false := by rfl) :
    PI X (.Tuple elts kk tpos) (.Call (.Name "zip" p) [e, e2] [] pos) (iZipB X.K ta) := by
  refine ⟨fun pins s σ H R I h => ?_⟩
  refine Call_ (ld_blt I hg hm PyProof.Rows.boot_zip (PyProof.Rows.callWith_type1 (thn (ha.run pos pins s σ H _ I h) fun us s1 ⟨vs, H1, I1, r1, q1⟩ => ?_) hs hpl))
  have fresh5 : ∀ c, c ∈ [s1.heap.objs.size + 4, s1.heap.objs.size + 2, s1.heap.objs.size + 3, s1.heap.objs.size, s1.heap.objs.size + 1] → FpOk X pins H1 c := fun c hcm => by
    have e' : c = s1.heap.objs.size + 4 ∨ c = s1.heap.objs.size + 2 ∨ c = s1.heap.objs.size + 3 ∨ c = s1.heap.objs.size ∨ c = s1.heap.objs.size + 1 := by simpa using hcm
    have hle : s1.heap.objs.size ≤ c := by
      rcases e' with z | z | z | z | z
      · rw [z]; exact Nat.le_add_right _ _
      · rw [z]; exact Nat.le_add_right _ _
      · rw [z]; exact Nat.le_add_right _ _
      · rw [z]; exact Nat.le_refl _
      · rw [z]; exact Nat.le_add_right _ _
    exact I1.fpOk hle (I1.hok.fresh hle)
  rcases q1 with ⟨a, b, xs, ys, rfl, q1⟩ | ⟨x, y, rfl, q⟩
  · cases r1 with
    | cons r rr =>
      cases rr with
      | cons r' rr =>
        cases rr
        cases r
        cases r'
        rcases q1 with ⟨hqx, hqy, q⟩ | ⟨hqx, hqy, q⟩
        · obtain ⟨its, rv, p1, _⟩ := I1.list hqx
          obtain ⟨its2, rv2, p2, _⟩ := I1.list hqy
          refine call_zip_2 p1.isList p2.isList fun h' hz hTI hTO h1 h2 hsz hk => wpAny_pyIter_zip hz ?_
          have I2 : Inv X pins σ H1 { s1 with heap := h' } := I1.kept (t' := s1.toks) hk
          exact ⟨s1.heap.objs.size + 4, [s1.heap.objs.size + 4, s1.heap.objs.size + 2, s1.heap.objs.size + 3, s1.heap.objs.size, s1.heap.objs.size + 1], _, _, H1, rfl, I2, turn_zip (PySem.W.ktu_apart s1.heap.objs.size a b p1.lt p2.lt), ⟨hz, hTI, ⟨_, _, hTO⟩, h1, h2⟩, fresh5, q⟩
        · obtain ⟨its, rv, p1, _⟩ := I1.tuple hqx
          obtain ⟨its2, rv2, p2, _⟩ := I1.tuple hqy
          obtain ⟨o1, ho1, _⟩ := id p1
          obtain ⟨o2, ho2, _⟩ := id p2
          refine RZ.call_zipT (show s1.heap.IsTuple a its.toArray from p1) (show s1.heap.IsTuple b its2.toArray from p2) fun h' hz hTI hTO h1 h2 hsz hk => wpAny_pyIter_zip hz ?_
          have I2 : Inv X pins σ H1 { s1 with heap := h' } := I1.kept (t' := s1.toks) hk
          exact ⟨s1.heap.objs.size + 4, [s1.heap.objs.size + 4, s1.heap.objs.size + 2, s1.heap.objs.size + 3, s1.heap.objs.size, s1.heap.objs.size + 1], _, _, H1, rfl, I2, RZ.turn_zipT (PySem.W.ktu_apart s1.heap.objs.size a b (Heap.lt_size ho1) (Heap.lt_size ho2)), ⟨hz, hTI, ⟨_, _, hTO⟩, h1, h2⟩, fresh5, q⟩
  · cases r1 with
    | cons r rr =>
      cases rr with
      | cons r' rr =>
        cases rr
        obtain ⟨t1, rfl⟩ := r
        obtain ⟨t2, rfl⟩ := r'
        refine zip_begins2 (begins_text x t1) (begins_text y t2) trivial trivial fun h' hz hTI hTO h1 h2 hsz hk => wpAny_pyIter_zip hz ?_
        have I2 : Inv X pins σ H1 { s1 with heap := h' } := I1.kept (t' := s1.toks) hk
        refine ⟨s1.heap.objs.size + 4, [s1.heap.objs.size + 4, s1.heap.objs.size + 2, s1.heap.objs.size + 3, s1.heap.objs.size, s1.heap.objs.size + 1], _, _, H1, rfl, I2, turn_zipS (t1 := t1) (t2 := t2) ?_, ⟨⟨Nat.zero_le _, Nat.zero_le _⟩, hz, hTI, ⟨_, _, hTO⟩, ⟨_, h1, rfl, rfl⟩, ⟨_, h2, rfl, rfl⟩⟩, fresh5, q⟩
        constructor <;> simp <;> omega
/-! zip by data -/
def pairD (l m : List D) : List D := (l.zip m).map fun q => .tup [q.1, q.2]
theorem pairD_get {l m : List D} {i : Nat} {x y : D} (h : l[i]? = some x) (k : m[i]? = some y) : (pairD l m)[i]? = some (.tup [x, y]) := by
  have e : (l.zip m)[i]? = some (x, y) := List.getElem?_zip_eq_some.mpr ⟨h, k⟩
  simp [pairD, e]
theorem pairD_len {l m : List D} : (pairD l m).length = min l.length m.length := by simp [pairD]
theorem itd_pair {F H : Hp} {J : It} {l m : List D} {xs ys : List V} (ra : RepA G F xs l) (rb : RepA G F ys m) (go : ∀ F1 H1 i, Same F F1 → Same F1 H1 → i < xs.length → i < ys.length → J.go i H1)
    (yl : ∀ F1 H1 i v H2, Same F F1 → Same F1 H1 → J.yld i H1 v H2 → ∃ T x y, v = .ref T ∧ H1 T = none ∧ H2 = upd H1 T (.tup [x, y]) ∧ xs[i]? = some x ∧ ys[i]? = some y)
    (st : ∀ F1 H1 i, Same F F1 → Same F1 H1 → xs.length ≤ i ∨ ys.length ≤ i → J.stop i H1) : ItD G J (pairD l m) F H where
  go := fun F1 H1 i a b c => by
    rw [pairD_len] at c
    exact go F1 H1 i a b (by have := ra.length; omega) (by have := rb.length; omega)
  yld := fun F1 H1 i v H2 a b q c => by
    obtain ⟨T, x, y, rfl, hT, rfl, hx, hy⟩ := yl F1 H1 i v H2 a b q
    obtain ⟨x', hx', rx⟩ := ra.getV hx
    obtain ⟨y', hy', ry⟩ := rb.getV hy
    have stp := Step.frozen (o := .tup [x, y]) b hT
    exact ⟨_, _, stp, pairD_get hx' hy', .tup (.of upd_same) (.cons ((rx.mono a).mono stp.ff) (.cons ((ry.mono a).mono stp.ff) .nil))⟩
  stop := fun F1 H1 i a b c => by
    rw [pairD_len] at c
    exact st F1 H1 i a b (by have := ra.length; have := rb.length; omega)
def zipD : List D → Option (List D)
  | [.lst l, .lst m] => some (pairD l m)
  | [.tup l, .tup m] => some (pairD l m)
  | [.str a, .str b] => some ((a.zip b).map fun q => .tup [.str [q.1], .str [q.2]])
  | _ => none
theorem itd_zipS {F H : Hp} {z w : Str} {a b : List Nat} (e : z.cps.toList = a) (k : w.cps.toList = b) : ItD G (ItzS z w) ((a.zip b).map fun q => .tup [.str [q.1], .str [q.2]]) F H := by
  subst e k
  refine ⟨fun F1 H1 i s1 s2 hlt => ?_, fun F1 H1 i v H2 s1 s2 y hlt => ?_, fun F1 H1 i s1 s2 hle => ?_⟩
  · have h : i < min z.cps.size w.cps.size := by simpa using hlt
    exact ⟨by omega, by omega⟩
  · obtain ⟨T, c, d, rfl, hT, rfl, hc, hd⟩ := y
    have stp := Step.frozen (o := .tup [.str ⟨#[c]⟩, .str ⟨#[d]⟩]) s2 hT
    refine ⟨_, .tup [.str [c], .str [d]], stp, ?_, .tup (.of upd_same) (.cons (.str rfl) (.cons (.str rfl) .nil))⟩
    have h : (z.cps.toList.zip w.cps.toList)[i]? = some (c, d) := List.getElem?_zip_eq_some.mpr ⟨by simpa using hc, by simpa using hd⟩
    simp [h]
  · have h : min z.cps.size w.cps.size ≤ i := by simpa using hle
    show z.cps.size ≤ i ∨ w.cps.size ≤ i
    omega
theorem mi_zip {e e2 : Expr} {r : List S → R (List HV)} {tpos : Pos} {elts : List Expr} {kk : Nat} (hK : X.K = G.K) (hg : Gl X "zip") (hm : X.mg "zip" = none) (ha : MA X G g W [e, e2] r)
    (hs : starEach [e, e2] X.env = (false, eval e X.env) :: starEach [e2] X.env := by rfl) (hpl : (backTo pos (starEach [e2] X.env)).any (·.1) = false := by rfl) :
    MI X G g W (.Tuple elts kk tpos) (.Call (.Name "zip" p) [e, e2] [] pos) (mSrc zipD r) :=
  pi_imp (pi_zipB hg hm ha hs hpl) fun σ H Rr h => by
  obtain ⟨F, ρ, I, k⟩ := tMI_src h
  refine ⟨F, ρ, I, k.imp fun F1 H1 ρ1 hs s1 I1 k1 vs rs => ?_⟩
  obtain ⟨F2, xs, l, s2, rt, e, k2⟩ := k1 vs rs
  rw [hK]
  unfold zipD at e
  split at e
  · cases e
    obtain ⟨v, u, rfl, rv, ru⟩ := Ra2 rt
    cases rv with
    | lst h1 r1 =>
      cases ru with
      | lst h2 r2 =>
        exact .inl ⟨_, _, _, _, rfl, .inl ⟨.of (s2 _ _ h1), .of (s2 _ _ h2), k2 _ (itd_pair r1 r2 (fun F3 H3 i a b c d => ⟨_, _, _, _, .of (b _ _ (a _ _ h1)), .of (b _ _ (a _ _ h2)), List.getElem?_eq_getElem c, List.getElem?_eq_getElem d⟩)
          (fun F3 H3 i v H4 a b ⟨T, x, y, e1, e2, e3, e4, e5⟩ => ⟨T, x, y, e1, e2, e3, e4 _ (.of (b _ _ (a _ _ h1))), e5 _ (.of (b _ _ (a _ _ h2)))⟩) fun F3 H3 i a b c => ⟨_, _, .of (b _ _ (a _ _ h1)), .of (b _ _ (a _ _ h2)), c⟩)⟩⟩
  · cases e
    obtain ⟨v, u, rfl, rv, ru⟩ := Ra2 rt
    cases rv with
    | tup h1 r1 =>
      cases ru with
      | tup h2 r2 =>
        exact .inl ⟨_, _, _, _, rfl, .inr ⟨sqT_same s2 h1, sqT_same s2 h2, k2 _ (itd_pair r1 r2 (fun F3 H3 i a b c d => ⟨_, _, _, _, sqT_same (a.trans b) h1, sqT_same (a.trans b) h2, List.getElem?_eq_getElem c, List.getElem?_eq_getElem d⟩)
          (fun F3 H3 i v H4 a b ⟨T, x, y, e1, e2, e3, e4, e5⟩ => ⟨T, x, y, e1, e2, e3, e4 _ (sqT_same (a.trans b) h1), e5 _ (sqT_same (a.trans b) h2)⟩) fun F3 H3 i a b c => ⟨_, _, sqT_same (a.trans b) h1, sqT_same (a.trans b) h2, c⟩)⟩⟩
  · cases e
    obtain ⟨v, u, rfl, rv, ru⟩ := Ra2 rt
    cases rv with
    | str h1 =>
      cases ru with
      | str h2 => exact .inr ⟨_, _, rfl, k2 _ (itd_zipS h1 h2)⟩
  · cases e
end
end MM
set_option Elab.async false
set_option maxRecDepth 100000
set_option maxHeartbeats 2000000
namespace MM
open PySem PySem.Spec PyProof.Rows L2
/-! ### helpers for printed texts -/
theorem takesF {X : Cx} : Takes X WF := fun u s' ⟨a, B, sI, pins, σ, H, cls, d, e, I, nb, up, sky, na, os, ag, w⟩ => w.elim
theorem Cal.of {P : Program} {w : World} {K : PySem.W.Frag} {mg : Str → Option Value} {base : Heap} {G : GG} {x qual : Str} {params : Arguments} {body : List Stmt} {scope : Scope} {dvs : List V} {kws : List (Str × V)} {f : Addr} {fd : FuncData} {ps : List Str} {k : Nat} {m : Fn}
    (F : FunD K x qual params body scope dvs kws f fd) (ok : FnOk P w K mg base (L2.CX P w) k f fd ps (spM G m ps.length)) (y : Str) (hm : mg y = some (.ref f)) (hb : Binds K fd ps []) : Cal P w K mg base G k y ps.length m :=
  ⟨f, fd, ps, ok, hm, F.kp, hb, rfl⟩
/-- a statement that no script reaches -/
def sBad : Sm := fun _ => .bad
def mBad : Ex := fun _ => .bad
theorem ms_bad {X : Cx} {G : GG} {g : Gh} {W : WX} {st : Stmt} : MS X G g W st sBad := ⟨fun pins s σ H D I ⟨F, ρ, J, k⟩ => k.elim⟩
theorem me_bad {X : Cx} {G : GG} {g : Gh} {W : WX} {e : Expr} : ME X G g W e mBad := ⟨fun pins s σ H D I ⟨F, ρ, J, k⟩ => k.elim⟩
def mBadT : List S → R Bool := fun _ => .bad
theorem mt_bad {X : Cx} {G : GG} {g : Gh} {W : WX} {e : Expr} : MT X G g W e mBadT := ⟨fun pins s σ H D I ⟨F, ρ, J, k⟩ => k.elim⟩
theorem me_strL {X : Cx} {G : GG} {g : Gh} {W : WX} {pos : Pos} {x : Str} {j} {l : List Nat} (h : x.cps.toList = l) : ME X G g W (.Constant (.str x) j pos) (mC (.str l)) := h ▸ me_str
theorem me_gint {X : Cx} {G : GG} {g : Gh} {W : WX} {pos : Pos} {x : Str} {i : Int} (hg : Gl X x) (hm : ∃ t, X.mg x = some (.int i t)) (hd : (x == ("__debug__" : Str)) = false := by decide) : ME X G g W (.Name x pos) (mC (.int i)) := by
  obtain ⟨t, hm⟩ := hm
  exact me_c (pe_glob (v := .int i) hg hm ⟨t, rfl⟩ hd) fun _ => .int _
theorem ints_rep {G : GG} {F : Hp} : ∀ ns : List Int, RepA G F (ns.map V.int) (ns.map D.int)
  | [] => .nil
  | n :: ns => .cons (.int n) (ints_rep ns)
theorem sp_law {G : GG} {m : Fn} (h : ∀ ns : List Int, ns.length ≤ 63 → ∃ ρ, m [.d (.ro (ns.map D.int))] = .rt (.d (.bl true)) ρ) (H : Hp) (a : Addr) (ns : List Int) (hl : ns.length ≤ 63) (hS : SqL G.K H a (ns.map V.int)) :
    spM G m 1 [.ref a] H (fun v _ => v = .bl true) fun _ _ _ => False := by
  obtain ⟨ρ, e⟩ := h ns hl
  refine ⟨rfl, H, [.d (.ro (ns.map D.int))], .refl _, ⟨rfl, fun i x q => ?_, fun i x q => ?_, fun i x q => ?_, fun i j x y a' _ q => ?_⟩, ?_⟩
  · match i, q with
    | 0, q => cases q; exact ⟨_, rfl, .ro hS (ints_rep ns)⟩
    | i + 1, q => cases q
  · match i, q with
    | 0, q => cases q
    | i + 1, q => cases q
  · match i, q with
    | 0, q => cases q
    | i + 1, q => cases q
  · match i, q with
    | 0, q => cases q
    | i + 1, q => cases q
  · rw [e]
    intro F' H' v _ r
    cases r
    rfl
/-- what may be let out, at any world -/
def CXW (P : Program) : CXT := fun outer H s E u s' => ∃ w, L2.CX P w outer H s E u s'
theorem FnOk.cxw {P : Program} {w : World} {K : PySem.W.Frag} {mg : Str → Option Value} {base : Heap} {k : Nat} {f : Addr} {fd : FuncData} {ps : List Str} {sp : Sp} (F : FnOk P w K mg base (L2.CX P w) k f fd ps sp) : FnOk P w K mg base (CXW P) k f fd ps sp :=
  ⟨F.len, fun A outer s H args us vs Q E hr he hb hv hs => codeAny_mono (F.run A outer s H args us vs Q E hr he hb hv hs) fun r s' c => by
    cases r with
    | ok y => cases y <;> exact c
    | error e => exact ⟨w, c⟩⟩
theorem cxw_out {P : Program} (H : Hp) (s : Shared) (e : Value) (s' : Shared) (h : CXW P [] H s (fun _ _ _ => False) e s') : False := by
  obtain ⟨w, a, B, H', cls, d, _, _, _, _, _, _, _, h⟩ := h
  exact h
end MM
set_option Elab.async false
set_option maxRecDepth 100000
set_option maxHeartbeats 2000000
namespace MM
open PySem PySem.Spec PyProof.Rows L2
/-! ### f(e) where e makes a new object, which f may change and which nobody else holds -/
def mCallN (m : Fn) (f : Ex) : Ex := fun ρ => (f ρ).bind fun rv ρ1 => match rv with
  | .f x => (match m [.p x] with
    | .rt rv' _ => .ok rv' ρ1
    | .ex e _ => .ex e ρ1
    | .bad => .bad)
  | _ => .bad
section
variable {X : Cx} {G : GG} {g : Gh} {W : WX} {pos p : Pos}
theorem pm_new {x : D} {a b : Addr} {i : Nat} (h : PM [S.p x] [V.ref a] i = some b) : b = a := by
  cases i with
  | zero => cases h; rfl
  | succ j => cases h
theorem Good.callN {F H F' H' : Hp} {ρ ρf : List S} {σ : L2.St} {a : Addr} {x : D} (I : Good G g F ρ σ H) (h0 : g.H a = none) (ap : ∀ (i : Nat) (s : S), ρ[i]? = some s → s.own ≠ none → σ[i]? ≠ some (some (V.ref a))) (nT : ∀ q ∈ g.T, q.1 ≠ a) (cp : CallPost G F H [S.p x] [V.ref a] ρf F' H') : Good G g F' ρ σ H' := by
  have stay : ∀ b o, H b = some o → b ≠ a → H' b = some o := fun b o e n => cp.keep b o e fun i q => n (pm_new q)
  have nof : ∀ b o, F b = none → H b = some o → F' b = none := fun b o e1 e2 => by
    cases q : F' b with
    | none => rfl
    | some u =>
      rcases cp.fresh b (by rw [q]; simp) with z | z
      · exact absurd e1 z
      · rw [e2] at z; cases z
  have own : ∀ b y, F b = none → OwnAt G F H b y → b ≠ a → F' b = none ∧ OwnAt G F' H' b y := fun b y e1 ow n => by
    obtain ⟨o, ho⟩ := ow.there
    exact ⟨nof b o e1 ho, ow.mono cp.ff ((stay b o ho n).trans ho.symm)⟩
  exact {
    len := I.len
    fh := cp.fh
    f0 := I.f0.trans cp.ff
    keep := fun b o e q => stay b o (I.keep b o e q) fun z => by rw [z, h0] at e; cases e
    fresh := fun b h => by
      rcases cp.fresh b h with z | z
      · exact I.fresh b z
      · exact .inr (newp I z).1
    dat := fun i y e => by
      obtain ⟨v, h1, h2⟩ := I.dat i y e
      exact ⟨v, h1, h2.mono cp.ff⟩
    obj := fun i y e => by
      obtain ⟨b, h1, h2, h3, h4⟩ := I.obj i y e
      have n : b ≠ a := fun z => ap i _ e (by simp [S.own]) (by rw [h1, z])
      obtain ⟨k1, k2⟩ := own b y h2 h3 n
      exact ⟨b, h1, k1, k2, h4⟩
    prm := fun i y e => by
      obtain ⟨b, h1, h2, h3, h4⟩ := I.prm i y e
      have n : b ≠ a := fun z => ap i _ e (by simp [S.own]) (by rw [h1, z])
      obtain ⟨k1, k2⟩ := own b y h2 h3 n
      exact ⟨b, h1, k1, k2, h4⟩
    par := I.par
    apart := I.apart
    tmp := fun q hq => by
      obtain ⟨h2, h3, h4, h5⟩ := I.tmp q hq
      obtain ⟨k1, k2⟩ := own q.1 q.2 h2 h3 (nT q hq)
      exact ⟨k1, k2, h4, h5⟩ }
theorem callN_go {m : Fn} {f : Ex} {σ : L2.St} {H : Hp} {Q : VK} (h : tM G g W (mCallN m f) σ H Q) : tCons (tM G g W f) tNil σ H fun vs H1 => spM G m 1 (vs ++ []) H1 Q (WE W σ) := by
  obtain ⟨F, ρ, I, k⟩ := h
  refine ⟨F, ρ, I, k.bind.imp fun F1 H1 ρ1 rv s1 I1 k1 v r => ?_⟩
  cases rv with
  | d x => exact k1.elim
  | r i => exact k1.elim
  | f x =>
    obtain ⟨a, rfl, n, h0, ow, ap, nT⟩ := r
    show spM G m 1 [V.ref a] H1 Q (WE W σ)
    refine ⟨rfl, F1, [.p x], I1.fh, ⟨rfl, fun i y q => ?_, fun i y q => ?_, fun i y q => ?_, fun i j y z b hij q q2 => ?_⟩, ?_⟩
    · match i, q with
      | 0, q => cases q
      | i + 1, q => cases q
    · match i, q with
      | 0, q => cases q; exact ⟨a, rfl, n, ow⟩
      | i + 1, q => cases q
    · match i, q with
      | 0, q => cases q
      | i + 1, q => cases q
    · match i, j, q, q2 with
      | 0, 0, _, _ => exact absurd rfl hij
      | i + 1, _, q, _ => cases q
      | 0, j + 1, _, q2 => cases q2
    · dsimp only at k1
      cases q : m [.p x] with
      | bad => rw [q] at k1; exact k1.elim
      | rt rv' ρf =>
        rw [q] at k1
        intro F2 H2 v2 cp ro
        have I2 := I1.callN h0 ap nT cp
        refine k1 F2 H2 cp.ff I2 v2 ?_
        cases rv' with
        | d y => exact ro
        | r i => exact ro.elim
        | f y =>
          obtain ⟨b, rfl, n1, n2, ow2⟩ := ro
          obtain ⟨z1, z2, z3⟩ := newp I1 n1
          exact ⟨b, rfl, n2, z1, ow2, z2, z3⟩
      | ex e ρf =>
        rw [q] at k1
        exact fun F2 H2 cls d cp rx => k1 F2 H2 cls d cp.ff (I1.callN h0 ap nT cp) rx
theorem me_callN {x : Str} {e : Expr} {m : Fn} {f : Ex} {k j : Nat} (c : Cal X.prog X.w X.K X.mg X.base G k x 1 m) (hr : Room j X.A) (hk : k ≤ j) (hg : Gl X x) (tk : Takes X W) (ha : ME X G g W e f)
    (hdb : (x == ("__debug__" : Str)) = false := by decide) (hs : starEach [e] X.env = (false, eval e X.env) :: starEach [] X.env := by rfl) (hpl : (backTo pos (starEach [] X.env)).any (·.1) = false := by rfl) :
    ME X G g W (.Call (.Name x p) [e] [] pos) (mCallN m f) := by
  obtain ⟨fa, fd, ps, F, hm, hkp, hb, hn⟩ := c.ex
  rw [← hn] at F
  exact pe_imp (pe_callSD (E := fun σ => WE W σ) F (hr.mono hk) hg hm hkp hb .nil (fun σ => passAt tk σ) (pa_cons ha pa_nil hs) hdb hs hpl) fun _ _ _ => callN_go
end
end MM
set_option Elab.async false
set_option maxRecDepth 100000
set_option maxHeartbeats 2000000
namespace MM
open PySem PySem.Spec PyProof.Rows L2
/-! ### a list comprehension of two clauses -/
section
variable {G : GG} {g : Gh}
theorem lcM_loop {t : Tg} {vs : List Nat} {tt : List S → R Bool} {f : Ex} (ht : ∀ i ∈ t.ixs, i ∈ vs) {σ : L2.St} (hP : ∀ i a, g.P i = some a → i ∉ vs) {J : It} {items : List D} {F0 H0 Hs : Hp} {D0 : Addr} {acc0 ys : List D} {ρ0 ρe : List S}
    (hJ : ItD G J items F0 H0) (w3 : ∀ q ∈ g.T, q.1 ≠ D0) (J0 : Good G (g.addT (D0, .lst acc0)) F0 ρ0 (wipe σ vs) Hs) (qr : lcM t vs tt f items ρ0 = .ok ys ρe) (hz : acc0.length + ys.length ≤ sizeLine) (End : Hp → Prop)
    (hEnd : ∀ F1 H1, Same F0 F1 → Good G (g.addT (D0, .lst (acc0 ++ ys))) F1 ρe (wipe σ vs) H1 → End H1) :
    ∃ W1 : Nat → Nat → Hp → Prop, (∃ m, W1 0 m Hs) ∧ ∀ i m H, W1 i m H → (J.stop i H ∧ End H) ∨ (J.go i H ∧ ∃ Nx : Hp → Prop, (∀ H', Nx H' → ∃ m', m' < m ∧ W1 (i + 1) m' H') ∧ ∀ v H', J.yld i H v H' →
      tMGX G t v (wipe σ vs) H' fun σ2 H2 => wipe σ2 vs = wipe σ vs ∧ tMTX G WF tt σ2 H2 fun b H3 => if b = true then tMDX G WF (mForce f) σ2 H3 fun y H4 => ∃ acc, H4 D0 = some (.lst acc) ∧ acc.length < sizeLine ∧ Nx (upd H4 D0 (.lst (acc ++ [y]))) else Nx H3) := by
  refine ⟨fun i m H => m = items.length - i ∧ i ≤ items.length ∧ ∃ F1 ρ1 acc rest, Same F0 F1 ∧ Good G (g.addT (D0, .lst acc)) F1 ρ1 (wipe σ vs) H ∧ lcM t vs tt f (items.drop i) ρ1 = .ok rest ρe ∧ acc ++ rest = acc0 ++ ys,
    ⟨items.length, by simp, Nat.zero_le _, F0, _, acc0, ys, .refl _, J0, qr, rfl⟩, ?_⟩
  rintro i m H1 ⟨rfl, hi, F1, ρ1, acc, rest, s1, Ja, er, ey⟩
  have hF1 : Same F1 H1 := Ja.fh
  by_cases hlt : i < items.length
  · refine .inr ⟨hJ.go F1 H1 i s1 hF1 hlt, fun H' => ∃ F2 ρ2 acc2 rest2, Same F0 F2 ∧ Good G (g.addT (D0, .lst acc2)) F2 ρ2 (wipe σ vs) H' ∧ lcM t vs tt f (items.drop (i + 1)) ρ2 = .ok rest2 ρe ∧ acc2 ++ rest2 = acc0 ++ ys,
      fun H' h => ⟨items.length - (i + 1), by omega, rfl, hlt, h⟩, fun v H2 y => ?_⟩
    obtain ⟨F2, x, st, hx, r⟩ := hJ.yld F1 H1 i v H2 s1 hF1 y hlt
    have Jb := Ja.step st
    rw [List.drop_eq_getElem_cons hlt] at er
    have ex : items[i] = x := by
      rw [List.getElem?_eq_getElem hlt] at hx
      exact Option.some.inj hx
    rw [ex] at er
    unfold lcM at er
    cases q : t.put x ρ1 with
    | none => rw [q] at er; cases er
    | some ρ2 =>
      rw [q] at er
      dsimp only at er
      refine ⟨_, F2, ρ1, x, ρ2, Jb, r, q, fun σ2 Jc wq => ⟨?_, ?_⟩⟩
      · rw [wq vs ht, wipe_wipe]
      · cases q2 : tt ρ2 with
        | bad => rw [q2] at er; cases er
        | ex _ _ => rw [q2] at er; cases er
        | ok b ρ3 =>
          rw [q2] at er
          have er : (if b = true then (mForce f ρ3).bind fun y ρ3 => (lcM t vs tt f (items.drop (i + 1)) (wipeS ρ3 vs)).bind fun ys ρ4 => R.ok (y :: ys) ρ4
            else lcM t vs tt f (items.drop (i + 1)) (wipeS ρ3 vs)) = R.ok rest ρe := er
          have wσ : wipe σ2 vs = wipe σ vs := by rw [wq vs ht, wipe_wipe]
          refine ⟨g.addT (D0, .lst acc), F2, ρ2, Jc, ?_⟩
          rw [q2]
          intro F3 H3 s3 Jd
          cases b with
          | false =>
            rw [if_neg Bool.false_ne_true] at er ⊢
            have Je := Jd.wiped (vs := vs) hP
            rw [wσ] at Je
            exact ⟨F3, _, acc, rest, (s1.trans st.ff).trans s3, Je, er, ey⟩
          | true =>
            rw [if_pos rfl] at er ⊢
            cases q3 : mForce f ρ3 with
            | bad => rw [q3] at er; cases er
            | ex _ _ => rw [q3] at er; cases er
            | ok y ρ4 =>
              rw [q3] at er
              have er : ((lcM t vs tt f (items.drop (i + 1)) (wipeS ρ4 vs)).bind fun ys ρ5 => R.ok (y :: ys) ρ5) = R.ok rest ρe := er
              cases q4 : lcM t vs tt f (items.drop (i + 1)) (wipeS ρ4 vs) with
              | bad => rw [q4] at er; cases er
              | ex _ _ => rw [q4] at er; cases er
              | ok ys' ρ5 =>
                rw [q4] at er
                cases er
                refine ⟨g.addT (D0, .lst acc), F3, ρ3, Jd, ?_⟩
                rw [q3]
                intro F4 H4 s4 Je u ru
                obtain ⟨nF, ⟨xs, hx1, hx2⟩, h0, ap⟩ := Je.headT
                have hlen : xs.length = acc.length := hx2.length
                have hsz : acc.length + (ys'.length + 1) = acc0.length + ys.length := by
                  have := congrArg List.length ey
                  simpa using this
                refine ⟨xs, hx1, by omega, F4, wipeS ρ4 vs, acc ++ [y], ys', ((s1.trans st.ff).trans s3).trans s4, ?_, q4, by rw [← ey]; simp⟩
                have ow : OwnAt G F4 (upd H4 D0 (.lst (xs ++ [u]))) D0 (.lst (acc ++ [y])) := ⟨_, upd_same, hx2.append (.ones ru)⟩
                have Jf := (Je.changeT w3 ow).wiped (vs := vs) hP
                rw [wσ] at Jf
                exact Jf
  · have e : items.drop i = [] := List.drop_eq_nil_of_le (by omega)
    rw [e] at er
    cases er
    rw [List.append_nil] at ey
    subst ey
    exact .inl ⟨hJ.stop F1 H1 i s1 hF1 (by omega), hEnd F1 H1 s1 Ja⟩
theorem wipe_sub {σ : L2.St} {vs vs1 : List Nat} (h : ∀ i ∈ vs1, i ∈ vs) : wipe (wipe σ vs1) vs = wipe σ vs := by
  apply List.ext_getElem?
  intro j
  rw [wipe_get, wipe_get, wipe_get, wipe_length]
  by_cases h1 : j ∈ vs ∧ j < σ.length
  · rw [if_pos h1, if_pos h1]
  · rw [if_neg h1, if_neg h1, if_neg fun z => h1 ⟨h j z.1, z.2⟩]
def tMIX (G : GG) (f : List S → R (List D)) : TI := fun σ H Rr => ∃ g, tMI G g WF f σ H Rr
theorem pi_ex {X : Cx} {tg iter : Expr} {f : List S → R (List D)} (h : ∀ g, MI X G g WF tg iter f) : PI X tg iter (tMIX G f) := ⟨fun pins s σ H Rr I ⟨g, w⟩ => (h g).run pins s σ H Rr I w⟩
def lcM2 (t : Tg) (vs : List Nat) (tt : List S → R Bool) (it1 : List S → R (List D)) (t1 : Tg) (vs1 : List Nat) (tt1 : List S → R Bool) (f : Ex) : List D → List S → R (List D)
  | [], ρ => .ok [] ρ
  | x :: r, ρ => match t.put x ρ with
    | none => .bad
    | some ρ1 => (tt ρ1).bind fun b ρ2 => if b = true then (it1 ρ2).bind fun items1 ρ3 => (lcM t1 vs1 tt1 f items1 (wipeS ρ3 vs1)).bind fun ys ρ4 => (lcM2 t vs tt it1 t1 vs1 tt1 f r (wipeS ρ4 vs)).bind fun zs ρ5 => .ok (ys ++ zs) ρ5
      else lcM2 t vs tt it1 t1 vs1 tt1 f r (wipeS ρ2 vs)
def mLc2 (it : List S → R (List D)) (t : Tg) (vs : List Nat) (tt : List S → R Bool) (it1 : List S → R (List D)) (t1 : Tg) (vs1 : List Nat) (tt1 : List S → R Bool) (f : Ex) : Ex := fun ρ => (it ρ).bind fun items ρ1 => if hidOk ρ1 vs = true then (lcM2 t vs tt it1 t1 vs1 tt1 f items (wipeS ρ1 vs)).calm.bind fun ys ρ2 => if ys.length ≤ sizeLine then .ok (.f (.lst ys)) (backW ρ2 ρ1 vs) else .bad else .bad
theorem lc2_go {W : WX} {it it1 : List S → R (List D)} {t t1 : Tg} {vs vs1 : List Nat} {tt tt1 : List S → R Bool} {f : Ex} (ht : ∀ i ∈ t.ixs, i ∈ vs) (ht1 : ∀ i ∈ t1.ixs, i ∈ vs1) (hv : ∀ i ∈ vs1, i ∈ vs) {σ : L2.St} {H : Hp} {Q : VK} (k : tM G g W (mLc2 it t vs tt it1 t1 vs1 tt1 f) σ H Q) :
    tLc2 (tMI G g W it) (tMGX G t) (tMTX G WF tt) (tMIX G it1) (tMGX G t1) (tMTX G WF tt1) (tMDX G WF (mForce f)) vs vs1 σ H Q := by
  obtain ⟨F, ρ, I, k⟩ := k
  refine ⟨F, ρ, I, k.bind.imp fun F0 H0 ρ0 items s0 I0 k0 J hJ D0 nD => ?_⟩
  split at k0
  case isFalse => exact k0.elim
  rename_i ok
  cases qr : lcM2 t vs tt it1 t1 vs1 tt1 f items (wipeS ρ0 vs) with
  | bad => rw [qr] at k0; exact k0.elim
  | ex _ _ => rw [qr] at k0; exact k0.elim
  | ok ys ρe =>
    rw [qr] at k0
    have k0 : Post G g W F0 σ (if ys.length ≤ sizeLine then R.ok (RV.f (.lst ys)) (backW ρe ρ0 vs) else .bad) _ := k0
    split at k0
    case isFalse => exact k0.elim
    rename_i hz
    have nF0 : F0 D0 = none := I0.fh.free nD
    obtain ⟨w1, w2, w3⟩ := newp I0 nD
    have st0 : Step F0 H0 F0 (upd H0 D0 (.lst [])) := Step.new I0.fh nD
    have hP := I0.noPar ok
    have hP1 : ∀ i a, g.P i = some a → i ∉ vs1 := fun i a h z => hP i a h (hv i z)
    have I1 := (I0.step st0).wiped (vs := vs) hP
    have own1 : ∀ (i : Nat) (s : S), (wipeS ρ0 vs)[i]? = some s → s.own ≠ none → (wipe σ vs)[i]? ≠ some (some (V.ref D0)) := fun i s hi hs e => by
      rw [wipeS_get] at hi
      split at hi
      · cases hi
        exact hs rfl
      · exact w2 i s hi hs (wipe_some e).1
    have J0 : Good G (g.addT (D0, .lst [])) F0 (wipeS ρ0 vs) (wipe σ vs) (upd H0 D0 (.lst [])) := I1.addT nF0 w1 ⟨[], upd_same, .nil⟩ own1
    refine ⟨fun i m H => m = items.length - i ∧ i ≤ items.length ∧ ∃ F1 ρ1 acc rest, Same F0 F1 ∧ Good G (g.addT (D0, .lst acc)) F1 ρ1 (wipe σ vs) H ∧ lcM2 t vs tt it1 t1 vs1 tt1 f (items.drop i) ρ1 = .ok rest ρe ∧ acc ++ rest = ys,
      ⟨items.length, by simp, Nat.zero_le _, F0, _, [], ys, .refl _, J0, qr, rfl⟩, ?_⟩
    rintro i m H1 ⟨rfl, hi, F1, ρ1, acc, rest, s1, Ja, er, ey⟩
    have hF1 : Same F1 H1 := Ja.fh
    by_cases hlt : i < items.length
    · refine .inr ⟨hJ.go F1 H1 i s1 hF1 hlt, fun H' => ∃ F2 ρ2 acc2 rest2, Same F0 F2 ∧ Good G (g.addT (D0, .lst acc2)) F2 ρ2 (wipe σ vs) H' ∧ lcM2 t vs tt it1 t1 vs1 tt1 f (items.drop (i + 1)) ρ2 = .ok rest2 ρe ∧ acc2 ++ rest2 = ys,
        fun H' h => ⟨items.length - (i + 1), by omega, rfl, hlt, h⟩, fun v H2 y => ?_⟩
      obtain ⟨F2, x, st, hx, r⟩ := hJ.yld F1 H1 i v H2 s1 hF1 y hlt
      have Jb := Ja.step st
      rw [List.drop_eq_getElem_cons hlt] at er
      have ex : items[i] = x := by
        rw [List.getElem?_eq_getElem hlt] at hx
        exact Option.some.inj hx
      rw [ex] at er
      unfold lcM2 at er
      cases q : t.put x ρ1 with
      | none => rw [q] at er; cases er
      | some ρ2 =>
        rw [q] at er
        dsimp only at er
        refine ⟨_, F2, ρ1, x, ρ2, Jb, r, q, fun σ2 Jc wq => ⟨?_, ?_⟩⟩
        · rw [wq vs ht, wipe_wipe]
        · cases q2 : tt ρ2 with
          | bad => rw [q2] at er; cases er
          | ex _ _ => rw [q2] at er; cases er
          | ok b ρ3 =>
            rw [q2] at er
            have er : (if b = true then (it1 ρ3).bind fun items1 ρ3 => (lcM t1 vs1 tt1 f items1 (wipeS ρ3 vs1)).bind fun ys ρ4 => (lcM2 t vs tt it1 t1 vs1 tt1 f (items.drop (i + 1)) (wipeS ρ4 vs)).bind fun zs ρ5 => R.ok (ys ++ zs) ρ5
              else lcM2 t vs tt it1 t1 vs1 tt1 f (items.drop (i + 1)) (wipeS ρ3 vs)) = R.ok rest ρe := er
            have wσ : wipe σ2 vs = wipe σ vs := by rw [wq vs ht, wipe_wipe]
            refine ⟨g.addT (D0, .lst acc), F2, ρ2, Jc, ?_⟩
            rw [q2]
            intro F3 H3 s3 Jd
            cases b with
            | false =>
              rw [if_neg Bool.false_ne_true] at er ⊢
              have Je := Jd.wiped (vs := vs) hP
              rw [wσ] at Je
              exact ⟨F3, _, acc, rest, (s1.trans st.ff).trans s3, Je, er, ey⟩
            | true =>
              rw [if_pos rfl] at er ⊢
              cases q3 : it1 ρ3 with
              | bad => rw [q3] at er; cases er
              | ex _ _ => rw [q3] at er; cases er
              | ok items1 ρ4 =>
                rw [q3] at er
                have er : ((lcM t1 vs1 tt1 f items1 (wipeS ρ4 vs1)).bind fun ys ρ4 => (lcM2 t vs tt it1 t1 vs1 tt1 f (items.drop (i + 1)) (wipeS ρ4 vs)).bind fun zs ρ5 => R.ok (ys ++ zs) ρ5) = R.ok rest ρe := er
                cases q4 : lcM t1 vs1 tt1 f items1 (wipeS ρ4 vs1) with
                | bad => rw [q4] at er; cases er
                | ex _ _ => rw [q4] at er; cases er
                | ok ys1 ρ5 =>
                  rw [q4] at er
                  have er : ((lcM2 t vs tt it1 t1 vs1 tt1 f (items.drop (i + 1)) (wipeS ρ5 vs)).bind fun zs ρ5 => R.ok (ys1 ++ zs) ρ5) = R.ok rest ρe := er
                  cases q5 : lcM2 t vs tt it1 t1 vs1 tt1 f (items.drop (i + 1)) (wipeS ρ5 vs) with
                  | bad => rw [q5] at er; cases er
                  | ex _ _ => rw [q5] at er; cases er
                  | ok zs ρ6 =>
                    rw [q5] at er
                    cases er
                    refine ⟨g.addT (D0, .lst acc), F3, ρ3, Jd, ?_⟩
                    rw [q3]
                    intro F4 H4 s4 Je J1 hJ1
                    have sz : acc.length + ys1.length ≤ sizeLine := by
                      have := congrArg List.length ey
                      simp at this
                      omega
                    refine lcM_loop ht1 hP1 hJ1 w3 (Je.wiped (vs := vs1) hP1) q4 sz _ fun F5 H5 s5 Jf => ?_
                    have Jg := Jf.wiped (vs := vs) hP
                    rw [wipe_sub hv, wσ] at Jg
                    exact ⟨F5, _, acc ++ ys1, zs, (((s1.trans st.ff).trans s3).trans s4).trans s5, Jg, q5, by rw [← ey]; simp⟩
    · have e : items.drop i = [] := List.drop_eq_nil_of_le (by omega)
      rw [e] at er
      cases er
      refine .inl ⟨hJ.stop F1 H1 i s1 hF1 (by omega), ?_⟩
      rw [List.append_nil] at ey
      subst ey
      obtain ⟨nF, ow, h0, ap⟩ := Ja.headT
      have Ie := I0.unwiped ok s1 Ja.dropT
      refine k0 F1 H1 s1 Ie _ ⟨D0, rfl, nF, h0, ow, fun i s hi hs => ?_, w3⟩
      rw [backW_get] at hi
      split at hi
      · rename_i hm
        have := List.all_eq_true.mp ok i hm.1
        cases q : ρ0[i]? with
        | none => rw [q] at this; cases this
        | some s' =>
          rw [q] at this hi
          cases hi
          intro _
          cases s' with
          | un => exact hs rfl
          | d _ => exact hs rfl
          | o _ => cases this
          | p _ => cases this
      · rename_i hm
        have hl : i < ρe.length := (List.getElem?_eq_some_iff.mp hi).1
        have hj : i ∉ vs := fun z => hm ⟨z, hl⟩
        have z := ap i s hi hs
        rw [wipe_out hj] at z
        exact z
end
section
variable {X : Cx} {G : GG} {g : Gh} {W : WX} {pos p : Pos}
theorem me_lc2 {elt tg iter tg1 iter1 : Expr} {ifs ifs1 : List Expr} {scope : Scope} {own : List (Str × Nat)} {it it1 : List S → R (List D)} {t t1 : Tg} {vs1 : List Nat} {tt tt1 : List S → R Bool} {f : Ex} (hc : X.calm = true) (hN : X.N.Nodup) (hi : MI X G g W tg iter it) (ok : BlkOk X.N X.env.scope scope own) (hv : ∀ i ∈ vs1, i ∈ own.map (·.2)) (hx : ∀ i ∈ t.ixs, i ∈ own.map (·.2)) (hx1 : ∀ i ∈ t1.ixs, i ∈ vs1)
    (hg : ∀ (s : Shared) (H : Hp) (C : Addr) (cl : List (Str × Addr)) (fp : List Addr) (g : Gh), MG (X.blk s H scope (compEnvC scope cl C X.env) fp) G g tg t) (ht : ∀ (s : Shared) (H : Hp) (C : Addr) (cl : List (Str × Addr)) (fp : List Addr) (g : Gh), MTs (X.blk s H scope (compEnvC scope cl C X.env) fp) G g WF ifs tt)
    (hi1 : ∀ (s : Shared) (H : Hp) (C : Addr) (cl : List (Str × Addr)) (fp : List Addr) (g : Gh), MI (X.blk s H scope (compEnvC scope cl C X.env) fp) G g WF tg1 iter1 it1)
    (hg1 : ∀ (s : Shared) (H : Hp) (C : Addr) (cl : List (Str × Addr)) (fp : List Addr) (g : Gh), MG (X.blk s H scope (compEnvC scope cl C X.env) fp) G g tg1 t1) (ht1 : ∀ (s : Shared) (H : Hp) (C : Addr) (cl : List (Str × Addr)) (fp : List Addr) (g : Gh), MTs (X.blk s H scope (compEnvC scope cl C X.env) fp) G g WF ifs1 tt1)
    (he : ∀ (s : Shared) (H : Hp) (C : Addr) (cl : List (Str × Addr)) (fp : List Addr) (g : Gh), ME (X.blk s H scope (compEnvC scope cl C X.env) fp) G g WF elt f) (hs : ∀ x, foldedSetIterable iter X.env x = pure x := by intro _; rfl) (hs1 : ∀ env x, foldedSetIterable iter1 env x = pure x := by intro _ _; rfl) :
    ME X G g W (.ListComp elt [⟨tg, iter, ifs, 0⟩, ⟨tg1, iter1, ifs1, 0⟩] scope pos) (mLc2 it t (own.map (·.2)) tt it1 t1 vs1 tt1 f) :=
  pe_imp (pe_lc2 hc hN hi ok hv (fun s H C cl fp => pg_ex (hg s H C cl fp)) (fun s H C cl fp => pts_ex (ht s H C cl fp)) (fun s H C cl fp => pi_ex (hi1 s H C cl fp)) (fun s H C cl fp => pg_ex (hg1 s H C cl fp)) (fun s H C cl fp => pts_ex (ht1 s H C cl fp)) (fun s H C cl fp => pd_ex (he s H C cl fp)) hs hs1) fun _ _ _ => lc2_go hx hx1 hv
theorem ms_setLc2 {i : Nat} {y : Str} {py spos : Pos} {elt tg iter tg1 iter1 : Expr} {ifs ifs1 : List Expr} {scope : Scope} {own : List (Str × Nat)} {it it1 : List S → R (List D)} {t t1 : Tg} {vs1 : List Nat} {tt tt1 : List S → R Bool} {f : Ex} (hc : X.calm = true) (hN : X.N.Nodup) (hy : X.N[i]? = some y) (hyl : X.env.scope.names.lookup y = some .local)
    (hsw : swapsWith (.ListComp elt [⟨tg, iter, ifs, 0⟩, ⟨tg1, iter1, ifs1, 0⟩] scope pos) (some (.Name y py)) spos.line X.env = pure true) (hi : MI X G g W tg iter it) (ok : BlkOk X.N X.env.scope scope own) (hv : ∀ i ∈ vs1, i ∈ own.map (·.2)) (hx : ∀ i ∈ t.ixs, i ∈ own.map (·.2)) (hx1 : ∀ i ∈ t1.ixs, i ∈ vs1)
    (hg : ∀ (s : Shared) (H : Hp) (C : Addr) (cl : List (Str × Addr)) (fp : List Addr) (g : Gh), MG (X.blk s H scope (compEnvC scope cl C X.env) fp) G g tg t) (ht : ∀ (s : Shared) (H : Hp) (C : Addr) (cl : List (Str × Addr)) (fp : List Addr) (g : Gh), MTs (X.blk s H scope (compEnvC scope cl C X.env) fp) G g WF ifs tt)
    (hi1 : ∀ (s : Shared) (H : Hp) (C : Addr) (cl : List (Str × Addr)) (fp : List Addr) (g : Gh), MI (X.blk s H scope (compEnvC scope cl C X.env) fp) G g WF tg1 iter1 it1)
    (hg1 : ∀ (s : Shared) (H : Hp) (C : Addr) (cl : List (Str × Addr)) (fp : List Addr) (g : Gh), MG (X.blk s H scope (compEnvC scope cl C X.env) fp) G g tg1 t1) (ht1 : ∀ (s : Shared) (H : Hp) (C : Addr) (cl : List (Str × Addr)) (fp : List Addr) (g : Gh), MTs (X.blk s H scope (compEnvC scope cl C X.env) fp) G g WF ifs1 tt1)
    (he : ∀ (s : Shared) (H : Hp) (C : Addr) (cl : List (Str × Addr)) (fp : List Addr) (g : Gh), ME (X.blk s H scope (compEnvC scope cl C X.env) fp) G g WF elt f) (hs : ∀ x, foldedSetIterable iter X.env x = pure x := by intro _; rfl) (hs1 : ∀ env x, foldedSetIterable iter1 env x = pure x := by intro _ _; rfl) :
    MS X G g W (.Assign [.Name y py] (.ListComp elt [⟨tg, iter, ifs, 0⟩, ⟨tg1, iter1, ifs1, 0⟩] scope pos) spos) (sSet i (mLc2 it t (own.map (·.2)) tt it1 t1 vs1 tt1 f)) :=
  ps_imp (ps_setLc2 hc hN hy hyl hsw hi ok hv (fun s H C cl fp => pg_ex (hg s H C cl fp)) (fun s H C cl fp => pts_ex (ht s H C cl fp)) (fun s H C cl fp => pi_ex (hi1 s H C cl fp)) (fun s H C cl fp => pg_ex (hg1 s H C cl fp)) (fun s H C cl fp => pts_ex (ht1 s H C cl fp)) (fun s H C cl fp => pd_ex (he s H C cl fp)) hs hs1) fun D σ H k => lc2_go hx hx1 hv (set_go k)
/-! ### a starred part of a display -/
def seqL : D → Option (List D)
  | .lst l => some l
  | .tup l => some l
  | .ro l => some l
  | _ => none
def mStar (f : Ex) (r : List S → R (List HV)) : List S → R (List HV) := fun ρ => (mForce f ρ).bind fun x ρ1 => match seqL x with
  | some l => (r ρ1).bind fun hs ρ2 => .ok (l.map HV.d ++ hs) ρ2
  | none => .bad
theorem hvs_app {F : Hp} {σ : L2.St} : ∀ {xs : List V} {l : List D} {vs : List V} {hs : List HV}, RepA G F xs l → RepHs G F σ vs hs → RepHs G F σ (xs ++ vs) (l.map HV.d ++ hs)
  | _, _, _, _, .nil, r => r
  | _, _, _, _, .cons a b, r => .cons a (hvs_app b r)
theorem seqL_rep {F H : Hp} {v : V} {x : D} {l : List D} (s : Same F H) (r : Rep G F v x) (e : seqL x = some l) : ∃ a xs, v = .ref a ∧ (SqT G.K H a xs ∨ SqL G.K H a xs) ∧ RepA G F xs l := by
  cases r with
  | lst h ra => cases e; exact ⟨_, _, rfl, .inr (.of (s _ _ h)), ra⟩
  | tup h ra => cases e; exact ⟨_, _, rfl, .inl (sqT_same s h), ra⟩
  | ro h ra => cases e; exact ⟨_, _, rfl, .inr (s.seq h), ra⟩
  | non => cases e
  | bl => cases e
  | int => cases e
  | str => cases e
  | dic => cases e
  | ins => cases e
theorem ma_star {e : Expr} {es : List Expr} {f : Ex} {r : List S → R (List HV)} (hK : X.K = G.K) (ha : ME X G g W e f) (hr : MA X G g W es r) (hs : starEach (.Starred e p :: es) X.env = (true, eval e X.env) :: starEach es X.env := by rfl) : MA X G g W (.Starred e p :: es) (mStar f r) :=
  pa_imp (StX.pa_star (me_force ha) hr hs) fun σ H Q ⟨F, ρ, I, k⟩ => ⟨F, ρ, I, k.bind.imp fun F1 H1 ρ1 x s1 I1 k1 v rv => by
    rw [hK]
    cases q : seqL x with
    | none => rw [q] at k1; exact k1.elim
    | some l =>
      rw [q] at k1
      obtain ⟨a, xs, rfl, sq, ra⟩ := seqL_rep I1.fh rv q
      exact ⟨a, xs, rfl, sq, F1, ρ1, I1, k1.bind.imp fun F2 H2 ρ2 hs s2 I2 k3 vs rvs => k3 F2 H2 (.refl _) I2 _ (hvs_app (ra.mono s2) rvs)⟩⟩
/-! ### repr of a bool -/
def reprD : List D → Option RV
  | [.bl b] => some (.d (.str (if b then [84, 114, 117, 101] else [70, 97, 108, 115, 101])))
  | _ => none
theorem call_reprB : CallR X (.builtin "repr") (fun xs H Q => ∃ b, xs = [.bl b] ∧ Q (.str (if b then "True" else "False")) H) := fun pins s σ H xs us Q I r h => by
  obtain ⟨b, rfl, q⟩ := h
  cases r with
  | cons ru rn =>
    cases rn
    have ru : _ = Value.bool b := ru
    subst ru
    exact PySem.P.repr_of_bool ⟨.str _, H, I.tok _, ⟨_, rfl⟩, q⟩
theorem c_repr : CallR X (.builtin "repr") (rCD G reprD) := callr_of call_reprB fun vs H Q ⟨F, xs, rv, s, rs, e, k⟩ => by
  unfold reprD at e
  split at e
  · rename_i b
    cases e
    obtain ⟨v, rfl, rv⟩ := Ts1 rs
    rcases rv with rv | ⟨a, _, h⟩
    · cases rv
      refine ⟨b, rfl, k F H _ (Step.refl s) ?_⟩
      cases b with
      | true => exact .str (by decide +kernel)
      | false => exact .str (by decide +kernel)
    · exact h.elim
  · cases e
/-! ### an empty dict -/
def mDict0 : Ex := fun ρ => .ok (.f (.dic [])) ρ
theorem me_dict0 : ME X G g W (.Dict [] [] pos) mDict0 := pe_imp pe_dnewK fun σ H Q ⟨F, ρ, I, k⟩ => fun q nq => by
  have st := Step.new (o := .dK []) I.fh nq
  have ro : RepO G H F (upd H q (.dK [])) (.ref q) (.f (.dic [])) := ⟨q, rfl, nq, I.fh.free nq, [], upd_same, .nil⟩
  exact k F _ (.refl _) (I.step st) _ (ro.toV I st)
end
end MM
set_option Elab.async false
set_option maxRecDepth 100000
set_option maxHeartbeats 4000000
namespace MM
open PySem
/-! ### evaluation of mirrors -/
theorem bind_ok {α β : Type} (a : α) (ρ : List S) (k : α → List S → R β) : (R.ok a ρ).bind k = k a ρ := rfl
theorem of_ok {α : Type} (a : α) (ρ : List S) (k : α → List S → Out) : Out.of (R.ok a ρ) k = k a ρ := rfl
def bitB : Sm := sSeq (sIf (mTestB (mBin gtD (mBin ixD (mVar 0) (mC (.int 0))) (mC (.int 0)))) (sSeq (sSet 2 (mBin modD (mCB intD (mCons (mBin ixD (mVar 0) (mC (.int 0))) (mNil))) (mVar 1))) (sSeq (sSetIx 0 (mC (.int 0)) (mBin fdivD (mBin ixD (mVar 0) (mC (.int 0))) (mVar 1))) (sRet (mVar 2)))) (sNext)) (sSeq (sSetIx 0 (mC (.int 2)) (mBin addD (mBin ixD (mVar 0) (mC (.int 2))) (mC (.int 1)))) (sSeq (sSet 3 (mBin modD (mCB intD (mCons (mBin addD (mBin ixD (mVar 0) (mC (.int 1))) (mBin mulD (mC (.int 1000423)) (mBin ixD (mVar 0) (mC (.int 2))))) (mNil))) (mC (.int 2305843009213693951)))) (sSeq (sSet 4 (mBin addD (mBin mulD (mBin modD (mCB intD (mCons (mBin mulD (mVar 3) (mVar 3)) (mNil))) (mC (.int 2305843009213693921))) (mVar 3)) (mBin mulD (mC (.int 9127)) (mBin ixD (mVar 0) (mC (.int 2)))))) (sRet (mBin modD (mCB intD (mCons (mBin fdivD (mBin modD (mCB intD (mCons (mVar 4) (mNil))) (mC (.int 2305843009213693907))) (mC (.int 16384))) (mNil))) (mVar 1))))))
def bitM : Fn := fnM 5 bitB
theorem bit_pos {a b c m : Int} (ha : 0 < a) (hm : 0 < m) (hl : m.natAbs.log2 < 9000) : bitM [.p (.lst [.int a, .int b, .int c]), .d (.int m)] = .rt (.d (.int (a % m))) [.p (.lst [.int (a / m), .int b, .int c]), .d (.int m), .d (.int (a % m)), .un, .un] := by
  simp [bitM, fnM, bitB, sSeq, sIf, mTestB, mBin, mVar, mC, mHold, R.bind, Out.of, peekH, ixD, L2.atI, L2.ixN, ret, gtD, cmpD, ha, sSet, mCB, mCons, mNil, peekHs, intD, modD, hm, putRV, putD, nxO, sSetIx, mForce, forceRV, fdivD, hl, S.own, S.chg, sRet, retv]
theorem log2_lt {n k : Nat} (h : n < 2 ^ k) (hk : 0 < k) : n.log2 < k := by
  by_cases h0 : n = 0
  · subst h0
    simpa using hk
  · exact (Nat.log2_lt h0).mpr h
theorem mulOk_of {i j : Int} (hi : i.natAbs < 2 ^ 4000) (hj : j.natAbs < 2 ^ 4000) : mulOk i j = true := by
  have h1 := log2_lt hi (by decide)
  have h2 := log2_lt hj (by decide)
  unfold mulOk
  rw [decide_eq_true_eq]
  omega
theorem abs_lt {i : Int} {k : Nat} (h0 : 0 ≤ i) (h : i < 2 ^ k) : i.natAbs < 2 ^ k := by
  have e : ((2 ^ k : Nat) : Int) = 2 ^ k := by simp
  omega
theorem pow_le_big {k : Nat} (h : k ≤ 4000) {n : Nat} (hn : n < 2 ^ k) : n < 2 ^ 4000 := Nat.lt_of_lt_of_le hn (Nat.pow_le_pow_right (by decide) h)
theorem bit_neg {a b c m : Int} (ha : ¬ 0 < a) (hm : 0 < m) (hl : m.natAbs.log2 < 9000) (hb : 0 ≤ b) (hb2 : b < 2 ^ 62) (hc : 0 ≤ c) (hc2 : c < 2 ^ 62) :
    ∃ r ρ, bitM [.p (.lst [.int a, .int b, .int c]), .d (.int m)] = .rt (.d (.int (r % m))) (.p (.lst [.int a, .int b, .int (c + 1)]) :: ρ) := by
  have h1 : mulOk 1000423 (c + 1) = true := mulOk_of (by decide) (pow_le_big (k := 63) (by decide) (abs_lt (by omega) (by omega)))
  have f0 : 0 ≤ (b + 1000423 * (c + 1)) % 2305843009213693951 := Int.emod_nonneg _ (by decide)
  have f1 : (b + 1000423 * (c + 1)) % 2305843009213693951 < 2 ^ 61 := by
    have := Int.emod_lt_of_pos (b + 1000423 * (c + 1)) (b := 2305843009213693951) (by decide)
    omega
  generalize hf : (b + 1000423 * (c + 1)) % 2305843009213693951 = first at f0 f1
  have h2 : mulOk first first = true := mulOk_of (pow_le_big (k := 61) (by decide) (abs_lt f0 f1)) (pow_le_big (k := 61) (by decide) (abs_lt f0 f1))
  have g0 : 0 ≤ (first * first) % 2305843009213693921 := Int.emod_nonneg _ (by decide)
  have g1 : (first * first) % 2305843009213693921 < 2 ^ 61 := by
    have := Int.emod_lt_of_pos (first * first) (b := 2305843009213693921) (by decide)
    omega
  have h3 : mulOk ((first * first) % 2305843009213693921) first = true := mulOk_of (pow_le_big (k := 61) (by decide) (abs_lt g0 g1)) (pow_le_big (k := 61) (by decide) (abs_lt f0 f1))
  have h4 : mulOk 9127 (c + 1) = true := mulOk_of (by decide) (pow_le_big (k := 63) (by decide) (abs_lt (by omega) (by omega)))
  have h5 : Nat.log2 16384 < 9000 := by decide
  refine ⟨((first * first) % 2305843009213693921 * first + 9127 * (c + 1)) % 2305843009213693907 / 16384, [.d (.int m), .un, .d (.int first), .d (.int ((first * first) % 2305843009213693921 * first + 9127 * (c + 1)))], ?_⟩
  simp [bitM, fnM, bitB, sSeq, sIf, mTestB, mBin, mVar, mC, mHold, R.bind, Out.of, peekH, ixD, L2.atI, L2.ixN, ret, gtD, cmpD, ha, sSet, mCB, mCons, mNil, peekHs, intD, modD, hm, putRV, putD, nxO, sSetIx, mForce, forceRV, fdivD, hl, S.own, S.chg, sRet, retv, sNext, addD, mulD, h1, h2, h3, h4, h5, hf]
/-- a tray, n draws after it was made -/
def TrayOk (n : Nat) (x : D) : Prop := ∃ a b c : Int, x = .lst [.int a, .int b, .int c] ∧ 0 ≤ a ∧ 0 ≤ b ∧ b < 2 ^ 62 ∧ 0 ≤ c ∧ c ≤ n
theorem TrayOk.mono {n k : Nat} {x : D} (h : TrayOk n x) (l : n ≤ k) : TrayOk k x := by
  obtain ⟨a, b, c, e, h1, h2, h3, h4, h5⟩ := h
  exact ⟨a, b, c, e, h1, h2, h3, h4, by omega⟩
theorem bit_ok {n : Nat} {x : D} {m : Int} (h : TrayOk n x) (hn : n < 2 ^ 61) (hm : 0 < m) (hm2 : m < 2 ^ 62) :
    ∃ r x' ρ, bitM [.p x, .d (.int m)] = .rt (.d (.int r)) (.p x' :: ρ) ∧ 0 ≤ r ∧ r < m ∧ TrayOk (n + 1) x' := by
  obtain ⟨a, b, c, rfl, h1, h2, h3, h4, h5⟩ := h
  have hl : m.natAbs.log2 < 9000 := Nat.lt_of_lt_of_le (log2_lt (abs_lt (k := 62) (by omega) hm2) (by decide)) (by decide)
  by_cases ha : 0 < a
  · exact ⟨_, _, _, bit_pos ha hm hl, Int.emod_nonneg _ (by omega), Int.emod_lt_of_pos _ hm, _, _, _, rfl, Int.ediv_nonneg h1 (by omega), h2, h3, h4, by omega⟩
  · obtain ⟨r, ρ, e⟩ := bit_neg (a := a) (b := b) (c := c) ha hm hl h2 h3 h4 (by omega)
    exact ⟨_, _, _, e, Int.emod_nonneg _ (by omega), Int.emod_lt_of_pos _ hm, _, _, _, rfl, h1, h2, h3, by omega, by omega⟩
/-! ### a new tray -/
def trayB : Sm := sSeq (sSet 2 (mIf (mTestB (mBin ltD (mVar 1) (mCB lenD (mCons (mVar 0) (mNil))))) (mBin ixD (mVar 0) (mVar 1)) (mBin addD (mBin mulD (mC (.int 67)) (mVar 1)) (mC (.int 29))))) (sSeq (sSet 3 (mBin modD (mCB intD (mCons (mCB absD (mCons (mVar 2) (mNil))) (mNil))) (mBin powD (mBin powD (mC (.int 10)) (mC (.int 61))) (mC (.int 11))))) (sSeq (sSet 4 (mBin addD (mBin addD (mBin addD (mBin mulD (mBin modD (mCB intD (mCons (mVar 3) (mNil))) (mC (.int 2147483249))) (mC (.int 98347))) (mBin mulD (mC (.int 9421)) (mVar 1))) (mBin mulD (mC (.int 47)) (mCB intD (mCons (mBin ltD (mVar 2) (mC (.int 0))) (mNil))))) (mC (.int 61)))) (sRet (mLst (mCons (mCB maxD (mCons (mC (.int 0)) (mCons (mBin subD (mVar 3) (mBin powD (mC (.int 10)) (mC (.int 18)))) (mNil)))) (mCons (mBin modD (mCB intD (mCons (mVar 4) (mNil))) (mC (.int 2305843009213693907))) (mCons (mC (.int 0)) (mNil))))))))
def trayM : Fn := fnM 5 trayB
def trayB1 : Sm := sSet 2 (mIf (mTestB (mBin ltD (mVar 1) (mCB lenD (mCons (mVar 0) (mNil))))) (mBin ixD (mVar 0) (mVar 1)) (mBin addD (mBin mulD (mC (.int 67)) (mVar 1)) (mC (.int 29))))
def trayB2 : Sm := sSeq (sSet 3 (mBin modD (mCB intD (mCons (mCB absD (mCons (mVar 2) (mNil))) (mNil))) (mBin powD (mBin powD (mC (.int 10)) (mC (.int 61))) (mC (.int 11))))) (sSeq (sSet 4 (mBin addD (mBin addD (mBin addD (mBin mulD (mBin modD (mCB intD (mCons (mVar 3) (mNil))) (mC (.int 2147483249))) (mC (.int 98347))) (mBin mulD (mC (.int 9421)) (mVar 1))) (mBin mulD (mC (.int 47)) (mCB intD (mCons (mBin ltD (mVar 2) (mC (.int 0))) (mNil))))) (mC (.int 61)))) (sRet (mLst (mCons (mCB maxD (mCons (mC (.int 0)) (mCons (mBin subD (mVar 3) (mBin powD (mC (.int 10)) (mC (.int 18)))) (mNil)))) (mCons (mBin modD (mCB intD (mCons (mVar 4) (mNil))) (mC (.int 2305843009213693907))) (mCons (mC (.int 0)) (mNil)))))))
theorem trayB_eq : trayB = sSeq trayB1 trayB2 := rfl
theorem tray1 (ns : List Int) (k : Nat) (h : k < 2 ^ 20) : ∃ cell : Int, trayB1 [.d (.ro (ns.map D.int)), .d (.int k), .un, .un, .un] = .nx [.d (.ro (ns.map D.int)), .d (.int k), .d (.int cell), .un, .un] := by
  by_cases hl : k < ns.length
  · refine ⟨ns[k], ?_⟩
    have h1 : (k : Int) < ns.length := by omega
    simp [trayB1, sSet, mIf, mTestB, mBin, mVar, mCB, mCons, mNil, mHold, R.bind, Out.of, peekH, peekHs, lenD, ltD, cmpD, ret, h1, ixD, L2.atI, L2.ixN, putRV, putD, nxO, hl]
  · refine ⟨67 * k + 29, ?_⟩
    have h1 : ¬ (k : Int) < ns.length := by omega
    have h2 : mulOk 67 k = true := mulOk_of (by decide) (pow_le_big (k := 20) (by decide) (abs_lt (by omega) (by omega)))
    simp [trayB1, sSet, mIf, mTestB, mBin, mVar, mCB, mCons, mNil, mHold, R.bind, Out.of, peekH, peekHs, lenD, ltD, cmpD, ret, h1, addD, mulD, h2, putRV, putD, nxO, mC]
theorem pow_eq {i j : Int} (h : 0 ≤ j ∧ (Builtin.Int.intBits i : Int) * j ≤ 2 ^ 27) : powD (.int i) (.int j) = some (.d (.int (i ^ j.toNat))) := if_pos h
theorem tray_ok (ns : List Int) (k : Nat) (h : k < 2 ^ 20) : ∃ x ρ, trayM [.d (.ro (ns.map D.int)), .d (.int k)] = .rt (.f x) ρ ∧ TrayOk 0 x := by
  obtain ⟨cell, e⟩ := tray1 ns k h
  have e1 : trayM [.d (.ro (ns.map D.int)), .d (.int k)] = (match trayB2 [.d (.ro (ns.map D.int)), .d (.int k), .d (.int cell), .un, .un] with
    | .nx ρ => .rt (.d .non) ρ
    | .rt rv ρ => (match retv rv ρ with
      | some rv' => .rt rv' ρ
      | none => .bad)
    | .ex e ρ => .ex e ρ
    | _ => .bad) := by
    show (match sSeq trayB1 trayB2 [.d (.ro (ns.map D.int)), .d (.int k), .un, .un, .un] with
    | .nx ρ => FO.rt (.d .non) ρ
    | .rt rv ρ => (match retv rv ρ with
      | some rv' => .rt rv' ρ
      | none => .bad)
    | .ex e ρ => .ex e ρ
    | _ => .bad) = _
    unfold sSeq
    rw [e]
  rw [e1]
  obtain ⟨x1, p1, x2, p2, hP⟩ : ∃ x1, powD (.int 10) (.int 61) = some (.d (.int x1)) ∧ ∃ x2, powD (.int x1) (.int 11) = some (.d (.int x2)) ∧ 0 < x2 := by
    exact ⟨10 ^ 61, pow_eq (by decide +kernel), (10 ^ 61) ^ 11, pow_eq (by decide +kernel), by decide +kernel⟩
  obtain ⟨x3, p3⟩ : ∃ x3, powD (.int 10) (.int 18) = some (.d (.int x3)) := by
    exact ⟨10 ^ 18, pow_eq (by decide +kernel)⟩
  generalize hA : (if cell < 0 then -cell else cell) = ab
  have g0 : 0 ≤ ab % x2 := Int.emod_nonneg _ (by omega)
  generalize hG : ab % x2 = great at g0
  have k0 : 0 ≤ great % 2147483249 := Int.emod_nonneg _ (by decide)
  have k1 : great % 2147483249 < 2147483249 := Int.emod_lt_of_pos _ (by decide)
  have m1 : mulOk (great % 2147483249) 98347 = true := mulOk_of (pow_le_big (k := 31) (by decide) (abs_lt k0 (by omega))) (by decide)
  have m2 : mulOk 9421 k = true := mulOk_of (by decide) (pow_le_big (k := 20) (by decide) (abs_lt (by omega) (by omega)))
  have m3 : mulOk 47 (if cell < 0 then 1 else 0) = true := by
    split <;> exact mulOk_of (by decide) (by decide)
  have n0 : ∀ z : Int, 0 ≤ z % 2305843009213693907 := fun z => Int.emod_nonneg _ (by decide)
  have n1 : ∀ z : Int, z % 2305843009213693907 < 2 ^ 62 := fun z => by
    have := Int.emod_lt_of_pos z (b := 2305843009213693907) (by decide)
    omega
  refine ⟨.lst [.int (if great - x3 > 0 then great - x3 else 0), .int ((great % 2147483249 * 98347 + 9421 * k + 47 * (if cell < 0 then 1 else 0) + 61) % 2305843009213693907), .int 0], [.d (.ro (ns.map D.int)), .d (.int k), .d (.int cell), .d (.int great), .d (.int (great % 2147483249 * 98347 + 9421 * k + 47 * (if cell < 0 then 1 else 0) + 61))], ?_, _, _, _, rfl, ?_, n0 _, n1 _, Int.le_refl _, Int.le_refl _⟩
  · simp [trayB2, sSeq, sSet, mTestB, mBin, mVar, mCB, mCons, mNil, mHold, R.bind, Out.of, peekH, peekHs, ltD, cmpD, ret, addD, subD, mulD, modD, putRV, putD, nxO, mC, intD, absD, maxD, p1, p2, p3, hP, hA, hG, m1, m2, m3, sRet, mLst, forceHs, forceH, retv, sizeLine]
  · split <;> omega
end MM
set_option Elab.async false
set_option maxRecDepth 100000
set_option maxHeartbeats 4000000
namespace MM
open PySem
def pickB : Sm := sRet (mBin ixD (mVar 1) (mCall 2 bitM (mCons (mVar 0) (mCons (mCB lenD (mCons (mVar 1) (mNil))) (mNil)))))
def pickM : Fn := fnM 2 pickB
theorem pick_lst {n : Nat} {x : D} {l : List D} (h : TrayOk n x) (hn : n < 2 ^ 61) (hl : 0 < l.length) (hl2 : l.length < 2 ^ 62) :
    ∃ (i : Nat) (y x' : D) (ρ : List S), l[i]? = some y ∧ pickM [.p x, .d (.lst l)] = .rt (.d y) (.p x' :: ρ) ∧ TrayOk (n + 1) x' := by
  obtain ⟨r, x', ρ, e, h0, h1, h2⟩ := bit_ok (m := l.length) h hn (by omega) (by omega)
  obtain ⟨i, rfl⟩ : ∃ i : Nat, r = i := ⟨r.toNat, by omega⟩
  have hi : i < l.length := by omega
  refine ⟨i, l[i], x', [.d (.lst l)], List.getElem?_eq_getElem hi, ?_, h2⟩
  simp [pickM, fnM, pickB, sRet, mBin, mVar, mCall, mCons, mNil, mCB, mHold, R.bind, Out.of, peekH, peekHs, lenD, ret, argsOk, argOk, ownIx, argS, backS, newOf, e, ixD, L2.atI, L2.ixN, hi, retv, List.filterMap_cons]
end MM
set_option Elab.async false
set_option maxRecDepth 100000
set_option maxHeartbeats 4000000
namespace MM
open PySem
/-! ### loops that go through -/
theorem loopM_go {body : D → List S → Out} (st : Nat → List S) : ∀ (items : List D) (k : Nat), (∀ i x, items[i]? = some x → body x (st (k + i)) = .nx (st (k + i + 1)) ∨ body x (st (k + i)) = .ct (st (k + i + 1))) → loopM body items (st k) = .nx (st (k + items.length))
  | [], k, _ => rfl
  | x :: r, k, h => by
    have h0 := h 0 x rfl
    have ih := loopM_go st r (k + 1) fun i y e => by
      have := h (i + 1) y e
      have e1 : k + (i + 1) = k + 1 + i := by omega
      rwa [e1] at this
    have e2 : k + (x :: r).length = k + 1 + r.length := by simp; omega
    rw [e2]
    unfold loopM
    rcases h0 with h0 | h0
    · have h0 : body x (st k) = .nx (st (k + 1)) := h0
      rw [h0]
      exact ih
    · have h0 : body x (st k) = .ct (st (k + 1)) := h0
      rw [h0]
      exact ih
theorem rngD_get {lo : Int} {n i : Nat} {x : D} (h : (rngD lo n)[i]? = some x) : i < n ∧ x = .int (lo + (i : Nat)) := by
  unfold rngD at h
  rw [List.getElem?_map] at h
  cases q : (List.range n)[i]? with
  | none => rw [q] at h; cases h
  | some j =>
    rw [q] at h
    obtain ⟨h1, h2⟩ := List.getElem?_eq_some_iff.mp q
    simp at h1 h2
    subst h2
    cases h
    exact ⟨h1, rfl⟩
theorem rngD_length {lo : Int} {n : Nat} : (rngD lo n).length = n := by simp [rngD]
theorem rngOk_small {i j : Int} (h1 : -1000000 ≤ i) (h2 : i ≤ 1000000) (h3 : -1000000 ≤ j) (h4 : j ≤ 1000000) : rngOk i j = true := by
  have k1 : i.natAbs.log2 < 61 := log2_lt (by omega) (by decide)
  have k2 : j.natAbs.log2 < 61 := log2_lt (by omega) (by decide)
  unfold rngOk
  rw [decide_eq_true k1, decide_eq_true k2]
  rfl
theorem src1 {r : List S → R (List HV)} {ρ : List S} {n : Nat} (h : r ρ = .ok [.d (.int n)] ρ) (hn : n ≤ 1000000) : mSrc rng1 r ρ = .ok (rngD 0 n) ρ := by
  have ok : rngOk 0 n = true := rngOk_small (by decide) (by decide) (by omega) (by omega)
  have e : rng1 [.int n] = some (rngD 0 n) := by simp only [rng1, ok, if_true, Int.toNat_natCast]
  simp only [mSrc, h, bind_ok, forceHs, forceH, e]
theorem src2 {r : List S → R (List HV)} {ρ : List S} {i j : Int} (h : r ρ = .ok [.d (.int i), .d (.int j)] ρ) (h1 : -1000000 ≤ i) (h2 : i ≤ 1000000) (h3 : -1000000 ≤ j) (h4 : j ≤ 1000000) : mSrc rng2 r ρ = .ok (rngD i (j - i).toNat) ρ := by
  have e : rng2 [.int i, .int j] = some (rngD i (j - i).toNat) := by simp only [rng2, rngOk_small h1 h2 h3 h4, if_true]
  simp only [mSrc, h, bind_ok, forceHs, forceH, e]
theorem for_of {it : List S → R (List D)} {t : Tg} {m : Sm} {ρ ρ1 : List S} {items : List D} {o : Out} (h : it ρ = .ok items ρ1) (k : loopM (fun x ρ => match t.put x ρ with
  | some ρ2 => m ρ2
  | none => .bad) items ρ1 = o) : sFor it t m ρ = o := by
  unfold sFor
  rw [h]
  exact k
def endF : Out → FO
  | .nx ρ => .rt (.d .non) ρ
  | .rt rv ρ => (match retv rv ρ with
    | some rv' => .rt rv' ρ
    | none => .bad)
  | .ex e ρ => .ex e ρ
  | _ => .bad
theorem fnM_at {N : Nat} {b : Sm} {ss : List S} : fnM N b ss = endF (b (ss ++ List.replicate (N - ss.length) .un)) := by
  unfold fnM
  cases b (ss ++ List.replicate (N - ss.length) .un) <;> rfl
theorem seq_nx {a b : Sm} {ρ ρ1 : List S} (h : a ρ = .nx ρ1) : sSeq a b ρ = b ρ1 := by
  unfold sSeq
  rw [h]
theorem fnM_seq {N : Nat} {a b : Sm} {ss ρ1 : List S} (h : a (ss ++ List.replicate (N - ss.length) .un) = .nx ρ1) : fnM N (sSeq a b) ss = endF (b ρ1) := by
  rw [fnM_at, seq_nx h]
/-- a slot that a loop's name may take -/
def S.free : S → Prop
  | .p _ => False
  | _ => True
theorem putD_at {i : Nat} {x : D} {ρ : List S} {s : S} (h : ρ[i]? = some s) (f : s.free) : putD i x ρ = some (ρ.set i (.d x)) := by
  unfold putD
  rw [h]
  cases s with
  | p y => exact f.elim
  | un => rfl
  | d y => rfl
  | o y => rfl
theorem eqD_int {i j : Int} : eqD (.int i) (.int j) = some (.d (.bl (decide (i = j)))) := by
  have e : D.eqv (.int i) (.int j) = decide (i = j) := by
    show (i == j) = _
    exact Bool.eq_iff_iff.mpr (by simp)
  have k : ∀ i : Int, okD (.int i) = true := fun i => rfl
  unfold eqD eqB
  simp [k, e]
theorem neD_int {i j : Int} : neD (.int i) (.int j) = some (.d (.bl (!decide (i = j)))) := by
  have e : D.eqv (.int i) (.int j) = decide (i = j) := by
    show (i == j) = _
    exact Bool.eq_iff_iff.mpr (by simp)
  have k : ∀ i : Int, okD (.int i) = true := fun i => rfl
  unfold neD eqB
  simp [k, e]
end MM
set_option Elab.async false
set_option maxRecDepth 100000
set_option maxHeartbeats 4000000
namespace MM
open PySem
/-! ### evaluation, step by step -/
theorem ev_var {ρ : List S} {i : Nat} {x : D} (h : ρ[i]? = some (.d x)) : mVar i ρ = .ok (.d x) ρ := by
  unfold mVar
  rw [h]
theorem ev_bin {od : D → D → Option RV} {a b : Ex} {ρ ρ1 ρ2 : List S} {x y : D} {rv : RV} (h1 : a ρ = .ok (.d x) ρ1) (h2 : b ρ1 = .ok (.d y) ρ2) (h3 : od x y = some rv) : mBin od a b ρ = .ok rv ρ2 := by
  simp [mBin, mHold, h1, h2, R.bind, peekH, h3, MM.ret]
theorem ev_bin_fd {od : D → D → Option RV} {a b : Ex} {ρ ρ1 ρ2 : List S} {x y : D} {rv : RV} (h1 : a ρ = .ok (.f x) ρ1) (h2 : b ρ1 = .ok (.d y) ρ2) (h3 : od x y = some rv) : mBin od a b ρ = .ok rv ρ2 := by
  simp [mBin, mHold, h1, h2, R.bind, peekH, h3, MM.ret]
theorem ev_bin_ff {od : D → D → Option RV} {a b : Ex} {ρ ρ1 ρ2 : List S} {x y : D} {rv : RV} (h1 : a ρ = .ok (.f x) ρ1) (h2 : b ρ1 = .ok (.f y) ρ2) (h3 : od x y = some rv) : mBin od a b ρ = .ok rv ρ2 := by
  simp [mBin, mHold, h1, h2, R.bind, peekH, h3, MM.ret]
theorem ev_cb1 {g : List D → Option RV} {a : Ex} {ρ ρ1 : List S} {x : D} {rv : RV} (h1 : a ρ = .ok (.d x) ρ1) (h2 : g [x] = some rv) : mCB g (mCons a mNil) ρ = .ok rv ρ1 := by
  simp [mCB, mCons, mNil, mHold, h1, R.bind, peekHs, peekH, h2, MM.ret]
theorem ev_cb1f {g : List D → Option RV} {a : Ex} {ρ ρ1 : List S} {x : D} {rv : RV} (h1 : a ρ = .ok (.f x) ρ1) (h2 : g [x] = some rv) : mCB g (mCons a mNil) ρ = .ok rv ρ1 := by
  simp [mCB, mCons, mNil, mHold, h1, R.bind, peekHs, peekH, h2, MM.ret]
theorem ev_test {f : Ex} {ρ ρ1 : List S} {b : Bool} (h : f ρ = .ok (.d (.bl b)) ρ1) : mTestB f ρ = .ok b ρ1 := by
  simp [mTestB, h, R.bind]
theorem ev_truth {f : Ex} {ρ ρ1 : List S} {b : Bool} (h : f ρ = .ok (.d (.bl b)) ρ1) : mTruth f ρ = .ok b ρ1 := by
  simp [mTruth, mHold, h, R.bind, peekH, truthD]
theorem ev_notT {t : List S → R Bool} {ρ ρ1 : List S} {b : Bool} (h : t ρ = .ok b ρ1) : mNotT t ρ = .ok (!b) ρ1 := by
  simp [mNotT, h, R.bind]
theorem ev_slice {a : Ex} {l u : List S → R (Option Int)} {ρ ρ1 ρ2 ρ3 : List S} {x : D} {lo hi : Option Int} {rv : RV} (h1 : a ρ = .ok (.d x) ρ1) (h2 : l ρ1 = .ok lo ρ2) (h3 : u ρ2 = .ok hi ρ3) (h4 : sliceD x lo hi = some rv) : mSlice sliceD a l u ρ = .ok rv ρ3 := by
  simp [mSlice, mHold, h1, h2, h3, R.bind, peekH, h4, MM.ret]
theorem ev_part {f : Ex} {ρ ρ1 : List S} {i : Int} (h : f ρ = .ok (.d (.int i)) ρ1) : mPart f ρ = .ok (some i) ρ1 := by
  simp [mPart, h, R.bind]
theorem ev_if {t : List S → R Bool} {a b : Sm} {ρ ρ1 : List S} {c : Bool} (h : t ρ = .ok c ρ1) : sIf t a b ρ = if c = true then a ρ1 else b ρ1 := by
  simp [sIf, h, Out.of]
theorem ev_ret {f : Ex} {ρ ρ1 : List S} {rv : RV} (h : f ρ = .ok rv ρ1) : sRet f ρ = .rt rv ρ1 := by
  simp [sRet, h, Out.of]
theorem exp_nx {f : Ex} {ρ ρ1 : List S} {rv : RV} (h : f ρ = .ok rv ρ1) : sExpr f ρ = .nx ρ1 := by
  unfold sExpr
  rw [h]
  rfl
theorem ev_lst0 {ρ : List S} : mLst mNil ρ = .ok (.f (.lst [])) ρ := rfl
/-! ### texts -/
theorem ix_str {w : List Nat} {i : Nat} (hi : i < w.length) (hz : w.length ≤ sizeLine) : ixD (.str w) (.int i) = some (.d (.str [w.getD i 0])) := by
  have e : w[i]? = some w[i] := List.getElem?_eq_getElem hi
  simp [ixD, hz, L2.atI, L2.ixN, hi, List.getD_eq_getElem?_getD, e]
theorem slice_lh {w : List Nat} {i j : Nat} (hi : i ≤ j) (hj : j ≤ w.length) (hz : w.length ≤ sizeLine) : sliceD (.str w) (some (i : Int)) (some (j : Int)) = some (.d (.str ((w.drop i).take (j - i)))) := by
  have e1 : min j w.length = j := by omega
  have e2 : min i w.length = i := by omega
  simp [sliceD, hz, cutL, HT.sIx_nat, e1, e2]
theorem slice_l {w : List Nat} {i : Nat} (hi : i ≤ w.length) (hz : w.length ≤ sizeLine) : sliceD (.str w) (some (i : Int)) none = some (.d (.str (w.drop i))) := by
  have e2 : min i w.length = i := by omega
  simp [sliceD, hz, cutL, HT.sIx_nat, HT.sIx_none, e2]
  exact List.take_of_length_le (by simp)
theorem slice_h {w : List Nat} {j : Nat} (hj : j ≤ w.length) (hz : w.length ≤ sizeLine) : sliceD (.str w) none (some (j : Int)) = some (.d (.str (w.take j))) := by
  have e1 : min j w.length = j := by omega
  simp [sliceD, hz, cutL, HT.sIx_nat, HT.sIx_none, e1]
/-! ### a while that goes through -/
theorem whileM_do {α : Type} {t : List S → R Bool} {m : Sm} (st : α → List S) (μ : α → Nat) (Pd Fin : α → Prop)
    (step : ∀ x, Pd x → (t (st x) = .ok true (st x) ∧ ∃ y, m (st x) = .nx (st y) ∧ Pd y ∧ μ y < μ x) ∨ (t (st x) = .ok false (st x) ∧ Fin x)) : ∀ k x, Pd x → μ x < k → ∃ y, whileM t m k (st x) = .nx (st y) ∧ Pd y ∧ Fin y
  | 0, x, _, h => by omega
  | k + 1, x, hx, h => by
    unfold whileM
    rcases step x hx with ⟨e, y, em, hy, hl⟩ | ⟨e, hf⟩
    · obtain ⟨z, ez, h1, h2⟩ := whileM_do st μ Pd Fin step k y hy (by omega)
      refine ⟨z, ?_, h1, h2⟩
      rw [e, of_ok]
      simp only [if_true, em]
      exact ez
    · refine ⟨x, ?_, hx, hf⟩
      rw [e, of_ok]
      rfl
end MM
set_option Elab.async false
set_option maxRecDepth 100000
set_option maxHeartbeats 4000000
namespace MM
open PySem
/-! ### pure comprehensions -/
theorem set_back {ρ : List S} {v : Nat} {s t : S} (h : ρ[v]? = some s) : (ρ.set v t).set v s = ρ := by
  rw [List.set_set]
  apply List.ext_getElem?
  intro i
  by_cases z : v = i
  · subst z
    rw [List.getElem?_set_self (List.getElem?_eq_some_iff.mp h).1, h]
  · rw [List.getElem?_set_ne z]
theorem lcM_pure {v : Nat} {tt : List S → R Bool} {f : Ex} {ρ : List S} (b : D → Bool) (y : D → D) (hu : ρ[v]? = some .un) : ∀ items : List D,
    (∀ x ∈ items, tt (ρ.set v (.d x)) = .ok (b x) (ρ.set v (.d x)) ∧ (b x = true → mForce f (ρ.set v (.d x)) = .ok (y x) (ρ.set v (.d x)))) → lcM (.nm v) [v] tt f items ρ = .ok ((items.filter b).map y) ρ
  | [], _ => rfl
  | x :: r, h => by
    obtain ⟨h1, h2⟩ := h x List.mem_cons_self
    have ih := lcM_pure b y hu r fun z hz => h z (List.mem_cons_of_mem _ hz)
    have e : (Tg.nm v).put x ρ = some (ρ.set v (.d x)) := putD_at hu trivial
    have ew : wipeS (ρ.set v (.d x)) [v] = ρ := set_back hu
    unfold lcM
    rw [e]
    dsimp only
    rw [h1, bind_ok]
    cases q : b x with
    | false =>
      rw [if_neg Bool.false_ne_true, ew, ih, List.filter_cons_of_neg (by rw [q]; exact Bool.false_ne_true)]
    | true =>
      rw [if_pos rfl, h2 q, bind_ok, ew, ih, bind_ok, List.filter_cons_of_pos q]
      rfl
theorem mlc_pure {it : List S → R (List D)} {v : Nat} {tt : List S → R Bool} {f : Ex} {ρ ρ1 : List S} {items : List D} {s : S} (b : D → Bool) (y : D → D) (hi : it ρ = .ok items ρ1) (hv : ρ1[v]? = some s) (hs : s.hid = true)
    (h : ∀ x ∈ items, tt (ρ1.set v (.d x)) = .ok (b x) (ρ1.set v (.d x)) ∧ (b x = true → mForce f (ρ1.set v (.d x)) = .ok (y x) (ρ1.set v (.d x)))) (hz : items.length ≤ sizeLine) :
    mLc it (.nm v) [v] tt f ρ = .ok (.f (.lst ((items.filter b).map y))) ρ1 := by
  have hid : hidOk ρ1 [v] = true := by simp [hidOk, hv, hs]
  have hl : v < ρ1.length := (List.getElem?_eq_some_iff.mp hv).1
  have hu : (ρ1.set v .un)[v]? = some .un := List.getElem?_set_self hl
  have e1 : lcM (.nm v) [v] tt f items (wipeS ρ1 [v]) = .ok ((items.filter b).map y) (ρ1.set v .un) := lcM_pure b y hu items fun x hx => by
    rw [List.set_set]
    exact h x hx
  have hlen : ((items.filter b).map y).length ≤ sizeLine := by
    rw [List.length_map]
    exact Nat.le_trans (List.length_filter_le _ _) hz
  have eb : backW (ρ1.set v .un) ρ1 [v] = ρ1 := by
    unfold backW backW
    rw [hv]
    exact set_back hv
  unfold mLc
  rw [hi, bind_ok, if_pos hid, e1]
  show R.bind (R.ok _ _) _ = _
  rw [bind_ok, if_pos hlen, eb]
theorem force_of {f : Ex} {ρ ρ1 : List S} {x : D} (h : f ρ = .ok (.d x) ρ1) : mForce f ρ = .ok x ρ1 := by
  unfold mForce
  rw [h]
  rfl
theorem force_f {f : Ex} {ρ ρ1 : List S} {x : D} (h : f ρ = .ok (.f x) ρ1) : mForce f ρ = .ok x ρ1 := by
  unfold mForce
  rw [h]
  rfl
theorem items_of {f : Ex} {ρ ρ1 : List S} {x : D} {l : List D} (h : mForce f ρ = .ok x ρ1) (e : itemsD x = some l) : mItems f ρ = .ok l ρ1 := by
  unfold mItems
  rw [h, bind_ok, e]
/-! ### lists of flat data -/
def Flat (x : D) : Prop := x.okq = true ∧ x.dep = 0
theorem okqs_flat : ∀ l : List D, (∀ x ∈ l, Flat x) → D.okqs l = true ∧ D.deps l = 0
  | [], _ => ⟨rfl, rfl⟩
  | x :: xs, h => by
    obtain ⟨h1, h2⟩ := h x List.mem_cons_self
    obtain ⟨h3, h4⟩ := okqs_flat xs fun z hz => h z (List.mem_cons_of_mem _ hz)
    refine ⟨?_, ?_⟩
    · unfold D.okqs
      rw [h1, h3]
      rfl
    · unfold D.deps
      rw [h2, h4]
      rfl
theorem okD_flat {l : List D} (h : ∀ x ∈ l, Flat x) : okD (.lst l) = true := by
  obtain ⟨h1, h2⟩ := okqs_flat l h
  unfold okD D.okq D.dep
  rw [h1, h2]
  rfl
theorem eqv_nil {l : List D} : D.eqv (.lst l) (.lst []) = l.isEmpty := by cases l <;> rfl
theorem eqD_nil {l : List D} (h : ∀ x ∈ l, Flat x) : eqD (.lst l) (.lst []) = some (.d (.bl l.isEmpty)) := by
  have e : eqB (.lst l) (.lst []) = some (D.eqv (.lst l) (.lst [])) := by
    unfold eqB
    exact if_pos ⟨okD_flat h, rfl⟩
  unfold eqD
  rw [e, eqv_nil]
  rfl
theorem neD_nil {l : List D} (h : ∀ x ∈ l, Flat x) : neD (.lst l) (.lst []) = some (.d (.bl (!l.isEmpty))) := by
  have e : eqB (.lst l) (.lst []) = some (D.eqv (.lst l) (.lst [])) := by
    unfold eqB
    exact if_pos ⟨okD_flat h, rfl⟩
  unfold neD
  rw [e, eqv_nil]
  rfl
def Low (w : List Nat) : Prop := ∀ c ∈ w, c < 0x110000
theorem Low.flat {w : List Nat} (h : Low w) : Flat (.str w) := ⟨List.all_eq_true.mpr fun c hc => decide_eq_true (h c hc), rfl⟩
theorem Low.sub {w u : List Nat} (h : Low w) (s : ∀ c ∈ u, c ∈ w) : Low u := fun c hc => h c (s c hc)
theorem flat_int (i : Int) : Flat (.int i) := ⟨rfl, rfl⟩
theorem boolsD_map {α : Type} (g : α → Bool) : ∀ l : List α, boolsD (l.map fun x => D.bl (g x)) = some (l.map g)
  | [] => rfl
  | x :: xs => by
    show (boolsD (xs.map fun x => D.bl (g x))).map (g x :: ·) = _
    rw [boolsD_map g xs]
    rfl
theorem strsD_map : ∀ l : List (List Nat), strsD (l.map D.str) = some l
  | [] => rfl
  | x :: xs => by
    show (strsD (xs.map D.str)).map (x :: ·) = _
    rw [strsD_map xs]
    rfl
theorem joinL_nil : ∀ l : List (List Nat), TL.joinL [] l = l.flatten
  | [] => rfl
  | [x] => by simp [TL.joinL]
  | x :: y :: r => by
    have := joinL_nil (y :: r)
    simp [TL.joinL] at this ⊢
    rw [this]
theorem ev_bin_rd {od : D → D → Option RV} {a b : Ex} {ρ ρ1 ρ2 : List S} {i : Nat} {x y : D} {rv : RV} (h1 : a ρ = .ok (.r i) ρ1) (h2 : b ρ1 = .ok (.d y) ρ2) (hi : ρ2[i]? = some (.o x)) (h3 : od x y = some rv) : mBin od a b ρ = .ok rv ρ2 := by
  simp [mBin, mHold, h1, h2, R.bind, peekH, hi, h3, MM.ret]
theorem one_call {m : Fn} {f : Ex} {ρ ρ1 ρf : List S} {x : D} {rv : RV} (hf : f ρ = .ok (.d x) ρ1) (hm : m [.d x] = .rt rv ρf) (hb : backS (newOf [.d x] ρf) 0 ρ1 = ρ1) : mCall 1 m (mCons f mNil) ρ = .ok rv ρ1 := by
  simp [mCall, mCons, mNil, mHold, R.bind, hf, MM.argsOk, argOk, ownIx, argS, hm, hb, List.filterMap_cons]
theorem two_call {m : Fn} {f h : Ex} {ρ ρ1 ρ2 ρf : List S} {x y : D} {rv : RV} (hf : f ρ = .ok (.d x) ρ1) (hh : h ρ1 = .ok (.d y) ρ2) (hm : m [.d x, .d y] = .rt rv ρf) (hb : backS (newOf [.d x, .d y] ρf) 0 ρ2 = ρ2) : mCall 2 m (mCons f (mCons h mNil)) ρ = .ok rv ρ2 := by
  simp [mCall, mCons, mNil, mHold, R.bind, hf, hh, MM.argsOk, argOk, ownIx, argS, hm, hb, List.filterMap_cons]
theorem three_call {m : Fn} {f h k : Ex} {ρ ρ1 ρ2 ρ3 ρf : List S} {x y z : D} {rv : RV} (hf : f ρ = .ok (.d x) ρ1) (hh : h ρ1 = .ok (.d y) ρ2) (hk : k ρ2 = .ok (.d z) ρ3) (hm : m [.d x, .d y, .d z] = .rt rv ρf) (hb : backS (newOf [.d x, .d y, .d z] ρf) 0 ρ3 = ρ3) : mCall 3 m (mCons f (mCons h (mCons k mNil))) ρ = .ok rv ρ3 := by
  simp [mCall, mCons, mNil, mHold, R.bind, hf, hh, hk, MM.argsOk, argOk, ownIx, argS, hm, hb, List.filterMap_cons]
theorem src1i {r : List S → R (List HV)} {ρ ρ1 : List S} {j : Int} (h : r ρ = .ok [.d (.int j)] ρ1) (h1 : -1000000 ≤ j) (h2 : j ≤ 1000000) : mSrc rng1 r ρ = .ok (rngD 0 j.toNat) ρ1 := by
  have e : rng1 [.int j] = some (rngD 0 j.toNat) := by simp only [rng1, rngOk_small (i := 0) (by decide) (by decide) h1 h2, if_true]
  simp only [mSrc, h, bind_ok, forceHs, forceH, e]
theorem neD_bl {a b : Bool} : neD (.bl a) (.bl b) = some (.d (.bl (!(a == b)))) := by cases a <;> cases b <;> rfl
theorem ev_isT {T : String} {f : Ex} {ρ ρ1 : List S} {x : D} {b : Bool} (h : f ρ = .ok (.d x) ρ1) (hb : isT T x = some b) : mIsT T f ρ = .ok (.d (.bl b)) ρ1 := by
  simp [mIsT, mHold, h, R.bind, peekH, hb]
theorem cons1 {f : Ex} {ρ ρ1 : List S} {x : D} (h : f ρ = .ok (.d x) ρ1) : mCons f mNil ρ = .ok [.d x] ρ1 := by
  simp [mCons, mNil, mHold, h, R.bind]
theorem filt_last {P : Nat → Bool} {k : Nat} (hP : P k = true) : ∀ n, k ≤ n → (∀ i, k < i → i ≤ n → P i = false) → ∃ A, (List.range (n + 1)).filter P = A ++ [k]
  | 0, h, _ => by
    have : k = 0 := by omega
    subst this
    exact ⟨[], by simp [hP]⟩
  | n + 1, h, hi => by
    rw [List.range_succ, List.filter_append]
    by_cases z : k = n + 1
    · subst z
      exact ⟨_, by rw [List.filter_cons_of_pos hP, List.filter_nil]⟩
    · obtain ⟨A, e⟩ := filt_last hP n (by omega) fun i h1 h2 => hi i h1 (by omega)
      have := hi (n + 1) (by omega) (Nat.le_refl _)
      refine ⟨A, ?_⟩
      rw [e, List.filter_cons_of_neg (by rw [this]; exact Bool.false_ne_true), List.filter_nil, List.append_nil]
end MM
set_option Elab.async false
set_option maxRecDepth 100000
set_option maxHeartbeats 4000000
namespace K07
open PySem MM

def b__law_leads : Sm := sSeq (sSet 1 (mLc (mSrc rng2 (mCons (mC (.int 1)) (mCons (mCB lenD (mCons (mVar 0) (mNil))) (mNil)))) (.nm 2) [2] (mYes) (mSlice sliceD (mVar 0) (mPart (mVar 2)) (mNoPart)))) (sRet (mAndV (mBin neD (mVar 0) (mC (.str []))) (mBin eqD (mLc (mItems (mVar 1)) (.nm 3) [3] (mNotT (mTestB (mBin ltD (mVar 0) (mVar 3)))) (mVar 3)) (mLst (mNil)))))
def m__law_leads : Fn := fnM 4 b__law_leads
def b_factors_of : Sm := sSeq (sPar [1, 2] [mLst (mNil), mC (.int 0)]) (sSeq (whileM (mTestB (mBin ltD (mVar 2) (mCB lenD (mCons (mVar 0) (mNil))))) (sSeq (sPar [3, 4] [mVar 2, mBin addD (mVar 2) (mC (.int 1))]) (sSeq (whileM (mAndT (mTestB (mBin ltD (mVar 4) (mCB lenD (mCons (mVar 0) (mNil))))) (mTestB (mBin leD (mBin ixD (mVar 0) (mVar 3)) (mBin ixD (mVar 0) (mVar 4))))) (sSeq (sSet 3 (mIf (mTestB (mBin eqD (mBin ixD (mVar 0) (mVar 3)) (mBin ixD (mVar 0) (mVar 4)))) (mBin addD (mVar 3) (mC (.int 1))) (mVar 2))) (sAug 4 addI (mC (.int 1)))) 100000) (sSeq (sSet 5 (mBin subD (mVar 4) (mVar 3))) (whileM (mTestB (mBin leD (mVar 2) (mVar 3))) (sSeq (sExpr (mOM "list" 1 fAppend (mCons (mSlice sliceD (mVar 0) (mPart (mVar 2)) (mPart (mBin addD (mVar 2) (mVar 5)))) (mNil)))) (sAug 2 addI (mVar 5))) 100000)))) 100000) (sRet (mVar 1)))
def m_factors_of : Fn := fnM 6 b_factors_of
def b_are_small : Sm := sRet (mCB allD (mCons (mLc (mItems (mVar 0)) (.nm 1) [1] (mYes) (mChain leD leD (mC (.str [97])) (mVar 1) (mC (.str [122])))) (mNil)))
def m_are_small : Fn := fnM 2 b_are_small
def b_is_letters : Sm := sSeq (sIf (mOrT (mNotT (mTruth (mIsT "str" (mVar 0)))) (mOrT (mNotT (mTestB (mChain leD leD (mC (.int 1)) (mCB lenD (mCons (mVar 0) (mNil))) (mC (.int 3))))) (mNotT (mTruth (mCall 1 m_are_small (mCons (mVar 0) (mNil))))))) (sRet (mC (.bl false))) (sNext)) (sRet (mCB allD (mCons (mLc (mSrc zipD (mCons (mVar 0) (mCons (mSlice sliceD (mVar 0) (mPart (mC (.int 1))) (mNoPart)) (mNil)))) (.tp [.nm 1, .nm 2]) [1, 2] (mYes) (mBin ltD (mVar 1) (mVar 2))) (mNil))))
def m_is_letters : Fn := fnM 3 b_is_letters
def b_require_letters : Sm := sIf (mNotT (mTruth (mCall 1 m_is_letters (mCons (mVar 0) (mNil))))) (sBad) (sNext)
def m_require_letters : Fn := fnM 1 b_require_letters
def b_is_pattern_within : Sm := sRet (mAndV (mIsT "str" (mVar 1)) (mAndV (mBin leD (mCB lenD (mCons (mVar 1) (mNil))) (mC (.int 400))) (mCB allD (mCons (mLc (mItems (mVar 1)) (.nm 2) [2] (mYes) (mBin inD (mVar 2) (mVar 0))) (mNil)))))
def m_is_pattern_within : Fn := fnM 3 b_is_pattern_within
def b_require_pattern : Sm := sIf (mNotT (mTruth (mCall 2 m_is_pattern_within (mCons (mVar 0) (mCons (mVar 1) (mNil)))))) (sBad) (sNext)
def m_require_pattern : Fn := fnM 2 b_require_pattern
def b_factors : Sm := sSeq (sExpr (mCall 1 m_require_letters (mCons (mVar 0) (mNil)))) (sSeq (sExpr (mCall 2 m_require_pattern (mCons (mVar 0) (mCons (mVar 1) (mNil))))) (sRet (mCB tupleD (mCons (mCall 1 m_factors_of (mCons (mVar 1) (mNil))) (mNil)))))
def m_factors : Fn := fnM 2 b_factors
def b__law_factors_right : Sm := sSeq (sSet 2 (mCall 2 m_factors (mCons (mVar 0) (mCons (mVar 1) (mNil))))) (sSeq (sIf (mOrT (mNotT (mTruth (mIsT "tuple" (mVar 2)))) (mOrT (mTestB (mBin neD (mBM "str" joinD (mC (.str [])) (mCons (mVar 2) (mNil))) (mVar 1))) (mTestB (mBin neD (mLc (mItems (mVar 2)) (.nm 4) [4] (mNotT (mTruth (mCall 1 m__law_leads (mCons (mVar 4) (mNil))))) (mVar 4)) (mLst (mNil)))))) (sRet (mC (.bl false))) (sNext)) (sSeq (sIf (mTestB (mBin neD (mLc (mSrc rng1 (mCons (mBin subD (mCB lenD (mCons (mVar 2) (mNil))) (mC (.int 1))) (mNil))) (.nm 5) [5] (mTestB (mBin ltD (mBin ixD (mVar 2) (mVar 5)) (mBin ixD (mVar 2) (mBin addD (mVar 5) (mC (.int 1)))))) (mVar 5)) (mLst (mNil)))) (sRet (mC (.bl false))) (sNext)) (sSeq (sIf (mTestB (mBin neD (mBin eqD (mCB lenD (mCons (mVar 2) (mNil))) (mC (.int 1))) (mCall 1 m__law_leads (mCons (mVar 1) (mNil))))) (sRet (mC (.bl false))) (sNext)) (sSeq (sSet 3 (mLc (mSrc rng1 (mCons (mBin addD (mCB lenD (mCons (mVar 1) (mNil))) (mC (.int 1))) (mNil))) (.nm 5) [5] (mTruth (mCall 1 m__law_leads (mCons (mSlice sliceD (mVar 1) (mNoPart) (mPart (mVar 5))) (mNil)))) (mSlice sliceD (mVar 1) (mNoPart) (mPart (mVar 5))))) (sRet (mOrV (mAndV (mBin eqD (mVar 1) (mC (.str []))) (mBin eqD (mVar 2) (mTup (mNil)))) (mAndV (mBin neD (mVar 1) (mC (.str []))) (mBin eqD (mBin ixD (mVar 2) (mC (.int 0))) (mBin ixD (mVar 3) (mUn negD (mC (.int 1))))))))))))
def m__law_factors_right : Fn := fnM 6 b__law_factors_right
def b__law_bit : Sm := sSeq (sIf (mTestB (mBin gtD (mBin ixD (mVar 0) (mC (.int 0))) (mC (.int 0)))) (sSeq (sSet 2 (mBin modD (mCB intD (mCons (mBin ixD (mVar 0) (mC (.int 0))) (mNil))) (mVar 1))) (sSeq (sSetIx 0 (mC (.int 0)) (mBin fdivD (mBin ixD (mVar 0) (mC (.int 0))) (mVar 1))) (sRet (mVar 2)))) (sNext)) (sSeq (sSetIx 0 (mC (.int 2)) (mBin addD (mBin ixD (mVar 0) (mC (.int 2))) (mC (.int 1)))) (sSeq (sSet 3 (mBin modD (mCB intD (mCons (mBin addD (mBin ixD (mVar 0) (mC (.int 1))) (mBin mulD (mC (.int 1000423)) (mBin ixD (mVar 0) (mC (.int 2))))) (mNil))) (mC (.int 2305843009213693951)))) (sSeq (sSet 4 (mBin addD (mBin mulD (mBin modD (mCB intD (mCons (mBin mulD (mVar 3) (mVar 3)) (mNil))) (mC (.int 2305843009213693921))) (mVar 3)) (mBin mulD (mC (.int 9127)) (mBin ixD (mVar 0) (mC (.int 2)))))) (sRet (mBin modD (mCB intD (mCons (mBin fdivD (mBin modD (mCB intD (mCons (mVar 4) (mNil))) (mC (.int 2305843009213693907))) (mC (.int 16384))) (mNil))) (mVar 1))))))
def m__law_bit : Fn := fnM 5 b__law_bit
def b__law_pick : Sm := sRet (mBin ixD (mVar 1) (mCall 2 m__law_bit (mCons (mVar 0) (mCons (mCB lenD (mCons (mVar 1) (mNil))) (mNil)))))
def m__law_pick : Fn := fnM 2 b__law_pick
def b__law_line : Sm := sRet (mBM "str" joinD (mC (.str [])) (mCons (mLc (mSrc rng1 (mCons (mCall 2 m__law_bit (mCons (mVar 0) (mCons (mBin addD (mVar 2) (mC (.int 1))) (mNil)))) (mNil))) (.nm 3) [3] (mYes) (mCall 2 m__law_pick (mCons (mVar 0) (mCons (mVar 1) (mNil))))) (mNil)))
def m__law_line : Fn := fnM 4 b__law_line
def b__law_lines_to : Sm := sSeq (sPar [2, 3] [mLst (mNil), mLst (mCons (mC (.str [])) (mNil))]) (sSeq (sFor (mSrc rng1 (mCons (mVar 1) (mNil))) (.nm 4) (sSeq (sSet 5 (mLst (mNil))) (sSeq (sFor (mItems (mVar 3)) (.nm 6) (sSet 5 (mBin addD (mVar 5) (mLc (mItems (mVar 0)) (.nm 7) [7] (mYes) (mBin addD (mVar 6) (mVar 7)))))) (sPar [2, 3] [mBin addD (mVar 2) (mVar 5), mVar 5])))) (sRet (mVar 2)))
def m__law_lines_to : Fn := fnM 8 b__law_lines_to
def b__law_signs : Sm := sRet (mCall 2 m__law_pick (mCons (mVar 0) (mCons (mLst (mCons (mC (.str [97, 98])) (mCons (mC (.str [97, 98])) (mCons (mC (.str [97, 98])) (mCons (mC (.str [120, 121])) (mCons (mC (.str [97])) (mCons (mC (.str [97, 98, 99])) (mNil)))))))) (mNil))))
def m__law_signs : Fn := fnM 1 b__law_signs
def b_is_leading_of : Sm := sRet (mAndV (mBin neD (mVar 0) (mC (.str []))) (mCB allD (mCons (mLc (mSrc rng2 (mCons (mC (.int 1)) (mCons (mCB lenD (mCons (mVar 0) (mNil))) (mNil)))) (.nm 1) [1] (mYes) (mBin ltD (mVar 0) (mSlice sliceD (mVar 0) (mPart (mVar 1)) (mNoPart)))) (mNil))))
def m_is_leading_of : Fn := fnM 2 b_is_leading_of
def b_is_leading : Sm := sSeq (sExpr (mCall 1 m_require_letters (mCons (mVar 0) (mNil)))) (sRet (mAndV (mCall 2 m_is_pattern_within (mCons (mVar 0) (mCons (mVar 1) (mNil)))) (mCall 1 m_is_leading_of (mCons (mVar 1) (mNil)))))
def m_is_leading : Fn := fnM 2 b_is_leading
def b_patterns_in : Sm := sSeq (sPar [2, 3] [mLst (mNil), mLst (mCons (mC (.str [])) (mNil))]) (sSeq (sFor (mSrc rng1 (mCons (mVar 1) (mNil))) (.nm 4) (sSeq (sSet 3 (mLc2 (mItems (mVar 3)) (.nm 5) [5, 6] (mYes) (mItems (mVar 0)) (.nm 6) [6] (mYes) (mBin addD (mVar 5) (mVar 6)))) (sSet 2 (mLst (mStar (mVar 2) (mStar (mVar 3) (mNil))))))) (sRet (mVar 2)))
def m_patterns_in : Fn := fnM 7 b_patterns_in
def b_leading_in : Sm := sRet (mLc (mItems (mCall 2 m_patterns_in (mCons (mVar 0) (mCons (mVar 1) (mNil))))) (.nm 2) [2] (mTruth (mCall 1 m_is_leading_of (mCons (mVar 2) (mNil)))) (mVar 2))
def m_leading_in : Fn := fnM 3 b_leading_in
def b_is_integer : Sm := sRet (mAndV (mIsT "int" (mVar 0)) (mAndV (mNotV (mIsT "bool" (mVar 0))) (mChain leD leD (mUn negD (mC (.int 99999999999999999999999999999999999999999999999999999999999999999999999999999999999999999999999999999999999999999999999999999999999999999999999999999999999999999999999999999999999999999999999999999999))) (mVar 0) (mC (.int 99999999999999999999999999999999999999999999999999999999999999999999999999999999999999999999999999999999999999999999999999999999999999999999999999999999999999999999999999999999999999999999999999999999)))))
def m_is_integer : Fn := fnM 1 b_is_integer
def b_is_integer_within : Sm := sRet (mAndV (mCall 1 m_is_integer (mCons (mVar 0) (mNil))) (mChain leD leD (mVar 1) (mVar 0) (mVar 2)))
def m_is_integer_within : Fn := fnM 3 b_is_integer_within
def b_require_within : Sm := sIf (mNotT (mTruth (mCall 3 m_is_integer_within (mCons (mVar 0) (mCons (mVar 1) (mCons (mVar 2) (mNil))))))) (sBad) (sNext)
def m_require_within : Fn := fnM 3 b_require_within
def b_require_depth : Sm := sExpr (mCall 3 m_require_within (mCons (mVar 0) (mCons (mC (.int 1)) (mCons (mC (.int 5)) (mNil)))))
def m_require_depth : Fn := fnM 1 b_require_depth
def b_leading_of : Sm := sSeq (sExpr (mCall 1 m_require_letters (mCons (mVar 0) (mNil)))) (sSeq (sExpr (mCall 1 m_require_depth (mCons (mVar 1) (mNil)))) (sRet (mCB tupleD (mCons (mCall 2 m_leading_in (mCons (mVar 0) (mCons (mVar 1) (mNil)))) (mNil)))))
def m_leading_of : Fn := fnM 2 b_leading_of
def b_patterns_of : Sm := sSeq (sExpr (mCall 1 m_require_letters (mCons (mVar 0) (mNil)))) (sSeq (sExpr (mCall 1 m_require_depth (mCons (mVar 1) (mNil)))) (sRet (mCB tupleD (mCons (mCall 2 m_patterns_in (mCons (mVar 0) (mCons (mVar 1) (mNil)))) (mNil)))))
def m_patterns_of : Fn := fnM 2 b_patterns_of
def b__law_right : Sm := sSeq (sSet 1 (mCall 1 m__law_signs (mCons (mVar 0) (mNil)))) (sSeq (sSet 2 (mIf (mTestB (mBin ltD (mCB lenD (mCons (mVar 1) (mNil))) (mC (.int 3)))) (mC (.int 5)) (mC (.int 4)))) (sSeq (sSet 3 (mCall 2 m__law_lines_to (mCons (mVar 1) (mCons (mVar 2) (mNil))))) (sSeq (sIf (mTestB (mBin neD (mCall 2 m_patterns_of (mCons (mVar 1) (mCons (mVar 2) (mNil)))) (mCB tupleD (mCons (mVar 3) (mNil))))) (sRet (mC (.bl false))) (sNext)) (sSeq (sIf (mTestB (mBin neD (mCall 2 m_leading_of (mCons (mVar 1) (mCons (mVar 2) (mNil)))) (mCB tupleD (mCons (mLc (mItems (mVar 3)) (.nm 4) [4] (mTruth (mCall 1 m__law_leads (mCons (mVar 4) (mNil)))) (mVar 4)) (mNil))))) (sRet (mC (.bl false))) (sNext)) (sSeq (sFor (mItems (mBin addD (mVar 3) (mLc (mSrc rng1 (mCons (mC (.int 8)) (mNil))) (.nm 6) [6] (mYes) (mCall 3 m__law_line (mCons (mVar 0) (mCons (mVar 1) (mCons (mC (.int 14)) (mNil)))))))) (.nm 4) (sIf (mOrT (mTestB (mBin neD (mCB reprD (mCons (mCall 2 m_is_leading (mCons (mVar 1) (mCons (mVar 4) (mNil)))) (mNil))) (mCB reprD (mCons (mCall 1 m__law_leads (mCons (mVar 4) (mNil))) (mNil))))) (mNotT (mTruth (mCall 2 m__law_factors_right (mCons (mVar 1) (mCons (mVar 4) (mNil))))))) (sRet (mC (.bl false))) (sNext))) (sSeq (sSet 5 (mLst (mCons (mC .non) (mCons (mC (.int 0)) (mCons (mC (.bl true)) (mCons (mC (.str [])) (mCons (mC (.str [65])) (mCons (mBM "str" upperD (mBin ixD (mVar 1) (mC (.int 0))) (mNil)) (mCons (mC (.str [63])) (mCons (mTup (mCons (mBin ixD (mVar 1) (mC (.int 0))) (mNil))) (mCons (mLst (mCons (mBin ixD (mVar 1) (mC (.int 0))) (mNil))) (mCons (mBin addD (mVar 1) (mBin mulD (mC (.str [122])) (mC (.int 400)))) (mCons (mDict0) (mNil)))))))))))))) (sRet (mAndV (mBin eqD (mLc (mItems (mVar 5)) (.nm 7) [7] (mTruth (mCall 2 m_is_leading (mCons (mVar 1) (mCons (mVar 7) (mNil))))) (mVar 7)) (mLst (mNil))) (mCall 2 m__law_factors_right (mCons (mVar 1) (mCons (mC (.str [])) (mNil))))))))))))
def m__law_right : Fn := fnM 8 b__law_right
def b__law_tray : Sm := sSeq (sSet 2 (mIf (mTestB (mBin ltD (mVar 1) (mCB lenD (mCons (mVar 0) (mNil))))) (mBin ixD (mVar 0) (mVar 1)) (mBin addD (mBin mulD (mC (.int 67)) (mVar 1)) (mC (.int 29))))) (sSeq (sSet 3 (mBin modD (mCB intD (mCons (mCB absD (mCons (mVar 2) (mNil))) (mNil))) (mBin powD (mBin powD (mC (.int 10)) (mC (.int 61))) (mC (.int 11))))) (sSeq (sSet 4 (mBin addD (mBin addD (mBin addD (mBin mulD (mBin modD (mCB intD (mCons (mVar 3) (mNil))) (mC (.int 2147483249))) (mC (.int 98347))) (mBin mulD (mC (.int 9421)) (mVar 1))) (mBin mulD (mC (.int 47)) (mCB intD (mCons (mBin ltD (mVar 2) (mC (.int 0))) (mNil))))) (mC (.int 61)))) (sRet (mLst (mCons (mCB maxD (mCons (mC (.int 0)) (mCons (mBin subD (mVar 3) (mBin powD (mC (.int 10)) (mC (.int 18)))) (mNil)))) (mCons (mBin modD (mCB intD (mCons (mVar 4) (mNil))) (mC (.int 2305843009213693907))) (mCons (mC (.int 0)) (mNil))))))))
def m__law_tray : Fn := fnM 5 b__law_tray
def b_law : Sm := sSeq (sFor (mSrc rng1 (mCons (mCB maxD (mCons (mC (.int 1)) (mCons (mCB minD (mCons (mC (.int 6)) (mCons (mCB lenD (mCons (mVar 0) (mNil))) (mNil)))) (mNil)))) (mNil))) (.nm 1) (sIf (mNotT (mTruth (mCallN m__law_right (mCall 2 m__law_tray (mCons (mVar 0) (mCons (mVar 1) (mNil))))))) (sRet (mC (.bl false))) (sNext))) (sSeq (sSet 2 (mLst (mCons (mCall 2 m_factors (mCons (mC (.str [97, 98])) (mCons (mC (.str [98, 97, 98, 97, 97, 98])) (mNil)))) (mCons (mCall 2 m_factors (mCons (mC (.str [97, 98])) (mCons (mC (.str [97, 98, 97, 98])) (mNil)))) (mCons (mCall 2 m_factors (mCons (mC (.str [97, 98])) (mCons (mC (.str [98, 98, 97, 97, 98, 97, 97, 98])) (mNil)))) (mCons (mCall 2 m_factors (mCons (mC (.str [97, 98, 99])) (mCons (mC (.str [97, 99, 97, 98, 99, 97, 98])) (mNil)))) (mNil))))))) (sSeq (sSet 3 (mLst (mCons (mTup (mCons (mC (.str [98])) (mCons (mC (.str [97, 98])) (mCons (mC (.str [97, 97, 98])) (mNil))))) (mCons (mTup (mCons (mC (.str [97, 98])) (mCons (mC (.str [97, 98])) (mNil)))) (mCons (mTup (mCons (mC (.str [98])) (mCons (mC (.str [98])) (mCons (mC (.str [97, 97, 98])) (mCons (mC (.str [97, 97, 98])) (mNil)))))) (mCons (mTup (mCons (mC (.str [97, 99])) (mCons (mC (.str [97, 98, 99])) (mCons (mC (.str [97, 98])) (mNil))))) (mNil))))))) (sRet (mAndV (mBin eqD (mVar 2) (mVar 3)) (mBin eqD (mCall 2 m_leading_of (mCons (mC (.str [97, 98])) (mCons (mC (.int 4)) (mNil)))) (mTup (mCons (mC (.str [97])) (mCons (mC (.str [98])) (mCons (mC (.str [97, 98])) (mCons (mC (.str [97, 97, 98])) (mCons (mC (.str [97, 98, 98])) (mCons (mC (.str [97, 97, 97, 98])) (mCons (mC (.str [97, 97, 98, 98])) (mCons (mC (.str [97, 98, 98, 98])) (mNil)))))))))))))))
def m_law : Fn := fnM 4 b_law
end K07
set_option Elab.async false
set_option maxRecDepth 100000
set_option maxHeartbeats 4000000
namespace Lyn
/-! ### words that are less than their proper ends, by places -/
def Ly (f : Nat → Nat) (n : Nat) : Prop := 0 < n ∧ ∀ i, 0 < i → i < n → ∃ j, i + j < n ∧ (∀ k, k < j → f k = f (i + k)) ∧ f j < f (i + j)
theorem ly_one (f : Nat → Nat) : Ly f 1 := ⟨by decide, fun i h1 h2 => by omega⟩
def Per (f : Nat → Nat) (p n : Nat) : Prop := ∀ k, k + p < n → f k = f (k + p)
theorem Per.mul {f : Nat → Nat} {p n : Nat} (h : Per f p n) : ∀ a k, k + a * p < n → f k = f (k + a * p)
  | 0, k, _ => by simp
  | a + 1, k, hk => by
    have e : k + (a + 1) * p = (k + a * p) + p := by rw [Nat.add_mul]; omega
    rw [e] at hk ⊢
    rw [← h (k + a * p) hk]
    exact h.mul a k (by omega)
theorem ly_grow {f : Nat → Nat} {p n : Nat} (h : Ly f p) (hp : p ≤ n) (per : Per f p n) (hc : f (n - p) < f n) : Ly f (n + 1) := by
  obtain ⟨h0, h⟩ := h
  refine ⟨by omega, fun i i0 i1 => ?_⟩
  have hi : i = (i / p) * p + i % p := by rw [Nat.mul_comm]; exact (Nat.div_add_mod i p).symm
  generalize ha : i / p = a at hi
  generalize hb : i % p = b at hi
  have hbp : b < p := by rw [← hb]; exact Nat.mod_lt _ h0
  -- f k = f (i + k), as far as the period goes
  have go : ∀ k, i + k < n → f (i + k) = f (b + k) := fun k hk => by
    have := per.mul a (b + k) (by omega)
    rw [this]
    congr 1
    omega
  have last : f (n - p) < f n := hc
  by_cases hb0 : b = 0
  · refine ⟨n - i, by omega, fun k hk => ?_, ?_⟩
    · rw [go k (by omega), hb0, Nat.zero_add]
    · have e1 : i + (n - i) = n := by omega
      rw [e1]
      have ha1 : 1 ≤ a := by
        cases a with
        | zero => simp at hi; omega
        | succ a => omega
      obtain ⟨a', rfl⟩ : ∃ a', a = a' + 1 := ⟨a - 1, by omega⟩
      have e2 : n - p = (n - i) + a' * p := by
        rw [Nat.add_mul] at hi
        omega
      rw [e2, ← per.mul a' (n - i) (by omega)] at last
      exact last
  · obtain ⟨j, hj, heq, hlt⟩ := h b (by omega) hbp
    by_cases hn : i + j < n
    · refine ⟨j, by omega, fun k hk => ?_, ?_⟩
      · rw [go k (by omega)]
        exact heq k hk
      · rw [go j hn]
        exact hlt
    · have ha1 : 1 ≤ a := by
        cases a with
        | zero => simp at hi; omega
        | succ a => omega
      obtain ⟨a', rfl⟩ : ∃ a', a = a' + 1 := ⟨a - 1, by omega⟩
      refine ⟨n - i, by omega, fun k hk => ?_, ?_⟩
      · rw [go k (by omega)]
        exact heq k (by omega)
      · have e1 : i + (n - i) = n := by omega
        rw [e1]
        have e2 : n - p = (b + (n - i)) + a' * p := by
          rw [Nat.add_mul] at hi
          omega
        rw [e2, ← per.mul a' (b + (n - i)) (by omega)] at last
        by_cases hk : n - i < j
        · rw [heq _ hk]
          exact last
        · have e3 : n - i = j := by omega
          rw [e3] at last ⊢
          omega
theorem per_grow {f : Nat → Nat} {p n : Nat} (hp : p ≤ n) (per : Per f p n) (he : f (n - p) = f n) : Per f p (n + 1) := fun k hk => by
  by_cases h : k + p < n
  · exact per k h
  · have e : k = n - p := by omega
    rw [e]
    have e2 : n - p + p = n := by omega
    rw [e2]
    exact he
end Lyn
set_option Elab.async false
set_option maxRecDepth 100000
set_option maxHeartbeats 4000000
namespace Lyn
/-! ### the order of texts -/
theorem lt_iff {a b : List Nat} : a < b ↔ (a = b.take a.length ∧ a.length < b.length) ∨ ∃ i, ∃ (h1 : i < a.length) (h2 : i < b.length), (∀ j (hj : j < i), a[j] = b[j]) ∧ a[i] < b[i] := List.lt_iff_exists
theorem lt_of_diff {a b : List Nat} {i : Nat} (h1 : i < a.length) (h2 : i < b.length) (he : ∀ j, j < i → a[j]? = b[j]?) (hl : a[i] < b[i]) : a < b := lt_iff.mpr (.inr ⟨i, h1, h2, fun j hj => by
  have := he j hj
  rw [List.getElem?_eq_getElem (by omega), List.getElem?_eq_getElem (by omega)] at this
  exact Option.some.inj this, hl⟩)
theorem not_lt_of_diff {v x : List Nat} {d : Nat} (hd : d < v.length) (he : ∀ k, k < d → k < x.length → x[k]? = v[k]?) (hl : ∀ h : d < x.length, x[d] < v[d]) : ¬ v < x := fun h => by
  rcases lt_iff.mp h with ⟨e, hlen⟩ | ⟨i, h1, h2, e, l⟩
  · have hx : d < x.length := by omega
    have h3 := hl hx
    have h4 : v[d]? = x[d]? := by
      have : v[d]? = (x.take v.length)[d]? := by rw [← e]
      rw [this, List.getElem?_take, if_pos hd]
    rw [List.getElem?_eq_getElem hd, List.getElem?_eq_getElem hx] at h4
    have := Option.some.inj h4
    omega
  · by_cases z : i < d
    · have := he i z h2
      rw [List.getElem?_eq_getElem h2, List.getElem?_eq_getElem h1] at this
      have := Option.some.inj this
      omega
    · have hx : d < x.length := by omega
      have h3 := hl hx
      by_cases z2 : i = d
      · subst z2
        omega
      · have := e d (by omega)
        omega
theorem irr (a : List Nat) : ¬ a < a := List.lt_irrefl a
theorem tr {a b c : List Nat} (h : a < b) (k : b < c) : a < c := List.lt_trans h k
theorem tri {a b : List Nat} (h : ¬ a < b) (k : ¬ b < a) : a = b := List.le_antisymm k h
/-- less, then not greater -/
theorem lt_nlt {a b c : List Nat} (h : a < b) (k : ¬ c < b) : a < c := by
  by_cases z : b < c
  · exact tr h z
  · have : b = c := tri z k
    exact this ▸ h
theorem nlt_trans {a b c : List Nat} (h : ¬ b < a) (k : ¬ c < b) : ¬ c < a := fun z => h (by
  by_cases y : b < a
  · exact y
  · have : a = b ∨ a < b := by
      by_cases q : a < b
      · exact .inr q
      · exact .inl (tri q y)
    rcases this with rfl | q
    · exact absurd z k
    · exact absurd (tr z q) k)
theorem prefix_nlt {a b : List Nat} (h : a <+: b) : ¬ b < a := fun z => by
  obtain ⟨t, rfl⟩ := h
  rcases lt_iff.mp z with ⟨_, hl⟩ | ⟨i, h1, h2, _, l⟩
  · rw [List.length_append] at hl
    omega
  · rw [List.getElem_append_left h2] at l
    omega
/-! ### leading words -/
def LeadP (w : List Nat) : Prop := w ≠ [] ∧ ∀ i, 0 < i → i < w.length → w < w.drop i
theorem lead_of_ly {r : List Nat} {p : Nat} (hp : p ≤ r.length) (h : Ly (fun k => r.getD k 0) p) : LeadP (r.take p) := by
  obtain ⟨h0, h⟩ := h
  have len : (r.take p).length = p := by rw [List.length_take]; omega
  refine ⟨fun z => by rw [z] at len; simp at len; omega, fun i i0 i1 => ?_⟩
  rw [len] at i1
  obtain ⟨j, hj, he, hl⟩ := h i i0 i1
  have g : ∀ k, k < p → (r.take p)[k]? = some (r.getD k 0) := fun k hk => by
    rw [List.getElem?_take, if_pos hk, List.getD_eq_getElem?_getD, List.getElem?_eq_getElem (by omega)]
    rfl
  have gd : ∀ k, i + k < p → ((r.take p).drop i)[k]? = some (r.getD (i + k) 0) := fun k hk => by
    rw [List.getElem?_drop, g _ hk]
  have l2 : j < ((r.take p).drop i).length := by rw [List.length_drop, len]; omega
  refine lt_of_diff (i := j) (by omega) l2 (fun k hk => ?_) ?_
  · rw [g k (by omega), gd k (by omega)]
    exact congrArg some (he k hk)
  · have e1 := g j (by omega)
    have e2 := gd j hj
    rw [List.getElem?_eq_getElem (by omega)] at e1
    rw [List.getElem?_eq_getElem l2] at e2
    rw [Option.some.inj e1, Option.some.inj e2]
    exact hl
/-! ### words made up of leading words, none less than the next -/
def Down : List (List Nat) → Prop
  | [] => True
  | f :: F => (∀ g ∈ F, ¬ f < g) ∧ Down F
theorem flat_split : ∀ (F : List (List Nat)) (n : Nat), 0 < n → n ≤ F.flatten.length → ∃ g ∈ F, ∃ z y, y ≠ [] ∧ y <+: g ∧ F.flatten.take n = z ++ y
  | [], n, h, k => by simp at k; omega
  | g :: G, n, h, k => by
    by_cases z : n ≤ g.length
    · refine ⟨g, List.mem_cons_self, [], g.take n, fun e => ?_, List.take_prefix _ _, ?_⟩
      · have := congrArg List.length e
        rw [List.length_take, List.length_nil] at this
        omega
      · rw [List.flatten_cons, List.take_append_of_le_length z, List.nil_append]
    · have k0 := k
      rw [List.flatten_cons, List.length_append] at k0
      obtain ⟨g', hg, z', y, h1, h2, h3⟩ := flat_split G (n - g.length) (by omega) (by omega)
      refine ⟨g', List.mem_cons_of_mem _ hg, g ++ z', y, h1, h2, ?_⟩
      rw [List.flatten_cons, List.take_append, List.take_of_length_le (by omega), h3, List.append_assoc]
theorem first_longest {f : List Nat} {F : List (List Nat)} (hd : Down (f :: F)) (hf : f ≠ []) {n : Nat} (h1 : f.length < n) (h2 : n ≤ (f :: F).flatten.length) : ¬ LeadP ((f :: F).flatten.take n) := fun ⟨_, hl⟩ => by
  rw [List.flatten_cons, List.length_append] at h2
  obtain ⟨g, hg, z, y, y0, yp, e⟩ := flat_split F (n - f.length) (by omega) (by omega)
  have ep : (f :: F).flatten.take n = f ++ (z ++ y) := by
    rw [List.flatten_cons, List.take_append, List.take_of_length_le (by omega), e]
  rw [ep] at hl
  have hz : 0 < f.length := List.length_pos_iff.mpr hf
  have hy : 0 < y.length := List.length_pos_iff.mpr y0
  have k := hl (f.length + z.length) (by omega) (by simp; omega)
  have ed : (f ++ (z ++ y)).drop (f.length + z.length) = y := by
    rw [← List.append_assoc, List.drop_append_of_le_length (by simp)]
    simp
  rw [ed] at k
  have k2 : f ++ (z ++ y) < g := lt_nlt k (prefix_nlt yp)
  have k3 : f ++ (z ++ y) < f := lt_nlt k2 (hd.1 g hg)
  exact prefix_nlt ⟨_, rfl⟩ k3
theorem one_iff {w : List Nat} {F : List (List Nat)} (hF : ∀ f ∈ F, LeadP f) (hd : Down F) (e : F.flatten = w) : F.length = 1 ↔ LeadP w := by
  constructor
  · intro h
    match F, h with
    | [f], _ =>
      simp at e
      exact e ▸ hF f List.mem_cons_self
  · intro h
    match F, hF, hd, e with
    | [], _, _, e =>
      have e : [] = w := e
      exact absurd e.symm h.1
    | [f], _, _, _ => rfl
    | f :: g :: G, hF, hd, e =>
      have hg : g ≠ [] := (hF g (by simp)).1
      have hg2 : 0 < g.length := List.length_pos_iff.mpr hg
      exact absurd (by rw [List.take_length, e]; exact h) (first_longest (n := (f :: g :: G).flatten.length) hd (hF f List.mem_cons_self).1 (by simp; omega) (Nat.le_refl _))
end Lyn
set_option Elab.async false
set_option maxRecDepth 100000
set_option maxHeartbeats 4000000
namespace K07
open PySem MM Lyn
theorem lt1 {a c : Nat} : ([a] : List Nat) < [c] ↔ a < c := by
  constructor
  · intro h
    rcases lt_iff.mp h with ⟨_, l⟩ | ⟨i, h1, h2, _, l⟩
    · simp at l
    · have : i = 0 := by simpa using h1
      subst this
      exact l
  · intro h
    exact lt_of_diff (i := 0) (by simp) (by simp) (fun j hj => by omega) h
theorem leD1 {a c : Nat} : leD (.str [a]) (.str [c]) = some (.d (.bl (decide (a ≤ c)))) := by
  have e : (!decide (([c] : List Nat) < [a])) = decide (a ≤ c) := by
    by_cases h : c < a
    · rw [decide_eq_true (lt1.mpr h), decide_eq_false (by omega)]
      rfl
    · rw [decide_eq_false (fun z => h (lt1.mp z)), decide_eq_true (by omega)]
      rfl
  show some (RV.d (.bl (!decide (([c] : List Nat) < [a])))) = _
  rw [e]
theorem eqD1 {a c : Nat} : eqD (.str [a]) (.str [c]) = some (.d (.bl (decide (a = c)))) := by
  show some (RV.d (.bl (([a] : List Nat) == [c]))) = _
  have e : (([a] : List Nat) == [c]) = decide (a = c) := Bool.eq_iff_iff.mpr (by simp)
  rw [e]
theorem ltDi {i j : Nat} : ltD (.int i) (.int j) = some (.d (.bl (decide (i < j)))) := by
  show some (RV.d (.bl (decide ((i : Int) < j)))) = _
  have e : decide ((i : Int) < j) = decide (i < j) := Bool.eq_iff_iff.mpr (by simp)
  rw [e]
theorem leDi {i j : Nat} : leD (.int i) (.int j) = some (.d (.bl (decide (i ≤ j)))) := by
  show some (RV.d (.bl (decide ((i : Int) ≤ j)))) = _
  have e : decide ((i : Int) ≤ j) = decide (i ≤ j) := Bool.eq_iff_iff.mpr (by simp)
  rw [e]
theorem lenDs {w : List Nat} (hz : w.length ≤ sizeLine) : lenD [.str w] = some (.d (.int (w.length : Nat))) := if_pos hz
def fw (w : List Nat) (b k : Nat) : Nat := w.getD (b + k) 0
/-! ### the inner loop -/
def inT : List S → R Bool := mAndT (mTestB (mBin ltD (mVar 4) (mCB lenD (mCons (mVar 0) (mNil))))) (mTestB (mBin leD (mBin ixD (mVar 0) (mVar 3)) (mBin ixD (mVar 0) (mVar 4))))
def inM : Sm := sSeq (sSet 3 (mIf (mTestB (mBin eqD (mBin ixD (mVar 0) (mVar 3)) (mBin ixD (mVar 0) (mVar 4)))) (mBin addD (mVar 3) (mC (.int 1))) (mVar 2))) (sAug 4 addI (mC (.int 1)))
def inS (w : List Nat) (F : List D) (b : Nat) (s5 : S) (x : Nat × Nat) : List S := [.d (.str w), .o (.lst F), .d (.int b), .d (.int ((b + x.1 : Nat) : Int)), .d (.int ((b + x.2 : Nat) : Int)), s5]
structure InP (w : List Nat) (b : Nat) (x : Nat × Nat) : Prop where
  h : x.1 < x.2
  n : b + x.2 ≤ w.length
  ly : Ly (fw w b) (x.2 - x.1)
  per : Per (fw w b) (x.2 - x.1) x.2
def InF (w : List Nat) (b : Nat) (x : Nat × Nat) : Prop := b + x.2 < w.length → fw w b x.2 < fw w b x.1
theorem in_step {w : List Nat} {F : List D} {b : Nat} {s5 : S} (hz : w.length ≤ sizeLine) (x : Nat × Nat) (hx : InP w b x) :
    (inT (inS w F b s5 x) = .ok true (inS w F b s5 x) ∧ ∃ y, inM (inS w F b s5 x) = .nx (inS w F b s5 y) ∧ InP w b y ∧ w.length - (b + y.2) < w.length - (b + x.2)) ∨ (inT (inS w F b s5 x) = .ok false (inS w F b s5 x) ∧ InF w b x) := by
  obtain ⟨h, n⟩ := x
  obtain ⟨hh, hn, ly, per⟩ := hx
  dsimp only at hh hn ly per
  have t1 : mTestB (mBin ltD (mVar 4) (mCB lenD (mCons (mVar 0) (mNil)))) (inS w F b s5 (h, n)) = .ok (decide (b + n < w.length)) (inS w F b s5 (h, n)) :=
    ev_test (ev_bin (ev_var rfl) (ev_cb1 (ev_var rfl) (lenDs hz)) ltDi)
  by_cases hlt : b + n < w.length
  · have i3 : mBin ixD (mVar 0) (mVar 3) (inS w F b s5 (h, n)) = .ok (.d (.str [fw w b h])) (inS w F b s5 (h, n)) := ev_bin (ev_var rfl) (ev_var rfl) (ix_str (by omega) hz)
    have i4 : mBin ixD (mVar 0) (mVar 4) (inS w F b s5 (h, n)) = .ok (.d (.str [fw w b n])) (inS w F b s5 (h, n)) := ev_bin (ev_var rfl) (ev_var rfl) (ix_str hlt hz)
    have t2 : mTestB (mBin leD (mBin ixD (mVar 0) (mVar 3)) (mBin ixD (mVar 0) (mVar 4))) (inS w F b s5 (h, n)) = .ok (decide (fw w b h ≤ fw w b n)) (inS w F b s5 (h, n)) := ev_test (ev_bin i3 i4 leD1)
    have tt : inT (inS w F b s5 (h, n)) = .ok (decide (fw w b h ≤ fw w b n)) (inS w F b s5 (h, n)) := by
      unfold inT mAndT
      rw [t1, bind_ok, decide_eq_true hlt, if_pos rfl, t2]
    by_cases hle : fw w b h ≤ fw w b n
    · rw [decide_eq_true hle] at tt
      refine .inl ⟨tt, ?_⟩
      have te : mTestB (mBin eqD (mBin ixD (mVar 0) (mVar 3)) (mBin ixD (mVar 0) (mVar 4))) (inS w F b s5 (h, n)) = .ok (decide (fw w b h = fw w b n)) (inS w F b s5 (h, n)) := ev_test (ev_bin i3 i4 eqD1)
      by_cases he : fw w b h = fw w b n
      · refine ⟨(h + 1, n + 1), ?_, ⟨by omega, by dsimp only; omega, ?_, ?_⟩, by dsimp only; omega⟩
        · have e1 : ((b + h : Nat) : Int) + 1 = ((b + (h + 1) : Nat) : Int) := by omega
          have e2 : ((b + n : Nat) : Int) + 1 = ((b + (n + 1) : Nat) : Int) := by omega
          rw [decide_eq_true he] at te
          have a1 : sSet 3 (mIf (mTestB (mBin eqD (mBin ixD (mVar 0) (mVar 3)) (mBin ixD (mVar 0) (mVar 4)))) (mBin addD (mVar 3) (mC (.int 1))) (mVar 2)) (inS w F b s5 (h, n)) = .nx [.d (.str w), .o (.lst F), .d (.int b), .d (.int ((b + (h + 1) : Nat) : Int)), .d (.int ((b + n : Nat) : Int)), s5] := by
            unfold sSet mIf
            rw [te, bind_ok, if_pos rfl, ← e1]
            rfl
          unfold inM
          rw [seq_nx a1]
          unfold inS
          rw [← e2]
          rfl
        · have e3 : n + 1 - (h + 1) = n - h := by omega
          dsimp only
          rw [e3]
          exact ly
        · have e3 : n + 1 - (h + 1) = n - h := by omega
          dsimp only
          rw [e3]
          refine per_grow (by omega) per ?_
          have e4 : n - (n - h) = h := by omega
          rw [e4]
          exact he
      · refine ⟨(0, n + 1), ?_, ⟨by dsimp only; omega, by dsimp only; omega, ?_, ?_⟩, by dsimp only; omega⟩
        · have e2 : ((b + n : Nat) : Int) + 1 = ((b + (n + 1) : Nat) : Int) := by omega
          rw [decide_eq_false he] at te
          have a1 : sSet 3 (mIf (mTestB (mBin eqD (mBin ixD (mVar 0) (mVar 3)) (mBin ixD (mVar 0) (mVar 4)))) (mBin addD (mVar 3) (mC (.int 1))) (mVar 2)) (inS w F b s5 (h, n)) = .nx [.d (.str w), .o (.lst F), .d (.int b), .d (.int ((b + 0 : Nat) : Int)), .d (.int ((b + n : Nat) : Int)), s5] := by
            unfold sSet mIf
            rw [te, bind_ok, if_neg Bool.false_ne_true]
            rfl
          unfold inM
          rw [seq_nx a1]
          unfold inS
          rw [← e2]
          rfl
        · have e4 : n - (n - h) = h := by omega
          refine ly_grow ly (by omega) per ?_
          rw [e4]
          omega
        · dsimp only
          intro k hk
          omega
    · rw [decide_eq_false hle] at tt
      exact .inr ⟨tt, fun _ => by dsimp only; omega⟩
  · refine .inr ⟨?_, fun z => absurd z hlt⟩
    unfold inT mAndT
    rw [t1, bind_ok, decide_eq_false hlt]
    rfl
theorem in_loop {w : List Nat} {F : List D} {b : Nat} {s5 : S} (hz : w.length ≤ sizeLine) (hb : b < w.length) (hw : w.length < 100000) : ∃ y, whileM inT inM 100000 (inS w F b s5 (0, 1)) = .nx (inS w F b s5 y) ∧ InP w b y ∧ InF w b y :=
  whileM_do (inS w F b s5) (fun x => w.length - (b + x.2)) (InP w b) (InF w b) (fun x hx => in_step hz x hx) 100000 (0, 1) ⟨by decide, by dsimp only; omega, ly_one _, fun k hk => by dsimp only at hk; omega⟩ (by dsimp only; omega)
end K07
set_option Elab.async false
set_option maxRecDepth 100000
set_option maxHeartbeats 4000000
namespace K07
open PySem MM Lyn
/-! ### the pieces of a run -/
def chunk (w : List Nat) (b p k : Nat) : List Nat := (w.drop (b + k * p)).take p
theorem fw_drop (w : List Nat) (b : Nat) : (fun k => (w.drop b).getD k 0) = fw w b := by
  funext k
  simp [fw, List.getD_eq_getElem?_getD, List.getElem?_drop]
theorem chunks_flat {w : List Nat} {b p : Nat} : ∀ q, ((List.range q).map (chunk w b p)).flatten = (w.drop b).take (q * p)
  | 0 => by simp
  | q + 1 => by
    rw [List.range_succ, List.map_append, List.flatten_append, chunks_flat q, Nat.add_mul, Nat.one_mul, List.take_add]
    simp [chunk, List.drop_drop]
theorem chunk_eq {w : List Nat} {b p n k : Nat} (per : Per (fw w b) p n) (hn : b + n ≤ w.length) (hk : (k + 1) * p ≤ n) : chunk w b p k = chunk w b p 0 := by
  have hk' : k * p + p ≤ n := by rw [Nat.add_mul] at hk; omega
  have hl : ∀ m, m * p + p ≤ n → (chunk w b p m).length = p := fun m hm => by
    unfold chunk
    rw [List.length_take, List.length_drop]
    omega
  apply List.ext_getElem?
  intro i
  by_cases hi : i < p
  · have g : ∀ m, m * p + p ≤ n → (chunk w b p m)[i]? = some (fw w b (m * p + i)) := fun m hm => by
      unfold chunk fw
      rw [List.getElem?_take, if_pos hi, List.getElem?_drop, List.getD_eq_getElem?_getD]
      have e : b + m * p + i = b + (m * p + i) := by omega
      rw [e, List.getElem?_eq_getElem (by omega)]
      rfl
    rw [g k hk', g 0 (by omega)]
    have := per.mul k (0 * p + i) (by omega)
    rw [this]
    congr 2
    omega
  · rw [List.getElem?_eq_none (by rw [hl k hk']; omega), List.getElem?_eq_none (by rw [hl 0 (by omega)]; omega)]
/-! ### the run handed out -/
def emT : List S → R Bool := mTestB (mBin leD (mVar 2) (mVar 3))
def emM : Sm := sSeq (sExpr (mOM "list" 1 fAppend (mCons (mSlice sliceD (mVar 0) (mPart (mVar 2)) (mPart (mBin addD (mVar 2) (mVar 5)))) (mNil)))) (sAug 2 addI (mVar 5))
def emS (w : List Nat) (Fs : List (List Nat)) (b h n p : Nat) (a : Nat) : List S := [.d (.str w), .o (.lst ((Fs ++ (List.range a).map (chunk w b p)).map D.str)), .d (.int ((b + a * p : Nat) : Int)), .d (.int ((b + h : Nat) : Int)), .d (.int ((b + n : Nat) : Int)), .d (.int (p : Nat))]
theorem em_step {w : List Nat} {Fs : List (List Nat)} {b h n p : Nat} (hz : w.length ≤ sizeLine) (hp : 0 < p) (hhn : h + p = n) (hn : b + n ≤ w.length) (hF : Fs.length ≤ b) (a : Nat) (ha : a * p ≤ n) :
    (emT (emS w Fs b h n p a) = .ok true (emS w Fs b h n p a) ∧ ∃ y, emM (emS w Fs b h n p a) = .nx (emS w Fs b h n p y) ∧ y * p ≤ n ∧ n - y * p < n - a * p) ∨ (emT (emS w Fs b h n p a) = .ok false (emS w Fs b h n p a) ∧ h < a * p) := by
  have t1 : emT (emS w Fs b h n p a) = .ok (decide (b + a * p ≤ b + h)) (emS w Fs b h n p a) := ev_test (ev_bin (ev_var rfl) (ev_var rfl) leDi)
  by_cases hl : a * p ≤ h
  · rw [decide_eq_true (by omega)] at t1
    have e1 : (a + 1) * p = a * p + p := by rw [Nat.add_mul, Nat.one_mul]
    refine .inl ⟨t1, a + 1, ?_, by omega, by omega⟩
    have sl : mSlice sliceD (mVar 0) (mPart (mVar 2)) (mPart (mBin addD (mVar 2) (mVar 5))) (emS w Fs b h n p a) = .ok (.d (.str (chunk w b p a))) (emS w Fs b h n p a) := by
      have e2 : ((b + a * p : Nat) : Int) + (p : Int) = ((b + a * p + p : Nat) : Int) := by omega
      have ad : mBin addD (mVar 2) (mVar 5) (emS w Fs b h n p a) = .ok (.d (.int ((b + a * p + p : Nat) : Int))) (emS w Fs b h n p a) := by
        rw [← e2]
        exact ev_bin (ev_var rfl) (ev_var rfl) rfl
      refine ev_slice (ev_var rfl) (ev_part (ev_var rfl)) (ev_part ad) ?_
      rw [slice_lh (by omega) (by omega) hz]
      have e3 : b + a * p + p - (b + a * p) = p := by omega
      rw [e3]
      rfl
    have hap : a ≤ a * p := Nat.le_mul_of_pos_right a hp
    have hlen : ((Fs ++ (List.range a).map (chunk w b p)).map D.str).length < sizeLine := by
      simp
      omega
    have om : mOM "list" 1 fAppend (mCons (mSlice sliceD (mVar 0) (mPart (mVar 2)) (mPart (mBin addD (mVar 2) (mVar 5)))) (mNil)) (emS w Fs b h n p a) = .ok (.d .non) [.d (.str w), .o (.lst ((Fs ++ (List.range (a + 1)).map (chunk w b p)).map D.str)), .d (.int ((b + a * p : Nat) : Int)), .d (.int ((b + h : Nat) : Int)), .d (.int ((b + n : Nat) : Int)), .d (.int (p : Nat))] := by
      have e4 : (Fs ++ (List.range (a + 1)).map (chunk w b p)).map D.str = (Fs ++ (List.range a).map (chunk w b p)).map D.str ++ [.str (chunk w b p a)] := by
        simp [List.range_succ]
      rw [e4]
      have ev : mCons (mSlice sliceD (mVar 0) (mPart (mVar 2)) (mPart (mBin addD (mVar 2) (mVar 5)))) mNil (emS w Fs b h n p a) = .ok [.d (.str (chunk w b p a))] (emS w Fs b h n p a) := by
        simp [mCons, mNil, mHold, sl, R.bind]
      have hget : (emS w Fs b h n p a)[1]? = some (.o (.lst ((Fs ++ (List.range a).map (chunk w b p)).map D.str))) := rfl
      unfold mOM
      rw [hget]
      simp only [S.own, isTy, beq_self_eq_true, if_true, ev, bind_ok, forceHs, forceH, hget, fAppend, if_pos hlen, S.chg]
      rfl
    unfold emM
    rw [seq_nx (exp_nx om)]
    unfold emS
    have e5 : ((b + (a + 1) * p : Nat) : Int) = ((b + a * p : Nat) : Int) + (p : Int) := by omega
    rw [e5]
    rfl
  · rw [decide_eq_false (by omega)] at t1
    exact .inr ⟨t1, by omega⟩
theorem em_loop {w : List Nat} {Fs : List (List Nat)} {b h n p : Nat} (hz : w.length ≤ sizeLine) (hw : w.length < 100000) (hp : 0 < p) (hhn : h + p = n) (hn : b + n ≤ w.length) (hF : Fs.length ≤ b) :
    ∃ a, whileM emT emM 100000 (emS w Fs b h n p 0) = .nx (emS w Fs b h n p a) ∧ a * p ≤ n ∧ h < a * p :=
  whileM_do (emS w Fs b h n p) (fun a => n - a * p) (fun a => a * p ≤ n) (fun a => h < a * p) (fun a ha => em_step hz hp hhn hn hF a ha) 100000 0 (by omega) (by omega)
/-! ### the outer loop -/
structure OutP (w : List Nat) (Fs : List (List Nat)) (b : Nat) : Prop where
  n : b ≤ w.length
  flat : Fs.flatten = w.take b
  lead : ∀ f ∈ Fs, LeadP f
  down : Down Fs
  next : ∀ f ∈ Fs, ∀ x, x <+: w.drop b → ¬ f < x
  len : Fs.length ≤ b
theorem down_app : ∀ {Fs Gs : List (List Nat)}, Down Fs → Down Gs → (∀ f ∈ Fs, ∀ g ∈ Gs, ¬ f < g) → Down (Fs ++ Gs)
  | [], _, _, h, _ => h
  | f :: Fs, Gs, h1, h2, h3 => ⟨fun g hg => by
      rcases List.mem_append.mp hg with z | z
      · exact h1.1 g z
      · exact h3 f List.mem_cons_self g z, down_app h1.2 h2 fun f' hf => h3 f' (List.mem_cons_of_mem _ hf)⟩
theorem down_same {v : List Nat} : ∀ {Gs : List (List Nat)}, (∀ g ∈ Gs, g = v) → Down Gs
  | [], _ => trivial
  | g :: Gs, h => ⟨fun g' hg => by
      rw [h g List.mem_cons_self, h g' (List.mem_cons_of_mem _ hg)]
      exact irr v, down_same fun g' hg => h g' (List.mem_cons_of_mem _ hg)⟩
theorem out_go {w : List Nat} {Fs : List (List Nat)} {b h n p a : Nat} (o : OutP w Fs b) (hp : 0 < p) (hhn : h + p = n) (hn : b + n ≤ w.length) (ly : Ly (fw w b) p) (per : Per (fw w b) p n) (fin : b + n < w.length → fw w b n < fw w b h) (ha : a * p ≤ n) (hb : h < a * p) :
    OutP w (Fs ++ (List.range a).map (chunk w b p)) (b + a * p) := by
  have a0 : 0 < a := by
    cases a with
    | zero => simp at hb
    | succ a => omega
  have hv : ∀ g ∈ (List.range a).map (chunk w b p), g = chunk w b p 0 := fun g hg => by
    obtain ⟨k, hk, rfl⟩ := List.mem_map.mp hg
    have hk := List.mem_range.mp hk
    exact chunk_eq per hn (Nat.le_trans (Nat.mul_le_mul_right p hk) ha)
  have pn : p ≤ n := by omega
  have ev : chunk w b p 0 = (w.drop b).take p := by
    unfold chunk
    rw [Nat.zero_mul, Nat.add_zero]
  have lv : LeadP (chunk w b p 0) := by
    rw [ev]
    refine lead_of_ly (by rw [List.length_drop]; omega) ?_
    rw [fw_drop]
    exact ly
  have vpre : chunk w b p 0 <+: w.drop b := by
    rw [ev]
    exact List.take_prefix _ _
  have lenv : (chunk w b p 0).length = p := by
    rw [ev, List.length_take, List.length_drop]
    omega
  have vat : ∀ k, k < p → (chunk w b p 0)[k]? = some (fw w b k) := fun k hk => by
    rw [ev, List.getElem?_take, if_pos hk, List.getElem?_drop]
    unfold fw
    rw [List.getD_eq_getElem?_getD, List.getElem?_eq_getElem (by omega)]
    rfl
  have later : ∀ x, x <+: w.drop (b + a * p) → ¬ chunk w b p 0 < x := fun x hx => by
    have xat : ∀ k, k < x.length → x[k]? = some (fw w b (a * p + k)) := fun k hk => by
      obtain ⟨t, ht⟩ := hx
      have hlen := congrArg List.length ht
      rw [List.length_append, List.length_drop] at hlen
      have e1 : x[k]? = (w.drop (b + a * p))[k]? := by rw [← ht, List.getElem?_append_left hk]
      rw [e1, List.getElem?_drop]
      unfold fw
      rw [List.getD_eq_getElem?_getD, ← Nat.add_assoc, List.getElem?_eq_getElem (by omega)]
      rfl
    have hd : n - a * p < p := by omega
    refine not_lt_of_diff (d := n - a * p) (by rw [lenv]; exact hd) (fun k hk hk2 => ?_) fun hx2 => ?_
    · rw [xat k hk2, vat k (by omega)]
      have := per.mul a k (by omega)
      rw [this, Nat.add_comm]
    · have e1 := xat _ hx2
      rw [List.getElem?_eq_getElem hx2] at e1
      have e2 := vat _ hd
      rw [List.getElem?_eq_getElem (by rw [lenv]; exact hd)] at e2
      rw [Option.some.inj e1, Option.some.inj e2]
      have e3 : a * p + (n - a * p) = n := by omega
      rw [e3]
      have hbn : b + n < w.length := by
        obtain ⟨t, ht⟩ := hx
        have hlen := congrArg List.length ht
        rw [List.length_append, List.length_drop] at hlen
        omega
      have f1 := fin hbn
      obtain ⟨a', rfl⟩ : ∃ a', a = a' + 1 := ⟨a - 1, by omega⟩
      have e5 : (a' + 1) * p = a' * p + p := by rw [Nat.add_mul, Nat.one_mul]
      have e4 : h = (n - (a' + 1) * p) + a' * p := by omega
      rw [e4, ← per.mul a' (n - (a' + 1) * p) (by omega)] at f1
      exact f1
  refine ⟨by omega, ?_, fun f hf => ?_, ?_, fun f hf x hx => ?_, ?_⟩
  · rw [List.flatten_append, o.flat, chunks_flat, ← List.take_add]
  · rcases List.mem_append.mp hf with z | z
    · exact o.lead f z
    · rw [hv f z]
      exact lv
  · refine down_app o.down (down_same hv) fun f hf g hg => ?_
    rw [hv g hg]
    exact o.next f hf _ vpre
  · rcases List.mem_append.mp hf with z | z
    · exact nlt_trans (later x hx) (o.next f z _ vpre)
    · rw [hv f z]
      exact later x hx
  · rw [List.length_append, List.length_map, List.length_range]
    have := o.len
    have := Nat.le_mul_of_pos_right a hp
    omega
end K07
set_option Elab.async false
set_option maxRecDepth 100000
set_option maxHeartbeats 4000000
namespace K07
open PySem MM Lyn
structure OuS where
  Fs : List (List Nat)
  b : Nat
  s3 : S
  s4 : S
  s5 : S
def ouS (w : List Nat) (x : OuS) : List S := [.d (.str w), .o (.lst (x.Fs.map D.str)), .d (.int (x.b : Nat)), x.s3, x.s4, x.s5]
def ouT : List S → R Bool := mTestB (mBin ltD (mVar 2) (mCB lenD (mCons (mVar 0) (mNil))))
def ouM : Sm := sSeq (sPar [3, 4] [mVar 2, mBin addD (mVar 2) (mC (.int 1))]) (sSeq (whileM inT inM 100000) (sSeq (sSet 5 (mBin subD (mVar 4) (mVar 3))) (whileM emT emM 100000)))
theorem fac_eq : b_factors_of = sSeq (sPar [1, 2] [mLst (mNil), mC (.int 0)]) (sSeq (whileM ouT ouM 100000) (sRet (mVar 1))) := rfl
structure OuP (w : List Nat) (x : OuS) : Prop where
  o : OutP w x.Fs x.b
  f3 : x.s3.free
  f4 : x.s4.free
  f5 : x.s5.free
theorem put2 {i j : Nat} {ρ : List S} {x y : D} {s t : S} (h1 : ρ[j]? = some t) (f1 : t.free) (h2 : (ρ.set j (.d y))[i]? = some s) (f2 : s.free) : putRVs [j, i] [.d y, .d x] ρ = some ((ρ.set j (.d y)).set i (.d x)) := by
  have e1 : putRV j (.d y) ρ = some (ρ.set j (.d y)) := putD_at h1 f1
  have e2 : putRV i (.d x) (ρ.set j (.d y)) = some ((ρ.set j (.d y)).set i (.d x)) := putD_at h2 f2
  simp [putRVs, e1, e2]
theorem ou_step {w : List Nat} (hz : w.length ≤ sizeLine) (hw : w.length < 100000) (x : OuS) (hx : OuP w x) :
    (ouT (ouS w x) = .ok true (ouS w x) ∧ ∃ y, ouM (ouS w x) = .nx (ouS w y) ∧ OuP w y ∧ w.length - y.b < w.length - x.b) ∨ (ouT (ouS w x) = .ok false (ouS w x) ∧ x.b = w.length) := by
  obtain ⟨Fs, b, s3, s4, s5⟩ := x
  obtain ⟨o, f3, f4, f5⟩ := hx
  dsimp only at o f3 f4 f5
  have t1 : ouT (ouS w ⟨Fs, b, s3, s4, s5⟩) = .ok (decide (b < w.length)) (ouS w ⟨Fs, b, s3, s4, s5⟩) := ev_test (ev_bin (ev_var rfl) (ev_cb1 (ev_var rfl) (lenDs hz)) ltDi)
  by_cases hb : b < w.length
  · rw [decide_eq_true hb] at t1
    refine .inl ⟨t1, ?_⟩
    have a1 : sPar [3, 4] [mVar 2, mBin addD (mVar 2) (mC (.int 1))] (ouS w ⟨Fs, b, s3, s4, s5⟩) = .nx (inS w (Fs.map D.str) b s5 (0, 1)) := by
      have r1 : mVar 2 (ouS w ⟨Fs, b, s3, s4, s5⟩) = .ok (.d (.int (b : Nat))) (ouS w ⟨Fs, b, s3, s4, s5⟩) := rfl
      have r2 : mBin addD (mVar 2) (mC (.int 1)) (ouS w ⟨Fs, b, s3, s4, s5⟩) = .ok (.d (.int ((b : Int) + 1))) (ouS w ⟨Fs, b, s3, s4, s5⟩) := rfl
      have p2 : putRVs [4, 3] [.d (.int ((b : Int) + 1)), .d (.int (b : Nat))] (ouS w ⟨Fs, b, s3, s4, s5⟩) = some (inS w (Fs.map D.str) b s5 (0, 1)) := by
        rw [put2 (t := s4) (s := s3) rfl f4 rfl f3]
        rfl
      simp only [sPar, mRow, r1, r2, bind_ok, of_ok, settles, MM.settle]
      show nxO (putRVs [4, 3] _ _) = _
      rw [p2]
      rfl
    obtain ⟨y, e2, ip, fin⟩ := in_loop (F := Fs.map D.str) (s5 := s5) hz hb hw
    obtain ⟨h, n⟩ := y
    obtain ⟨hh, hn, ly, per⟩ := ip
    dsimp only at hh hn ly per
    have a3 : sSet 5 (mBin subD (mVar 4) (mVar 3)) (inS w (Fs.map D.str) b s5 (h, n)) = .nx (emS w Fs b h n (n - h) 0) := by
      have r3 : mBin subD (mVar 4) (mVar 3) (inS w (Fs.map D.str) b s5 (h, n)) = .ok (.d (.int ((n - h : Nat) : Int))) (inS w (Fs.map D.str) b s5 (h, n)) := by
        have e3 : ((b + n : Nat) : Int) - ((b + h : Nat) : Int) = ((n - h : Nat) : Int) := by omega
        rw [← e3]
        exact ev_bin (ev_var rfl) (ev_var rfl) rfl
      have e4 : putD 5 (.int ((n - h : Nat) : Int)) (inS w (Fs.map D.str) b s5 (h, n)) = some ((inS w (Fs.map D.str) b s5 (h, n)).set 5 (.d (.int ((n - h : Nat) : Int)))) := putD_at (s := s5) rfl f5
      unfold sSet
      rw [r3, of_ok]
      show nxO (putD 5 _ _) = _
      rw [e4]
      unfold emS
      simp [inS, nxO]
    obtain ⟨a, e5, ha, hb2⟩ := em_loop (Fs := Fs) (h := h) (n := n) (p := n - h) hz hw (by omega) (by omega) hn o.len
    have fin' : b + n < w.length → fw w b n < fw w b h := fin
    have og := out_go o (by omega) (by omega) hn ly per fin' ha hb2
    have hpos : 0 < a * (n - h) := by omega
    refine ⟨⟨Fs ++ (List.range a).map (chunk w b (n - h)), b + a * (n - h), .d (.int ((b + h : Nat) : Int)), .d (.int ((b + n : Nat) : Int)), .d (.int ((n - h : Nat) : Int))⟩, ?_, ⟨og, trivial, trivial, trivial⟩, ?_⟩
    · unfold ouM
      rw [seq_nx a1, seq_nx e2, seq_nx a3, e5]
      rfl
    · have := og.n
      dsimp only
      omega
  · rw [decide_eq_false hb] at t1
    exact .inr ⟨t1, by have := o.n; dsimp only; omega⟩
theorem fac_ok {w : List Nat} (hz : w.length ≤ sizeLine) (hw : w.length < 100000) : ∃ Fs ρ, m_factors_of [.d (.str w)] = .rt (.f (.lst (Fs.map D.str))) ρ ∧ OutP w Fs w.length := by
  have a1 : sPar [1, 2] [mLst (mNil), mC (.int 0)] [.d (.str w), .un, .un, .un, .un, .un] = .nx (ouS w ⟨[], 0, .un, .un, .un⟩) := rfl
  obtain ⟨y, e, op, fin⟩ := whileM_do (ouS w) (fun x => w.length - x.b) (OuP w) (fun x => x.b = w.length) (fun x hx => ou_step hz hw x hx) 100000 ⟨[], 0, .un, .un, .un⟩
    ⟨⟨Nat.zero_le _, rfl, (fun f hf => by cases hf), trivial, (fun f hf => by cases hf), Nat.le_refl _⟩, trivial, trivial, trivial⟩ (by dsimp only; omega)
  have e1 : m_factors_of [.d (.str w)] = endF (sSeq (whileM ouT ouM 100000) (sRet (mVar 1)) (ouS w ⟨[], 0, .un, .un, .un⟩)) := by
    unfold m_factors_of
    rw [fac_eq]
    exact fnM_seq a1
  refine ⟨y.Fs, ouS w y, ?_, ?_⟩
  · rw [e1, seq_nx e]
    rfl
  · have := op.o
    rw [fin] at this
    exact this
end K07
set_option Elab.async false
set_option maxRecDepth 100000
set_option maxHeartbeats 4000000
namespace K07
open PySem MM Lyn
theorem filt_empty {α : Type} (b : α → Bool) : ∀ l : List α, (l.filter b).isEmpty = l.all fun x => !b x
  | [] => rfl
  | x :: xs => by
    cases q : b x with
    | true =>
      rw [List.filter_cons_of_pos q, List.all_cons, q]
      rfl
    | false =>
      rw [List.filter_cons_of_neg (by rw [q]; exact Bool.false_ne_true), filt_empty b xs, List.all_cons, q]
      rfl
theorem filt_yes {α : Type} : ∀ l : List α, l.filter (fun _ => true) = l := fun l => List.filter_eq_self.mpr fun _ _ => rfl
def leadB (w : List Nat) : Bool := (w != []) && (List.range (w.length - 1)).all fun i => decide (w < w.drop (1 + i))
theorem leadB_iff {w : List Nat} : leadB w = true ↔ LeadP w := by
  unfold leadB LeadP
  rw [Bool.and_eq_true, bne_iff_ne, List.all_eq_true]
  refine and_congr_right fun hw => ⟨fun h i h0 h1 => ?_, fun h i hi => ?_⟩
  · have := h (i - 1) (List.mem_range.mpr (by omega))
    have e : 1 + (i - 1) = i := by omega
    rw [e, decide_eq_true_eq] at this
    exact this
  · have hi := List.mem_range.mp hi
    rw [decide_eq_true_eq]
    exact h (1 + i) (by omega) (by omega)
theorem eqDs {a b : List Nat} : eqD (.str a) (.str b) = some (.d (.bl (decide (a = b)))) := by
  show some (RV.d (.bl (a == b))) = _
  have e : (a == b) = decide (a = b) := Bool.eq_iff_iff.mpr (by simp)
  rw [e]
theorem neDs {a b : List Nat} : neD (.str a) (.str b) = some (.d (.bl (!decide (a = b)))) := by
  show some (RV.d (.bl (!(a == b)))) = _
  have e : (a == b) = decide (a = b) := Bool.eq_iff_iff.mpr (by simp)
  rw [e]
theorem ltDs {a b : List Nat} : ltD (.str a) (.str b) = some (.d (.bl (decide (a < b)))) := rfl
theorem rng_map (n : Nat) {β : Type} (y : D → β) : (rngD 1 n).map y = (List.range n).map fun i => y (.int (1 + (i : Nat))) := by
  unfold rngD
  rw [List.map_map]
  rfl
theorem rng_mem {lo : Int} {n : Nat} {x : D} (h : x ∈ rngD lo n) : ∃ i : Nat, i < n ∧ x = .int (lo + (i : Nat)) := by
  unfold rngD at h
  obtain ⟨i, hi, rfl⟩ := List.mem_map.mp h
  exact ⟨i, List.mem_range.mp hi, rfl⟩
def ends (w : List Nat) : List (List Nat) := (List.range (w.length - 1)).map fun i => w.drop (1 + i)
def dropY (w : List Nat) : D → D
  | .int i => .str (w.drop i.toNat)
  | _ => .non
theorem dropY_at (w : List Nat) (i : Nat) : dropY w (.int (1 + (i : Nat))) = .str (w.drop (1 + i)) := by
  have e : (1 + (i : Int)).toNat = 1 + i := by omega
  show D.str (w.drop (1 + (i : Int)).toNat) = _
  rw [e]
def lessB (w : List Nat) : D → Bool
  | .str u => !decide (w < u)
  | _ => false
theorem leads_ok {w : List Nat} (hz : w.length ≤ 1000000) (hlow : Low w) : ∃ ρ, m__law_leads [.d (.str w)] = .rt (.d (.bl (leadB w))) ρ := by
  have hz' : w.length ≤ sizeLine := Nat.le_trans hz (by decide)
  have e1 : ((w.length : Int) - 1).toNat = w.length - 1 := by omega
  have s1 : mSrc rng2 (mCons (mC (.int 1)) (mCons (mCB lenD (mCons (mVar 0) (mNil))) (mNil))) [.d (.str w), .un, .un, .un] = .ok (rngD 1 (w.length - 1)) [.d (.str w), .un, .un, .un] := by
    rw [← e1]
    refine src2 (i := 1) (j := w.length) ?_ (by decide) (by decide) (by omega) (by omega)
    simp [mCons, mNil, mHold, mC, R.bind, ev_cb1 (ρ := [S.d (.str w), .un, .un, .un]) (ev_var (i := 0) rfl) (lenDs hz')]
  have l1 : mLc (mSrc rng2 (mCons (mC (.int 1)) (mCons (mCB lenD (mCons (mVar 0) (mNil))) (mNil)))) (.nm 2) [2] (mYes) (mSlice sliceD (mVar 0) (mPart (mVar 2)) (mNoPart)) [.d (.str w), .un, .un, .un] = .ok (.f (.lst ((ends w).map D.str))) [.d (.str w), .un, .un, .un] := by
    have k := mlc_pure (tt := mYes) (f := mSlice sliceD (mVar 0) (mPart (mVar 2)) (mNoPart)) (v := 2) (s := .un) (fun _ => true) (dropY w) s1 rfl rfl (fun x hx => ⟨rfl, fun _ => by
      obtain ⟨i, hi, rfl⟩ := rng_mem hx
      refine force_of ?_
      rw [dropY_at]
      have e2 : (1 + (i : Int)) = ((1 + i : Nat) : Int) := by omega
      rw [e2]
      exact ev_slice (ρ := [S.d (.str w), .un, .d (.int ((1 + i : Nat) : Int)), .un]) (ev_var rfl) (ev_part (ev_var rfl)) rfl (slice_l (by omega) hz')⟩) (by rw [rngD_length]; omega)
    rw [k, filt_yes, rng_map]
    have e3 : (List.range (w.length - 1)).map (fun i => dropY w (.int (1 + (i : Nat)))) = (ends w).map D.str := by
      unfold ends
      rw [List.map_map]
      refine List.map_congr_left fun i _ => dropY_at w i
    rw [e3]
  have a1 : sSet 1 (mLc (mSrc rng2 (mCons (mC (.int 1)) (mCons (mCB lenD (mCons (mVar 0) (mNil))) (mNil)))) (.nm 2) [2] (mYes) (mSlice sliceD (mVar 0) (mPart (mVar 2)) (mNoPart))) [.d (.str w), .un, .un, .un] = .nx [.d (.str w), .o (.lst ((ends w).map D.str)), .un, .un] := by
    unfold sSet
    rw [l1]
    rfl
  have e0 : m__law_leads [.d (.str w)] = endF (sRet (mAndV (mBin neD (mVar 0) (mC (.str []))) (mBin eqD (mLc (mItems (mVar 1)) (.nm 3) [3] (mNotT (mTestB (mBin ltD (mVar 0) (mVar 3)))) (mVar 3)) (mLst (mNil)))) [.d (.str w), .o (.lst ((ends w).map D.str)), .un, .un]) := fnM_seq a1
  have it : mItems (mVar 1) [.d (.str w), .o (.lst ((ends w).map D.str)), .un, .un] = .ok ((ends w).map D.str) [.d (.str w), .d (.lst ((ends w).map D.str)), .un, .un] := rfl
  have l2 : mLc (mItems (mVar 1)) (.nm 3) [3] (mNotT (mTestB (mBin ltD (mVar 0) (mVar 3)))) (mVar 3) [.d (.str w), .o (.lst ((ends w).map D.str)), .un, .un] = .ok (.f (.lst (((ends w).map D.str).filter (lessB w)))) [.d (.str w), .d (.lst ((ends w).map D.str)), .un, .un] := by
    have k := mlc_pure (tt := mNotT (mTestB (mBin ltD (mVar 0) (mVar 3)))) (f := mVar 3) (v := 3) (s := .un) (lessB w) id it rfl rfl (fun x hx => by
      obtain ⟨u, hu, rfl⟩ := List.mem_map.mp hx
      exact ⟨ev_notT (ev_test (ev_bin (ρ := [S.d (.str w), .d (.lst ((ends w).map D.str)), .un, .d (.str u)]) (ev_var rfl) (ev_var rfl) ltDs)), fun _ => rfl⟩) (by rw [List.length_map]; unfold ends; rw [List.length_map, List.length_range]; omega)
    rw [k, List.map_id]
  have ne : mBin neD (mVar 0) (mC (.str [])) [.d (.str w), .o (.lst ((ends w).map D.str)), .un, .un] = .ok (.d (.bl (!decide (w = [])))) [.d (.str w), .o (.lst ((ends w).map D.str)), .un, .un] := ev_bin (ev_var rfl) rfl neDs
  have fl : ∀ x ∈ ((ends w).map D.str).filter (lessB w), Flat x := fun x hx => by
    obtain ⟨u, hu, rfl⟩ := List.mem_map.mp (List.mem_filter.mp hx).1
    unfold ends at hu
    obtain ⟨i, hi, rfl⟩ := List.mem_map.mp hu
    exact (hlow.sub fun c hc => List.mem_of_mem_drop hc).flat
  have eq : mBin eqD (mLc (mItems (mVar 1)) (.nm 3) [3] (mNotT (mTestB (mBin ltD (mVar 0) (mVar 3)))) (mVar 3)) (mLst (mNil)) [.d (.str w), .o (.lst ((ends w).map D.str)), .un, .un] = .ok (.d (.bl ((List.range (w.length - 1)).all fun i => decide (w < w.drop (1 + i))))) [.d (.str w), .d (.lst ((ends w).map D.str)), .un, .un] := by
    refine ev_bin_ff l2 rfl ?_
    rw [eqD_nil fl, filt_empty]
    congr 3
    unfold ends
    rw [List.map_map, List.all_map]
    congr 1
    funext i
    simp [lessB]
  rw [e0]
  by_cases hw : w = []
  · subst hw
    refine ⟨[.d (.str []), .o (.lst ((ends []).map D.str)), .un, .un], ?_⟩
    have : sRet (mAndV (mBin neD (mVar 0) (mC (.str []))) (mBin eqD (mLc (mItems (mVar 1)) (.nm 3) [3] (mNotT (mTestB (mBin ltD (mVar 0) (mVar 3)))) (mVar 3)) (mLst (mNil)))) [.d (.str []), .o (.lst ((ends []).map D.str)), .un, .un] = .rt (.d (.bl false)) [.d (.str []), .o (.lst ((ends []).map D.str)), .un, .un] := by
      refine ev_ret ?_
      unfold mAndV
      rw [ev_test ne]
      rfl
    rw [this]
    rfl
  · refine ⟨[.d (.str w), .d (.lst ((ends w).map D.str)), .un, .un], ?_⟩
    have : sRet (mAndV (mBin neD (mVar 0) (mC (.str []))) (mBin eqD (mLc (mItems (mVar 1)) (.nm 3) [3] (mNotT (mTestB (mBin ltD (mVar 0) (mVar 3)))) (mVar 3)) (mLst (mNil)))) [.d (.str w), .o (.lst ((ends w).map D.str)), .un, .un] = .rt (.d (.bl (leadB w))) [.d (.str w), .d (.lst ((ends w).map D.str)), .un, .un] := by
      refine ev_ret ?_
      unfold mAndV
      rw [ev_test ne, bind_ok, decide_eq_false hw, show (!false) = true from rfl, if_pos rfl, eq]
      unfold leadB
      have : (w != []) = true := bne_iff_ne.mpr hw
      rw [this, Bool.true_and]
    rw [this]
    rfl
theorem all_map_id {n : Nat} (g : Nat → Bool) : ((List.range n).map g).all id = (List.range n).all g := by
  rw [List.all_map]
  rfl
def lessY (w : List Nat) : D → D
  | .int i => .bl (decide (w < w.drop i.toNat))
  | _ => .non
theorem lessY_at (w : List Nat) (i : Nat) : lessY w (.int (1 + (i : Nat))) = .bl (decide (w < w.drop (1 + i))) := by
  have e : (1 + (i : Int)).toNat = 1 + i := by omega
  show D.bl (decide (w < w.drop (1 + (i : Int)).toNat)) = _
  rw [e]
theorem allD_map {α : Type} (l : List α) (g : α → Bool) : allD [.lst (l.map fun x => D.bl (g x))] = some (.d (.bl (l.all g))) := by
  show (boolsD (l.map fun x => D.bl (g x))).map (fun ns => RV.d (.bl (ns.all id))) = _
  rw [boolsD_map]
  show some (RV.d (.bl ((l.map g).all id))) = _
  rw [List.all_map]
  rfl
theorem isl_ok {w : List Nat} (hz : w.length ≤ 1000000) : m_is_leading_of [.d (.str w)] = .rt (.d (.bl (leadB w))) [.d (.str w), .un] := by
  have hz' : w.length ≤ sizeLine := Nat.le_trans hz (by decide)
  have e1 : ((w.length : Int) - 1).toNat = w.length - 1 := by omega
  have s1 : mSrc rng2 (mCons (mC (.int 1)) (mCons (mCB lenD (mCons (mVar 0) (mNil))) (mNil))) [.d (.str w), .un] = .ok (rngD 1 (w.length - 1)) [.d (.str w), .un] := by
    rw [← e1]
    refine src2 (i := 1) (j := w.length) ?_ (by decide) (by decide) (by omega) (by omega)
    simp [mCons, mNil, mHold, mC, R.bind, ev_cb1 (ρ := [S.d (.str w), .un]) (ev_var (i := 0) rfl) (lenDs hz')]
  have l1 : mLc (mSrc rng2 (mCons (mC (.int 1)) (mCons (mCB lenD (mCons (mVar 0) (mNil))) (mNil)))) (.nm 1) [1] (mYes) (mBin ltD (mVar 0) (mSlice sliceD (mVar 0) (mPart (mVar 1)) (mNoPart))) [.d (.str w), .un] = .ok (.f (.lst ((List.range (w.length - 1)).map fun i => D.bl (decide (w < w.drop (1 + i)))))) [.d (.str w), .un] := by
    have k := mlc_pure (tt := mYes) (f := mBin ltD (mVar 0) (mSlice sliceD (mVar 0) (mPart (mVar 1)) (mNoPart))) (v := 1) (s := .un) (fun _ => true) (lessY w) s1 rfl rfl (fun x hx => ⟨rfl, fun _ => by
      obtain ⟨i, hi, rfl⟩ := rng_mem hx
      refine force_of ?_
      rw [lessY_at]
      have e2 : (1 + (i : Int)) = ((1 + i : Nat) : Int) := by omega
      rw [e2]
      exact ev_bin (ρ := [S.d (.str w), .d (.int ((1 + i : Nat) : Int))]) (ev_var rfl) (ev_slice (ev_var rfl) (ev_part (ev_var rfl)) rfl (slice_l (by omega) hz')) ltDs⟩) (by rw [rngD_length]; omega)
    rw [k, filt_yes, rng_map]
    have e3 : (List.range (w.length - 1)).map (fun i => lessY w (.int (1 + (i : Nat)))) = (List.range (w.length - 1)).map fun i => D.bl (decide (w < w.drop (1 + i))) := List.map_congr_left fun i _ => lessY_at w i
    rw [e3]
  have al : mCB allD (mCons (mLc (mSrc rng2 (mCons (mC (.int 1)) (mCons (mCB lenD (mCons (mVar 0) (mNil))) (mNil)))) (.nm 1) [1] (mYes) (mBin ltD (mVar 0) (mSlice sliceD (mVar 0) (mPart (mVar 1)) (mNoPart)))) (mNil)) [.d (.str w), .un] = .ok (.d (.bl ((List.range (w.length - 1)).all fun i => decide (w < w.drop (1 + i))))) [.d (.str w), .un] := by
    refine ev_cb1f l1 ?_
    exact allD_map _ _
  have ne : mBin neD (mVar 0) (mC (.str [])) [.d (.str w), .un] = .ok (.d (.bl (!decide (w = [])))) [.d (.str w), .un] := ev_bin (ev_var rfl) rfl neDs
  have e0 : m_is_leading_of [.d (.str w)] = endF (b_is_leading_of [.d (.str w), .un]) := fnM_at
  have e2 : b_is_leading_of [.d (.str w), .un] = .rt (.d (.bl (leadB w))) [.d (.str w), .un] := by
    refine ev_ret ?_
    unfold mAndV
    rw [ev_test ne, bind_ok]
    by_cases hw : w = []
    · rw [decide_eq_true hw, show (!true) = false from rfl, if_neg Bool.false_ne_true]
      subst hw
      rfl
    · rw [decide_eq_false hw, show (!false) = true from rfl, if_pos rfl, al]
      unfold leadB
      have : (w != []) = true := bne_iff_ne.mpr hw
      rw [this, Bool.true_and]
  rw [e0, e2]
  rfl
end K07
set_option Elab.async false
set_option maxRecDepth 100000
set_option maxHeartbeats 4000000
namespace K07
open PySem MM Lyn
structure Lin (s w : List Nat) : Prop where
  req : m_require_letters [.d (.str s)] = .rt (.d .non) [.d (.str s)]
  mem : ∀ c ∈ w, c ∈ s
  low : Low s
  len : w.length ≤ 400
theorem Lin.lw {s w : List Nat} (h : Lin s w) : Low w := fun c hc => h.low c (h.mem c hc)
theorem Lin.sz {s w : List Nat} (h : Lin s w) : w.length ≤ sizeLine := Nat.le_trans h.len (by decide)
def memY (s : List Nat) : D → D
  | .str [c] => .bl (decide (c ∈ s))
  | _ => .non
theorem pw_ok {s w : List Nat} (h : Lin s w) : m_is_pattern_within [.d (.str s), .d (.str w)] = .rt (.d (.bl true)) [.d (.str s), .d (.str w), .un] := by
  have e0 : m_is_pattern_within [.d (.str s), .d (.str w)] = endF (b_is_pattern_within [.d (.str s), .d (.str w), .un]) := fnM_at
  have l1 : mLc (mItems (mVar 1)) (.nm 2) [2] (mYes) (mBin inD (mVar 2) (mVar 0)) [.d (.str s), .d (.str w), .un] = .ok (.f (.lst (w.map fun c => D.bl (decide (c ∈ s))))) [.d (.str s), .d (.str w), .un] := by
    have it : mItems (mVar 1) [.d (.str s), .d (.str w), .un] = .ok (w.map fun c => D.str [c]) [.d (.str s), .d (.str w), .un] := rfl
    have k := mlc_pure (tt := mYes) (f := mBin inD (mVar 2) (mVar 0)) (v := 2) (s := .un) (fun _ => true) (memY s) it rfl rfl (fun x hx => ⟨rfl, fun _ => by
      obtain ⟨c, hc, rfl⟩ := List.mem_map.mp hx
      exact force_of (ev_bin (ρ := [S.d (.str s), .d (.str w), .d (.str [c])]) (ev_var rfl) (ev_var rfl) rfl)⟩) (by rw [List.length_map]; exact h.sz)
    rw [k, filt_yes, List.map_map]
    rfl
  have al : mCB allD (mCons (mLc (mItems (mVar 1)) (.nm 2) [2] (mYes) (mBin inD (mVar 2) (mVar 0))) (mNil)) [.d (.str s), .d (.str w), .un] = .ok (.d (.bl true)) [.d (.str s), .d (.str w), .un] := by
    refine ev_cb1f l1 ?_
    rw [allD_map]
    have : (w.all fun c => decide (c ∈ s)) = true := List.all_eq_true.mpr fun c hc => decide_eq_true (h.mem c hc)
    rw [this]
  have t1 : mTestB (mIsT "str" (mVar 1)) [.d (.str s), .d (.str w), .un] = .ok true [.d (.str s), .d (.str w), .un] := ev_test (ev_isT (ev_var rfl) rfl)
  have t2 : mTestB (mBin leD (mCB lenD (mCons (mVar 1) (mNil))) (mC (.int 400))) [.d (.str s), .d (.str w), .un] = .ok true [.d (.str s), .d (.str w), .un] := by
    have := ev_test (ev_bin (ρ := [S.d (.str s), .d (.str w), .un]) (ev_cb1 (ev_var (i := 1) rfl) (lenDs h.sz)) (show mC (.int 400) [S.d (.str s), .d (.str w), .un] = .ok (.d (.int ((400 : Nat) : Int))) _ from rfl) leDi)
    rw [decide_eq_true h.len] at this
    exact this
  have e2 : b_is_pattern_within [.d (.str s), .d (.str w), .un] = .rt (.d (.bl true)) [.d (.str s), .d (.str w), .un] := by
    refine ev_ret ?_
    unfold mAndV
    rw [t1, bind_ok, if_pos rfl]
    rw [t2, bind_ok, if_pos rfl, al]
  rw [e0, e2]
  rfl
theorem isleading_ok {s w : List Nat} (h : Lin s w) : m_is_leading [.d (.str s), .d (.str w)] = .rt (.d (.bl (leadB w))) [.d (.str s), .d (.str w)] := by
  have a1 : sExpr (mCall 1 m_require_letters (mCons (mVar 0) (mNil))) [.d (.str s), .d (.str w)] = .nx [.d (.str s), .d (.str w)] := exp_nx (one_call (ev_var rfl) h.req rfl)
  have e0 : m_is_leading [.d (.str s), .d (.str w)] = endF (sRet (mAndV (mCall 2 m_is_pattern_within (mCons (mVar 0) (mCons (mVar 1) (mNil)))) (mCall 1 m_is_leading_of (mCons (mVar 1) (mNil)))) [.d (.str s), .d (.str w)]) := fnM_seq a1
  have e2 : sRet (mAndV (mCall 2 m_is_pattern_within (mCons (mVar 0) (mCons (mVar 1) (mNil)))) (mCall 1 m_is_leading_of (mCons (mVar 1) (mNil)))) [.d (.str s), .d (.str w)] = .rt (.d (.bl (leadB w))) [.d (.str s), .d (.str w)] := by
    refine ev_ret ?_
    unfold mAndV
    rw [ev_test (two_call (ev_var rfl) (ev_var rfl) (pw_ok h) rfl), bind_ok, if_pos rfl]
    exact one_call (ev_var rfl) (isl_ok (Nat.le_trans h.len (by decide))) rfl
  rw [e0, e2]
  rfl
theorem factors_ok {s w : List Nat} (h : Lin s w) : ∃ Fs, m_factors [.d (.str s), .d (.str w)] = .rt (.d (.tup (Fs.map D.str))) [.d (.str s), .d (.str w)] ∧ OutP w Fs w.length := by
  obtain ⟨Fs, ρ, e, o⟩ := fac_ok h.sz (Nat.lt_of_le_of_lt h.len (by decide))
  refine ⟨Fs, ?_, o⟩
  have a1 : sExpr (mCall 1 m_require_letters (mCons (mVar 0) (mNil))) [.d (.str s), .d (.str w)] = .nx [.d (.str s), .d (.str w)] := exp_nx (one_call (ev_var rfl) h.req rfl)
  have rp : m_require_pattern [.d (.str s), .d (.str w)] = .rt (.d .non) [.d (.str s), .d (.str w)] := by
    have e0 : m_require_pattern [.d (.str s), .d (.str w)] = endF (b_require_pattern [.d (.str s), .d (.str w)]) := fnM_at
    have e1 : b_require_pattern [.d (.str s), .d (.str w)] = .nx [.d (.str s), .d (.str w)] := by
      unfold b_require_pattern
      rw [ev_if (ev_notT (ev_truth (two_call (ev_var rfl) (ev_var rfl) (pw_ok h) rfl)))]
      rfl
    rw [e0, e1]
    rfl
  have a2 : sExpr (mCall 2 m_require_pattern (mCons (mVar 0) (mCons (mVar 1) (mNil)))) [.d (.str s), .d (.str w)] = .nx [.d (.str s), .d (.str w)] := exp_nx (two_call (ev_var rfl) (ev_var rfl) rp rfl)
  have e0 : m_factors [.d (.str s), .d (.str w)] = endF (sSeq (sExpr (mCall 2 m_require_pattern (mCons (mVar 0) (mCons (mVar 1) (mNil))))) (sRet (mCB tupleD (mCons (mCall 1 m_factors_of (mCons (mVar 1) (mNil))) (mNil)))) [.d (.str s), .d (.str w)]) := fnM_seq a1
  have a3 : sRet (mCB tupleD (mCons (mCall 1 m_factors_of (mCons (mVar 1) (mNil))) (mNil))) [.d (.str s), .d (.str w)] = .rt (.d (.tup (Fs.map D.str))) [.d (.str s), .d (.str w)] := ev_ret (ev_cb1f (one_call (ev_var rfl) e rfl) rfl)
  rw [e0, seq_nx a2, a3]
  rfl
/-! ### the factors are right -/
def notLead : D → Bool
  | .str u => !leadB u
  | _ => false
def upB (Fs : List (List Nat)) : D → Bool
  | .int i => decide ((Fs.getD i.toNat []) < (Fs.getD (i.toNat + 1) []))
  | _ => false
theorem down_at : ∀ {Fs : List (List Nat)} (i : Nat), Down Fs → i + 1 < Fs.length → ¬ (Fs.getD i []) < (Fs.getD (i + 1) [])
  | [], i, _, h => by simp at h
  | f :: Fs, 0, hd, h => by
    have h1 : 0 < Fs.length := by simp at h; omega
    have e : (f :: Fs).getD 1 [] = Fs[0] := by simp [List.getD_eq_getElem?_getD, List.getElem?_eq_getElem h1]
    have e0 : (f :: Fs).getD 0 [] = f := rfl
    rw [e, e0]
    exact hd.1 _ (List.getElem_mem h1)
  | f :: Fs, i + 1, hd, h => by
    have := down_at i hd.2 (by simp at h; omega)
    simpa [List.getD_eq_getElem?_getD] using this
theorem tup_at {Fs : List (List Nat)} {i : Nat} (h : i < Fs.length) : ixD (.tup (Fs.map D.str)) (.int i) = some (.d (.str (Fs.getD i []))) := by
  have e : Fs[i]? = some Fs[i] := List.getElem?_eq_getElem h
  simp [ixD, L2.atI, L2.ixN, h, List.getD_eq_getElem?_getD, e]
def takeY (w : List Nat) : D → D
  | .int i => .str (w.take i.toNat)
  | _ => .non
def takeB (w : List Nat) : D → Bool
  | .int i => leadB (w.take i.toNat)
  | _ => false
def st6 (s w : List Nat) (T : D) (x : S) : List S := [.d (.str s), .d (.str w), .d T, x, .un, .un]
theorem fr_ok {s w : List Nat} (h : Lin s w) : ∃ ρ, m__law_factors_right [.d (.str s), .d (.str w)] = .rt (.d (.bl true)) ρ := by
  obtain ⟨Fs, e, o⟩ := factors_ok h
  have flat : Fs.flatten = w := by rw [o.flat, List.take_length]
  have sub : ∀ f ∈ Fs, ∀ c ∈ f, c ∈ w := fun f hf c hc => by
    rw [← flat]
    exact List.mem_flatten.mpr ⟨f, hf, hc⟩
  have flen : ∀ f ∈ Fs, f.length ≤ 400 := fun f hf => by
    have h1 : f.length ≤ Fs.flatten.length := (List.sublist_flatten_of_mem hf).length_le
    rw [flat] at h1
    exact Nat.le_trans h1 h.len
  have flow : ∀ f ∈ Fs, Low f := fun f hf => h.lw.sub (sub f hf)
  have FL : Fs.length ≤ 400 := Nat.le_trans o.len h.len
  have a1 : sSet 2 (mCall 2 m_factors (mCons (mVar 0) (mCons (mVar 1) (mNil)))) [.d (.str s), .d (.str w), .un, .un, .un, .un] = .nx (st6 s w (.tup (Fs.map D.str)) .un) := by
    have c1 : mCall 2 m_factors (mCons (mVar 0) (mCons (mVar 1) (mNil))) [.d (.str s), .d (.str w), .un, .un, .un, .un] = .ok (.d (.tup (Fs.map D.str))) [.d (.str s), .d (.str w), .un, .un, .un, .un] := two_call (ev_var rfl) (ev_var rfl) e rfl
    unfold sSet
    rw [c1]
    rfl
  -- the first question
  have q1 : mNotT (mTruth (mIsT "tuple" (mVar 2))) (st6 s w (.tup (Fs.map D.str)) .un) = .ok false (st6 s w (.tup (Fs.map D.str)) .un) := ev_notT (b := true) (ev_truth (ev_isT (ev_var rfl) rfl))
  have q2 : mTestB (mBin neD (mBM "str" joinD (mC (.str [])) (mCons (mVar 2) (mNil))) (mVar 1)) (st6 s w (.tup (Fs.map D.str)) .un) = .ok false (st6 s w (.tup (Fs.map D.str)) .un) := by
    have j1 : joinD (.str []) [.tup (Fs.map D.str)] = some (.d (.str w)) := by
      have e1 : (Fs.map (·.length)).sum + Fs.length * ([] : List Nat).length ≤ 16777216 := by
        have e2 : (Fs.map (·.length)).sum = w.length := by
          rw [← flat, List.length_flatten]
        rw [e2]
        have := h.len
        simp
        omega
      show joinOf [] (Fs.map D.str) = _
      unfold joinOf
      rw [strsD_map]
      dsimp only
      rw [if_pos e1, joinL_nil, flat]
    have j2 : mBM "str" joinD (mC (.str [])) (mCons (mVar 2) (mNil)) (st6 s w (.tup (Fs.map D.str)) .un) = .ok (.d (.str w)) (st6 s w (.tup (Fs.map D.str)) .un) := by
      have c1 : mCons (mVar 2) mNil (st6 s w (.tup (Fs.map D.str)) .un) = .ok [.d (.tup (Fs.map D.str))] (st6 s w (.tup (Fs.map D.str)) .un) := cons1 (ev_var rfl)
      simp [mBM, mHold, mC, R.bind, peekH, isTy, c1, peekHs, j1, MM.ret]
    have k := ev_test (ev_bin j2 (ev_var (i := 1) rfl) (neDs (a := w) (b := w)))
    rw [decide_eq_true rfl] at k
    exact k
  have q3 : mTestB (mBin neD (mLc (mItems (mVar 2)) (.nm 4) [4] (mNotT (mTruth (mCall 1 m__law_leads (mCons (mVar 4) (mNil))))) (mVar 4)) (mLst (mNil))) (st6 s w (.tup (Fs.map D.str)) .un) = .ok false (st6 s w (.tup (Fs.map D.str)) .un) := by
    have it : mItems (mVar 2) (st6 s w (.tup (Fs.map D.str)) .un) = .ok (Fs.map D.str) (st6 s w (.tup (Fs.map D.str)) .un) := rfl
    have k := mlc_pure (tt := mNotT (mTruth (mCall 1 m__law_leads (mCons (mVar 4) (mNil))))) (f := mVar 4) (v := 4) (s := .un) notLead id it rfl rfl (fun x hx => by
      obtain ⟨u, hu, rfl⟩ := List.mem_map.mp hx
      obtain ⟨ρ, el⟩ := leads_ok (Nat.le_trans (flen u hu) (by decide)) (flow u hu)
      exact ⟨ev_notT (ev_truth (one_call (ρ := (st6 s w (.tup (Fs.map D.str)) .un).set 4 (.d (.str u))) (ev_var rfl) el rfl)), fun _ => rfl⟩) (by rw [List.length_map]; exact Nat.le_trans FL (by decide))
    have em : (Fs.map D.str).filter notLead = [] := List.filter_eq_nil_iff.mpr fun x hx => by
      obtain ⟨u, hu, rfl⟩ := List.mem_map.mp hx
      have := leadB_iff.mpr (o.lead u hu)
      show ¬ (!leadB u) = true
      rw [this]
      decide
    rw [em] at k
    exact ev_test (ev_bin_ff k rfl rfl)
  have a2 : sIf (mOrT (mNotT (mTruth (mIsT "tuple" (mVar 2)))) (mOrT (mTestB (mBin neD (mBM "str" joinD (mC (.str [])) (mCons (mVar 2) (mNil))) (mVar 1))) (mTestB (mBin neD (mLc (mItems (mVar 2)) (.nm 4) [4] (mNotT (mTruth (mCall 1 m__law_leads (mCons (mVar 4) (mNil))))) (mVar 4)) (mLst (mNil)))))) (sRet (mC (.bl false))) (sNext) (st6 s w (.tup (Fs.map D.str)) .un) = .nx (st6 s w (.tup (Fs.map D.str)) .un) := by
    have t : mOrT (mNotT (mTruth (mIsT "tuple" (mVar 2)))) (mOrT (mTestB (mBin neD (mBM "str" joinD (mC (.str [])) (mCons (mVar 2) (mNil))) (mVar 1))) (mTestB (mBin neD (mLc (mItems (mVar 2)) (.nm 4) [4] (mNotT (mTruth (mCall 1 m__law_leads (mCons (mVar 4) (mNil))))) (mVar 4)) (mLst (mNil))))) (st6 s w (.tup (Fs.map D.str)) .un) = .ok false (st6 s w (.tup (Fs.map D.str)) .un) := by
      unfold mOrT
      rw [q1, bind_ok, if_neg Bool.false_ne_true, q2, bind_ok, if_neg Bool.false_ne_true, q3]
    rw [ev_if t, if_neg Bool.false_ne_true]
    rfl
  have ln : mCB lenD (mCons (mVar 2) (mNil)) (st6 s w (.tup (Fs.map D.str)) .un) = .ok (.d (.int (Fs.length : Nat))) (st6 s w (.tup (Fs.map D.str)) .un) := by
    refine ev_cb1 (ev_var rfl) ?_
    show some (RV.d (.int ((Fs.map D.str).length : Nat))) = _
    rw [List.length_map]
  -- none is less than the next one
  have a3 : sIf (mTestB (mBin neD (mLc (mSrc rng1 (mCons (mBin subD (mCB lenD (mCons (mVar 2) (mNil))) (mC (.int 1))) (mNil))) (.nm 5) [5] (mTestB (mBin ltD (mBin ixD (mVar 2) (mVar 5)) (mBin ixD (mVar 2) (mBin addD (mVar 5) (mC (.int 1)))))) (mVar 5)) (mLst (mNil)))) (sRet (mC (.bl false))) (sNext) (st6 s w (.tup (Fs.map D.str)) .un) = .nx (st6 s w (.tup (Fs.map D.str)) .un) := by
    have sr : mSrc rng1 (mCons (mBin subD (mCB lenD (mCons (mVar 2) (mNil))) (mC (.int 1))) (mNil)) (st6 s w (.tup (Fs.map D.str)) .un) = .ok (rngD 0 ((Fs.length : Int) - 1).toNat) (st6 s w (.tup (Fs.map D.str)) .un) := src1i (cons1 (ev_bin ln rfl rfl)) (by omega) (by omega)
    have k := mlc_pure (tt := mTestB (mBin ltD (mBin ixD (mVar 2) (mVar 5)) (mBin ixD (mVar 2) (mBin addD (mVar 5) (mC (.int 1)))))) (f := mVar 5) (v := 5) (s := .un) (upB Fs) id sr rfl rfl (fun x hx => by
      obtain ⟨i, hi, rfl⟩ := rng_mem hx
      have e0 : (0 + (i : Int)) = (i : Nat) := by omega
      rw [e0]
      have e1 : ((i : Int) + 1) = ((i + 1 : Nat) : Int) := by omega
      have i1 : mBin addD (mVar 5) (mC (.int 1)) ((st6 s w (.tup (Fs.map D.str)) .un).set 5 (.d (.int (i : Nat)))) = .ok (.d (.int ((i + 1 : Nat) : Int))) ((st6 s w (.tup (Fs.map D.str)) .un).set 5 (.d (.int (i : Nat)))) := by
        rw [← e1]
        rfl
      exact ⟨ev_test (ev_bin (ev_bin (ev_var rfl) (ev_var rfl) (tup_at (by omega))) (ev_bin (ev_var rfl) i1 (tup_at (by omega))) ltDs), fun _ => rfl⟩) (by rw [rngD_length]; exact Nat.le_trans (by omega : ((Fs.length : Int) - 1).toNat ≤ 1000) (by decide))
    have em : (rngD 0 ((Fs.length : Int) - 1).toNat).filter (upB Fs) = [] := List.filter_eq_nil_iff.mpr fun x hx => by
      obtain ⟨i, hi, rfl⟩ := rng_mem hx
      have e0 : (0 + (i : Int)) = (i : Nat) := by omega
      rw [e0]
      show ¬ decide ((Fs.getD i []) < (Fs.getD (i + 1) [])) = true
      rw [decide_eq_true_eq]
      exact down_at i o.down (by omega)
    rw [em] at k
    have t : mTestB (mBin neD (mLc (mSrc rng1 (mCons (mBin subD (mCB lenD (mCons (mVar 2) (mNil))) (mC (.int 1))) (mNil))) (.nm 5) [5] (mTestB (mBin ltD (mBin ixD (mVar 2) (mVar 5)) (mBin ixD (mVar 2) (mBin addD (mVar 5) (mC (.int 1)))))) (mVar 5)) (mLst (mNil))) (st6 s w (.tup (Fs.map D.str)) .un) = .ok false (st6 s w (.tup (Fs.map D.str)) .un) := ev_test (ev_bin_ff k rfl rfl)
    rw [ev_if t, if_neg Bool.false_ne_true]
    rfl
  -- one factor just if leading
  have a4 : sIf (mTestB (mBin neD (mBin eqD (mCB lenD (mCons (mVar 2) (mNil))) (mC (.int 1))) (mCall 1 m__law_leads (mCons (mVar 1) (mNil))))) (sRet (mC (.bl false))) (sNext) (st6 s w (.tup (Fs.map D.str)) .un) = .nx (st6 s w (.tup (Fs.map D.str)) .un) := by
    obtain ⟨ρ, el⟩ := leads_ok (Nat.le_trans h.len (by decide)) h.lw
    have e1 : mBin eqD (mCB lenD (mCons (mVar 2) (mNil))) (mC (.int 1)) (st6 s w (.tup (Fs.map D.str)) .un) = .ok (.d (.bl (decide (((Fs.length : Nat) : Int) = 1)))) (st6 s w (.tup (Fs.map D.str)) .un) := ev_bin ln rfl eqD_int
    have e2 : mCall 1 m__law_leads (mCons (mVar 1) (mNil)) (st6 s w (.tup (Fs.map D.str)) .un) = .ok (.d (.bl (leadB w))) (st6 s w (.tup (Fs.map D.str)) .un) := one_call (ev_var rfl) el rfl
    have e3 : decide (((Fs.length : Nat) : Int) = 1) = leadB w := by
      have k := one_iff o.lead o.down flat
      by_cases z : Fs.length = 1
      · rw [decide_eq_true (by omega), leadB_iff.mpr (k.mp z)]
      · rw [decide_eq_false (by omega)]
        cases q : leadB w with
        | false => rfl
        | true => exact absurd (k.mpr (leadB_iff.mp q)) z
    rw [ev_if (ev_test (ev_bin e1 e2 neD_bl)), e3]
    have e4 : (!(leadB w == leadB w)) = false := by simp
    rw [e4, if_neg Bool.false_ne_true]
    rfl
  -- the leading beginnings
  have a5 : sSet 3 (mLc (mSrc rng1 (mCons (mBin addD (mCB lenD (mCons (mVar 1) (mNil))) (mC (.int 1))) (mNil))) (.nm 5) [5] (mTruth (mCall 1 m__law_leads (mCons (mSlice sliceD (mVar 1) (mNoPart) (mPart (mVar 5))) (mNil)))) (mSlice sliceD (mVar 1) (mNoPart) (mPart (mVar 5)))) (st6 s w (.tup (Fs.map D.str)) .un) = .nx (st6 s w (.tup (Fs.map D.str)) (.o (.lst (((List.range (w.length + 1)).filter fun i => leadB (w.take i)).map fun i => D.str (w.take i))))) := by
    have sr : mSrc rng1 (mCons (mBin addD (mCB lenD (mCons (mVar 1) (mNil))) (mC (.int 1))) (mNil)) (st6 s w (.tup (Fs.map D.str)) .un) = .ok (rngD 0 (w.length + 1)) (st6 s w (.tup (Fs.map D.str)) .un) := by
      have e1 : ((w.length : Nat) : Int) + 1 = ((w.length + 1 : Nat) : Int) := by omega
      refine src1 (cons1 ?_) (by have := h.len; omega)
      rw [← e1]
      exact ev_bin (ev_cb1 (ev_var rfl) (lenDs h.sz)) rfl rfl
    have k := mlc_pure (tt := mTruth (mCall 1 m__law_leads (mCons (mSlice sliceD (mVar 1) (mNoPart) (mPart (mVar 5))) (mNil)))) (f := mSlice sliceD (mVar 1) (mNoPart) (mPart (mVar 5))) (v := 5) (s := .un) (takeB w) (takeY w) sr rfl rfl (fun x hx => by
      obtain ⟨i, hi, rfl⟩ := rng_mem hx
      have e0 : (0 + (i : Int)) = (i : Nat) := by omega
      rw [e0]
      have sl : mSlice sliceD (mVar 1) (mNoPart) (mPart (mVar 5)) ((st6 s w (.tup (Fs.map D.str)) .un).set 5 (.d (.int (i : Nat)))) = .ok (.d (.str (w.take i))) ((st6 s w (.tup (Fs.map D.str)) .un).set 5 (.d (.int (i : Nat)))) := ev_slice (ev_var rfl) rfl (ev_part (ev_var rfl)) (slice_h (by omega) h.sz)
      have tl : (w.take i).length ≤ 1000000 := by
        rw [List.length_take]
        have := h.len
        omega
      obtain ⟨ρ, el⟩ := leads_ok tl (h.lw.sub fun c hc => List.mem_of_mem_take hc)
      exact ⟨ev_truth (one_call sl el rfl), fun _ => force_of sl⟩) (by rw [rngD_length]; exact Nat.le_trans (by have := h.len; omega : w.length + 1 ≤ 1000) (by decide))
    have e2 : ((rngD 0 (w.length + 1)).filter (takeB w)).map (takeY w) = ((List.range (w.length + 1)).filter fun i => leadB (w.take i)).map fun i => D.str (w.take i) := by
      have e3 : ∀ i : Nat, (0 + (i : Int)) = (i : Nat) := fun i => by omega
      unfold rngD
      rw [List.filter_map, List.map_map]
      have e4 : (takeB w ∘ fun i : Nat => D.int (0 + (i : Nat))) = fun i => leadB (w.take i) := by
        funext i
        show leadB (w.take (0 + (i : Int)).toNat) = _
        rw [e3, Int.toNat_natCast]
      have e5 : (takeY w ∘ fun i : Nat => D.int (0 + (i : Nat))) = fun i => D.str (w.take i) := by
        funext i
        show D.str (w.take (0 + (i : Int)).toNat) = _
        rw [e3, Int.toNat_natCast]
      rw [e4, e5]
    rw [e2] at k
    unfold sSet
    rw [k]
    rfl
  -- the answer
  have a6 : ∃ ρ, sRet (mOrV (mAndV (mBin eqD (mVar 1) (mC (.str []))) (mBin eqD (mVar 2) (mTup (mNil)))) (mAndV (mBin neD (mVar 1) (mC (.str []))) (mBin eqD (mBin ixD (mVar 2) (mC (.int 0))) (mBin ixD (mVar 3) (mUn negD (mC (.int 1))))))) (st6 s w (.tup (Fs.map D.str)) (.o (.lst (((List.range (w.length + 1)).filter fun i => leadB (w.take i)).map fun i => D.str (w.take i))))) = .rt (.d (.bl true)) ρ := by
    generalize hL : (((List.range (w.length + 1)).filter fun i => leadB (w.take i)).map fun i => D.str (w.take i)) = L
    have n1 : mTestB (mBin eqD (mVar 1) (mC (.str []))) (st6 s w (.tup (Fs.map D.str)) (.o (.lst L))) = .ok (decide (w = [])) (st6 s w (.tup (Fs.map D.str)) (.o (.lst L))) := ev_test (ev_bin (ev_var rfl) rfl eqDs)
    have n2 : mTestB (mBin neD (mVar 1) (mC (.str []))) (st6 s w (.tup (Fs.map D.str)) (.o (.lst L))) = .ok (!decide (w = [])) (st6 s w (.tup (Fs.map D.str)) (.o (.lst L))) := ev_test (ev_bin (ev_var rfl) rfl neDs)
    refine ⟨st6 s w (.tup (Fs.map D.str)) (.o (.lst L)), ev_ret ?_⟩
    by_cases hw : w = []
    · have hF : Fs = [] := by
        cases Fs with
        | nil => rfl
        | cons f F =>
          have := (o.lead f List.mem_cons_self).1
          rw [hw, List.flatten_cons] at flat
          exact absurd (List.append_eq_nil_iff.mp flat).1 this
      subst hF
      unfold mOrV mAndV mTestB at *
      rw [decide_eq_true hw] at n1
      simp only [n1, bind_ok, if_true]
      rfl
    · have hF : ∃ f F, Fs = f :: F := by
        cases Fs with
        | nil => exact absurd flat.symm hw
        | cons f F => exact ⟨f, F, rfl⟩
      obtain ⟨f, F, rfl⟩ := hF
      have tf : w.take f.length = f := by rw [← flat, List.flatten_cons, List.take_left' rfl]
      have fl : f.length ≤ w.length := by rw [← flat, List.flatten_cons, List.length_append]; omega
      obtain ⟨A, eA⟩ := filt_last (P := fun i => leadB (w.take i)) (k := f.length) (by show leadB (w.take f.length) = true; rw [tf]; exact leadB_iff.mpr (o.lead f List.mem_cons_self)) w.length fl fun i h1 h2 => by
        cases q : leadB (w.take i) with
        | false => rfl
        | true =>
          have := leadB_iff.mp q
          rw [← flat] at this h2
          exact absurd this (first_longest o.down (o.lead f List.mem_cons_self).1 h1 h2)
      have eL : L = A.map (fun i => D.str (w.take i)) ++ [D.str f] := by
        rw [← hL, eA, List.map_append]
        show _ ++ [D.str (w.take f.length)] = _
        rw [tf]
      have ix3 : ixD (.lst L) (.int (-1)) = some (.d (.str f)) := by
        rw [eL]
        show (L2.atI _ (-1)).map RV.d = _
        unfold L2.atI L2.ixN
        rw [List.length_append, List.length_singleton]
        have e1 : ((-1 : Int) + (((A.map fun i => D.str (w.take i)).length + 1 : Nat) : Int)).toNat = (A.map fun i => D.str (w.take i)).length := by omega
        rw [if_neg (by decide), if_pos (by omega), e1]
        simp
      have ix2 : ixD (.tup ((f :: F).map D.str)) (.int 0) = some (.d (.str f)) := tup_at (Fs := f :: F) (i := 0) (by simp)
      have g1 : mBin ixD (mVar 2) (mC (.int 0)) (st6 s w (.tup ((f :: F).map D.str)) (.o (.lst L))) = .ok (.d (.str f)) (st6 s w (.tup ((f :: F).map D.str)) (.o (.lst L))) := ev_bin (ev_var rfl) rfl ix2
      have g2 : mBin ixD (mVar 3) (mUn negD (mC (.int 1))) (st6 s w (.tup ((f :: F).map D.str)) (.o (.lst L))) = .ok (.d (.str f)) (st6 s w (.tup ((f :: F).map D.str)) (.o (.lst L))) := ev_bin_rd (i := 3) rfl rfl rfl ix3
      have g3 := ev_bin g1 g2 (eqDs (a := f) (b := f))
      rw [decide_eq_true rfl] at g3
      have m1 : mTestB (mAndV (mBin eqD (mVar 1) (mC (.str []))) (mBin eqD (mVar 2) (mTup (mNil)))) (st6 s w (.tup ((f :: F).map D.str)) (.o (.lst L))) = .ok false (st6 s w (.tup ((f :: F).map D.str)) (.o (.lst L))) := by
        refine ev_test ?_
        unfold mAndV
        rw [n1, bind_ok, decide_eq_false hw, if_neg Bool.false_ne_true]
      unfold mOrV
      rw [m1, bind_ok, if_neg Bool.false_ne_true]
      unfold mAndV
      rw [n2, bind_ok, decide_eq_false hw, show (!false) = true from rfl, if_pos rfl, g3]
  obtain ⟨ρ, e6⟩ := a6
  refine ⟨ρ, ?_⟩
  have e0 := fnM_seq (N := 6) (ss := [.d (.str s), .d (.str w)]) (b := sSeq (sIf (mOrT (mNotT (mTruth (mIsT "tuple" (mVar 2)))) (mOrT (mTestB (mBin neD (mBM "str" joinD (mC (.str [])) (mCons (mVar 2) (mNil))) (mVar 1))) (mTestB (mBin neD (mLc (mItems (mVar 2)) (.nm 4) [4] (mNotT (mTruth (mCall 1 m__law_leads (mCons (mVar 4) (mNil))))) (mVar 4)) (mLst (mNil)))))) (sRet (mC (.bl false))) (sNext)) (sSeq (sIf (mTestB (mBin neD (mLc (mSrc rng1 (mCons (mBin subD (mCB lenD (mCons (mVar 2) (mNil))) (mC (.int 1))) (mNil))) (.nm 5) [5] (mTestB (mBin ltD (mBin ixD (mVar 2) (mVar 5)) (mBin ixD (mVar 2) (mBin addD (mVar 5) (mC (.int 1)))))) (mVar 5)) (mLst (mNil)))) (sRet (mC (.bl false))) (sNext)) (sSeq (sIf (mTestB (mBin neD (mBin eqD (mCB lenD (mCons (mVar 2) (mNil))) (mC (.int 1))) (mCall 1 m__law_leads (mCons (mVar 1) (mNil))))) (sRet (mC (.bl false))) (sNext)) (sSeq (sSet 3 (mLc (mSrc rng1 (mCons (mBin addD (mCB lenD (mCons (mVar 1) (mNil))) (mC (.int 1))) (mNil))) (.nm 5) [5] (mTruth (mCall 1 m__law_leads (mCons (mSlice sliceD (mVar 1) (mNoPart) (mPart (mVar 5))) (mNil)))) (mSlice sliceD (mVar 1) (mNoPart) (mPart (mVar 5))))) (sRet (mOrV (mAndV (mBin eqD (mVar 1) (mC (.str []))) (mBin eqD (mVar 2) (mTup (mNil)))) (mAndV (mBin neD (mVar 1) (mC (.str []))) (mBin eqD (mBin ixD (mVar 2) (mC (.int 0))) (mBin ixD (mVar 3) (mUn negD (mC (.int 1))))))))))) ) a1
  have e1 : m__law_factors_right [.d (.str s), .d (.str w)] = _ := e0
  rw [e1, seq_nx a2, seq_nx a3, seq_nx a4, seq_nx a5, e6]
  rfl
end K07
set_option Elab.async false
set_option maxRecDepth 1000000
set_option maxHeartbeats 4000000
namespace K07
open PySem MM Lyn
def rA : Sm := sSet 1 (mCall 1 m__law_signs (mCons (mVar 0) (mNil)))
def rB : Sm := sSet 2 (mIf (mTestB (mBin ltD (mCB lenD (mCons (mVar 1) (mNil))) (mC (.int 3)))) (mC (.int 5)) (mC (.int 4)))
def rC : Sm := sSet 3 (mCall 2 m__law_lines_to (mCons (mVar 1) (mCons (mVar 2) (mNil))))
def rD : Sm := sIf (mTestB (mBin neD (mCall 2 m_patterns_of (mCons (mVar 1) (mCons (mVar 2) (mNil)))) (mCB tupleD (mCons (mVar 3) (mNil))))) (sRet (mC (.bl false))) (sNext)
def rE : Sm := sIf (mTestB (mBin neD (mCall 2 m_leading_of (mCons (mVar 1) (mCons (mVar 2) (mNil)))) (mCB tupleD (mCons (mLc (mItems (mVar 3)) (.nm 4) [4] (mTruth (mCall 1 m__law_leads (mCons (mVar 4) (mNil)))) (mVar 4)) (mNil))))) (sRet (mC (.bl false))) (sNext)
def rF : Sm := sFor (mItems (mBin addD (mVar 3) (mLc (mSrc rng1 (mCons (mC (.int 8)) (mNil))) (.nm 6) [6] (mYes) (mCall 3 m__law_line (mCons (mVar 0) (mCons (mVar 1) (mCons (mC (.int 14)) (mNil)))))))) (.nm 4) (sIf (mOrT (mTestB (mBin neD (mCB reprD (mCons (mCall 2 m_is_leading (mCons (mVar 1) (mCons (mVar 4) (mNil)))) (mNil))) (mCB reprD (mCons (mCall 1 m__law_leads (mCons (mVar 4) (mNil))) (mNil))))) (mNotT (mTruth (mCall 2 m__law_factors_right (mCons (mVar 1) (mCons (mVar 4) (mNil))))))) (sRet (mC (.bl false))) (sNext))
def rG : Sm := sSet 5 (mLst (mCons (mC .non) (mCons (mC (.int 0)) (mCons (mC (.bl true)) (mCons (mC (.str [])) (mCons (mC (.str [65])) (mCons (mBM "str" upperD (mBin ixD (mVar 1) (mC (.int 0))) (mNil)) (mCons (mC (.str [63])) (mCons (mTup (mCons (mBin ixD (mVar 1) (mC (.int 0))) (mNil))) (mCons (mLst (mCons (mBin ixD (mVar 1) (mC (.int 0))) (mNil))) (mCons (mBin addD (mVar 1) (mBin mulD (mC (.str [122])) (mC (.int 400)))) (mCons (mDict0) (mNil)))))))))))))
def rH : Sm := sRet (mAndV (mBin eqD (mLc (mItems (mVar 5)) (.nm 7) [7] (mTruth (mCall 2 m_is_leading (mCons (mVar 1) (mCons (mVar 7) (mNil))))) (mVar 7)) (mLst (mNil))) (mCall 2 m__law_factors_right (mCons (mVar 1) (mCons (mC (.str [])) (mNil)))))
theorem right_eq : b__law_right = sSeq rA (sSeq rB (sSeq rC (sSeq rD (sSeq rE (sSeq rF (sSeq rG rH)))))) := rfl
def kw_ab : List (List Nat) := [[97], [98], [97, 97], [97, 98], [98, 97], [98, 98], [97, 97, 97], [97, 97, 98], [97, 98, 97], [97, 98, 98], [98, 97, 97], [98, 97, 98], [98, 98, 97], [98, 98, 98], [97, 97, 97, 97], [97, 97, 97, 98], [97, 97, 98, 97], [97, 97, 98, 98], [97, 98, 97, 97], [97, 98, 97, 98], [97, 98, 98, 97], [97, 98, 98, 98], [98, 97, 97, 97], [98, 97, 97, 98], [98, 97, 98, 97], [98, 97, 98, 98], [98, 98, 97, 97], [98, 98, 97, 98], [98, 98, 98, 97], [98, 98, 98, 98], [97, 97, 97, 97, 97], [97, 97, 97, 97, 98], [97, 97, 97, 98, 97], [97, 97, 97, 98, 98], [97, 97, 98, 97, 97], [97, 97, 98, 97, 98], [97, 97, 98, 98, 97], [97, 97, 98, 98, 98], [97, 98, 97, 97, 97], [97, 98, 97, 97, 98], [97, 98, 97, 98, 97], [97, 98, 97, 98, 98], [97, 98, 98, 97, 97], [97, 98, 98, 97, 98], [97, 98, 98, 98, 97], [97, 98, 98, 98, 98], [98, 97, 97, 97, 97], [98, 97, 97, 97, 98], [98, 97, 97, 98, 97], [98, 97, 97, 98, 98], [98, 97, 98, 97, 97], [98, 97, 98, 97, 98], [98, 97, 98, 98, 97], [98, 97, 98, 98, 98], [98, 98, 97, 97, 97], [98, 98, 97, 97, 98], [98, 98, 97, 98, 97], [98, 98, 97, 98, 98], [98, 98, 98, 97, 97], [98, 98, 98, 97, 98], [98, 98, 98, 98, 97], [98, 98, 98, 98, 98]]
theorem B_ab (x : D) : rB [.p x, .d (.str [97, 98]), .un, .un, .un, .un, .un, .un] = .nx [.p x, .d (.str [97, 98]), .d (.int 5), .un, .un, .un, .un, .un] := by kernel_rfl
theorem C_ab (x : D) : rC [.p x, .d (.str [97, 98]), .d (.int 5), .un, .un, .un, .un, .un] = .nx [.p x, .d (.str [97, 98]), .d (.int 5), .o (.lst (kw_ab.map D.str)), .un, .un, .un, .un] := by kernel_rfl
theorem D_ab (x : D) : rD [.p x, .d (.str [97, 98]), .d (.int 5), .o (.lst (kw_ab.map D.str)), .un, .un, .un, .un] = .nx [.p x, .d (.str [97, 98]), .d (.int 5), .o (.lst (kw_ab.map D.str)), .un, .un, .un, .un] := by kernel_rfl
theorem E_ab (x : D) : rE [.p x, .d (.str [97, 98]), .d (.int 5), .o (.lst (kw_ab.map D.str)), .un, .un, .un, .un] = .nx [.p x, .d (.str [97, 98]), .d (.int 5), .d (.lst (kw_ab.map D.str)), .un, .un, .un, .un] := by kernel_rfl
def endT (o : Out) : Bool := match o with
  | .rt (.d (.bl true)) _ => true
  | _ => false
theorem G_ab (x y : D) : endT (sSeq rG rH [.p x, .d (.str [97, 98]), .d (.int 5), .d (.lst (kw_ab.map D.str)), .d y, .un, .un, .un]) = true := by kernel_rfl
theorem kl_ab : kw_ab.all (fun w => w.all (fun c => decide (c ∈ [97, 98])) && decide (w.length ≤ 14)) = true := by decide +kernel
theorem rq_ab : m_require_letters [.d (.str [97, 98])] = .rt (.d .non) [.d (.str [97, 98])] := by kernel_rfl
def kw_xy : List (List Nat) := [[120], [121], [120, 120], [120, 121], [121, 120], [121, 121], [120, 120, 120], [120, 120, 121], [120, 121, 120], [120, 121, 121], [121, 120, 120], [121, 120, 121], [121, 121, 120], [121, 121, 121], [120, 120, 120, 120], [120, 120, 120, 121], [120, 120, 121, 120], [120, 120, 121, 121], [120, 121, 120, 120], [120, 121, 120, 121], [120, 121, 121, 120], [120, 121, 121, 121], [121, 120, 120, 120], [121, 120, 120, 121], [121, 120, 121, 120], [121, 120, 121, 121], [121, 121, 120, 120], [121, 121, 120, 121], [121, 121, 121, 120], [121, 121, 121, 121], [120, 120, 120, 120, 120], [120, 120, 120, 120, 121], [120, 120, 120, 121, 120], [120, 120, 120, 121, 121], [120, 120, 121, 120, 120], [120, 120, 121, 120, 121], [120, 120, 121, 121, 120], [120, 120, 121, 121, 121], [120, 121, 120, 120, 120], [120, 121, 120, 120, 121], [120, 121, 120, 121, 120], [120, 121, 120, 121, 121], [120, 121, 121, 120, 120], [120, 121, 121, 120, 121], [120, 121, 121, 121, 120], [120, 121, 121, 121, 121], [121, 120, 120, 120, 120], [121, 120, 120, 120, 121], [121, 120, 120, 121, 120], [121, 120, 120, 121, 121], [121, 120, 121, 120, 120], [121, 120, 121, 120, 121], [121, 120, 121, 121, 120], [121, 120, 121, 121, 121], [121, 121, 120, 120, 120], [121, 121, 120, 120, 121], [121, 121, 120, 121, 120], [121, 121, 120, 121, 121], [121, 121, 121, 120, 120], [121, 121, 121, 120, 121], [121, 121, 121, 121, 120], [121, 121, 121, 121, 121]]
theorem B_xy (x : D) : rB [.p x, .d (.str [120, 121]), .un, .un, .un, .un, .un, .un] = .nx [.p x, .d (.str [120, 121]), .d (.int 5), .un, .un, .un, .un, .un] := by kernel_rfl
theorem C_xy (x : D) : rC [.p x, .d (.str [120, 121]), .d (.int 5), .un, .un, .un, .un, .un] = .nx [.p x, .d (.str [120, 121]), .d (.int 5), .o (.lst (kw_xy.map D.str)), .un, .un, .un, .un] := by kernel_rfl
theorem D_xy (x : D) : rD [.p x, .d (.str [120, 121]), .d (.int 5), .o (.lst (kw_xy.map D.str)), .un, .un, .un, .un] = .nx [.p x, .d (.str [120, 121]), .d (.int 5), .o (.lst (kw_xy.map D.str)), .un, .un, .un, .un] := by kernel_rfl
theorem E_xy (x : D) : rE [.p x, .d (.str [120, 121]), .d (.int 5), .o (.lst (kw_xy.map D.str)), .un, .un, .un, .un] = .nx [.p x, .d (.str [120, 121]), .d (.int 5), .d (.lst (kw_xy.map D.str)), .un, .un, .un, .un] := by kernel_rfl
theorem G_xy (x y : D) : endT (sSeq rG rH [.p x, .d (.str [120, 121]), .d (.int 5), .d (.lst (kw_xy.map D.str)), .d y, .un, .un, .un]) = true := by kernel_rfl
theorem kl_xy : kw_xy.all (fun w => w.all (fun c => decide (c ∈ [120, 121])) && decide (w.length ≤ 14)) = true := by decide +kernel
theorem rq_xy : m_require_letters [.d (.str [120, 121])] = .rt (.d .non) [.d (.str [120, 121])] := by kernel_rfl
def kw_a : List (List Nat) := [[97], [97, 97], [97, 97, 97], [97, 97, 97, 97], [97, 97, 97, 97, 97]]
theorem B_a (x : D) : rB [.p x, .d (.str [97]), .un, .un, .un, .un, .un, .un] = .nx [.p x, .d (.str [97]), .d (.int 5), .un, .un, .un, .un, .un] := by kernel_rfl
theorem C_a (x : D) : rC [.p x, .d (.str [97]), .d (.int 5), .un, .un, .un, .un, .un] = .nx [.p x, .d (.str [97]), .d (.int 5), .o (.lst (kw_a.map D.str)), .un, .un, .un, .un] := by kernel_rfl
theorem D_a (x : D) : rD [.p x, .d (.str [97]), .d (.int 5), .o (.lst (kw_a.map D.str)), .un, .un, .un, .un] = .nx [.p x, .d (.str [97]), .d (.int 5), .o (.lst (kw_a.map D.str)), .un, .un, .un, .un] := by kernel_rfl
theorem E_a (x : D) : rE [.p x, .d (.str [97]), .d (.int 5), .o (.lst (kw_a.map D.str)), .un, .un, .un, .un] = .nx [.p x, .d (.str [97]), .d (.int 5), .d (.lst (kw_a.map D.str)), .un, .un, .un, .un] := by kernel_rfl
theorem G_a (x y : D) : endT (sSeq rG rH [.p x, .d (.str [97]), .d (.int 5), .d (.lst (kw_a.map D.str)), .d y, .un, .un, .un]) = true := by kernel_rfl
theorem kl_a : kw_a.all (fun w => w.all (fun c => decide (c ∈ [97])) && decide (w.length ≤ 14)) = true := by decide +kernel
theorem rq_a : m_require_letters [.d (.str [97])] = .rt (.d .non) [.d (.str [97])] := by kernel_rfl
def kw_abc : List (List Nat) := [[97], [98], [99], [97, 97], [97, 98], [97, 99], [98, 97], [98, 98], [98, 99], [99, 97], [99, 98], [99, 99], [97, 97, 97], [97, 97, 98], [97, 97, 99], [97, 98, 97], [97, 98, 98], [97, 98, 99], [97, 99, 97], [97, 99, 98], [97, 99, 99], [98, 97, 97], [98, 97, 98], [98, 97, 99], [98, 98, 97], [98, 98, 98], [98, 98, 99], [98, 99, 97], [98, 99, 98], [98, 99, 99], [99, 97, 97], [99, 97, 98], [99, 97, 99], [99, 98, 97], [99, 98, 98], [99, 98, 99], [99, 99, 97], [99, 99, 98], [99, 99, 99], [97, 97, 97, 97], [97, 97, 97, 98], [97, 97, 97, 99], [97, 97, 98, 97], [97, 97, 98, 98], [97, 97, 98, 99], [97, 97, 99, 97], [97, 97, 99, 98], [97, 97, 99, 99], [97, 98, 97, 97], [97, 98, 97, 98], [97, 98, 97, 99], [97, 98, 98, 97], [97, 98, 98, 98], [97, 98, 98, 99], [97, 98, 99, 97], [97, 98, 99, 98], [97, 98, 99, 99], [97, 99, 97, 97], [97, 99, 97, 98], [97, 99, 97, 99], [97, 99, 98, 97], [97, 99, 98, 98], [97, 99, 98, 99], [97, 99, 99, 97], [97, 99, 99, 98], [97, 99, 99, 99], [98, 97, 97, 97], [98, 97, 97, 98], [98, 97, 97, 99], [98, 97, 98, 97], [98, 97, 98, 98], [98, 97, 98, 99], [98, 97, 99, 97], [98, 97, 99, 98], [98, 97, 99, 99], [98, 98, 97, 97], [98, 98, 97, 98], [98, 98, 97, 99], [98, 98, 98, 97], [98, 98, 98, 98], [98, 98, 98, 99], [98, 98, 99, 97], [98, 98, 99, 98], [98, 98, 99, 99], [98, 99, 97, 97], [98, 99, 97, 98], [98, 99, 97, 99], [98, 99, 98, 97], [98, 99, 98, 98], [98, 99, 98, 99], [98, 99, 99, 97], [98, 99, 99, 98], [98, 99, 99, 99], [99, 97, 97, 97], [99, 97, 97, 98], [99, 97, 97, 99], [99, 97, 98, 97], [99, 97, 98, 98], [99, 97, 98, 99], [99, 97, 99, 97], [99, 97, 99, 98], [99, 97, 99, 99], [99, 98, 97, 97], [99, 98, 97, 98], [99, 98, 97, 99], [99, 98, 98, 97], [99, 98, 98, 98], [99, 98, 98, 99], [99, 98, 99, 97], [99, 98, 99, 98], [99, 98, 99, 99], [99, 99, 97, 97], [99, 99, 97, 98], [99, 99, 97, 99], [99, 99, 98, 97], [99, 99, 98, 98], [99, 99, 98, 99], [99, 99, 99, 97], [99, 99, 99, 98], [99, 99, 99, 99]]
theorem B_abc (x : D) : rB [.p x, .d (.str [97, 98, 99]), .un, .un, .un, .un, .un, .un] = .nx [.p x, .d (.str [97, 98, 99]), .d (.int 4), .un, .un, .un, .un, .un] := by kernel_rfl
theorem C_abc (x : D) : rC [.p x, .d (.str [97, 98, 99]), .d (.int 4), .un, .un, .un, .un, .un] = .nx [.p x, .d (.str [97, 98, 99]), .d (.int 4), .o (.lst (kw_abc.map D.str)), .un, .un, .un, .un] := by kernel_rfl
theorem D_abc (x : D) : rD [.p x, .d (.str [97, 98, 99]), .d (.int 4), .o (.lst (kw_abc.map D.str)), .un, .un, .un, .un] = .nx [.p x, .d (.str [97, 98, 99]), .d (.int 4), .o (.lst (kw_abc.map D.str)), .un, .un, .un, .un] := by kernel_rfl
theorem E_abc (x : D) : rE [.p x, .d (.str [97, 98, 99]), .d (.int 4), .o (.lst (kw_abc.map D.str)), .un, .un, .un, .un] = .nx [.p x, .d (.str [97, 98, 99]), .d (.int 4), .d (.lst (kw_abc.map D.str)), .un, .un, .un, .un] := by kernel_rfl
theorem G_abc (x y : D) : endT (sSeq rG rH [.p x, .d (.str [97, 98, 99]), .d (.int 4), .d (.lst (kw_abc.map D.str)), .d y, .un, .un, .un]) = true := by kernel_rfl
theorem kl_abc : kw_abc.all (fun w => w.all (fun c => decide (c ∈ [97, 98, 99])) && decide (w.length ≤ 14)) = true := by decide +kernel
theorem rq_abc : m_require_letters [.d (.str [97, 98, 99])] = .rt (.d .non) [.d (.str [97, 98, 99])] := by kernel_rfl
end K07
set_option Elab.async false
set_option maxRecDepth 100000
set_option maxHeartbeats 4000000
namespace K07
open PySem MM Lyn
/-! ### drawn lines -/
theorem eq_bit : m__law_bit = bitM := rfl
theorem eq_pick : m__law_pick = pickM := rfl
theorem eq_tray : m__law_tray = trayM := rfl
theorem pick_str {n : Nat} {x : D} {s : List Nat} (h : TrayOk n x) (hn : n < 2 ^ 61) (hl : 0 < s.length) (hl2 : s.length ≤ sizeLine) :
    ∃ (c : Nat) (x' : D), c ∈ s ∧ pickM [.p x, .d (.str s)] = .rt (.d (.str [c])) [.p x', .d (.str s)] ∧ TrayOk (n + 1) x' := by
  have hs2 : (sizeLine : Int) < 2 ^ 62 := by decide
  obtain ⟨r, x', ρ, e, h0, h1, h2⟩ := bit_ok (m := s.length) h hn (by omega) (by omega)
  obtain ⟨i, rfl⟩ : ∃ i : Nat, r = i := ⟨r.toNat, by omega⟩
  have hi : i < s.length := by omega
  refine ⟨s[i], x', List.getElem_mem hi, ?_, h2⟩
  have e3 : s[i]? = some s[i] := List.getElem?_eq_getElem hi
  simp [pickM, fnM, pickB, sRet, mBin, mVar, mCall, mCons, mNil, mCB, mHold, R.bind, Out.of, peekH, peekHs, lenD, MM.ret, MM.argsOk, argOk, ownIx, argS, backS, newOf, e, ixD, L2.atI, L2.ixN, hi, retv, List.filterMap_cons, hl2, e3]
def pkE : Ex := mCall 2 m__law_pick (mCons (mVar 0) (mCons (mVar 1) (mNil)))
theorem pk_ok {n : Nat} {x m y : D} {s : List Nat} (h : TrayOk n x) (hn : n < 2 ^ 61) (hl : 0 < s.length) (hl2 : s.length ≤ sizeLine) : ∃ (c : Nat) (x' : D), c ∈ s ∧ pkE [.p x, .d (.str s), .d m, .d y] = .ok (.d (.str [c])) [.p x', .d (.str s), .d m, .d y] ∧ TrayOk (n + 1) x' := by
  obtain ⟨c, x', hc, e, h2⟩ := pick_str h hn hl hl2
  refine ⟨c, x', hc, ?_, h2⟩
  simp [pkE, eq_pick, mCall, mCons, mNil, mVar, mHold, R.bind, MM.argsOk, argOk, ownIx, argS, e, backS, newOf, List.filterMap_cons]
theorem draw_line {s : List Nat} {m : D} (hl : 0 < s.length) (hl2 : s.length ≤ sizeLine) : ∀ (items : List D) (n : Nat) (x : D), TrayOk n x → n + items.length < 2 ^ 60 →
    ∃ (cs : List Nat) (x' : D), (∀ c ∈ cs, c ∈ s) ∧ cs.length = items.length ∧ lcM (.nm 3) [3] mYes pkE items [.p x, .d (.str s), .d m, .un] = .ok (cs.map fun c => D.str [c]) [.p x', .d (.str s), .d m, .un] ∧ TrayOk (n + items.length) x'
  | [], n, x, h, _ => ⟨[], x, by simp, rfl, rfl, h⟩
  | y :: r, n, x, h, hn => by
    obtain ⟨c, x1, hc, e1, h1⟩ := pk_ok (m := m) (y := y) h (by simp at hn; omega) hl hl2
    obtain ⟨cs, x2, k1, k2, k3, k4⟩ := draw_line hl hl2 r (n + 1) x1 h1 (by simp at hn; omega)
    refine ⟨c :: cs, x2, fun d hd => ?_, by simp [k2], ?_, ?_⟩
    · rcases List.mem_cons.mp hd with rfl | z
      · exact hc
      · exact k1 d z
    · have e0 : (Tg.nm 3).put y [.p x, .d (.str s), .d m, .un] = some [.p x, .d (.str s), .d m, .d y] := rfl
      have e2 : wipeS [.p x1, .d (.str s), .d m, .d y] [3] = [.p x1, .d (.str s), .d m, .un] := rfl
      unfold lcM
      rw [e0]
      dsimp only
      have e3 : mYes [.p x, .d (.str s), .d m, .d y] = .ok true [.p x, .d (.str s), .d m, .d y] := rfl
      rw [e3, bind_ok, if_pos rfl, force_of e1, bind_ok, e2, k3]
      rfl
    · have e : n + (y :: r).length = n + 1 + r.length := by simp; omega
      rw [e]
      exact k4
theorem line_ok {n : Nat} {x : D} {s : List Nat} (h : TrayOk n x) (hn : n < 2 ^ 59) (hl : 0 < s.length) (hl2 : s.length ≤ sizeLine) :
    ∃ (w : List Nat) (x' : D) (ρ : List S), (∀ c ∈ w, c ∈ s) ∧ w.length ≤ 14 ∧ m__law_line [.p x, .d (.str s), .d (.int 14)] = .rt (.d (.str w)) (.p x' :: ρ) ∧ TrayOk (n + 16) x' := by
  obtain ⟨r, x1, ρ1, e, h0, h1, h2⟩ := bit_ok (m := 15) h (by omega) (by decide) (by decide)
  obtain ⟨k, rfl⟩ : ∃ k : Nat, r = k := ⟨r.toNat, by omega⟩
  have bc : mCall 2 m__law_bit (mCons (mVar 0) (mCons (mBin addD (mVar 2) (mC (.int 1))) (mNil))) [.p x, .d (.str s), .d (.int 14), .un] = .ok (.d (.int (k : Nat))) [.p x1, .d (.str s), .d (.int 14), .un] := by
    have e1 : mBin addD (mVar 2) (mC (.int 1)) [.p x, .d (.str s), .d (.int 14), .un] = .ok (.d (.int 15)) [.p x, .d (.str s), .d (.int 14), .un] := rfl
    simp [eq_bit, mCall, mCons, mNil, mVar, mHold, R.bind, e1, MM.argsOk, argOk, ownIx, argS, e, backS, newOf, List.filterMap_cons]
  have sr : mSrc rng1 (mCons (mCall 2 m__law_bit (mCons (mVar 0) (mCons (mBin addD (mVar 2) (mC (.int 1))) (mNil)))) (mNil)) [.p x, .d (.str s), .d (.int 14), .un] = .ok (rngD 0 ((k : Nat) : Int).toNat) [.p x1, .d (.str s), .d (.int 14), .un] := src1i (cons1 bc) (by omega) (by omega)
  rw [Int.toNat_natCast] at sr
  obtain ⟨cs, x2, c1, c2, c3, c4⟩ := draw_line (m := .int 14) hl hl2 (rngD 0 k) (n + 1) x1 h2 (by rw [rngD_length]; omega)
  rw [rngD_length] at c2 c4
  refine ⟨cs, x2, [.d (.str s), .d (.int 14), .un], c1, by omega, ?_, c4.mono (by omega)⟩
  have lc : mLc (mSrc rng1 (mCons (mCall 2 m__law_bit (mCons (mVar 0) (mCons (mBin addD (mVar 2) (mC (.int 1))) (mNil)))) (mNil))) (.nm 3) [3] mYes pkE [.p x, .d (.str s), .d (.int 14), .un] = .ok (.f (.lst (cs.map fun c => D.str [c]))) [.p x2, .d (.str s), .d (.int 14), .un] := by
    have e1 : hidOk [.p x1, .d (.str s), .d (.int 14), .un] [3] = true := rfl
    have e2 : wipeS [.p x1, .d (.str s), .d (.int 14), .un] [3] = [.p x1, .d (.str s), .d (.int 14), .un] := rfl
    unfold mLc
    rw [sr, bind_ok, if_pos e1, e2, c3]
    show R.bind (R.ok _ _) _ = _
    rw [bind_ok, if_pos (by rw [List.length_map]; exact Nat.le_trans (by omega : cs.length ≤ 1000) (by decide))]
    rfl
  have jo : joinD (.str []) [.lst (cs.map fun c => D.str [c])] = some (.d (.str cs)) := by
    have e0 : (cs.map fun c => D.str [c]) = (cs.map fun c => [c]).map D.str := by simp
    have e2 : ∀ l : List Nat, (l.map fun c => [c]).flatten = l := fun l => by
      induction l with
      | nil => rfl
      | cons a l ih => simp [ih]
    have e3 : ∀ l : List Nat, (((l.map fun c => [c]).map fun x => x.length).sum) = l.length := fun l => by
      induction l with
      | nil => rfl
      | cons a l ih =>
        rw [List.map_cons, List.map_cons, List.sum_cons, ih, List.length_singleton, List.length_cons]
        omega
    show joinOf [] _ = _
    unfold joinOf
    rw [e0, strsD_map]
    dsimp only
    rw [if_pos (by rw [e3]; simp; omega), joinL_nil, e2]
  have ej : mBM "str" joinD (mC (.str [])) (mCons (mLc (mSrc rng1 (mCons (mCall 2 m__law_bit (mCons (mVar 0) (mCons (mBin addD (mVar 2) (mC (.int 1))) (mNil)))) (mNil))) (.nm 3) [3] mYes pkE) (mNil)) [.p x, .d (.str s), .d (.int 14), .un] = .ok (.d (.str cs)) [.p x2, .d (.str s), .d (.int 14), .un] := by
    simp [mBM, mHold, mC, R.bind, peekH, isTy, mCons, mNil, lc, peekHs, jo, MM.ret]
  have e0 : m__law_line [.p x, .d (.str s), .d (.int 14)] = endF (sRet (mBM "str" joinD (mC (.str [])) (mCons (mLc (mSrc rng1 (mCons (mCall 2 m__law_bit (mCons (mVar 0) (mCons (mBin addD (mVar 2) (mC (.int 1))) (mNil)))) (mNil))) (.nm 3) [3] mYes pkE) (mNil))) [.p x, .d (.str s), .d (.int 14), .un]) := fnM_at
  rw [e0, ev_ret ej]
  rfl
end K07
set_option Elab.async false
set_option maxRecDepth 100000
set_option maxHeartbeats 4000000
namespace K07
open PySem MM Lyn
def lnE : Ex := mCall 3 m__law_line (mCons (mVar 0) (mCons (mVar 1) (mCons (mC (.int 14)) (mNil))))
def st8 (x : D) (s : List Nat) (dp kn : D) (y t : S) : List S := [.p x, .d (.str s), .d dp, .d kn, y, .un, t, .un]
theorem ln_ok {n : Nat} {x dp kn y : D} {s : List Nat} (h : TrayOk n x) (hn : n < 2 ^ 59) (hl : 0 < s.length) (hl2 : s.length ≤ sizeLine) :
    ∃ (w : List Nat) (x' : D), (∀ c ∈ w, c ∈ s) ∧ w.length ≤ 14 ∧ lnE (st8 x s dp kn .un (.d y)) = .ok (.d (.str w)) (st8 x' s dp kn .un (.d y)) ∧ TrayOk (n + 16) x' := by
  obtain ⟨w, x', ρ, h1, h2, e, h3⟩ := line_ok h hn hl hl2
  refine ⟨w, x', h1, h2, ?_, h3⟩
  simp [lnE, st8, mCall, mCons, mNil, mVar, mC, mHold, R.bind, MM.argsOk, argOk, ownIx, argS, e, backS, newOf, List.filterMap_cons]
theorem draw_lines {s : List Nat} {dp kn : D} (hl : 0 < s.length) (hl2 : s.length ≤ sizeLine) : ∀ (items : List D) (n : Nat) (x : D), TrayOk n x → n + 16 * items.length < 2 ^ 58 →
    ∃ (ws : List (List Nat)) (x' : D), (∀ w ∈ ws, (∀ c ∈ w, c ∈ s) ∧ w.length ≤ 14) ∧ ws.length = items.length ∧ lcM (.nm 6) [6] mYes lnE items (st8 x s dp kn .un .un) = .ok (ws.map D.str) (st8 x' s dp kn .un .un) ∧ TrayOk (n + 16 * items.length) x'
  | [], n, x, h, _ => ⟨[], x, by simp, rfl, rfl, h⟩
  | y :: r, n, x, h, hn => by
    obtain ⟨w, x1, hw1, hw2, e1, h1⟩ := ln_ok (dp := dp) (kn := kn) (y := y) h (by simp at hn; omega) hl hl2
    obtain ⟨ws, x2, k1, k2, k3, k4⟩ := draw_lines (dp := dp) (kn := kn) hl hl2 r (n + 16) x1 h1 (by simp at hn; omega)
    refine ⟨w :: ws, x2, fun d hd => ?_, by simp [k2], ?_, ?_⟩
    · rcases List.mem_cons.mp hd with rfl | z
      · exact ⟨hw1, hw2⟩
      · exact k1 d z
    · have e0 : (Tg.nm 6).put y (st8 x s dp kn .un .un) = some (st8 x s dp kn .un (.d y)) := rfl
      have e2 : wipeS (st8 x1 s dp kn .un (.d y)) [6] = st8 x1 s dp kn .un .un := rfl
      unfold lcM
      rw [e0]
      dsimp only
      have e3 : mYes (st8 x s dp kn .un (.d y)) = .ok true (st8 x s dp kn .un (.d y)) := rfl
      rw [e3, bind_ok, if_pos rfl, force_of e1, bind_ok, e2, k3]
      rfl
    · have e : n + 16 * (y :: r).length = n + 16 + 16 * r.length := by simp; omega
      rw [e]
      exact k4
theorem newOf1 {x : D} {ρf : List S} (j : Nat) : newOf [.d x] ρf j = none := by cases ρf <;> rfl
theorem newOf2 {x y : D} {ρf : List S} (j : Nat) : newOf [.d x, .d y] ρf j = none := by
  cases ρf with
  | nil => rfl
  | cons a t => cases t <;> rfl
theorem backS_none {nw : Nat → Option D} (h : ∀ j, nw j = none) : ∀ (ρ : List S) (j : Nat), backS nw j ρ = ρ
  | [], _ => rfl
  | s :: r, j => by
    unfold backS
    rw [backS_none h r (j + 1), h j]
    cases s <;> rfl
def rL : Sm := sIf (mOrT (mTestB (mBin neD (mCB reprD (mCons (mCall 2 m_is_leading (mCons (mVar 1) (mCons (mVar 4) (mNil)))) (mNil))) (mCB reprD (mCons (mCall 1 m__law_leads (mCons (mVar 4) (mNil))) (mNil))))) (mNotT (mTruth (mCall 2 m__law_factors_right (mCons (mVar 1) (mCons (mVar 4) (mNil))))))) (sRet (mC (.bl false))) (sNext)
theorem rF_eq : rF = sFor (mItems (mBin addD (mVar 3) (mLc (mSrc rng1 (mCons (mC (.int 8)) (mNil))) (.nm 6) [6] (mYes) lnE))) (.nm 4) rL := rfl
theorem rL_ok {x dp kn : D} {s w : List Nat} (h : Lin s w) : rL (st8 x s dp kn (.d (.str w)) .un) = .nx (st8 x s dp kn (.d (.str w)) .un) := by
  obtain ⟨ρ1, e1⟩ := leads_ok (Nat.le_trans h.len (by decide)) h.lw
  obtain ⟨ρ2, e2⟩ := fr_ok h
  have c1 : mCall 2 m_is_leading (mCons (mVar 1) (mCons (mVar 4) (mNil))) (st8 x s dp kn (.d (.str w)) .un) = .ok (.d (.bl (leadB w))) (st8 x s dp kn (.d (.str w)) .un) := two_call (ev_var rfl) (ev_var rfl) (isleading_ok h) (backS_none newOf2 _ _)
  have c2 : mCall 1 m__law_leads (mCons (mVar 4) (mNil)) (st8 x s dp kn (.d (.str w)) .un) = .ok (.d (.bl (leadB w))) (st8 x s dp kn (.d (.str w)) .un) := one_call (ev_var rfl) e1 (backS_none newOf1 _ _)
  have c3 : mCall 2 m__law_factors_right (mCons (mVar 1) (mCons (mVar 4) (mNil))) (st8 x s dp kn (.d (.str w)) .un) = .ok (.d (.bl true)) (st8 x s dp kn (.d (.str w)) .un) := two_call (ev_var rfl) (ev_var rfl) e2 (backS_none newOf2 _ _)
  have t1 : mTestB (mBin neD (mCB reprD (mCons (mCall 2 m_is_leading (mCons (mVar 1) (mCons (mVar 4) (mNil)))) (mNil))) (mCB reprD (mCons (mCall 1 m__law_leads (mCons (mVar 4) (mNil))) (mNil)))) (st8 x s dp kn (.d (.str w)) .un) = .ok false (st8 x s dp kn (.d (.str w)) .un) := by
    have k := ev_test (ev_bin (ev_cb1 (g := reprD) c1 rfl) (ev_cb1 (g := reprD) c2 rfl) neDs)
    rw [decide_eq_true rfl] at k
    exact k
  have t2 : mNotT (mTruth (mCall 2 m__law_factors_right (mCons (mVar 1) (mCons (mVar 4) (mNil))))) (st8 x s dp kn (.d (.str w)) .un) = .ok false (st8 x s dp kn (.d (.str w)) .un) := ev_notT (b := true) (ev_truth c3)
  have t : mOrT (mTestB (mBin neD (mCB reprD (mCons (mCall 2 m_is_leading (mCons (mVar 1) (mCons (mVar 4) (mNil)))) (mNil))) (mCB reprD (mCons (mCall 1 m__law_leads (mCons (mVar 4) (mNil))) (mNil))))) (mNotT (mTruth (mCall 2 m__law_factors_right (mCons (mVar 1) (mCons (mVar 4) (mNil)))))) (st8 x s dp kn (.d (.str w)) .un) = .ok false (st8 x s dp kn (.d (.str w)) .un) := by
    unfold mOrT
    rw [t1, bind_ok, if_neg Bool.false_ne_true, t2]
  unfold rL
  rw [ev_if t, if_neg Bool.false_ne_true]
  rfl
def lnS (x dp kn : D) (s : List Nat) (ws : List (List Nat)) : Nat → List S
  | 0 => st8 x s dp kn .un .un
  | i + 1 => st8 x s dp kn (.d (.str (ws.getD i []))) .un
theorem ln_loop {x dp kn : D} {s : List Nat} {ws : List (List Nat)} (h : ∀ w ∈ ws, Lin s w) : loopM (fun x ρ => match (Tg.nm 4).put x ρ with
    | some ρ2 => rL ρ2
    | none => .bad) (ws.map D.str) (st8 x s dp kn .un .un) = .nx (lnS x dp kn s ws ws.length) := by
  have lp := loopM_go (body := fun x ρ => match (Tg.nm 4).put x ρ with
    | some ρ2 => rL ρ2
    | none => .bad) (lnS x dp kn s ws) (ws.map D.str) 0 fun i y e => .inl (by
      rw [List.getElem?_map] at e
      have hi : i < ws.length := by
        by_cases z : i < ws.length
        · exact z
        · rw [List.getElem?_eq_none (by omega)] at e
          cases e
      have ew : ws[i]? = some ws[i] := List.getElem?_eq_getElem hi
      rw [ew] at e
      have e : D.str ws[i] = y := Option.some.inj e
      subst e
      have eg : ws.getD i [] = ws[i] := by rw [List.getD_eq_getElem?_getD, ew]; rfl
      rw [Nat.zero_add]
      have ep : (Tg.nm 4).put (.str ws[i]) (lnS x dp kn s ws i) = some (st8 x s dp kn (.d (.str ws[i])) .un) := by
        cases i with
        | zero => rfl
        | succ j => rfl
      show (match (Tg.nm 4).put (.str ws[i]) (lnS x dp kn s ws i) with
        | some ρ2 => rL ρ2
        | none => .bad) = Out.nx (st8 x s dp kn (.d (.str (ws.getD i []))) .un)
      rw [ep, eg]
      exact rL_ok (h _ (List.getElem_mem hi)))
  rw [List.length_map, Nat.zero_add] at lp
  exact lp
theorem rF_ok {n : Nat} {x dp : D} {s : List Nat} {kw : List (List Nat)} (h : TrayOk n x) (hn : n < 2 ^ 50) (hl : 0 < s.length) (hl2 : s.length ≤ 100) (req : m_require_letters [.d (.str s)] = .rt (.d .non) [.d (.str s)]) (low : Low s) (kl : kw.all (fun w => w.all (fun c => decide (c ∈ s)) && decide (w.length ≤ 14)) = true) (k0 : 0 < kw.length) (k1 : kw.length ≤ 1000) :
    ∃ x' y n', rF (st8 x s dp (.lst (kw.map D.str)) .un .un) = .nx (st8 x' s dp (.lst (kw.map D.str)) (.d y) .un) ∧ TrayOk n' x' := by
  have hl3 : s.length ≤ sizeLine := Nat.le_trans hl2 (by decide)
  obtain ⟨ws, x', w1, w2, w3, w4⟩ := draw_lines (dp := dp) (kn := .lst (kw.map D.str)) hl hl3 (rngD 0 8) n x h (by rw [rngD_length]; omega)
  rw [rngD_length] at w2 w4
  have hz : (1016 : Nat) ≤ sizeLine := by decide
  have lc : mLc (mSrc rng1 (mCons (mC (.int 8)) (mNil))) (.nm 6) [6] (mYes) lnE (st8 x s dp (.lst (kw.map D.str)) .un .un) = .ok (.f (.lst (ws.map D.str))) (st8 x' s dp (.lst (kw.map D.str)) .un .un) := by
    have sr : mSrc rng1 (mCons (mC (.int 8)) (mNil)) (st8 x s dp (.lst (kw.map D.str)) .un .un) = .ok (rngD 0 8) (st8 x s dp (.lst (kw.map D.str)) .un .un) := src1 (n := 8) rfl (by decide)
    have e1 : hidOk (st8 x s dp (.lst (kw.map D.str)) .un .un) [6] = true := rfl
    have e2 : wipeS (st8 x s dp (.lst (kw.map D.str)) .un .un) [6] = st8 x s dp (.lst (kw.map D.str)) .un .un := rfl
    unfold mLc
    rw [sr, bind_ok, if_pos e1, e2, w3]
    show R.bind (R.ok _ _) _ = _
    rw [bind_ok, if_pos (by rw [List.length_map]; omega)]
    rfl
  have ad : addD (.lst (kw.map D.str)) (.lst (ws.map D.str)) = some (.f (.lst ((kw ++ ws).map D.str))) := by
    rw [List.map_append]
    exact if_pos (by rw [List.length_map, List.length_map]; omega)
  have it : mItems (mBin addD (mVar 3) (mLc (mSrc rng1 (mCons (mC (.int 8)) (mNil))) (.nm 6) [6] (mYes) lnE)) (st8 x s dp (.lst (kw.map D.str)) .un .un) = .ok ((kw ++ ws).map D.str) (st8 x' s dp (.lst (kw.map D.str)) .un .un) := by
    have eb : mBin addD (mVar 3) (mLc (mSrc rng1 (mCons (mC (.int 8)) (mNil))) (.nm 6) [6] (mYes) lnE) (st8 x s dp (.lst (kw.map D.str)) .un .un) = .ok (.f (.lst ((kw ++ ws).map D.str))) (st8 x' s dp (.lst (kw.map D.str)) .un .un) := by
      have e1 : mVar 3 (st8 x s dp (.lst (kw.map D.str)) .un .un) = .ok (.d (.lst (kw.map D.str))) (st8 x s dp (.lst (kw.map D.str)) .un .un) := rfl
      simp [mBin, mHold, e1, lc, R.bind, peekH, ad, MM.ret]
    exact items_of (force_f eb) rfl
  have lin : ∀ w ∈ kw ++ ws, Lin s w := fun w hw => by
    rcases List.mem_append.mp hw with z | z
    · have := List.all_eq_true.mp kl w z
      rw [Bool.and_eq_true, List.all_eq_true, decide_eq_true_eq] at this
      exact ⟨req, fun c hc => of_decide_eq_true (this.1 c hc), low, by omega⟩
    · obtain ⟨q1, q2⟩ := w1 w z
      exact ⟨req, q1, low, by omega⟩
  have lp := for_of (t := .nm 4) (m := rL) it (ln_loop lin)
  obtain ⟨k, hk⟩ : ∃ k, (kw ++ ws).length = k + 1 := ⟨(kw ++ ws).length - 1, by rw [List.length_append]; omega⟩
  rw [hk] at lp
  exact ⟨x', .str ((kw ++ ws).getD k []), _, by rw [rF_eq]; exact lp, w4⟩
end K07
set_option Elab.async false
set_option maxRecDepth 1000000
set_option maxHeartbeats 4000000
namespace K07
open PySem MM Lyn
/-! ### the letters drawn -/
def six : List D := [.str [97, 98], .str [97, 98], .str [97, 98], .str [120, 121], .str [97], .str [97, 98, 99]]
def sixE : Ex := mLst (mCons (mC (.str [97, 98])) (mCons (mC (.str [97, 98])) (mCons (mC (.str [97, 98])) (mCons (mC (.str [120, 121])) (mCons (mC (.str [97])) (mCons (mC (.str [97, 98, 99])) (mNil)))))))
theorem sixE_ok (ρ : List S) : sixE ρ = .ok (.f (.lst six)) ρ := rfl
theorem signs_ok {n : Nat} {x : D} (h : TrayOk n x) (hn : n < 2 ^ 61) : ∃ (i : Nat) (y x' : D), six[i]? = some y ∧ m__law_signs [.p x] = .rt (.d y) [.p x'] ∧ TrayOk (n + 1) x' := by
  obtain ⟨i, y, x', ρ, hy, e, h2⟩ := pick_lst (l := six) h hn (by decide) (by decide)
  refine ⟨i, y, x', hy, ?_, h2⟩
  have e0 : m__law_signs [.p x] = endF (sRet (mCall 2 pickM (mCons (mVar 0) (mCons sixE (mNil)))) [.p x]) := fnM_at
  rw [e0]
  simp [endF, sRet, Out.of, mCall, mCons, mNil, mVar, mHold, R.bind, sixE_ok, MM.argsOk, argOk, ownIx, argS, e, backS, newOf, List.filterMap_cons, retv]
theorem rA_ok {n : Nat} {x : D} (h : TrayOk n x) (hn : n < 2 ^ 61) : ∃ (i : Nat) (y x' : D), six[i]? = some y ∧ rA [.p x, .un, .un, .un, .un, .un, .un, .un] = .nx [.p x', .d y, .un, .un, .un, .un, .un, .un] ∧ TrayOk (n + 1) x' := by
  obtain ⟨i, y, x', hy, e, h2⟩ := signs_ok h hn
  refine ⟨i, y, x', hy, ?_, h2⟩
  simp [rA, sSet, Out.of, mCall, mCons, mNil, mVar, mHold, R.bind, MM.argsOk, argOk, ownIx, argS, e, backS, newOf, List.filterMap_cons, putRV, putD, nxO]
theorem endT_of {o : Out} (h : endT o = true) : ∃ ρ, o = .rt (.d (.bl true)) ρ := by
  unfold endT at h
  split at h
  · exact ⟨_, rfl⟩
  · cases h
theorem right_end {n : Nat} {x : D} {s : List Nat} {dp : Int} {kw : List (List Nat)} (h : TrayOk n x) (hn : n < 2 ^ 50) (hl : 0 < s.length) (hl2 : s.length ≤ 100) (low : Low s) (k0 : 0 < kw.length) (k1 : kw.length ≤ 1000)
    (b1 : ∀ x, rB [.p x, .d (.str s), .un, .un, .un, .un, .un, .un] = .nx [.p x, .d (.str s), .d (.int dp), .un, .un, .un, .un, .un])
    (c1 : ∀ x, rC [.p x, .d (.str s), .d (.int dp), .un, .un, .un, .un, .un] = .nx [.p x, .d (.str s), .d (.int dp), .o (.lst (kw.map D.str)), .un, .un, .un, .un])
    (d1 : ∀ x, rD [.p x, .d (.str s), .d (.int dp), .o (.lst (kw.map D.str)), .un, .un, .un, .un] = .nx [.p x, .d (.str s), .d (.int dp), .o (.lst (kw.map D.str)), .un, .un, .un, .un])
    (e1 : ∀ x, rE [.p x, .d (.str s), .d (.int dp), .o (.lst (kw.map D.str)), .un, .un, .un, .un] = .nx [.p x, .d (.str s), .d (.int dp), .d (.lst (kw.map D.str)), .un, .un, .un, .un])
    (g1 : ∀ x y, endT (sSeq rG rH [.p x, .d (.str s), .d (.int dp), .d (.lst (kw.map D.str)), .d y, .un, .un, .un]) = true)
    (kl : kw.all (fun w => w.all (fun c => decide (c ∈ s)) && decide (w.length ≤ 14)) = true) (rq : m_require_letters [.d (.str s)] = .rt (.d .non) [.d (.str s)]) :
    ∃ ρ, sSeq rB (sSeq rC (sSeq rD (sSeq rE (sSeq rF (sSeq rG rH))))) [.p x, .d (.str s), .un, .un, .un, .un, .un, .un] = .rt (.d (.bl true)) ρ := by
  obtain ⟨x', y, n', f1, _⟩ := rF_ok (dp := .int dp) h hn hl hl2 rq low kl k0 k1
  have f2 : rF [.p x, .d (.str s), .d (.int dp), .d (.lst (kw.map D.str)), .un, .un, .un, .un] = .nx [.p x', .d (.str s), .d (.int dp), .d (.lst (kw.map D.str)), .d y, .un, .un, .un] := f1
  obtain ⟨ρ, e⟩ := endT_of (g1 x' y)
  rw [seq_nx (b1 x), seq_nx (c1 x), seq_nx (d1 x), seq_nx (e1 x), seq_nx f2, e]
  exact ⟨ρ, rfl⟩
theorem right_ok {n : Nat} {x : D} (h : TrayOk n x) (hn : n < 2 ^ 49) : ∃ ρ, m__law_right [.p x] = .rt (.d (.bl true)) ρ := by
  obtain ⟨i, y, x', hy, e, h2⟩ := rA_ok h (by omega)
  have e0 : m__law_right [.p x] = endF (sSeq rB (sSeq rC (sSeq rD (sSeq rE (sSeq rF (sSeq rG rH))))) [.p x', .d y, .un, .un, .un, .un, .un, .un]) := by
    unfold m__law_right
    rw [right_eq]
    exact fnM_seq e
  have fin : ∀ s : List Nat, y = .str s → (∃ ρ, sSeq rB (sSeq rC (sSeq rD (sSeq rE (sSeq rF (sSeq rG rH))))) [.p x', .d (.str s), .un, .un, .un, .un, .un, .un] = .rt (.d (.bl true)) ρ) → ∃ ρ, m__law_right [.p x] = .rt (.d (.bl true)) ρ := fun s es ⟨ρ, k⟩ => by
    subst es
    rw [e0, k]
    exact ⟨ρ, rfl⟩
  have ab := fun (q : y = .str [97, 98]) => fin [97, 98] q (right_end h2 (by omega) (by decide) (by decide) (fun c hc => by simp at hc; omega) (by decide) (by decide) B_ab C_ab D_ab E_ab G_ab kl_ab rq_ab)
  match i, hy with
  | 0, hy => exact ab (by cases hy; rfl)
  | 1, hy => exact ab (by cases hy; rfl)
  | 2, hy => exact ab (by cases hy; rfl)
  | 3, hy => exact fin [120, 121] (by cases hy; rfl) (right_end h2 (by omega) (by decide) (by decide) (fun c hc => by simp at hc; omega) (by decide) (by decide) B_xy C_xy D_xy E_xy G_xy kl_xy rq_xy)
  | 4, hy => exact fin [97] (by cases hy; rfl) (right_end h2 (by omega) (by decide) (by decide) (fun c hc => by simp at hc; omega) (by decide) (by decide) B_a C_a D_a E_a G_a kl_a rq_a)
  | 5, hy => exact fin [97, 98, 99] (by cases hy; rfl) (right_end h2 (by omega) (by decide) (by decide) (fun c hc => by simp at hc; omega) (by decide) (by decide) B_abc C_abc D_abc E_abc G_abc kl_abc rq_abc)
  | k + 6, hy => cases hy
def lB : Sm := sSeq (sSet 2 (mLst (mCons (mCall 2 m_factors (mCons (mC (.str [97, 98])) (mCons (mC (.str [98, 97, 98, 97, 97, 98])) (mNil)))) (mCons (mCall 2 m_factors (mCons (mC (.str [97, 98])) (mCons (mC (.str [97, 98, 97, 98])) (mNil)))) (mCons (mCall 2 m_factors (mCons (mC (.str [97, 98])) (mCons (mC (.str [98, 98, 97, 97, 98, 97, 97, 98])) (mNil)))) (mCons (mCall 2 m_factors (mCons (mC (.str [97, 98, 99])) (mCons (mC (.str [97, 99, 97, 98, 99, 97, 98])) (mNil)))) (mNil))))))) (sSeq (sSet 3 (mLst (mCons (mTup (mCons (mC (.str [98])) (mCons (mC (.str [97, 98])) (mCons (mC (.str [97, 97, 98])) (mNil))))) (mCons (mTup (mCons (mC (.str [97, 98])) (mCons (mC (.str [97, 98])) (mNil)))) (mCons (mTup (mCons (mC (.str [98])) (mCons (mC (.str [98])) (mCons (mC (.str [97, 97, 98])) (mCons (mC (.str [97, 97, 98])) (mNil)))))) (mCons (mTup (mCons (mC (.str [97, 99])) (mCons (mC (.str [97, 98, 99])) (mCons (mC (.str [97, 98])) (mNil))))) (mNil))))))) (sRet (mAndV (mBin eqD (mVar 2) (mVar 3)) (mBin eqD (mCall 2 m_leading_of (mCons (mC (.str [97, 98])) (mCons (mC (.int 4)) (mNil)))) (mTup (mCons (mC (.str [97])) (mCons (mC (.str [98])) (mCons (mC (.str [97, 98])) (mCons (mC (.str [97, 97, 98])) (mCons (mC (.str [97, 98, 98])) (mCons (mC (.str [97, 97, 97, 98])) (mCons (mC (.str [97, 97, 98, 98])) (mCons (mC (.str [97, 98, 98, 98])) (mNil))))))))))))))
def lC : Sm := sIf (mNotT (mTruth (mCallN m__law_right (mCall 2 m__law_tray (mCons (mVar 0) (mCons (mVar 1) (mNil))))))) (sRet (mC (.bl false))) (sNext)
def lN : List S → R (List HV) := mCons (mCB maxD (mCons (mC (.int 1)) (mCons (mCB minD (mCons (mC (.int 6)) (mCons (mCB lenD (mCons (mVar 0) (mNil))) (mNil)))) (mNil)))) (mNil)
theorem law_eq : b_law = sSeq (sFor (mSrc rng1 lN) (.nm 1) lC) lB := rfl
def isT : Out → Bool
  | .rt (.d (.bl true)) _ => true
  | _ => false
theorem isT_of {o : Out} (h : isT o = true) : ∃ ρ, o = .rt (.d (.bl true)) ρ := by
  unfold isT at h
  split at h
  · exact ⟨_, rfl⟩
  · cases h
theorem lB_ok (l : List D) (k : Int) : isT (lB [.d (.ro l), .d (.int k), .un, .un]) = true := by kernel_rfl
theorem lN_ok (l : List D) : ∃ n : Nat, 1 ≤ n ∧ n ≤ 6 ∧ lN [.d (.ro l), .un, .un, .un] = .ok [.d (.int n)] [.d (.ro l), .un, .un, .un] := by
  by_cases h : (l.length : Int) < 6
  · by_cases h1 : (l.length : Int) > 1
    · refine ⟨l.length, by omega, by omega, ?_⟩
      have h' : l.length < 6 := by omega
      have h1' : 1 < l.length := by omega
      simp [lN, mCons, mNil, mCB, mC, mVar, mHold, R.bind, peekH, peekHs, lenD, minD, maxD, MM.ret]
      omega
    · refine ⟨1, by omega, by omega, ?_⟩
      have h' : l.length < 6 := by omega
      have h1' : ¬ 1 < l.length := by omega
      simp [lN, mCons, mNil, mCB, mC, mVar, mHold, R.bind, peekH, peekHs, lenD, minD, maxD, MM.ret]
      omega
  · refine ⟨6, by omega, by omega, ?_⟩
    have h' : ¬ l.length < 6 := by omega
    simp [lN, mCons, mNil, mCB, mC, mVar, mHold, R.bind, peekH, peekHs, lenD, minD, maxD, MM.ret]
    omega
def turn0 : Nat → S
  | 0 => .un
  | j + 1 => .d (.int (0 + (j : Nat)))
theorem turn0_free (i : Nat) : (turn0 i).free := by cases i <;> trivial
def lSt (l : List D) (i : Nat) : List S := [.d (.ro l), turn0 i, .un, .un]
def lL : D → List S → Out := fun x ρ => match (Tg.nm 1).put x ρ with
  | some ρ2 => lC ρ2
  | none => .bad
theorem l_step (ns : List Int) (i : Nat) (hi : i < 6) : lL (.int (0 + (i : Nat))) (lSt (ns.map D.int) i) = .nx (lSt (ns.map D.int) (i + 1)) := by
  have e : putD 1 (.int (0 + (i : Nat))) (lSt (ns.map D.int) i) = some [.d (.ro (ns.map D.int)), .d (.int (0 + (i : Nat))), .un, .un] := putD_at rfl (turn0_free i)
  obtain ⟨x, ρ, e1, h1⟩ := tray_ok ns i (by omega)
  obtain ⟨ρ2, e2⟩ := right_ok h1 (by decide)
  have e3 : mCall 2 m__law_tray (mCons (mVar 0) (mCons (mVar 1) (mNil))) [.d (.ro (ns.map D.int)), .d (.int (0 + (i : Nat))), .un, .un] = .ok (.f x) [.d (.ro (ns.map D.int)), .d (.int (0 + (i : Nat))), .un, .un] := by
    rw [Int.zero_add]
    exact two_call rfl rfl e1 rfl
  unfold lL Tg.put
  rw [e]
  have e4 : lC [.d (.ro (ns.map D.int)), .d (.int (0 + (i : Nat))), .un, .un] = .nx [.d (.ro (ns.map D.int)), .d (.int (0 + (i : Nat))), .un, .un] := by
    simp only [lC, sIf, mNotT, mTruth, mHold, mCallN, e3, bind_ok, e2, peekH, truthD, of_ok]
    rfl
  exact e4
theorem law_true (ns : List Int) : ∃ ρ, m_law [.d (.ro (ns.map D.int))] = .rt (.d (.bl true)) ρ := by
  obtain ⟨n, h1, h6, e⟩ := lN_ok (ns.map D.int)
  have lp := loopM_go (body := lL) (lSt (ns.map D.int)) (rngD 0 n) 0 fun i x e => .inl (by
    obtain ⟨hi, rfl⟩ := rngD_get e
    rw [Nat.zero_add]
    exact l_step ns i (by omega))
  rw [rngD_length, Nat.zero_add] at lp
  have a1 : sFor (mSrc rng1 lN) (.nm 1) lC [.d (.ro (ns.map D.int)), .un, .un, .un] = .nx (lSt (ns.map D.int) n) := for_of (src1 e (by omega)) lp
  have e0 : m_law [.d (.ro (ns.map D.int))] = endF (lB (lSt (ns.map D.int) n)) := by
    unfold m_law
    rw [law_eq]
    exact fnM_seq a1
  obtain ⟨k, rfl⟩ : ∃ k, n = k + 1 := ⟨n - 1, by omega⟩
  obtain ⟨ρ, e5⟩ := isT_of (lB_ok (ns.map D.int) (0 + (k : Nat)))
  have e6 : lB (lSt (ns.map D.int) (k + 1)) = .rt (.d (.bl true)) ρ := e5
  rw [e0, e6]
  exact ⟨ρ, rfl⟩
end K07
set_option Elab.async false
set_option maxRecDepth 100000
set_option maxHeartbeats 4000000
namespace K07
open PySem PySem.Spec PyProof.Rows L2 MM
def top (i : Nat) : Stmt := PySem.Challenge.pw_signedcounts_k07_whole_leading_patterns.main.body.getD i (.Pass ⟨0, 0, 0, 0⟩)
structure Mg (mg : Str → Option Value) : Prop where
  n_abs : mg "abs" = none
  n_all : mg "all" = none
  n_bool : mg "bool" = none
  n_int : mg "int" = none
  n_isinstance : mg "isinstance" = none
  n_len : mg "len" = none
  n_max : mg "max" = none
  n_min : mg "min" = none
  n_range : mg "range" = none
  n_repr : mg "repr" = none
  n_str : mg "str" = none
  n_tuple : mg "tuple" = none
  n_zip : mg "zip" = none
  i_GREATEST : ∃ t, mg "GREATEST" = some (.int 99999999999999999999999999999999999999999999999999999999999999999999999999999999999999999999999999999999999999999999999999999999999999999999999999999999999999999999999999999999999999999999999999999999 t)
  i_MAX_DEPTH : ∃ t, mg "MAX_DEPTH" = some (.int 5 t)
  i_MAX_PATTERN : ∃ t, mg "MAX_PATTERN" = some (.int 400 t)
  i_MOST_LETTERS : ∃ t, mg "MOST_LETTERS" = some (.int 3 t)
section
variable {P : Program} {w : World} {K : PySem.W.Frag} {mg : Str → Option Value} {base : Heap} {cls : Str → Option Addr} {f : Addr} {fd : FuncData}
abbrev s__law_leads : Stmt := top 35
abbrev N__law_leads : List Str := ["line", "ends", "at", "end"]
theorem sc__law_leads : FnScope N__law_leads ["line"] (defScope s__law_leads) := ⟨rfl, rfl, rfl, by decide +kernel, rfl, by decide +kernel, by decide +kernel⟩
theorem ok__law_leads (fx : Mg mg)  (F : FunD K "_law_leads" "_law_leads" (defArgs s__law_leads) (defBody s__law_leads) (defScope s__law_leads) [] [] f fd) : FnOk P w K mg base (L2.CX P w) 1 f fd ["line"] (spM ⟨K, cls⟩ m__law_leads 1) := by
  have h : FnOk P w K mg base (L2.CX P w) (0 + 1) f fd ["line"] (spM ⟨K, cls⟩ (fnM N__law_leads.length b__law_leads) ["line"].length) := fnM_ok (k := 0) (G := ⟨K, cls⟩) (N := N__law_leads) (ps := ["line"]) b__law_leads F sc__law_leads fun cdv A outer s H E hr hu hp g W tk => (mss_cons (ms_setLc (i := 1) (own := [("at", 2)]) rfl sc__law_leads.nd rfl rfl (sw_true rfl rfl rfl (by decide +kernel)) (mi_range2 rfl fx.n_range (ma_cons me_int (ma_cons (me_callB (c_len rfl) rfl fx.n_len (by decide +kernel) (ma_cons (me_var (pv 0)) ma_nil)) ma_nil))) (blkOk_by (N := N__law_leads) (sc := defScope s__law_leads) (by decide +kernel)) (fun _ _ _ _ _ _ => (mg_name (i := 2) sc__law_leads.nd rfl (by first | exact .inl rfl | exact .inr rfl))) (fun _ _ _ _ _ _ => mts_nil) (fun _ _ _ _ _ _ => (me_slice (s_slice rfl) (me_var (pv 0)) (mo_some (me_var (pv 2))) mo_none)) (by decide)) (mss_one (ms_ret (me_and (me_cmp (o_ne rfl hu) (me_var (pv 0)) (me_strL (by decide +kernel)) (by rfl)) (me_one (me_cmp (o_eq rfl hu) (me_lc (own := [("end", 3)]) rfl sc__law_leads.nd (mi_any rfl (me_var (pv 1))) (blkOk_by (N := N__law_leads) (sc := defScope s__law_leads) (by decide +kernel)) (fun _ _ _ _ _ _ => (mg_name (i := 3) sc__law_leads.nd rfl (by first | exact .inl rfl | exact .inr rfl))) (fun _ _ _ _ _ _ => (mts_one (mt_not (mt_cmp o_lt (me_var (pv 0)) (me_var (pv 3)) (by rfl))))) (fun _ _ _ _ _ _ => (me_var (pv 3))) (by decide)) (me_lst ma_nil) (by rfl)))))))
  exact h
abbrev s_factors_of : Stmt := top 23
abbrev N_factors_of : List Str := ["pattern", "found", "begin", "held", "at", "size"]
theorem sc_factors_of : FnScope N_factors_of ["pattern"] (defScope s_factors_of) := ⟨rfl, rfl, rfl, by decide +kernel, rfl, by decide +kernel, by decide +kernel⟩
theorem ok_factors_of (fx : Mg mg)  (F : FunD K "factors_of" "factors_of" (defArgs s_factors_of) (defBody s_factors_of) (defScope s_factors_of) [] [] f fd) : FnOk P w K mg base (L2.CX P w) 1 f fd ["pattern"] (spM ⟨K, cls⟩ m_factors_of 1) := by
  have h : FnOk P w K mg base (L2.CX P w) (0 + 1) f fd ["pattern"] (spM ⟨K, cls⟩ (fnM N_factors_of.length b_factors_of) ["pattern"].length) := fnM_ok (k := 0) (G := ⟨K, cls⟩) (N := N_factors_of) (ps := ["pattern"]) b_factors_of F sc_factors_of fun cdv A outer s H E hr hu hp g W tk => (mss_cons (ms_par2 (i := 1) (j := 2) rfl sc_factors_of.nd rfl rfl (by decide) rfl rfl (fun _ => (me_lst ma_nil)) (fun _ => me_int) (by rfl)) (mss_cons (ms_while 100000 hp (mt_cmp o_lt (me_var (pv 2)) (me_callB (c_len rfl) rfl fx.n_len (by decide +kernel) (ma_cons (me_var (pv 0)) ma_nil)) (by rfl)) (mss_cons (ms_par2 (i := 3) (j := 4) rfl sc_factors_of.nd rfl rfl (by decide) rfl rfl (fun _ => (me_var (pv 2))) (fun _ => (me_bin (o_add rfl) (me_var (pv 2)) me_int)) (by rfl)) (mss_cons (ms_while 100000 hp (mt_w (mw_and (mt_cmp o_lt (me_var (pv 4)) (me_callB (c_len rfl) rfl fx.n_len (by decide +kernel) (ma_cons (me_var (pv 0)) ma_nil)) (by rfl)) (mw_and1 (mt_cmp o_le (me_ix (i_ix rfl) (me_var (pv 0)) (me_var (pv 3))) (me_ix (i_ix rfl) (me_var (pv 0)) (me_var (pv 4))) (by rfl))))) (mss_cons (ms_set (i := 3) sc_factors_of.nd rfl (by first | exact .inl rfl | exact .inr rfl) (me_ifExp (mt_cmp (o_eq rfl hu) (me_ix (i_ix rfl) (me_var (pv 0)) (me_var (pv 3))) (me_ix (i_ix rfl) (me_var (pv 0)) (me_var (pv 4))) (by rfl)) (me_bin (o_add rfl) (me_var (pv 3)) me_int) (me_var (pv 2)))) (mss_one (ms_aug (i := 4) sc_factors_of.nd rfl (by first | exact .inl rfl | exact .inr rfl) me_int io_add)))) (mss_cons (ms_set (i := 5) sc_factors_of.nd rfl (by first | exact .inl rfl | exact .inr rfl) (me_bin o_sub (me_var (pv 4)) (me_var (pv 3)))) (mss_one (ms_while 100000 hp (mt_cmp o_le (me_var (pv 2)) (me_var (pv 3)) (by rfl)) (mss_cons (ms_expr (me_om rfl PySem.F.plainAttrs_list PySem.F.slot_list_append PySem.F.type_list_append om_append (pv 1) (ma_cons (me_slice (s_slice rfl) (me_var (pv 0)) (mo_some (me_var (pv 2))) (mo_some (me_bin (o_add rfl) (me_var (pv 2)) (me_var (pv 5))))) ma_nil))) (mss_one (ms_aug (i := 2) sc_factors_of.nd rfl (by first | exact .inl rfl | exact .inr rfl) (me_var (pv 5)) io_add))))))))) (mss_one (ms_ret (me_var (pv 1))))))
  exact h
abbrev s_are_small : Stmt := top 12
abbrev N_are_small : List Str := ["text", "sign"]
theorem sc_are_small : FnScope N_are_small ["text"] (defScope s_are_small) := ⟨rfl, rfl, rfl, by decide +kernel, rfl, by decide +kernel, by decide +kernel⟩
theorem ok_are_small (fx : Mg mg)  (F : FunD K "are_small" "are_small" (defArgs s_are_small) (defBody s_are_small) (defScope s_are_small) [] [] f fd) : FnOk P w K mg base (L2.CX P w) 1 f fd ["text"] (spM ⟨K, cls⟩ m_are_small 1) := by
  have h : FnOk P w K mg base (L2.CX P w) (0 + 1) f fd ["text"] (spM ⟨K, cls⟩ (fnM N_are_small.length b_are_small) ["text"].length) := fnM_ok (k := 0) (G := ⟨K, cls⟩) (N := N_are_small) (ps := ["text"]) b_are_small F sc_are_small fun cdv A outer s H E hr hu hp g W tk => (mss_one (ms_ret (me_callB (c_all rfl) rfl fx.n_all (by decide +kernel) (ma_cons (me_lc (own := [("sign", 1)]) rfl sc_are_small.nd (mi_any rfl (me_var (pv 0))) (blkOk_by (N := N_are_small) (sc := defScope s_are_small) (by decide +kernel)) (fun _ _ _ _ _ _ => (mg_name (i := 1) sc_are_small.nd rfl (by first | exact .inl rfl | exact .inr rfl))) (fun _ _ _ _ _ _ => mts_nil) (fun _ _ _ _ _ _ => (me_chain o_le o_le (me_strL (by decide +kernel)) (me_var (pv 1)) (me_strL (by decide +kernel)))) (by decide)) ma_nil))))
  exact h
abbrev s_is_letters : Stmt := top 13
abbrev N_is_letters : List Str := ["value", "one", "other"]
theorem sc_is_letters : FnScope N_is_letters ["value"] (defScope s_is_letters) := ⟨rfl, rfl, rfl, by decide +kernel, rfl, by decide +kernel, by decide +kernel⟩
theorem ok_is_letters (fx : Mg mg) (c_are_small : Cal P w K mg base ⟨K, cls⟩ 1 "are_small" 1 m_are_small) (F : FunD K "is_letters" "is_letters" (defArgs s_is_letters) (defBody s_is_letters) (defScope s_is_letters) [] [] f fd) : FnOk P w K mg base (L2.CX P w) 2 f fd ["value"] (spM ⟨K, cls⟩ m_is_letters 1) := by
  have h : FnOk P w K mg base (L2.CX P w) (1 + 1) f fd ["value"] (spM ⟨K, cls⟩ (fnM N_is_letters.length b_is_letters) ["value"].length) := fnM_ok (k := 1) (G := ⟨K, cls⟩) (N := N_is_letters) (ps := ["value"]) b_is_letters F sc_is_letters fun cdv A outer s H E hr hu hp g W tk => (mss_cons (ms_if (mt_w (mw_or (mt_not (mt_truth rfl (me_isT rfl rfl fx.n_isinstance rfl fx.n_str (by decide +kernel) (by decide) (me_var (pv 0))))) (mw_or (mt_not (mt_chain o_le o_le me_int (me_callB (c_len rfl) rfl fx.n_len (by decide +kernel) (ma_cons (me_var (pv 0)) ma_nil)) (me_gint rfl fx.i_MOST_LETTERS))) (mw_or1 (mt_not (mt_truth rfl (me_call c_are_small hr (by decide) rfl tk (ma_cons (me_var (pv 0)) ma_nil)))))))) (mss_one (ms_ret me_bl)) mss_nil) (mss_one (ms_ret (me_callB (c_all rfl) rfl fx.n_all (by decide +kernel) (ma_cons (me_lc (own := [("one", 1), ("other", 2)]) rfl sc_is_letters.nd (mi_zip rfl rfl fx.n_zip (ma_cons (me_var (pv 0)) (ma_cons (me_slice (s_slice rfl) (me_var (pv 0)) (mo_some me_int) mo_none) ma_nil))) (blkOk_by (N := N_is_letters) (sc := defScope s_is_letters) (by decide +kernel)) (fun _ _ _ _ _ _ => (mg_tup rfl rfl (mgs_cons (mg_name (i := 1) sc_is_letters.nd rfl (by first | exact .inl rfl | exact .inr rfl)) (mgs_cons (mg_name (i := 2) sc_is_letters.nd rfl (by first | exact .inl rfl | exact .inr rfl)) mgs_nil)))) (fun _ _ _ _ _ _ => mts_nil) (fun _ _ _ _ _ _ => (me_cmp o_lt (me_var (pv 1)) (me_var (pv 2)) (by rfl))) (by decide)) ma_nil)))))
  exact h
abbrev s_require_letters : Stmt := top 15
abbrev N_require_letters : List Str := ["value"]
theorem sc_require_letters : FnScope N_require_letters ["value"] (defScope s_require_letters) := ⟨rfl, rfl, rfl, by decide +kernel, rfl, by decide +kernel, by decide +kernel⟩
theorem ok_require_letters (fx : Mg mg) (c_is_letters : Cal P w K mg base ⟨K, cls⟩ 2 "is_letters" 1 m_is_letters) (F : FunD K "require_letters" "require_letters" (defArgs s_require_letters) (defBody s_require_letters) (defScope s_require_letters) [] [] f fd) : FnOk P w K mg base (L2.CX P w) 3 f fd ["value"] (spM ⟨K, cls⟩ m_require_letters 1) := by
  have h : FnOk P w K mg base (L2.CX P w) (2 + 1) f fd ["value"] (spM ⟨K, cls⟩ (fnM N_require_letters.length b_require_letters) ["value"].length) := fnM_ok (k := 2) (G := ⟨K, cls⟩) (N := N_require_letters) (ps := ["value"]) b_require_letters F sc_require_letters fun cdv A outer s H E hr hu hp g W tk => (mss_one (ms_if (mt_not (mt_truth rfl (me_call c_is_letters hr (by decide) rfl tk (ma_cons (me_var (pv 0)) ma_nil)))) (mss_one ms_bad) mss_nil))
  exact h
abbrev s_is_pattern_within : Stmt := top 14
abbrev N_is_pattern_within : List Str := ["letters", "value", "sign"]
theorem sc_is_pattern_within : FnScope N_is_pattern_within ["letters", "value"] (defScope s_is_pattern_within) := ⟨rfl, rfl, rfl, by decide +kernel, rfl, by decide +kernel, by decide +kernel⟩
theorem ok_is_pattern_within (fx : Mg mg)  (F : FunD K "is_pattern_within" "is_pattern_within" (defArgs s_is_pattern_within) (defBody s_is_pattern_within) (defScope s_is_pattern_within) [] [] f fd) : FnOk P w K mg base (L2.CX P w) 1 f fd ["letters", "value"] (spM ⟨K, cls⟩ m_is_pattern_within 2) := by
  have h : FnOk P w K mg base (L2.CX P w) (0 + 1) f fd ["letters", "value"] (spM ⟨K, cls⟩ (fnM N_is_pattern_within.length b_is_pattern_within) ["letters", "value"].length) := fnM_ok (k := 0) (G := ⟨K, cls⟩) (N := N_is_pattern_within) (ps := ["letters", "value"]) b_is_pattern_within F sc_is_pattern_within fun cdv A outer s H E hr hu hp g W tk => (mss_one (ms_ret (me_and (me_isT rfl rfl fx.n_isinstance rfl fx.n_str (by decide +kernel) (by decide) (me_var (pv 1))) (me_and (me_cmp o_le (me_callB (c_len rfl) rfl fx.n_len (by decide +kernel) (ma_cons (me_var (pv 1)) ma_nil)) (me_gint rfl fx.i_MAX_PATTERN) (by rfl)) (me_one (me_callB (c_all rfl) rfl fx.n_all (by decide +kernel) (ma_cons (me_lc (own := [("sign", 2)]) rfl sc_is_pattern_within.nd (mi_any rfl (me_var (pv 1))) (blkOk_by (N := N_is_pattern_within) (sc := defScope s_is_pattern_within) (by decide +kernel)) (fun _ _ _ _ _ _ => (mg_name (i := 2) sc_is_pattern_within.nd rfl (by first | exact .inl rfl | exact .inr rfl))) (fun _ _ _ _ _ _ => mts_nil) (fun _ _ _ _ _ _ => (me_cmp (o_in rfl) (me_var (pv 2)) (me_var (pv 0)) (by rfl))) (by decide)) ma_nil)))))))
  exact h
abbrev s_require_pattern : Stmt := top 16
abbrev N_require_pattern : List Str := ["letters", "value"]
theorem sc_require_pattern : FnScope N_require_pattern ["letters", "value"] (defScope s_require_pattern) := ⟨rfl, rfl, rfl, by decide +kernel, rfl, by decide +kernel, by decide +kernel⟩
theorem ok_require_pattern (fx : Mg mg) (c_is_pattern_within : Cal P w K mg base ⟨K, cls⟩ 1 "is_pattern_within" 2 m_is_pattern_within) (F : FunD K "require_pattern" "require_pattern" (defArgs s_require_pattern) (defBody s_require_pattern) (defScope s_require_pattern) [] [] f fd) : FnOk P w K mg base (L2.CX P w) 2 f fd ["letters", "value"] (spM ⟨K, cls⟩ m_require_pattern 2) := by
  have h : FnOk P w K mg base (L2.CX P w) (1 + 1) f fd ["letters", "value"] (spM ⟨K, cls⟩ (fnM N_require_pattern.length b_require_pattern) ["letters", "value"].length) := fnM_ok (k := 1) (G := ⟨K, cls⟩) (N := N_require_pattern) (ps := ["letters", "value"]) b_require_pattern F sc_require_pattern fun cdv A outer s H E hr hu hp g W tk => (mss_one (ms_if (mt_not (mt_truth rfl (me_call c_is_pattern_within hr (by decide) rfl tk (ma_cons (me_var (pv 0)) (ma_cons (me_var (pv 1)) ma_nil))))) (mss_one ms_bad) mss_nil))
  exact h
abbrev s_factors : Stmt := top 25
abbrev N_factors : List Str := ["letters", "pattern"]
theorem sc_factors : FnScope N_factors ["letters", "pattern"] (defScope s_factors) := ⟨rfl, rfl, rfl, by decide +kernel, rfl, by decide +kernel, by decide +kernel⟩
theorem ok_factors (fx : Mg mg) (c_factors_of : Cal P w K mg base ⟨K, cls⟩ 1 "factors_of" 1 m_factors_of) (c_require_letters : Cal P w K mg base ⟨K, cls⟩ 3 "require_letters" 1 m_require_letters) (c_require_pattern : Cal P w K mg base ⟨K, cls⟩ 2 "require_pattern" 2 m_require_pattern) (F : FunD K "factors" "factors" (defArgs s_factors) (defBody s_factors) (defScope s_factors) [] [] f fd) : FnOk P w K mg base (L2.CX P w) 4 f fd ["letters", "pattern"] (spM ⟨K, cls⟩ m_factors 2) := by
  have h : FnOk P w K mg base (L2.CX P w) (3 + 1) f fd ["letters", "pattern"] (spM ⟨K, cls⟩ (fnM N_factors.length b_factors) ["letters", "pattern"].length) := fnM_ok (k := 3) (G := ⟨K, cls⟩) (N := N_factors) (ps := ["letters", "pattern"]) b_factors F sc_factors fun cdv A outer s H E hr hu hp g W tk => (mss_cons (ms_expr (me_call c_require_letters hr (by decide) rfl tk (ma_cons (me_var (pv 0)) ma_nil))) (mss_cons (ms_expr (me_call c_require_pattern hr (by decide) rfl tk (ma_cons (me_var (pv 0)) (ma_cons (me_var (pv 1)) ma_nil)))) (mss_one (ms_ret (me_callTy (c_tuple rfl) rfl fx.n_tuple (by decide +kernel) (ma_cons (me_call c_factors_of hr (by decide) rfl tk (ma_cons (me_var (pv 1)) ma_nil)) ma_nil))))))
  exact h
abbrev s__law_factors_right : Stmt := top 36
abbrev N__law_factors_right : List Str := ["signs", "line", "told", "longest", "piece", "at"]
theorem sc__law_factors_right : FnScope N__law_factors_right ["signs", "line"] (defScope s__law_factors_right) := ⟨rfl, rfl, rfl, by decide +kernel, rfl, by decide +kernel, by decide +kernel⟩
theorem ok__law_factors_right (fx : Mg mg) (c__law_leads : Cal P w K mg base ⟨K, cls⟩ 1 "_law_leads" 1 m__law_leads) (c_factors : Cal P w K mg base ⟨K, cls⟩ 4 "factors" 2 m_factors) (F : FunD K "_law_factors_right" "_law_factors_right" (defArgs s__law_factors_right) (defBody s__law_factors_right) (defScope s__law_factors_right) [] [] f fd) : FnOk P w K mg base (L2.CX P w) 5 f fd ["signs", "line"] (spM ⟨K, cls⟩ m__law_factors_right 2) := by
  have h : FnOk P w K mg base (L2.CX P w) (4 + 1) f fd ["signs", "line"] (spM ⟨K, cls⟩ (fnM N__law_factors_right.length b__law_factors_right) ["signs", "line"].length) := fnM_ok (k := 4) (G := ⟨K, cls⟩) (N := N__law_factors_right) (ps := ["signs", "line"]) b__law_factors_right F sc__law_factors_right fun cdv A outer s H E hr hu hp g W tk => (mss_cons (ms_set (i := 2) sc__law_factors_right.nd rfl (by first | exact .inl rfl | exact .inr rfl) (me_call c_factors hr (by decide) rfl tk (ma_cons (me_var (pv 0)) (ma_cons (me_var (pv 1)) ma_nil)))) (mss_cons (ms_if (mt_w (mw_or (mt_not (mt_truth rfl (me_isT rfl rfl fx.n_isinstance rfl fx.n_tuple (by decide +kernel) (by decide) (me_var (pv 2))))) (mw_or (mt_cmp (o_ne rfl hu) (me_bm rfl PySem.F.plainAttrs_str PySem.F.slot_str_join PySem.F.type_str_join (m_join rfl) (me_strL (by decide +kernel)) (ma_cons (me_var (pv 2)) ma_nil)) (me_var (pv 1)) (by rfl)) (mw_or1 (mt_cmp (o_ne rfl hu) (me_lc (own := [("piece", 4)]) rfl sc__law_factors_right.nd (mi_any rfl (me_var (pv 2))) (blkOk_by (N := N__law_factors_right) (sc := defScope s__law_factors_right) (by decide +kernel)) (fun _ _ _ _ _ _ => (mg_name (i := 4) sc__law_factors_right.nd rfl (by first | exact .inl rfl | exact .inr rfl))) (fun _ _ _ _ _ _ => (mts_one (mt_not (mt_truth rfl (me_call c__law_leads hr (by decide) rfl takesF (ma_cons (me_var (pv 4)) ma_nil)))))) (fun _ _ _ _ _ _ => (me_var (pv 4))) (by decide)) (me_lst ma_nil) (by rfl)))))) (mss_one (ms_ret me_bl)) mss_nil) (mss_cons (ms_if (mt_cmp (o_ne rfl hu) (me_lc (own := [("at", 5)]) rfl sc__law_factors_right.nd (mi_range1 rfl fx.n_range (ma_cons (me_bin o_sub (me_callB (c_len rfl) rfl fx.n_len (by decide +kernel) (ma_cons (me_var (pv 2)) ma_nil)) me_int) ma_nil)) (blkOk_by (N := N__law_factors_right) (sc := defScope s__law_factors_right) (by decide +kernel)) (fun _ _ _ _ _ _ => (mg_name (i := 5) sc__law_factors_right.nd rfl (by first | exact .inl rfl | exact .inr rfl))) (fun _ _ _ _ _ _ => (mts_one (mt_cmp o_lt (me_ix (i_ix rfl) (me_var (pv 2)) (me_var (pv 5))) (me_ix (i_ix rfl) (me_var (pv 2)) (me_bin (o_add rfl) (me_var (pv 5)) me_int)) (by rfl)))) (fun _ _ _ _ _ _ => (me_var (pv 5))) (by decide)) (me_lst ma_nil) (by rfl)) (mss_one (ms_ret me_bl)) mss_nil) (mss_cons (ms_if (mt_cmp (o_ne rfl hu) (me_cmp (o_eq rfl hu) (me_callB (c_len rfl) rfl fx.n_len (by decide +kernel) (ma_cons (me_var (pv 2)) ma_nil)) me_int (by rfl)) (me_call c__law_leads hr (by decide) rfl tk (ma_cons (me_var (pv 1)) ma_nil)) (by rfl)) (mss_one (ms_ret me_bl)) mss_nil) (mss_cons (ms_setLc (i := 3) (own := [("at", 5)]) rfl sc__law_factors_right.nd rfl rfl (sw_true rfl rfl rfl (by decide +kernel)) (mi_range1 rfl fx.n_range (ma_cons (me_bin (o_add rfl) (me_callB (c_len rfl) rfl fx.n_len (by decide +kernel) (ma_cons (me_var (pv 1)) ma_nil)) me_int) ma_nil)) (blkOk_by (N := N__law_factors_right) (sc := defScope s__law_factors_right) (by decide +kernel)) (fun _ _ _ _ _ _ => (mg_name (i := 5) sc__law_factors_right.nd rfl (by first | exact .inl rfl | exact .inr rfl))) (fun _ _ _ _ _ _ => (mts_one (mt_truth rfl (me_call c__law_leads hr (by decide) rfl takesF (ma_cons (me_slice (s_slice rfl) (me_var (pv 1)) mo_none (mo_some (me_var (pv 5)))) ma_nil))))) (fun _ _ _ _ _ _ => (me_slice (s_slice rfl) (me_var (pv 1)) mo_none (mo_some (me_var (pv 5))))) (by decide)) (mss_one (ms_ret (me_or (me_and (me_cmp (o_eq rfl hu) (me_var (pv 1)) (me_strL (by decide +kernel)) (by rfl)) (me_one (me_cmp (o_eq rfl hu) (me_var (pv 2)) (me_tup ma_nil) (by rfl)))) (me_one (me_and (me_cmp (o_ne rfl hu) (me_var (pv 1)) (me_strL (by decide +kernel)) (by rfl)) (me_one (me_cmp (o_eq rfl hu) (me_ix (i_ix rfl) (me_var (pv 2)) me_int) (me_ix (i_ix rfl) (me_var (pv 3)) (me_un u_neg me_int)) (by rfl)))))))))))))
  exact h
abbrev s__law_bit : Stmt := top 30
abbrev N__law_bit : List Str := ["tray", "much", "found", "first", "later"]
theorem sc__law_bit : FnScope N__law_bit ["tray", "much"] (defScope s__law_bit) := ⟨rfl, rfl, rfl, by decide +kernel, rfl, by decide +kernel, by decide +kernel⟩
theorem ok__law_bit (fx : Mg mg)  (F : FunD K "_law_bit" "_law_bit" (defArgs s__law_bit) (defBody s__law_bit) (defScope s__law_bit) [] [] f fd) : FnOk P w K mg base (L2.CX P w) 1 f fd ["tray", "much"] (spM ⟨K, cls⟩ m__law_bit 2) := by
  have h : FnOk P w K mg base (L2.CX P w) (0 + 1) f fd ["tray", "much"] (spM ⟨K, cls⟩ (fnM N__law_bit.length b__law_bit) ["tray", "much"].length) := fnM_ok (k := 0) (G := ⟨K, cls⟩) (N := N__law_bit) (ps := ["tray", "much"]) b__law_bit F sc__law_bit fun cdv A outer s H E hr hu hp g W tk => (mss_cons (ms_if (mt_cmp o_gt (me_ix (i_ix rfl) (me_var (pv 0)) me_int) me_int (by rfl)) (mss_cons (ms_set (i := 2) sc__law_bit.nd rfl (by first | exact .inl rfl | exact .inr rfl) (me_bin o_mod (me_callTy c_int rfl fx.n_int (by decide +kernel) (ma_cons (me_ix (i_ix rfl) (me_var (pv 0)) me_int) ma_nil)) (me_var (pv 1)))) (mss_cons (ms_setIx (pv 0) me_int (me_bin o_fdiv (me_ix (i_ix rfl) (me_var (pv 0)) me_int) (me_var (pv 1)))) (mss_one (ms_ret (me_var (pv 2)))))) mss_nil) (mss_cons (ms_setIx (pv 0) me_int (me_bin (o_add rfl) (me_ix (i_ix rfl) (me_var (pv 0)) me_int) me_int)) (mss_cons (ms_set (i := 3) sc__law_bit.nd rfl (by first | exact .inl rfl | exact .inr rfl) (me_bin o_mod (me_callTy c_int rfl fx.n_int (by decide +kernel) (ma_cons (me_bin (o_add rfl) (me_ix (i_ix rfl) (me_var (pv 0)) me_int) (me_bin (o_mul rfl) me_int (me_ix (i_ix rfl) (me_var (pv 0)) me_int))) ma_nil)) me_int)) (mss_cons (ms_set (i := 4) sc__law_bit.nd rfl (by first | exact .inl rfl | exact .inr rfl) (me_bin (o_add rfl) (me_bin (o_mul rfl) (me_bin o_mod (me_callTy c_int rfl fx.n_int (by decide +kernel) (ma_cons (me_bin (o_mul rfl) (me_var (pv 3)) (me_var (pv 3))) ma_nil)) me_int) (me_var (pv 3))) (me_bin (o_mul rfl) me_int (me_ix (i_ix rfl) (me_var (pv 0)) me_int)))) (mss_one (ms_ret (me_bin o_mod (me_callTy c_int rfl fx.n_int (by decide +kernel) (ma_cons (me_bin o_fdiv (me_bin o_mod (me_callTy c_int rfl fx.n_int (by decide +kernel) (ma_cons (me_var (pv 4)) ma_nil)) me_int) me_int) ma_nil)) (me_var (pv 1)))))))))
  exact h
abbrev s__law_pick : Stmt := top 31
abbrev N__law_pick : List Str := ["tray", "items"]
theorem sc__law_pick : FnScope N__law_pick ["tray", "items"] (defScope s__law_pick) := ⟨rfl, rfl, rfl, by decide +kernel, rfl, by decide +kernel, by decide +kernel⟩
theorem ok__law_pick (fx : Mg mg) (c__law_bit : Cal P w K mg base ⟨K, cls⟩ 1 "_law_bit" 2 m__law_bit) (F : FunD K "_law_pick" "_law_pick" (defArgs s__law_pick) (defBody s__law_pick) (defScope s__law_pick) [] [] f fd) : FnOk P w K mg base (L2.CX P w) 2 f fd ["tray", "items"] (spM ⟨K, cls⟩ m__law_pick 2) := by
  have h : FnOk P w K mg base (L2.CX P w) (1 + 1) f fd ["tray", "items"] (spM ⟨K, cls⟩ (fnM N__law_pick.length b__law_pick) ["tray", "items"].length) := fnM_ok (k := 1) (G := ⟨K, cls⟩) (N := N__law_pick) (ps := ["tray", "items"]) b__law_pick F sc__law_pick fun cdv A outer s H E hr hu hp g W tk => (mss_one (ms_ret (me_ix (i_ix rfl) (me_var (pv 1)) (me_call c__law_bit hr (by decide) rfl tk (ma_cons (me_var (pv 0)) (ma_cons (me_callB (c_len rfl) rfl fx.n_len (by decide +kernel) (ma_cons (me_var (pv 1)) ma_nil)) ma_nil))))))
  exact h
abbrev s__law_line : Stmt := top 33
abbrev N__law_line : List Str := ["tray", "signs", "most", "turn"]
theorem sc__law_line : FnScope N__law_line ["tray", "signs", "most"] (defScope s__law_line) := ⟨rfl, rfl, rfl, by decide +kernel, rfl, by decide +kernel, by decide +kernel⟩
theorem ok__law_line (fx : Mg mg) (c__law_bit : Cal P w K mg base ⟨K, cls⟩ 1 "_law_bit" 2 m__law_bit) (c__law_pick : Cal P w K mg base ⟨K, cls⟩ 2 "_law_pick" 2 m__law_pick) (F : FunD K "_law_line" "_law_line" (defArgs s__law_line) (defBody s__law_line) (defScope s__law_line) [] [] f fd) : FnOk P w K mg base (L2.CX P w) 3 f fd ["tray", "signs", "most"] (spM ⟨K, cls⟩ m__law_line 3) := by
  have h : FnOk P w K mg base (L2.CX P w) (2 + 1) f fd ["tray", "signs", "most"] (spM ⟨K, cls⟩ (fnM N__law_line.length b__law_line) ["tray", "signs", "most"].length) := fnM_ok (k := 2) (G := ⟨K, cls⟩) (N := N__law_line) (ps := ["tray", "signs", "most"]) b__law_line F sc__law_line fun cdv A outer s H E hr hu hp g W tk => (mss_one (ms_ret (me_bm rfl PySem.F.plainAttrs_str PySem.F.slot_str_join PySem.F.type_str_join (m_join rfl) (me_strL (by decide +kernel)) (ma_cons (me_lc (own := [("turn", 3)]) rfl sc__law_line.nd (mi_range1 rfl fx.n_range (ma_cons (me_call c__law_bit hr (by decide) rfl tk (ma_cons (me_var (pv 0)) (ma_cons (me_bin (o_add rfl) (me_var (pv 2)) me_int) ma_nil))) ma_nil)) (blkOk_by (N := N__law_line) (sc := defScope s__law_line) (by decide +kernel)) (fun _ _ _ _ _ _ => (mg_name (i := 3) sc__law_line.nd rfl (by first | exact .inl rfl | exact .inr rfl))) (fun _ _ _ _ _ _ => mts_nil) (fun _ _ _ _ _ _ => (me_call c__law_pick hr (by decide) rfl takesF (ma_cons (me_var (pv 0)) (ma_cons (me_var (pv 1)) ma_nil)))) (by decide)) ma_nil))))
  exact h
abbrev s__law_lines_to : Stmt := top 34
abbrev N__law_lines_to : List Str := ["signs", "deep", "found", "layer", "turn", "longer", "line", "sign"]
theorem sc__law_lines_to : FnScope N__law_lines_to ["signs", "deep"] (defScope s__law_lines_to) := ⟨rfl, rfl, rfl, by decide +kernel, rfl, by decide +kernel, by decide +kernel⟩
theorem ok__law_lines_to (fx : Mg mg)  (F : FunD K "_law_lines_to" "_law_lines_to" (defArgs s__law_lines_to) (defBody s__law_lines_to) (defScope s__law_lines_to) [] [] f fd) : FnOk P w K mg base (L2.CX P w) 1 f fd ["signs", "deep"] (spM ⟨K, cls⟩ m__law_lines_to 2) := by
  have h : FnOk P w K mg base (L2.CX P w) (0 + 1) f fd ["signs", "deep"] (spM ⟨K, cls⟩ (fnM N__law_lines_to.length b__law_lines_to) ["signs", "deep"].length) := fnM_ok (k := 0) (G := ⟨K, cls⟩) (N := N__law_lines_to) (ps := ["signs", "deep"]) b__law_lines_to F sc__law_lines_to fun cdv A outer s H E hr hu hp g W tk => (mss_cons (ms_par2 (i := 2) (j := 3) rfl sc__law_lines_to.nd rfl rfl (by decide) rfl rfl (fun _ => (me_lst ma_nil)) (fun _ => (me_lst (ma_cons (me_strL (by decide +kernel)) ma_nil))) (by rfl)) (mss_cons (ms_for hp rfl (mi_range1 rfl fx.n_range (ma_cons (me_var (pv 1)) ma_nil)) (mg_name (i := 4) sc__law_lines_to.nd rfl (by first | exact .inl rfl | exact .inr rfl)) (mss_cons (ms_set (i := 5) sc__law_lines_to.nd rfl (by first | exact .inl rfl | exact .inr rfl) (me_lst ma_nil)) (mss_cons (ms_for hp rfl (mi_any rfl (me_var (pv 3))) (mg_name (i := 6) sc__law_lines_to.nd rfl (by first | exact .inl rfl | exact .inr rfl)) (mss_one (ms_set (i := 5) sc__law_lines_to.nd rfl (by first | exact .inl rfl | exact .inr rfl) (me_bin (o_add rfl) (me_var (pv 5)) (me_lc (own := [("sign", 7)]) rfl sc__law_lines_to.nd (mi_any rfl (me_var (pv 0))) (blkOk_by (N := N__law_lines_to) (sc := defScope s__law_lines_to) (by decide +kernel)) (fun _ _ _ _ _ _ => (mg_name (i := 7) sc__law_lines_to.nd rfl (by first | exact .inl rfl | exact .inr rfl))) (fun _ _ _ _ _ _ => mts_nil) (fun _ _ _ _ _ _ => (me_bin (o_add rfl) (me_var (pv 6)) (me_var (pv 7)))) (by decide)))))) (mss_one (ms_par2 (i := 2) (j := 3) rfl sc__law_lines_to.nd rfl rfl (by decide) rfl rfl (fun _ => (me_bin (o_add rfl) (me_var (pv 2)) (me_var (pv 5)))) (fun _ => (me_var (pv 5))) (by rfl)))))) (mss_one (ms_ret (me_var (pv 2))))))
  exact h
abbrev s__law_signs : Stmt := top 32
abbrev N__law_signs : List Str := ["tray"]
theorem sc__law_signs : FnScope N__law_signs ["tray"] (defScope s__law_signs) := ⟨rfl, rfl, rfl, by decide +kernel, rfl, by decide +kernel, by decide +kernel⟩
theorem ok__law_signs (fx : Mg mg) (c__law_pick : Cal P w K mg base ⟨K, cls⟩ 2 "_law_pick" 2 m__law_pick) (F : FunD K "_law_signs" "_law_signs" (defArgs s__law_signs) (defBody s__law_signs) (defScope s__law_signs) [] [] f fd) : FnOk P w K mg base (L2.CX P w) 3 f fd ["tray"] (spM ⟨K, cls⟩ m__law_signs 1) := by
  have h : FnOk P w K mg base (L2.CX P w) (2 + 1) f fd ["tray"] (spM ⟨K, cls⟩ (fnM N__law_signs.length b__law_signs) ["tray"].length) := fnM_ok (k := 2) (G := ⟨K, cls⟩) (N := N__law_signs) (ps := ["tray"]) b__law_signs F sc__law_signs fun cdv A outer s H E hr hu hp g W tk => (mss_one (ms_ret (me_call c__law_pick hr (by decide) rfl tk (ma_cons (me_var (pv 0)) (ma_cons (me_lst (ma_cons (me_strL (by decide +kernel)) (ma_cons (me_strL (by decide +kernel)) (ma_cons (me_strL (by decide +kernel)) (ma_cons (me_strL (by decide +kernel)) (ma_cons (me_strL (by decide +kernel)) (ma_cons (me_strL (by decide +kernel)) ma_nil))))))) ma_nil)))))
  exact h
abbrev s_is_leading_of : Stmt := top 21
abbrev N_is_leading_of : List Str := ["pattern", "at"]
theorem sc_is_leading_of : FnScope N_is_leading_of ["pattern"] (defScope s_is_leading_of) := ⟨rfl, rfl, rfl, by decide +kernel, rfl, by decide +kernel, by decide +kernel⟩
theorem ok_is_leading_of (fx : Mg mg)  (F : FunD K "is_leading_of" "is_leading_of" (defArgs s_is_leading_of) (defBody s_is_leading_of) (defScope s_is_leading_of) [] [] f fd) : FnOk P w K mg base (L2.CX P w) 1 f fd ["pattern"] (spM ⟨K, cls⟩ m_is_leading_of 1) := by
  have h : FnOk P w K mg base (L2.CX P w) (0 + 1) f fd ["pattern"] (spM ⟨K, cls⟩ (fnM N_is_leading_of.length b_is_leading_of) ["pattern"].length) := fnM_ok (k := 0) (G := ⟨K, cls⟩) (N := N_is_leading_of) (ps := ["pattern"]) b_is_leading_of F sc_is_leading_of fun cdv A outer s H E hr hu hp g W tk => (mss_one (ms_ret (me_and (me_cmp (o_ne rfl hu) (me_var (pv 0)) (me_strL (by decide +kernel)) (by rfl)) (me_one (me_callB (c_all rfl) rfl fx.n_all (by decide +kernel) (ma_cons (me_lc (own := [("at", 1)]) rfl sc_is_leading_of.nd (mi_range2 rfl fx.n_range (ma_cons me_int (ma_cons (me_callB (c_len rfl) rfl fx.n_len (by decide +kernel) (ma_cons (me_var (pv 0)) ma_nil)) ma_nil))) (blkOk_by (N := N_is_leading_of) (sc := defScope s_is_leading_of) (by decide +kernel)) (fun _ _ _ _ _ _ => (mg_name (i := 1) sc_is_leading_of.nd rfl (by first | exact .inl rfl | exact .inr rfl))) (fun _ _ _ _ _ _ => mts_nil) (fun _ _ _ _ _ _ => (me_cmp o_lt (me_var (pv 0)) (me_slice (s_slice rfl) (me_var (pv 0)) (mo_some (me_var (pv 1))) mo_none) (by rfl))) (by decide)) ma_nil))))))
  exact h
abbrev s_is_leading : Stmt := top 24
abbrev N_is_leading : List Str := ["letters", "value"]
theorem sc_is_leading : FnScope N_is_leading ["letters", "value"] (defScope s_is_leading) := ⟨rfl, rfl, rfl, by decide +kernel, rfl, by decide +kernel, by decide +kernel⟩
theorem ok_is_leading (fx : Mg mg) (c_is_leading_of : Cal P w K mg base ⟨K, cls⟩ 1 "is_leading_of" 1 m_is_leading_of) (c_is_pattern_within : Cal P w K mg base ⟨K, cls⟩ 1 "is_pattern_within" 2 m_is_pattern_within) (c_require_letters : Cal P w K mg base ⟨K, cls⟩ 3 "require_letters" 1 m_require_letters) (F : FunD K "is_leading" "is_leading" (defArgs s_is_leading) (defBody s_is_leading) (defScope s_is_leading) [] [] f fd) : FnOk P w K mg base (L2.CX P w) 4 f fd ["letters", "value"] (spM ⟨K, cls⟩ m_is_leading 2) := by
  have h : FnOk P w K mg base (L2.CX P w) (3 + 1) f fd ["letters", "value"] (spM ⟨K, cls⟩ (fnM N_is_leading.length b_is_leading) ["letters", "value"].length) := fnM_ok (k := 3) (G := ⟨K, cls⟩) (N := N_is_leading) (ps := ["letters", "value"]) b_is_leading F sc_is_leading fun cdv A outer s H E hr hu hp g W tk => (mss_cons (ms_expr (me_call c_require_letters hr (by decide) rfl tk (ma_cons (me_var (pv 0)) ma_nil))) (mss_one (ms_ret (me_and (me_call c_is_pattern_within hr (by decide) rfl tk (ma_cons (me_var (pv 0)) (ma_cons (me_var (pv 1)) ma_nil))) (me_one (me_call c_is_leading_of hr (by decide) rfl tk (ma_cons (me_var (pv 1)) ma_nil)))))))
  exact h
abbrev s_patterns_in : Stmt := top 20
abbrev N_patterns_in : List Str := ["letters", "depth", "found", "layer", "turn", "pattern", "letter"]
theorem sc_patterns_in : FnScope N_patterns_in ["letters", "depth"] (defScope s_patterns_in) := ⟨rfl, rfl, rfl, by decide +kernel, rfl, by decide +kernel, by decide +kernel⟩
theorem ok_patterns_in (fx : Mg mg)  (F : FunD K "patterns_in" "patterns_in" (defArgs s_patterns_in) (defBody s_patterns_in) (defScope s_patterns_in) [] [] f fd) : FnOk P w K mg base (L2.CX P w) 1 f fd ["letters", "depth"] (spM ⟨K, cls⟩ m_patterns_in 2) := by
  have h : FnOk P w K mg base (L2.CX P w) (0 + 1) f fd ["letters", "depth"] (spM ⟨K, cls⟩ (fnM N_patterns_in.length b_patterns_in) ["letters", "depth"].length) := fnM_ok (k := 0) (G := ⟨K, cls⟩) (N := N_patterns_in) (ps := ["letters", "depth"]) b_patterns_in F sc_patterns_in fun cdv A outer s H E hr hu hp g W tk => (mss_cons (ms_par2 (i := 2) (j := 3) rfl sc_patterns_in.nd rfl rfl (by decide) rfl rfl (fun _ => (me_lst ma_nil)) (fun _ => (me_lst (ma_cons (me_strL (by decide +kernel)) ma_nil))) (by rfl)) (mss_cons (ms_for hp rfl (mi_range1 rfl fx.n_range (ma_cons (me_var (pv 1)) ma_nil)) (mg_name (i := 4) sc_patterns_in.nd rfl (by first | exact .inl rfl | exact .inr rfl)) (mss_cons (ms_setLc2 (i := 3) (own := [("pattern", 5), ("letter", 6)]) rfl sc_patterns_in.nd rfl rfl (sw_true rfl rfl rfl (by decide +kernel)) (mi_any rfl (me_var (pv 3))) (blkOk_by (N := N_patterns_in) (sc := defScope s_patterns_in) (by decide +kernel)) (by decide) (by decide) (by decide) (fun _ _ _ _ _ _ => (mg_name (i := 5) sc_patterns_in.nd rfl (by first | exact .inl rfl | exact .inr rfl))) (fun _ _ _ _ _ _ => mts_nil) (fun _ _ _ _ _ _ => (mi_any rfl (me_var (pv 0)))) (fun _ _ _ _ _ _ => (mg_name (i := 6) sc_patterns_in.nd rfl (by first | exact .inl rfl | exact .inr rfl))) (fun _ _ _ _ _ _ => mts_nil) (fun _ _ _ _ _ _ => (me_bin (o_add rfl) (me_var (pv 5)) (me_var (pv 6))))) (mss_one (ms_set (i := 2) sc_patterns_in.nd rfl (by first | exact .inl rfl | exact .inr rfl) (me_lst (ma_star rfl (me_var (pv 2)) (ma_star rfl (me_var (pv 3)) ma_nil))))))) (mss_one (ms_ret (me_var (pv 2))))))
  exact h
abbrev s_leading_in : Stmt := top 22
abbrev N_leading_in : List Str := ["letters", "depth", "pattern"]
theorem sc_leading_in : FnScope N_leading_in ["letters", "depth"] (defScope s_leading_in) := ⟨rfl, rfl, rfl, by decide +kernel, rfl, by decide +kernel, by decide +kernel⟩
theorem ok_leading_in (fx : Mg mg) (c_is_leading_of : Cal P w K mg base ⟨K, cls⟩ 1 "is_leading_of" 1 m_is_leading_of) (c_patterns_in : Cal P w K mg base ⟨K, cls⟩ 1 "patterns_in" 2 m_patterns_in) (F : FunD K "leading_in" "leading_in" (defArgs s_leading_in) (defBody s_leading_in) (defScope s_leading_in) [] [] f fd) : FnOk P w K mg base (L2.CX P w) 2 f fd ["letters", "depth"] (spM ⟨K, cls⟩ m_leading_in 2) := by
  have h : FnOk P w K mg base (L2.CX P w) (1 + 1) f fd ["letters", "depth"] (spM ⟨K, cls⟩ (fnM N_leading_in.length b_leading_in) ["letters", "depth"].length) := fnM_ok (k := 1) (G := ⟨K, cls⟩) (N := N_leading_in) (ps := ["letters", "depth"]) b_leading_in F sc_leading_in fun cdv A outer s H E hr hu hp g W tk => (mss_one (ms_ret (me_lc (own := [("pattern", 2)]) rfl sc_leading_in.nd (mi_any rfl (me_call c_patterns_in hr (by decide) rfl tk (ma_cons (me_var (pv 0)) (ma_cons (me_var (pv 1)) ma_nil)))) (blkOk_by (N := N_leading_in) (sc := defScope s_leading_in) (by decide +kernel)) (fun _ _ _ _ _ _ => (mg_name (i := 2) sc_leading_in.nd rfl (by first | exact .inl rfl | exact .inr rfl))) (fun _ _ _ _ _ _ => (mts_one (mt_truth rfl (me_call c_is_leading_of hr (by decide) rfl takesF (ma_cons (me_var (pv 2)) ma_nil))))) (fun _ _ _ _ _ _ => (me_var (pv 2))) (by decide))))
  exact h
abbrev s_is_integer : Stmt := top 10
abbrev N_is_integer : List Str := ["value"]
theorem sc_is_integer : FnScope N_is_integer ["value"] (defScope s_is_integer) := ⟨rfl, rfl, rfl, by decide +kernel, rfl, by decide +kernel, by decide +kernel⟩
theorem ok_is_integer (fx : Mg mg)  (F : FunD K "is_integer" "is_integer" (defArgs s_is_integer) (defBody s_is_integer) (defScope s_is_integer) [] [] f fd) : FnOk P w K mg base (L2.CX P w) 1 f fd ["value"] (spM ⟨K, cls⟩ m_is_integer 1) := by
  have h : FnOk P w K mg base (L2.CX P w) (0 + 1) f fd ["value"] (spM ⟨K, cls⟩ (fnM N_is_integer.length b_is_integer) ["value"].length) := fnM_ok (k := 0) (G := ⟨K, cls⟩) (N := N_is_integer) (ps := ["value"]) b_is_integer F sc_is_integer fun cdv A outer s H E hr hu hp g W tk => (mss_one (ms_ret (me_and (me_isT rfl rfl fx.n_isinstance rfl fx.n_int (by decide +kernel) (by decide) (me_var (pv 0))) (me_and (me_not (me_isT rfl rfl fx.n_isinstance rfl fx.n_bool (by decide +kernel) (by decide) (me_var (pv 0)))) (me_one (me_chain o_le o_le (me_un u_neg (me_gint rfl fx.i_GREATEST)) (me_var (pv 0)) (me_gint rfl fx.i_GREATEST)))))))
  exact h
abbrev s_is_integer_within : Stmt := top 11
abbrev N_is_integer_within : List Str := ["value", "low", "high"]
theorem sc_is_integer_within : FnScope N_is_integer_within ["value", "low", "high"] (defScope s_is_integer_within) := ⟨rfl, rfl, rfl, by decide +kernel, rfl, by decide +kernel, by decide +kernel⟩
theorem ok_is_integer_within (fx : Mg mg) (c_is_integer : Cal P w K mg base ⟨K, cls⟩ 1 "is_integer" 1 m_is_integer) (F : FunD K "is_integer_within" "is_integer_within" (defArgs s_is_integer_within) (defBody s_is_integer_within) (defScope s_is_integer_within) [] [] f fd) : FnOk P w K mg base (L2.CX P w) 2 f fd ["value", "low", "high"] (spM ⟨K, cls⟩ m_is_integer_within 3) := by
  have h : FnOk P w K mg base (L2.CX P w) (1 + 1) f fd ["value", "low", "high"] (spM ⟨K, cls⟩ (fnM N_is_integer_within.length b_is_integer_within) ["value", "low", "high"].length) := fnM_ok (k := 1) (G := ⟨K, cls⟩) (N := N_is_integer_within) (ps := ["value", "low", "high"]) b_is_integer_within F sc_is_integer_within fun cdv A outer s H E hr hu hp g W tk => (mss_one (ms_ret (me_and (me_call c_is_integer hr (by decide) rfl tk (ma_cons (me_var (pv 0)) ma_nil)) (me_one (me_chain o_le o_le (me_var (pv 1)) (me_var (pv 0)) (me_var (pv 2)))))))
  exact h
abbrev s_require_within : Stmt := top 17
abbrev N_require_within : List Str := ["value", "low", "high"]
theorem sc_require_within : FnScope N_require_within ["value", "low", "high"] (defScope s_require_within) := ⟨rfl, rfl, rfl, by decide +kernel, rfl, by decide +kernel, by decide +kernel⟩
theorem ok_require_within (fx : Mg mg) (c_is_integer_within : Cal P w K mg base ⟨K, cls⟩ 2 "is_integer_within" 3 m_is_integer_within) (F : FunD K "require_within" "require_within" (defArgs s_require_within) (defBody s_require_within) (defScope s_require_within) [] [] f fd) : FnOk P w K mg base (L2.CX P w) 3 f fd ["value", "low", "high"] (spM ⟨K, cls⟩ m_require_within 3) := by
  have h : FnOk P w K mg base (L2.CX P w) (2 + 1) f fd ["value", "low", "high"] (spM ⟨K, cls⟩ (fnM N_require_within.length b_require_within) ["value", "low", "high"].length) := fnM_ok (k := 2) (G := ⟨K, cls⟩) (N := N_require_within) (ps := ["value", "low", "high"]) b_require_within F sc_require_within fun cdv A outer s H E hr hu hp g W tk => (mss_one (ms_if (mt_not (mt_truth rfl (me_call c_is_integer_within hr (by decide) rfl tk (ma_cons (me_var (pv 0)) (ma_cons (me_var (pv 1)) (ma_cons (me_var (pv 2)) ma_nil)))))) (mss_one ms_bad) mss_nil))
  exact h
abbrev s_require_depth : Stmt := top 18
abbrev N_require_depth : List Str := ["value"]
theorem sc_require_depth : FnScope N_require_depth ["value"] (defScope s_require_depth) := ⟨rfl, rfl, rfl, by decide +kernel, rfl, by decide +kernel, by decide +kernel⟩
theorem ok_require_depth (fx : Mg mg) (c_require_within : Cal P w K mg base ⟨K, cls⟩ 3 "require_within" 3 m_require_within) (F : FunD K "require_depth" "require_depth" (defArgs s_require_depth) (defBody s_require_depth) (defScope s_require_depth) [] [] f fd) : FnOk P w K mg base (L2.CX P w) 4 f fd ["value"] (spM ⟨K, cls⟩ m_require_depth 1) := by
  have h : FnOk P w K mg base (L2.CX P w) (3 + 1) f fd ["value"] (spM ⟨K, cls⟩ (fnM N_require_depth.length b_require_depth) ["value"].length) := fnM_ok (k := 3) (G := ⟨K, cls⟩) (N := N_require_depth) (ps := ["value"]) b_require_depth F sc_require_depth fun cdv A outer s H E hr hu hp g W tk => (mss_one (ms_expr (me_call c_require_within hr (by decide) rfl tk (ma_cons (me_var (pv 0)) (ma_cons me_int (ma_cons (me_gint rfl fx.i_MAX_DEPTH) ma_nil))))))
  exact h
abbrev s_leading_of : Stmt := top 27
abbrev N_leading_of : List Str := ["letters", "depth"]
theorem sc_leading_of : FnScope N_leading_of ["letters", "depth"] (defScope s_leading_of) := ⟨rfl, rfl, rfl, by decide +kernel, rfl, by decide +kernel, by decide +kernel⟩
theorem ok_leading_of (fx : Mg mg) (c_leading_in : Cal P w K mg base ⟨K, cls⟩ 2 "leading_in" 2 m_leading_in) (c_require_depth : Cal P w K mg base ⟨K, cls⟩ 4 "require_depth" 1 m_require_depth) (c_require_letters : Cal P w K mg base ⟨K, cls⟩ 3 "require_letters" 1 m_require_letters) (F : FunD K "leading_of" "leading_of" (defArgs s_leading_of) (defBody s_leading_of) (defScope s_leading_of) [] [] f fd) : FnOk P w K mg base (L2.CX P w) 5 f fd ["letters", "depth"] (spM ⟨K, cls⟩ m_leading_of 2) := by
  have h : FnOk P w K mg base (L2.CX P w) (4 + 1) f fd ["letters", "depth"] (spM ⟨K, cls⟩ (fnM N_leading_of.length b_leading_of) ["letters", "depth"].length) := fnM_ok (k := 4) (G := ⟨K, cls⟩) (N := N_leading_of) (ps := ["letters", "depth"]) b_leading_of F sc_leading_of fun cdv A outer s H E hr hu hp g W tk => (mss_cons (ms_expr (me_call c_require_letters hr (by decide) rfl tk (ma_cons (me_var (pv 0)) ma_nil))) (mss_cons (ms_expr (me_call c_require_depth hr (by decide) rfl tk (ma_cons (me_var (pv 1)) ma_nil))) (mss_one (ms_ret (me_callTy (c_tuple rfl) rfl fx.n_tuple (by decide +kernel) (ma_cons (me_call c_leading_in hr (by decide) rfl tk (ma_cons (me_var (pv 0)) (ma_cons (me_var (pv 1)) ma_nil))) ma_nil))))))
  exact h
abbrev s_patterns_of : Stmt := top 26
abbrev N_patterns_of : List Str := ["letters", "depth"]
theorem sc_patterns_of : FnScope N_patterns_of ["letters", "depth"] (defScope s_patterns_of) := ⟨rfl, rfl, rfl, by decide +kernel, rfl, by decide +kernel, by decide +kernel⟩
theorem ok_patterns_of (fx : Mg mg) (c_patterns_in : Cal P w K mg base ⟨K, cls⟩ 1 "patterns_in" 2 m_patterns_in) (c_require_depth : Cal P w K mg base ⟨K, cls⟩ 4 "require_depth" 1 m_require_depth) (c_require_letters : Cal P w K mg base ⟨K, cls⟩ 3 "require_letters" 1 m_require_letters) (F : FunD K "patterns_of" "patterns_of" (defArgs s_patterns_of) (defBody s_patterns_of) (defScope s_patterns_of) [] [] f fd) : FnOk P w K mg base (L2.CX P w) 5 f fd ["letters", "depth"] (spM ⟨K, cls⟩ m_patterns_of 2) := by
  have h : FnOk P w K mg base (L2.CX P w) (4 + 1) f fd ["letters", "depth"] (spM ⟨K, cls⟩ (fnM N_patterns_of.length b_patterns_of) ["letters", "depth"].length) := fnM_ok (k := 4) (G := ⟨K, cls⟩) (N := N_patterns_of) (ps := ["letters", "depth"]) b_patterns_of F sc_patterns_of fun cdv A outer s H E hr hu hp g W tk => (mss_cons (ms_expr (me_call c_require_letters hr (by decide) rfl tk (ma_cons (me_var (pv 0)) ma_nil))) (mss_cons (ms_expr (me_call c_require_depth hr (by decide) rfl tk (ma_cons (me_var (pv 1)) ma_nil))) (mss_one (ms_ret (me_callTy (c_tuple rfl) rfl fx.n_tuple (by decide +kernel) (ma_cons (me_call c_patterns_in hr (by decide) rfl tk (ma_cons (me_var (pv 0)) (ma_cons (me_var (pv 1)) ma_nil))) ma_nil))))))
  exact h
abbrev s__law_right : Stmt := top 37
abbrev N__law_right : List Str := ["tray", "signs", "deep", "known", "line", "odd", "turn", "value"]
theorem sc__law_right : FnScope N__law_right ["tray"] (defScope s__law_right) := ⟨rfl, rfl, rfl, by decide +kernel, rfl, by decide +kernel, by decide +kernel⟩
theorem ok__law_right (fx : Mg mg) (c__law_factors_right : Cal P w K mg base ⟨K, cls⟩ 5 "_law_factors_right" 2 m__law_factors_right) (c__law_leads : Cal P w K mg base ⟨K, cls⟩ 1 "_law_leads" 1 m__law_leads) (c__law_line : Cal P w K mg base ⟨K, cls⟩ 3 "_law_line" 3 m__law_line) (c__law_lines_to : Cal P w K mg base ⟨K, cls⟩ 1 "_law_lines_to" 2 m__law_lines_to) (c__law_signs : Cal P w K mg base ⟨K, cls⟩ 3 "_law_signs" 1 m__law_signs) (c_is_leading : Cal P w K mg base ⟨K, cls⟩ 4 "is_leading" 2 m_is_leading) (c_leading_of : Cal P w K mg base ⟨K, cls⟩ 5 "leading_of" 2 m_leading_of) (c_patterns_of : Cal P w K mg base ⟨K, cls⟩ 5 "patterns_of" 2 m_patterns_of) (F : FunD K "_law_right" "_law_right" (defArgs s__law_right) (defBody s__law_right) (defScope s__law_right) [] [] f fd) : FnOk P w K mg base (L2.CX P w) 6 f fd ["tray"] (spM ⟨K, cls⟩ m__law_right 1) := by
  have h : FnOk P w K mg base (L2.CX P w) (5 + 1) f fd ["tray"] (spM ⟨K, cls⟩ (fnM N__law_right.length b__law_right) ["tray"].length) := fnM_ok (k := 5) (G := ⟨K, cls⟩) (N := N__law_right) (ps := ["tray"]) b__law_right F sc__law_right fun cdv A outer s H E hr hu hp g W tk => (mss_cons (ms_set (i := 1) sc__law_right.nd rfl (by first | exact .inl rfl | exact .inr rfl) (me_call c__law_signs hr (by decide) rfl tk (ma_cons (me_var (pv 0)) ma_nil))) (mss_cons (ms_set (i := 2) sc__law_right.nd rfl (by first | exact .inl rfl | exact .inr rfl) (me_ifExp (mt_cmp o_lt (me_callB (c_len rfl) rfl fx.n_len (by decide +kernel) (ma_cons (me_var (pv 1)) ma_nil)) me_int (by rfl)) me_int me_int)) (mss_cons (ms_set (i := 3) sc__law_right.nd rfl (by first | exact .inl rfl | exact .inr rfl) (me_call c__law_lines_to hr (by decide) rfl tk (ma_cons (me_var (pv 1)) (ma_cons (me_var (pv 2)) ma_nil)))) (mss_cons (ms_if (mt_cmp (o_ne rfl hu) (me_call c_patterns_of hr (by decide) rfl tk (ma_cons (me_var (pv 1)) (ma_cons (me_var (pv 2)) ma_nil))) (me_callTy (c_tuple rfl) rfl fx.n_tuple (by decide +kernel) (ma_cons (me_var (pv 3)) ma_nil)) (by rfl)) (mss_one (ms_ret me_bl)) mss_nil) (mss_cons (ms_if (mt_cmp (o_ne rfl hu) (me_call c_leading_of hr (by decide) rfl tk (ma_cons (me_var (pv 1)) (ma_cons (me_var (pv 2)) ma_nil))) (me_callTy (c_tuple rfl) rfl fx.n_tuple (by decide +kernel) (ma_cons (me_lc (own := [("line", 4)]) rfl sc__law_right.nd (mi_any rfl (me_var (pv 3))) (blkOk_by (N := N__law_right) (sc := defScope s__law_right) (by decide +kernel)) (fun _ _ _ _ _ _ => (mg_name (i := 4) sc__law_right.nd rfl (by first | exact .inl rfl | exact .inr rfl))) (fun _ _ _ _ _ _ => (mts_one (mt_truth rfl (me_call c__law_leads hr (by decide) rfl takesF (ma_cons (me_var (pv 4)) ma_nil))))) (fun _ _ _ _ _ _ => (me_var (pv 4))) (by decide)) ma_nil)) (by rfl)) (mss_one (ms_ret me_bl)) mss_nil) (mss_cons (ms_for hp rfl (mi_any rfl (me_bin (o_add rfl) (me_var (pv 3)) (me_lc (own := [("turn", 6)]) rfl sc__law_right.nd (mi_range1 rfl fx.n_range (ma_cons me_int ma_nil)) (blkOk_by (N := N__law_right) (sc := defScope s__law_right) (by decide +kernel)) (fun _ _ _ _ _ _ => (mg_name (i := 6) sc__law_right.nd rfl (by first | exact .inl rfl | exact .inr rfl))) (fun _ _ _ _ _ _ => mts_nil) (fun _ _ _ _ _ _ => (me_call c__law_line hr (by decide) rfl takesF (ma_cons (me_var (pv 0)) (ma_cons (me_var (pv 1)) (ma_cons me_int ma_nil))))) (by decide)))) (mg_name (i := 4) sc__law_right.nd rfl (by first | exact .inl rfl | exact .inr rfl)) (mss_one (ms_if (mt_w (mw_or (mt_cmp (o_ne rfl hu) (me_callB c_repr rfl fx.n_repr (by decide +kernel) (ma_cons (me_call c_is_leading hr (by decide) rfl tk (ma_cons (me_var (pv 1)) (ma_cons (me_var (pv 4)) ma_nil))) ma_nil)) (me_callB c_repr rfl fx.n_repr (by decide +kernel) (ma_cons (me_call c__law_leads hr (by decide) rfl tk (ma_cons (me_var (pv 4)) ma_nil)) ma_nil)) (by rfl)) (mw_or1 (mt_not (mt_truth rfl (me_call c__law_factors_right hr (by decide) rfl tk (ma_cons (me_var (pv 1)) (ma_cons (me_var (pv 4)) ma_nil)))))))) (mss_one (ms_ret me_bl)) mss_nil))) (mss_cons (ms_set (i := 5) sc__law_right.nd rfl (by first | exact .inl rfl | exact .inr rfl) (me_lst (ma_cons me_non (ma_cons me_int (ma_cons me_bl (ma_cons (me_strL (by decide +kernel)) (ma_cons (me_strL (by decide +kernel)) (ma_cons (me_bm0 rfl PySem.F.plainAttrs_str PySem.F.slot_str_upper PySem.F.type_str_upper m_upper (me_ix (i_ix rfl) (me_var (pv 1)) me_int)) (ma_cons (me_strL (by decide +kernel)) (ma_cons (me_tup (ma_cons (me_ix (i_ix rfl) (me_var (pv 1)) me_int) ma_nil)) (ma_cons (me_lst (ma_cons (me_ix (i_ix rfl) (me_var (pv 1)) me_int) ma_nil)) (ma_cons (me_bin (o_add rfl) (me_var (pv 1)) (me_bin (o_mul rfl) (me_strL (by decide +kernel)) me_int)) (ma_cons me_dict0 ma_nil))))))))))))) (mss_one (ms_ret (me_and (me_cmp (o_eq rfl hu) (me_lc (own := [("value", 7)]) rfl sc__law_right.nd (mi_any rfl (me_var (pv 5))) (blkOk_by (N := N__law_right) (sc := defScope s__law_right) (by decide +kernel)) (fun _ _ _ _ _ _ => (mg_name (i := 7) sc__law_right.nd rfl (by first | exact .inl rfl | exact .inr rfl))) (fun _ _ _ _ _ _ => (mts_one (mt_truth rfl (me_call c_is_leading hr (by decide) rfl takesF (ma_cons (me_var (pv 1)) (ma_cons (me_var (pv 7)) ma_nil)))))) (fun _ _ _ _ _ _ => (me_var (pv 7))) (by decide)) (me_lst ma_nil) (by rfl)) (me_one (me_call c__law_factors_right hr (by decide) rfl tk (ma_cons (me_var (pv 1)) (ma_cons (me_strL (by decide +kernel)) ma_nil))))))))))))))
  exact h
abbrev s__law_tray : Stmt := top 29
abbrev N__law_tray : List Str := ["script", "at", "cell", "great", "blend"]
theorem sc__law_tray : FnScope N__law_tray ["script", "at"] (defScope s__law_tray) := ⟨rfl, rfl, rfl, by decide +kernel, rfl, by decide +kernel, by decide +kernel⟩
theorem ok__law_tray (fx : Mg mg)  (F : FunD K "_law_tray" "_law_tray" (defArgs s__law_tray) (defBody s__law_tray) (defScope s__law_tray) [] [] f fd) : FnOk P w K mg base (L2.CX P w) 1 f fd ["script", "at"] (spM ⟨K, cls⟩ m__law_tray 2) := by
  have h : FnOk P w K mg base (L2.CX P w) (0 + 1) f fd ["script", "at"] (spM ⟨K, cls⟩ (fnM N__law_tray.length b__law_tray) ["script", "at"].length) := fnM_ok (k := 0) (G := ⟨K, cls⟩) (N := N__law_tray) (ps := ["script", "at"]) b__law_tray F sc__law_tray fun cdv A outer s H E hr hu hp g W tk => (mss_cons (ms_set (i := 2) sc__law_tray.nd rfl (by first | exact .inl rfl | exact .inr rfl) (me_ifExp (mt_cmp o_lt (me_var (pv 1)) (me_callB (c_len rfl) rfl fx.n_len (by decide +kernel) (ma_cons (me_var (pv 0)) ma_nil)) (by rfl)) (me_ix (i_ix rfl) (me_var (pv 0)) (me_var (pv 1))) (me_bin (o_add rfl) (me_bin (o_mul rfl) me_int (me_var (pv 1))) me_int))) (mss_cons (ms_set (i := 3) sc__law_tray.nd rfl (by first | exact .inl rfl | exact .inr rfl) (me_bin o_mod (me_callTy c_int rfl fx.n_int (by decide +kernel) (ma_cons (me_callB c_abs rfl fx.n_abs (by decide +kernel) (ma_cons (me_var (pv 2)) ma_nil)) ma_nil)) (me_bin o_pow (me_bin o_pow me_int me_int) me_int))) (mss_cons (ms_set (i := 4) sc__law_tray.nd rfl (by first | exact .inl rfl | exact .inr rfl) (me_bin (o_add rfl) (me_bin (o_add rfl) (me_bin (o_add rfl) (me_bin (o_mul rfl) (me_bin o_mod (me_callTy c_int rfl fx.n_int (by decide +kernel) (ma_cons (me_var (pv 3)) ma_nil)) me_int) me_int) (me_bin (o_mul rfl) me_int (me_var (pv 1)))) (me_bin (o_mul rfl) me_int (me_callTy c_int rfl fx.n_int (by decide +kernel) (ma_cons (me_cmp o_lt (me_var (pv 2)) me_int (by rfl)) ma_nil)))) me_int)) (mss_one (ms_ret (me_lst (ma_cons (me_callB (c_max rfl) rfl fx.n_max (by decide +kernel) (ma_cons me_int (ma_cons (me_bin o_sub (me_var (pv 3)) (me_bin o_pow me_int me_int)) ma_nil))) (ma_cons (me_bin o_mod (me_callTy c_int rfl fx.n_int (by decide +kernel) (ma_cons (me_var (pv 4)) ma_nil)) me_int) (ma_cons me_int ma_nil)))))))))
  exact h
abbrev s_law : Stmt := top 38
abbrev N_law : List Str := ["script", "at", "told", "due"]
theorem sc_law : FnScope N_law ["script"] (defScope s_law) := ⟨rfl, rfl, rfl, by decide +kernel, rfl, by decide +kernel, by decide +kernel⟩
theorem ok_law (fx : Mg mg) (c__law_right : Cal P w K mg base ⟨K, cls⟩ 6 "_law_right" 1 m__law_right) (c__law_tray : Cal P w K mg base ⟨K, cls⟩ 1 "_law_tray" 2 m__law_tray) (c_factors : Cal P w K mg base ⟨K, cls⟩ 4 "factors" 2 m_factors) (c_leading_of : Cal P w K mg base ⟨K, cls⟩ 5 "leading_of" 2 m_leading_of) (F : FunD K "law" "law" (defArgs s_law) (defBody s_law) (defScope s_law) [] [] f fd) : FnOk P w K mg base (L2.CX P w) 7 f fd ["script"] (spM ⟨K, cls⟩ m_law 1) := by
  have h : FnOk P w K mg base (L2.CX P w) (6 + 1) f fd ["script"] (spM ⟨K, cls⟩ (fnM N_law.length b_law) ["script"].length) := fnM_ok (k := 6) (G := ⟨K, cls⟩) (N := N_law) (ps := ["script"]) b_law F sc_law fun cdv A outer s H E hr hu hp g W tk => (mss_cons (ms_for hp rfl (mi_range1 rfl fx.n_range (ma_cons (me_callB (c_max rfl) rfl fx.n_max (by decide +kernel) (ma_cons me_int (ma_cons (me_callB (c_min rfl) rfl fx.n_min (by decide +kernel) (ma_cons me_int (ma_cons (me_callB (c_len rfl) rfl fx.n_len (by decide +kernel) (ma_cons (me_var (pv 0)) ma_nil)) ma_nil))) ma_nil))) ma_nil)) (mg_name (i := 1) sc_law.nd rfl (by first | exact .inl rfl | exact .inr rfl)) (mss_one (ms_if (mt_not (mt_truth rfl (me_callN c__law_right hr (by decide) rfl tk (me_call c__law_tray hr (by decide) rfl tk (ma_cons (me_var (pv 0)) (ma_cons (me_var (pv 1)) ma_nil)))))) (mss_one (ms_ret me_bl)) mss_nil))) (mss_cons (ms_set (i := 2) sc_law.nd rfl (by first | exact .inl rfl | exact .inr rfl) (me_lst (ma_cons (me_call c_factors hr (by decide) rfl tk (ma_cons (me_strL (by decide +kernel)) (ma_cons (me_strL (by decide +kernel)) ma_nil))) (ma_cons (me_call c_factors hr (by decide) rfl tk (ma_cons (me_strL (by decide +kernel)) (ma_cons (me_strL (by decide +kernel)) ma_nil))) (ma_cons (me_call c_factors hr (by decide) rfl tk (ma_cons (me_strL (by decide +kernel)) (ma_cons (me_strL (by decide +kernel)) ma_nil))) (ma_cons (me_call c_factors hr (by decide) rfl tk (ma_cons (me_strL (by decide +kernel)) (ma_cons (me_strL (by decide +kernel)) ma_nil))) ma_nil)))))) (mss_cons (ms_set (i := 3) sc_law.nd rfl (by first | exact .inl rfl | exact .inr rfl) (me_lst (ma_cons (me_tup (ma_cons (me_strL (by decide +kernel)) (ma_cons (me_strL (by decide +kernel)) (ma_cons (me_strL (by decide +kernel)) ma_nil)))) (ma_cons (me_tup (ma_cons (me_strL (by decide +kernel)) (ma_cons (me_strL (by decide +kernel)) ma_nil))) (ma_cons (me_tup (ma_cons (me_strL (by decide +kernel)) (ma_cons (me_strL (by decide +kernel)) (ma_cons (me_strL (by decide +kernel)) (ma_cons (me_strL (by decide +kernel)) ma_nil))))) (ma_cons (me_tup (ma_cons (me_strL (by decide +kernel)) (ma_cons (me_strL (by decide +kernel)) (ma_cons (me_strL (by decide +kernel)) ma_nil)))) ma_nil)))))) (mss_one (ms_ret (me_and (me_cmp (o_eq rfl hu) (me_var (pv 2)) (me_var (pv 3)) (by rfl)) (me_one (me_cmp (o_eq rfl hu) (me_call c_leading_of hr (by decide) rfl tk (ma_cons (me_strL (by decide +kernel)) (ma_cons me_int ma_nil))) (me_tup (ma_cons (me_strL (by decide +kernel)) (ma_cons (me_strL (by decide +kernel)) (ma_cons (me_strL (by decide +kernel)) (ma_cons (me_strL (by decide +kernel)) (ma_cons (me_strL (by decide +kernel)) (ma_cons (me_strL (by decide +kernel)) (ma_cons (me_strL (by decide +kernel)) (ma_cons (me_strL (by decide +kernel)) ma_nil))))))))) (by rfl)))))))))
  exact h
end
def fn : List He.DefD := [⟨("_law_leads", none), "_law_leads", "_law_leads", defArgs s__law_leads, defBody s__law_leads, defScope s__law_leads, [], []⟩, ⟨("factors_of", none), "factors_of", "factors_of", defArgs s_factors_of, defBody s_factors_of, defScope s_factors_of, [], []⟩, ⟨("are_small", none), "are_small", "are_small", defArgs s_are_small, defBody s_are_small, defScope s_are_small, [], []⟩, ⟨("is_letters", none), "is_letters", "is_letters", defArgs s_is_letters, defBody s_is_letters, defScope s_is_letters, [], []⟩, ⟨("require_letters", none), "require_letters", "require_letters", defArgs s_require_letters, defBody s_require_letters, defScope s_require_letters, [], []⟩, ⟨("is_pattern_within", none), "is_pattern_within", "is_pattern_within", defArgs s_is_pattern_within, defBody s_is_pattern_within, defScope s_is_pattern_within, [], []⟩, ⟨("require_pattern", none), "require_pattern", "require_pattern", defArgs s_require_pattern, defBody s_require_pattern, defScope s_require_pattern, [], []⟩, ⟨("factors", none), "factors", "factors", defArgs s_factors, defBody s_factors, defScope s_factors, [], []⟩, ⟨("_law_factors_right", none), "_law_factors_right", "_law_factors_right", defArgs s__law_factors_right, defBody s__law_factors_right, defScope s__law_factors_right, [], []⟩, ⟨("_law_bit", none), "_law_bit", "_law_bit", defArgs s__law_bit, defBody s__law_bit, defScope s__law_bit, [], []⟩, ⟨("_law_pick", none), "_law_pick", "_law_pick", defArgs s__law_pick, defBody s__law_pick, defScope s__law_pick, [], []⟩, ⟨("_law_line", none), "_law_line", "_law_line", defArgs s__law_line, defBody s__law_line, defScope s__law_line, [], []⟩, ⟨("_law_lines_to", none), "_law_lines_to", "_law_lines_to", defArgs s__law_lines_to, defBody s__law_lines_to, defScope s__law_lines_to, [], []⟩, ⟨("_law_signs", none), "_law_signs", "_law_signs", defArgs s__law_signs, defBody s__law_signs, defScope s__law_signs, [], []⟩, ⟨("is_leading_of", none), "is_leading_of", "is_leading_of", defArgs s_is_leading_of, defBody s_is_leading_of, defScope s_is_leading_of, [], []⟩, ⟨("is_leading", none), "is_leading", "is_leading", defArgs s_is_leading, defBody s_is_leading, defScope s_is_leading, [], []⟩, ⟨("patterns_in", none), "patterns_in", "patterns_in", defArgs s_patterns_in, defBody s_patterns_in, defScope s_patterns_in, [], []⟩, ⟨("leading_in", none), "leading_in", "leading_in", defArgs s_leading_in, defBody s_leading_in, defScope s_leading_in, [], []⟩, ⟨("is_integer", none), "is_integer", "is_integer", defArgs s_is_integer, defBody s_is_integer, defScope s_is_integer, [], []⟩, ⟨("is_integer_within", none), "is_integer_within", "is_integer_within", defArgs s_is_integer_within, defBody s_is_integer_within, defScope s_is_integer_within, [], []⟩, ⟨("require_within", none), "require_within", "require_within", defArgs s_require_within, defBody s_require_within, defScope s_require_within, [], []⟩, ⟨("require_depth", none), "require_depth", "require_depth", defArgs s_require_depth, defBody s_require_depth, defScope s_require_depth, [], []⟩, ⟨("leading_of", none), "leading_of", "leading_of", defArgs s_leading_of, defBody s_leading_of, defScope s_leading_of, [], []⟩, ⟨("patterns_of", none), "patterns_of", "patterns_of", defArgs s_patterns_of, defBody s_patterns_of, defScope s_patterns_of, [], []⟩, ⟨("_law_right", none), "_law_right", "_law_right", defArgs s__law_right, defBody s__law_right, defScope s__law_right, [], []⟩, ⟨("_law_tray", none), "_law_tray", "_law_tray", defArgs s__law_tray, defBody s__law_tray, defScope s__law_tray, [], []⟩, ⟨("law", none), "law", "law", defArgs s_law, defBody s_law, defScope s_law, [], []⟩]
def fa : List He.Fa := [.glo "_law_leads", .glo "factors_of", .glo "are_small", .glo "is_letters", .glo "require_letters", .glo "is_pattern_within", .glo "require_pattern", .glo "factors", .glo "_law_factors_right", .glo "_law_bit", .glo "_law_pick", .glo "_law_line", .glo "_law_lines_to", .glo "_law_signs", .glo "is_leading_of", .glo "is_leading", .glo "patterns_in", .glo "leading_in", .glo "is_integer", .glo "is_integer_within", .glo "require_within", .glo "require_depth", .glo "leading_of", .glo "patterns_of", .glo "_law_right", .glo "_law_tray", .glo "law", .free "abs", .free "all", .free "bool", .free "int", .free "isinstance", .free "len", .free "max", .free "min", .free "range", .free "repr", .free "str", .free "tuple", .free "zip", .int "GREATEST" 99999999999999999999999999999999999999999999999999999999999999999999999999999999999999999999999999999999999999999999999999999999999999999999999999999999999999999999999999999999999999999999999999999999, .int "MAX_DEPTH" 5, .int "MAX_PATTERN" 400, .int "MOST_LETTERS" 3]
theorem facts {P : Program} {w : World} {K : PySem.W.Frag} {h : Heap} {mg : Str → Option Value} {f : Addr} (cls : Str → Option Addr) (X : K.In h) (G : h.Ns mainGlobals mg) (hfa : mg ("law" : Str) = some (.ref f)) (c : He.SaysD fa fn K) :
    ∃ fd : FuncData, (∀ (s : Shared) (v : Value), BindsTo s fd ⟨[v], []⟩ [("script", v)]) ∧ ∀ base : Heap, FnOk P w K mg base (L2.CX P w) 7 f fd ["script"] (spM ⟨K, cls⟩ m_law 1) := by
  have fx : Mg mg := ⟨He.free_ok X G (c.fact 27 (f := .free "abs") rfl), He.free_ok X G (c.fact 28 (f := .free "all") rfl), He.free_ok X G (c.fact 29 (f := .free "bool") rfl), He.free_ok X G (c.fact 30 (f := .free "int") rfl), He.free_ok X G (c.fact 31 (f := .free "isinstance") rfl), He.free_ok X G (c.fact 32 (f := .free "len") rfl), He.free_ok X G (c.fact 33 (f := .free "max") rfl), He.free_ok X G (c.fact 34 (f := .free "min") rfl), He.free_ok X G (c.fact 35 (f := .free "range") rfl), He.free_ok X G (c.fact 36 (f := .free "repr") rfl), He.free_ok X G (c.fact 37 (f := .free "str") rfl), He.free_ok X G (c.fact 38 (f := .free "tuple") rfl), He.free_ok X G (c.fact 39 (f := .free "zip") rfl), He.int_ok X G (c.fact 40 (f := .int "GREATEST" 99999999999999999999999999999999999999999999999999999999999999999999999999999999999999999999999999999999999999999999999999999999999999999999999999999999999999999999999999999999999999999999999999999999) rfl), He.int_ok X G (c.fact 41 (f := .int "MAX_DEPTH" 5) rfl), He.int_ok X G (c.fact 42 (f := .int "MAX_PATTERN" 400) rfl), He.int_ok X G (c.fact 43 (f := .int "MOST_LETTERS" 3) rfl)⟩
  obtain ⟨fd__law_leads, F__law_leads⟩ := c.def_ 0 rfl
  have c__law_leads : ∀ base : Heap, Cal P w K mg base ⟨K, cls⟩ 1 "_law_leads" 1 m__law_leads := fun base => Cal.of F__law_leads (ok__law_leads fx  F__law_leads) "_law_leads" (He.glo_ok X G (c.fact 0 (f := .glo "_law_leads") rfl)) (F__law_leads.bindsN (fun _ _ _ _ _ _ us hl => match us, hl with | [_], _ => rfl))
  obtain ⟨fd_factors_of, F_factors_of⟩ := c.def_ 1 rfl
  have c_factors_of : ∀ base : Heap, Cal P w K mg base ⟨K, cls⟩ 1 "factors_of" 1 m_factors_of := fun base => Cal.of F_factors_of (ok_factors_of fx  F_factors_of) "factors_of" (He.glo_ok X G (c.fact 1 (f := .glo "factors_of") rfl)) (F_factors_of.bindsN (fun _ _ _ _ _ _ us hl => match us, hl with | [_], _ => rfl))
  obtain ⟨fd_are_small, F_are_small⟩ := c.def_ 2 rfl
  have c_are_small : ∀ base : Heap, Cal P w K mg base ⟨K, cls⟩ 1 "are_small" 1 m_are_small := fun base => Cal.of F_are_small (ok_are_small fx  F_are_small) "are_small" (He.glo_ok X G (c.fact 2 (f := .glo "are_small") rfl)) (F_are_small.bindsN (fun _ _ _ _ _ _ us hl => match us, hl with | [_], _ => rfl))
  obtain ⟨fd_is_letters, F_is_letters⟩ := c.def_ 3 rfl
  have c_is_letters : ∀ base : Heap, Cal P w K mg base ⟨K, cls⟩ 2 "is_letters" 1 m_is_letters := fun base => Cal.of F_is_letters (ok_is_letters fx (c_are_small base) F_is_letters) "is_letters" (He.glo_ok X G (c.fact 3 (f := .glo "is_letters") rfl)) (F_is_letters.bindsN (fun _ _ _ _ _ _ us hl => match us, hl with | [_], _ => rfl))
  obtain ⟨fd_require_letters, F_require_letters⟩ := c.def_ 4 rfl
  have c_require_letters : ∀ base : Heap, Cal P w K mg base ⟨K, cls⟩ 3 "require_letters" 1 m_require_letters := fun base => Cal.of F_require_letters (ok_require_letters fx (c_is_letters base) F_require_letters) "require_letters" (He.glo_ok X G (c.fact 4 (f := .glo "require_letters") rfl)) (F_require_letters.bindsN (fun _ _ _ _ _ _ us hl => match us, hl with | [_], _ => rfl))
  obtain ⟨fd_is_pattern_within, F_is_pattern_within⟩ := c.def_ 5 rfl
  have c_is_pattern_within : ∀ base : Heap, Cal P w K mg base ⟨K, cls⟩ 1 "is_pattern_within" 2 m_is_pattern_within := fun base => Cal.of F_is_pattern_within (ok_is_pattern_within fx  F_is_pattern_within) "is_pattern_within" (He.glo_ok X G (c.fact 5 (f := .glo "is_pattern_within") rfl)) (F_is_pattern_within.bindsN (fun _ _ _ _ _ _ us hl => match us, hl with | [_, _], _ => rfl))
  obtain ⟨fd_require_pattern, F_require_pattern⟩ := c.def_ 6 rfl
  have c_require_pattern : ∀ base : Heap, Cal P w K mg base ⟨K, cls⟩ 2 "require_pattern" 2 m_require_pattern := fun base => Cal.of F_require_pattern (ok_require_pattern fx (c_is_pattern_within base) F_require_pattern) "require_pattern" (He.glo_ok X G (c.fact 6 (f := .glo "require_pattern") rfl)) (F_require_pattern.bindsN (fun _ _ _ _ _ _ us hl => match us, hl with | [_, _], _ => rfl))
  obtain ⟨fd_factors, F_factors⟩ := c.def_ 7 rfl
  have c_factors : ∀ base : Heap, Cal P w K mg base ⟨K, cls⟩ 4 "factors" 2 m_factors := fun base => Cal.of F_factors (ok_factors fx (c_factors_of base) (c_require_letters base) (c_require_pattern base) F_factors) "factors" (He.glo_ok X G (c.fact 7 (f := .glo "factors") rfl)) (F_factors.bindsN (fun _ _ _ _ _ _ us hl => match us, hl with | [_, _], _ => rfl))
  obtain ⟨fd__law_factors_right, F__law_factors_right⟩ := c.def_ 8 rfl
  have c__law_factors_right : ∀ base : Heap, Cal P w K mg base ⟨K, cls⟩ 5 "_law_factors_right" 2 m__law_factors_right := fun base => Cal.of F__law_factors_right (ok__law_factors_right fx (c__law_leads base) (c_factors base) F__law_factors_right) "_law_factors_right" (He.glo_ok X G (c.fact 8 (f := .glo "_law_factors_right") rfl)) (F__law_factors_right.bindsN (fun _ _ _ _ _ _ us hl => match us, hl with | [_, _], _ => rfl))
  obtain ⟨fd__law_bit, F__law_bit⟩ := c.def_ 9 rfl
  have c__law_bit : ∀ base : Heap, Cal P w K mg base ⟨K, cls⟩ 1 "_law_bit" 2 m__law_bit := fun base => Cal.of F__law_bit (ok__law_bit fx  F__law_bit) "_law_bit" (He.glo_ok X G (c.fact 9 (f := .glo "_law_bit") rfl)) (F__law_bit.bindsN (fun _ _ _ _ _ _ us hl => match us, hl with | [_, _], _ => rfl))
  obtain ⟨fd__law_pick, F__law_pick⟩ := c.def_ 10 rfl
  have c__law_pick : ∀ base : Heap, Cal P w K mg base ⟨K, cls⟩ 2 "_law_pick" 2 m__law_pick := fun base => Cal.of F__law_pick (ok__law_pick fx (c__law_bit base) F__law_pick) "_law_pick" (He.glo_ok X G (c.fact 10 (f := .glo "_law_pick") rfl)) (F__law_pick.bindsN (fun _ _ _ _ _ _ us hl => match us, hl with | [_, _], _ => rfl))
  obtain ⟨fd__law_line, F__law_line⟩ := c.def_ 11 rfl
  have c__law_line : ∀ base : Heap, Cal P w K mg base ⟨K, cls⟩ 3 "_law_line" 3 m__law_line := fun base => Cal.of F__law_line (ok__law_line fx (c__law_bit base) (c__law_pick base) F__law_line) "_law_line" (He.glo_ok X G (c.fact 11 (f := .glo "_law_line") rfl)) (F__law_line.bindsN (fun _ _ _ _ _ _ us hl => match us, hl with | [_, _, _], _ => rfl))
  obtain ⟨fd__law_lines_to, F__law_lines_to⟩ := c.def_ 12 rfl
  have c__law_lines_to : ∀ base : Heap, Cal P w K mg base ⟨K, cls⟩ 1 "_law_lines_to" 2 m__law_lines_to := fun base => Cal.of F__law_lines_to (ok__law_lines_to fx  F__law_lines_to) "_law_lines_to" (He.glo_ok X G (c.fact 12 (f := .glo "_law_lines_to") rfl)) (F__law_lines_to.bindsN (fun _ _ _ _ _ _ us hl => match us, hl with | [_, _], _ => rfl))
  obtain ⟨fd__law_signs, F__law_signs⟩ := c.def_ 13 rfl
  have c__law_signs : ∀ base : Heap, Cal P w K mg base ⟨K, cls⟩ 3 "_law_signs" 1 m__law_signs := fun base => Cal.of F__law_signs (ok__law_signs fx (c__law_pick base) F__law_signs) "_law_signs" (He.glo_ok X G (c.fact 13 (f := .glo "_law_signs") rfl)) (F__law_signs.bindsN (fun _ _ _ _ _ _ us hl => match us, hl with | [_], _ => rfl))
  obtain ⟨fd_is_leading_of, F_is_leading_of⟩ := c.def_ 14 rfl
  have c_is_leading_of : ∀ base : Heap, Cal P w K mg base ⟨K, cls⟩ 1 "is_leading_of" 1 m_is_leading_of := fun base => Cal.of F_is_leading_of (ok_is_leading_of fx  F_is_leading_of) "is_leading_of" (He.glo_ok X G (c.fact 14 (f := .glo "is_leading_of") rfl)) (F_is_leading_of.bindsN (fun _ _ _ _ _ _ us hl => match us, hl with | [_], _ => rfl))
  obtain ⟨fd_is_leading, F_is_leading⟩ := c.def_ 15 rfl
  have c_is_leading : ∀ base : Heap, Cal P w K mg base ⟨K, cls⟩ 4 "is_leading" 2 m_is_leading := fun base => Cal.of F_is_leading (ok_is_leading fx (c_is_leading_of base) (c_is_pattern_within base) (c_require_letters base) F_is_leading) "is_leading" (He.glo_ok X G (c.fact 15 (f := .glo "is_leading") rfl)) (F_is_leading.bindsN (fun _ _ _ _ _ _ us hl => match us, hl with | [_, _], _ => rfl))
  obtain ⟨fd_patterns_in, F_patterns_in⟩ := c.def_ 16 rfl
  have c_patterns_in : ∀ base : Heap, Cal P w K mg base ⟨K, cls⟩ 1 "patterns_in" 2 m_patterns_in := fun base => Cal.of F_patterns_in (ok_patterns_in fx  F_patterns_in) "patterns_in" (He.glo_ok X G (c.fact 16 (f := .glo "patterns_in") rfl)) (F_patterns_in.bindsN (fun _ _ _ _ _ _ us hl => match us, hl with | [_, _], _ => rfl))
  obtain ⟨fd_leading_in, F_leading_in⟩ := c.def_ 17 rfl
  have c_leading_in : ∀ base : Heap, Cal P w K mg base ⟨K, cls⟩ 2 "leading_in" 2 m_leading_in := fun base => Cal.of F_leading_in (ok_leading_in fx (c_is_leading_of base) (c_patterns_in base) F_leading_in) "leading_in" (He.glo_ok X G (c.fact 17 (f := .glo "leading_in") rfl)) (F_leading_in.bindsN (fun _ _ _ _ _ _ us hl => match us, hl with | [_, _], _ => rfl))
  obtain ⟨fd_is_integer, F_is_integer⟩ := c.def_ 18 rfl
  have c_is_integer : ∀ base : Heap, Cal P w K mg base ⟨K, cls⟩ 1 "is_integer" 1 m_is_integer := fun base => Cal.of F_is_integer (ok_is_integer fx  F_is_integer) "is_integer" (He.glo_ok X G (c.fact 18 (f := .glo "is_integer") rfl)) (F_is_integer.bindsN (fun _ _ _ _ _ _ us hl => match us, hl with | [_], _ => rfl))
  obtain ⟨fd_is_integer_within, F_is_integer_within⟩ := c.def_ 19 rfl
  have c_is_integer_within : ∀ base : Heap, Cal P w K mg base ⟨K, cls⟩ 2 "is_integer_within" 3 m_is_integer_within := fun base => Cal.of F_is_integer_within (ok_is_integer_within fx (c_is_integer base) F_is_integer_within) "is_integer_within" (He.glo_ok X G (c.fact 19 (f := .glo "is_integer_within") rfl)) (F_is_integer_within.bindsN (fun _ _ _ _ _ _ us hl => match us, hl with | [_, _, _], _ => rfl))
  obtain ⟨fd_require_within, F_require_within⟩ := c.def_ 20 rfl
  have c_require_within : ∀ base : Heap, Cal P w K mg base ⟨K, cls⟩ 3 "require_within" 3 m_require_within := fun base => Cal.of F_require_within (ok_require_within fx (c_is_integer_within base) F_require_within) "require_within" (He.glo_ok X G (c.fact 20 (f := .glo "require_within") rfl)) (F_require_within.bindsN (fun _ _ _ _ _ _ us hl => match us, hl with | [_, _, _], _ => rfl))
  obtain ⟨fd_require_depth, F_require_depth⟩ := c.def_ 21 rfl
  have c_require_depth : ∀ base : Heap, Cal P w K mg base ⟨K, cls⟩ 4 "require_depth" 1 m_require_depth := fun base => Cal.of F_require_depth (ok_require_depth fx (c_require_within base) F_require_depth) "require_depth" (He.glo_ok X G (c.fact 21 (f := .glo "require_depth") rfl)) (F_require_depth.bindsN (fun _ _ _ _ _ _ us hl => match us, hl with | [_], _ => rfl))
  obtain ⟨fd_leading_of, F_leading_of⟩ := c.def_ 22 rfl
  have c_leading_of : ∀ base : Heap, Cal P w K mg base ⟨K, cls⟩ 5 "leading_of" 2 m_leading_of := fun base => Cal.of F_leading_of (ok_leading_of fx (c_leading_in base) (c_require_depth base) (c_require_letters base) F_leading_of) "leading_of" (He.glo_ok X G (c.fact 22 (f := .glo "leading_of") rfl)) (F_leading_of.bindsN (fun _ _ _ _ _ _ us hl => match us, hl with | [_, _], _ => rfl))
  obtain ⟨fd_patterns_of, F_patterns_of⟩ := c.def_ 23 rfl
  have c_patterns_of : ∀ base : Heap, Cal P w K mg base ⟨K, cls⟩ 5 "patterns_of" 2 m_patterns_of := fun base => Cal.of F_patterns_of (ok_patterns_of fx (c_patterns_in base) (c_require_depth base) (c_require_letters base) F_patterns_of) "patterns_of" (He.glo_ok X G (c.fact 23 (f := .glo "patterns_of") rfl)) (F_patterns_of.bindsN (fun _ _ _ _ _ _ us hl => match us, hl with | [_, _], _ => rfl))
  obtain ⟨fd__law_right, F__law_right⟩ := c.def_ 24 rfl
  have c__law_right : ∀ base : Heap, Cal P w K mg base ⟨K, cls⟩ 6 "_law_right" 1 m__law_right := fun base => Cal.of F__law_right (ok__law_right fx (c__law_factors_right base) (c__law_leads base) (c__law_line base) (c__law_lines_to base) (c__law_signs base) (c_is_leading base) (c_leading_of base) (c_patterns_of base) F__law_right) "_law_right" (He.glo_ok X G (c.fact 24 (f := .glo "_law_right") rfl)) (F__law_right.bindsN (fun _ _ _ _ _ _ us hl => match us, hl with | [_], _ => rfl))
  obtain ⟨fd__law_tray, F__law_tray⟩ := c.def_ 25 rfl
  have c__law_tray : ∀ base : Heap, Cal P w K mg base ⟨K, cls⟩ 1 "_law_tray" 2 m__law_tray := fun base => Cal.of F__law_tray (ok__law_tray fx  F__law_tray) "_law_tray" (He.glo_ok X G (c.fact 25 (f := .glo "_law_tray") rfl)) (F__law_tray.bindsN (fun _ _ _ _ _ _ us hl => match us, hl with | [_, _], _ => rfl))
  obtain ⟨fd_law, F_law⟩ := c.def_ 26 rfl
  have e := hfa.symm.trans (He.glo_ok X G (c.fact 26 (f := .glo "law") rfl))
  cases e
  have b := FunD.bindsA (ps := ["script"]) F_law (fun _ _ _ _ _ _ us hl => match us, hl with | [_], _ => rfl)
  exact ⟨fd_law, fun s v => b s [v] rfl, fun base => ok_law fx (c__law_right base) (c__law_tray base) (c_factors base) (c_leading_of base) F_law⟩
end K07
set_option Elab.async false
set_option maxRecDepth 100000
set_option maxHeartbeats 0
namespace K07
open PySem PySem.Spec PyProof.Rows L2 MM
abbrev R : PySem.W.OpenRow := PySem.W.OpenLaw.row PySem.Challenge.rw_signedcounts_k07_whole_leading_patterns
abbrev hk : PySem.W.Hook := He.hookD 6 fa fn
def ob (s : PySem.W.SharedT) : He.AlD := He.obsDG 6 fa fn (HandSHeadRun.getT s)
theorem ob_eq (s : PySem.W.SharedT) : ob s = hk.obs s.abs := He.obsDG_eq (HandSHeadRun.getT_eq s)
def loose : List Str := (["CountError", "GREATEST", "InvalidLetters", "InvalidNumber", "InvalidPattern", "MAX_DEPTH", "MAX_PATTERN", "MOST_LETTERS", "_law_bit", "_law_factors_right"] : List Str) ++ (["_law_leads", "_law_line", "_law_lines_to", "_law_pick", "_law_right", "_law_signs", "_law_tray", "are_small", "factors", "factors_of"] : List Str) ++ (["is_integer", "is_integer_within", "is_leading", "is_leading_of", "is_letters", "is_pattern_within", "leading_in", "leading_of", "patterns_in", "patterns_of"] : List Str) ++ (["require_depth", "require_letters", "require_pattern", "require_within"] : List Str)
theorem run (w : World) : HandSHeadRun.RunEq R (PySem.W.view R.prog [38]) hk ob 20000 loose w := by
  intro os
  kernel_rfl
end K07
open PySem PySem.W PySem.Calls PyProof.Rows
theorem PySem.Challenge.cw_signedcounts_k07_whole_leading_patterns_holds : PySem.Challenge.rw_signedcounts_k07_whole_leading_patterns.Holds := by
  w_on; o_law
  refine HandSHeadRun.head_any (r := K07.R) (q := view K07.R.prog [38]) (H := K07.hk) (ob := K07.ob) (M := 20000) (loose := K07.loose) (d := HandSHeadRun.topDef K07.R.prog 38) (kwd := []) K07.ob_eq
    (by kernel_rfl) (fun s => by kernel_rfl) K07.run (by kernel_rfl) (by kernel_rfl) (by kernel_rfl) (by rfl) (by first | assumption | decide +kernel) (by decide +kernel) ⟨rfl, rfl, rfl, rfl, rfl, by decide +kernel⟩ ?hw ?hc
  case hw => w_witness2
  case hc =>
    refine L2.walk_ofE (l := PySem.Challenge.rw_signedcounts_k07_whole_leading_patterns) (n := 63) (k := 7) (x := "script") (CX := MM.CXW PySem.Challenge.rw_signedcounts_k07_whole_leading_patterns.prog) rfl (by decide) (by kernel_rfl) ⟨rfl, by decide, by decide⟩ ?F MM.cxw_out
    case F =>
      intro w mg fa h Y G hmg0
      obtain ⟨K, KX, c⟩ := Y
      have hmg : mg ("law" : PySem.Str) = some (.ref fa) := by
        have e : (HandSHeadRun.topDef K07.R.prog 38).name = ("law" : PySem.Str) := by kernel_rfl
        rw [← e]
        exact hmg0
      obtain ⟨fd, hb, hF⟩ := K07.facts (P := (PySem.Challenge.rw_signedcounts_k07_whole_leading_patterns).prog) (w := w) (fun _ => none) KX G hmg c
      exact ⟨K, fd, _, KX, hb, fun H a ns hl _ hS => MM.sp_law (fun ns _ => K07.law_true ns) H a ns hl hS, fun base _ _ => MM.FnOk.cxw (hF base)⟩
